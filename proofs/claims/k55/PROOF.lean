import PyProof.Rows.All
import Wide.All
import OpenK.AllK
import Wide.FinOn
import KE.KStateDown
import HandS.ForMost
import HandS.More
import HandS.WordsExc
import HandS.IsInst
import HandS.Deep
import HandS.Zip
import HandS.Rev
import HandS.SortInts
import HandS.SetFor
import HandS.Strs
import HandS.TupMul
import HandS.TupAny
import HandS.Walk
import HandS.Conv
import HandS.Style
import HandS.Defaults
import HandS.Head0
import HandS.Head1
import HandS.Head2
import HandS.HeadEnd
import HandS.HeadHook1
import HandS.HeadHook2
import HandS.NoneIn
import HandS.Flow
import KE.GoesMore
import HandS.Exc
import HandS.ExcIs
import HandS.ExcOwn
import HandS.TryOnly
import HandS.WordsDict
import HandS.TupLen
import HandS.SortRule
import HandS.RaiseMore
import HandS.RevRange
import HandS.TupSets
import HandS.DictSubView
import KE.DataMinMax
import PyProof.Rows.CallKwBuiltin
import PyProof.ReprRoads
import PyProof.PureStr
import PySem.Challenge.RW_notchledger_k55_summed
set_option Elab.async false
set_option linter.all false
set_option maxRecDepth 100000
set_option maxHeartbeats 4000000

/-! A small language of its own: data as trees, a store for what is changed in place, expressions and statements, and what they come to. -/
namespace Nl

/-- data: None, truths, ints, texts (their code points), tuples, lists that nobody changes any more, the script, and a place of the store -/
inductive D where
  | non
  | bl (b : Bool)
  | int (i : Int)
  | str (s : List Nat)
  | tup (xs : List D)
  | lst (xs : List D)
  | scr (xs : List Int)
  | obj (n : Nat)
  /-- an exception that was caught, of the k-th class -/
  | ex (k : Nat)

mutual
def D.beq : D → D → Bool
  | .non, .non => true
  | .bl a, .bl b => a == b
  | .int a, .int b => a == b
  | .str a, .str b => a == b
  | .tup a, .tup b => D.beqs a b
  | .lst a, .lst b => D.beqs a b
  | .scr a, .scr b => a == b
  | .obj a, .obj b => a == b
  | .ex a, .ex b => a == b
  | _, _ => false
def D.beqs : List D → List D → Bool
  | [], [] => true
  | a :: as, b :: bs => D.beq a b && D.beqs as bs
  | _, _ => false
end
mutual
theorem D.beq_eq : ∀ (a b : D), D.beq a b = true → a = b
  | .non, b, h => by cases b <;> simp_all [D.beq]
  | .bl _, b, h => by cases b <;> simp_all [D.beq]
  | .int _, b, h => by cases b <;> simp_all [D.beq]
  | .str _, b, h => by cases b <;> simp_all [D.beq]
  | .tup xs, b, h => by
    cases b with
    | tup ys => rw [D.beqs_eq xs ys (by simpa [D.beq] using h)]
    | _ => simp [D.beq] at h
  | .lst xs, b, h => by
    cases b with
    | lst ys => rw [D.beqs_eq xs ys (by simpa [D.beq] using h)]
    | _ => simp [D.beq] at h
  | .scr _, b, h => by cases b <;> simp_all [D.beq]
  | .obj _, b, h => by cases b <;> simp_all [D.beq]
  | .ex _, b, h => by cases b <;> simp_all [D.beq]
theorem D.beqs_eq : ∀ (a b : List D), D.beqs a b = true → a = b
  | [], [], _ => rfl
  | [], _ :: _, h => by simp [D.beqs] at h
  | _ :: _, [], h => by simp [D.beqs] at h
  | a :: as, b :: bs, h => by
    simp only [D.beqs, Bool.and_eq_true] at h
    rw [D.beq_eq a b h.1, D.beqs_eq as bs h.2]
end
mutual
theorem D.beq_refl : ∀ (a : D), D.beq a a = true
  | .non => rfl
  | .bl _ => by simp [D.beq]
  | .int _ => by simp [D.beq]
  | .str _ => by simp [D.beq]
  | .tup xs => by simp [D.beq, D.beqs_refl xs]
  | .lst xs => by simp [D.beq, D.beqs_refl xs]
  | .scr _ => by simp [D.beq]
  | .obj _ => by simp [D.beq]
  | .ex _ => by simp [D.beq]
theorem D.beqs_refl : ∀ (a : List D), D.beqs a a = true
  | [] => rfl
  | a :: as => by simp [D.beqs, D.beq_refl a, D.beqs_refl as]
end
instance : DecidableEq D := fun a b => match h : D.beq a b with
  | true => isTrue (D.beq_eq a b h)
  | false => isFalse fun e => by rw [e, D.beq_refl] at h; cases h

/-- a key of a dict, or a part of one that is a tuple -/
inductive Ky where
  | i (n : Int)
  | s (x : List Nat)
  deriving DecidableEq
/-- what stands at a place of the store -/
inductive Cell where
  | lst (xs : List D)
  | dK (kvs : List (Ky × D))
  | dT (kvs : List (List Ky × D))
  /-- a dict by tuples of ints and None -/
  | dN (kvs : List (List (Option Int) × D))
  /-- an instance of the c-th class, its fields -/
  | ins (c : Nat) (fs : List (Nat × D))
  | dead
  deriving DecidableEq
abbrev Store := List Cell
/-- what comes of an expression: data, or a list just made that nobody else has -/
inductive W where
  | d (x : D)
  | fl (xs : List D)
def W.toD : W → D
  | .d x => x
  | .fl xs => .lst xs
inductive Res (α : Type) where
  | ok (a : α)
  | exc (c : Nat) (S : Store)
  | err
def Res.bind {α β : Type} (r : Res α) (f : α → Res β) : Res β := match r with
  | .ok a => f a
  | .exc c S => .exc c S
  | .err => .err
@[simp] theorem Res.bind_ok {α β : Type} (a : α) (f : α → Res β) : (Res.ok a).bind f = f a := rfl
@[simp] theorem Res.bind_err {α β : Type} (f : α → Res β) : (Res.err : Res α).bind f = .err := rfl
@[simp] theorem Res.bind_exc {α β : Type} (c : Nat) (S : Store) (f : α → Res β) : (Res.exc c S : Res α).bind f = .exc c S := rfl
theorem Res.bind_eq_ok {α β : Type} {r : Res α} {f : α → Res β} {b : β} : r.bind f = .ok b ↔ ∃ a, r = .ok a ∧ f a = .ok b := by
  cases r with
  | ok a => simp
  | exc c S => simp
  | err => simp
/-- nothing is let out -/
def Res.calm {α : Type} (r : Res α) : Res α := match r with
  | .exc _ _ => .err
  | r => r
@[simp] theorem Res.calm_ok {α : Type} {r : Res α} {a : α} : r.calm = .ok a ↔ r = .ok a := by
  cases r <;> simp [Res.calm]
@[simp] theorem Res.calm_exc {α : Type} {r : Res α} {c : Nat} {S : Store} : r.calm = .exc c S ↔ False := by
  cases r <;> simp [Res.calm]
theorem Res.bind_eq_exc {α β : Type} {r : Res α} {f : α → Res β} {c : Nat} {S : Store} : r.bind f = .exc c S ↔ r = .exc c S ∨ ∃ a, r = .ok a ∧ f a = .exc c S := by
  cases r with
  | ok a => simp
  | exc c' S' => simp
  | err => simp
def guard' {α : Type} (c : Bool) (r : Res α) : Res α := if c then r else .err

/-! ### operations on values -/
def most : Nat := 16777216
inductive Bop where
  | add | sub | mul | fdiv | mod | pow | shl | shr | band | bor | bxor
  deriving DecidableEq
inductive Cop where
  | eq | ne | lt | le | gt | ge | inn | nin
  deriving DecidableEq
/-- what a thing is, a list of the store by its items -/
def pk (S : Store) (d : D) : D := match d with
  | .obj n => (match S[n]? with
    | some (.lst xs) => .lst xs
    | _ => .obj n)
  | d => d

mutual
/-- == of Python (a truth is 0 or 1) -/
def eqB : D → D → Bool
  | .non, .non => true
  | .bl a, .bl b => a == b
  | .bl a, .int j => (if a then 1 else 0) == j
  | .int i, .bl b => i == (if b then 1 else 0)
  | .int i, .int j => i == j
  | .str x, .str y => x == y
  | .lst xs, .lst ys => eqBs xs ys
  | .tup xs, .tup ys => eqBs xs ys
  | _, _ => false
def eqBs : List D → List D → Bool
  | [], [] => true
  | x :: xs, y :: ys => eqB x y && eqBs xs ys
  | _, _ => false
end
mutual
/-- plain data to compare: no place of the store in it, texts of ordinary signs, not too deep -/
def okD : Nat → D → Bool
  | _, .non => true
  | _, .bl _ => true
  | _, .int _ => true
  | _, .str s => s.all fun c => decide (c < 1114112)
  | 0, .tup _ => false
  | 0, .lst _ => false
  | n + 1, .tup xs => okDs n xs
  | n + 1, .lst xs => okDs n xs
  | _, .scr _ => false
  | _, .obj _ => false
  | _, .ex _ => false
def okDs : Nat → List D → Bool
  | _, [] => true
  | n, x :: xs => okD n x && okDs n xs
end
def eqOp (a b : D) : Res Bool := guard' (okD 40 a && okD 40 b) (.ok (eqB a b))

def mulOk (i j : Int) : Bool := (decide (-(2 ^ 64) < i) && decide (i < 2 ^ 64)) || (decide (-(2 ^ 64) < j) && decide (j < 2 ^ 64))
def powOk (i j : Int) : Bool := decide (0 ≤ j) && (decide (j ≤ 1000000) && decide (i.natAbs < 2 ^ 64))
def intOp : Bop → Int → Int → Res D
  | .add, i, j => .ok (.int (i + j))
  | .sub, i, j => .ok (.int (i - j))
  | .mul, i, j => guard' (mulOk i j) (.ok (.int (i * j)))
  | .fdiv, i, j => guard' (decide (0 < j) && decide (j < 1073741824)) (.ok (.int (i / j)))
  | .mod, i, j => guard' (decide (0 < j)) (.ok (.int (i % j)))
  | .pow, i, j => guard' (powOk i j) (.ok (.int (i ^ j.toNat)))
  | .shl, i, j => guard' (powOk i j) (.ok (.int (i * 2 ^ j.toNat)))
  | .shr, i, j => guard' (decide (0 ≤ j)) (.ok (.int (i / 2 ^ j.toNat)))
  | .band, i, j => guard' (decide (0 ≤ i) && decide (0 ≤ j)) (.ok (.int ((i.toNat &&& j.toNat : Nat) : Int)))
  | .bor, i, j => guard' (decide (0 ≤ i) && decide (0 ≤ j)) (.ok (.int ((i.toNat ||| j.toNat : Nat) : Int)))
  | .bxor, i, j => guard' (decide (0 ≤ i) && decide (0 ≤ j)) (.ok (.int ((i.toNat ^^^ j.toNat : Nat) : Int)))
def rep {α : Type} (n : Nat) (xs : List α) : List α := match n with
  | 0 => []
  | n + 1 => xs ++ rep n xs
def binOp (o : Bop) (a b : D) : Res W := match a, b with
  | .int i, .int j => (intOp o i j).bind fun d => .ok (.d d)
  | .lst xs, .lst ys => (match o with
    | .add => guard' (decide (xs.length + ys.length ≤ most)) (.ok (.fl (xs ++ ys)))
    | _ => .err)
  | .tup xs, .tup ys => (match o with
    | .add => guard' (decide (xs.length + ys.length ≤ most)) (.ok (.d (.tup (xs ++ ys))))
    | _ => .err)
  | .str xs, .str ys => (match o with
    | .add => guard' (decide (xs.length + ys.length ≤ most)) (.ok (.d (.str (xs ++ ys))))
    | _ => .err)
  | .lst xs, .int k => (match o with
    | .mul => guard' (decide (-(2 ^ 63) ≤ k) && (decide (k < 2 ^ 63) && decide (xs.length * k.toNat ≤ most))) (.ok (.fl (rep k.toNat xs)))
    | _ => .err)
  | .tup xs, .int k => (match o with
    | .mul => guard' (decide (1 ≤ k) && (decide (k ≤ 1000) && (decide (xs.length ≤ 1000) && !xs.isEmpty))) (.ok (.d (.tup (rep k.toNat xs))))
    | _ => .err)
  | .str xs, .int k => (match o with
    | .mul => guard' (decide (0 ≤ k) && (decide (k ≤ 1000) && decide (xs.length ≤ 1000))) (.ok (.d (.str (rep k.toNat xs))))
    | _ => .err)
  | _, _ => .err
def ltInts : List D → List D → Option Bool
  | [], [] => some false
  | [], .int _ :: ys => ltInts [] ys |>.map fun _ => true
  | .int _ :: xs, [] => ltInts xs [] |>.map fun _ => false
  | .int i :: xs, .int j :: ys => (ltInts xs ys).map fun r => if i = j then r else decide (i < j)
  | _, _ => none
def orderOp (o : Cop) (i j : Int) : Option Bool := match o with
  | .lt => some (decide (i < j))
  | .le => some (decide (i ≤ j))
  | .gt => some (decide (j < i))
  | .ge => some (decide (j ≤ i))
  | _ => none
def flat : D → Bool
  | .non => true
  | .bl _ => true
  | .int _ => true
  | .str _ => true
  | _ => false
/-- a in b: a list of any plain data, a tuple of flat ones -/
def inOp (a b : D) : Res Bool := match b with
  | .lst ys => guard' (okD 40 a && okD 40 b) (.ok (ys.any fun y => eqB y a))
  | .tup ys => guard' (flat a && ys.all flat) (.ok (ys.any fun y => eqB y a))
  | .str s => (match a with
    | .str [c] => .ok (decide (c ∈ s))
    | _ => .err)
  | _ => .err
def cmpOp (o : Cop) (a b : D) : Res Bool := match o with
  | .eq => eqOp a b
  | .ne => (eqOp a b).bind fun r => .ok (!r)
  | .inn => inOp a b
  | .nin => (inOp a b).bind fun r => .ok (!r)
  | o => (match a, b with
    | .int i, .int j => (match orderOp o i j with
      | some r => .ok r
      | none => .err)
    | .tup xs, .tup ys => (match o with
      | .lt => (match ltInts xs ys with
        | some r => .ok r
        | none => .err)
      | _ => .err)
    | _, _ => .err)
def ixN (n : Nat) (i : Int) : Option Nat := if 0 ≤ i then (if i < n then some i.toNat else none) else if -(n : Int) ≤ i then some (i + n).toNat else none
def atI {α : Type} (xs : List α) (i : Int) : Option α := (ixN xs.length i).bind fun j => xs[j]?
def ixOp (a b : D) : Res D := match b with
  | .int i => (match a with
    | .lst xs => (match atI xs i with
      | some d => .ok d
      | none => .err)
    | .tup xs => (match atI xs i with
      | some d => .ok d
      | none => .err)
    | .scr xs => (match atI xs i with
      | some d => .ok (.int d)
      | none => .err)
    | .str s => guard' (decide (s.length ≤ most)) (match atI s i with
      | some c => .ok (.str [c])
      | none => .err)
    | _ => .err)
  | _ => .err
/-- where a slice begins, ends -/
def slN (n : Nat) (dflt : Nat) (o : Option Int) : Nat := match o with
  | none => dflt
  | some i => if i < 0 then (i + n).toNat else min i.toNat n
def cut {α : Type} (xs : List α) (lo hi : Option Int) : List α := (xs.drop (slN xs.length 0 lo)).take (slN xs.length xs.length hi - slN xs.length 0 lo)
def slOp (a : D) (lo hi : Option Int) : Res W := match a with
  | .lst xs => .ok (.fl (cut xs lo hi))
  | .tup xs => .ok (.d (.tup (cut xs lo hi)))
  | .str s => guard' (decide (s.length ≤ most)) (.ok (.d (.str (cut s lo hi))))
  | _ => .err
/-- an end of a slice: left out, or an int -/
def endOf (out : Bool) (d : D) : Option (Option Int) := if out then some none else match d with
  | .int i => some (some i)
  | _ => none

/-- the figures of a number -/
def figs (i : Int) : List Nat := ((toString i).toList.map Char.toNat)
/-- the built-ins that are called by their names -/
inductive Bi where
  | len | abs | sum | maxl | minl | max2 | min2 | any | all | int | list | tuple | sorted | sset | sortP | repr | sortS
  deriving DecidableEq
def intsOf : List D → Option (List Int)
  | [] => some []
  | .int i :: xs => (intsOf xs).map (i :: ·)
  | _ => none
def blsOf : List D → Option (List Bool)
  | [] => some []
  | .bl b :: xs => (blsOf xs).map (b :: ·)
  | _ => none
def maxOf : List Int → Int
  | [] => 0
  | [x] => x
  | x :: xs => let m := maxOf xs; if m < x then x else m
def minOf : List Int → Int
  | [] => 0
  | [x] => x
  | x :: xs => let m := minOf xs; if x < m then x else m
def insI (x : Int) : List Int → List Int
  | [] => [x]
  | y :: ys => if x ≤ y then x :: y :: ys else y :: insI x ys
def sortI : List Int → List Int
  | [] => []
  | x :: xs => insI x (sortI xs)
/-- rising, each once -/
def insU (x : Int) : List Int → List Int
  | [] => [x]
  | y :: ys => if x < y then x :: y :: ys else if x = y then y :: ys else y :: insU x ys
def sortU : List Int → List Int
  | [] => []
  | x :: xs => insU x (sortU xs)
/-- pairs of ints, sorted -/
def prsOf : List D → Option (List (Int × Int))
  | [] => some []
  | .tup [.int i, .int j] :: xs => (prsOf xs).map ((i, j) :: ·)
  | _ => none
def prD (p : Int × Int) : D := .tup [.int p.1, .int p.2]
def lePr (p q : Int × Int) : Bool := decide (p.1 < q.1) || (decide (p.1 = q.1) && decide (p.2 ≤ q.2))
def insP (x : Int × Int) : List (Int × Int) → List (Int × Int)
  | [] => [x]
  | y :: ys => if lePr x y then x :: y :: ys else y :: insP x ys
def sortPr : List (Int × Int) → List (Int × Int)
  | [] => []
  | x :: xs => insP x (sortPr xs)
/-- texts by their signs -/
def ltS : List Nat → List Nat → Bool
  | [], [] => false
  | [], _ :: _ => true
  | _ :: _, [] => false
  | x :: xs, y :: ys => if x = y then ltS xs ys else decide (x < y)
def insS (x : List Nat) : List (List Nat) → List (List Nat)
  | [] => [x]
  | y :: ys => if ltS y x then y :: insS x ys else x :: y :: ys
def sortS : List (List Nat) → List (List Nat)
  | [] => []
  | x :: xs => insS x (sortS xs)
def strsOf : List D → Option (List (List Nat))
  | [] => some []
  | .str s :: xs => (strsOf xs).map (s :: ·)
  | _ => none
/-- pairs of ints, rising, each once -/
def insPU (x : Int × Int) : List (Int × Int) → List (Int × Int)
  | [] => [x]
  | y :: ys => if x = y then y :: ys else if lePr x y then x :: y :: ys else y :: insPU x ys
def sortPU : List (Int × Int) → List (Int × Int)
  | [] => []
  | x :: xs => insPU x (sortPU xs)
def biOp (b : Bi) (args : List D) : Res W := match b, args with
  | .len, [.lst xs] => .ok (.d (.int xs.length))
  | .len, [.tup xs] => .ok (.d (.int xs.length))
  | .len, [.scr xs] => .ok (.d (.int xs.length))
  | .len, [.str s] => guard' (decide (s.length ≤ most)) (.ok (.d (.int s.length)))
  | .abs, [.int i] => .ok (.d (.int (if i < 0 then -i else i)))
  | .sum, [.lst xs] => (match intsOf xs with
    | some ns => .ok (.d (.int ns.sum))
    | none => .err)
  | .maxl, [.lst xs] => (match intsOf xs with
    | some ns => guard' (!ns.isEmpty) (.ok (.d (.int (maxOf ns))))
    | none => .err)
  | .minl, [.lst xs] => (match intsOf xs with
    | some ns => guard' (!ns.isEmpty) (.ok (.d (.int (minOf ns))))
    | none => .err)
  | .max2, [.int i, .int j] => .ok (.d (.int (if j > i then j else i)))
  | .min2, [.int i, .int j] => .ok (.d (.int (if j < i then j else i)))
  | .any, [.lst xs] => (match blsOf xs with
    | some bs => .ok (.d (.bl (bs.any id)))
    | none => .err)
  | .all, [.lst xs] => (match blsOf xs with
    | some bs => .ok (.d (.bl (bs.all id)))
    | none => .err)
  | .int, [.int i] => .ok (.d (.int i))
  | .int, [.bl b] => .ok (.d (.int (if b then 1 else 0)))
  | .list, [.lst xs] => .ok (.fl xs)
  | .list, [.tup xs] => .ok (.fl xs)
  | .tuple, [.lst xs] => .ok (.d (.tup xs))
  | .tuple, [.tup xs] => .ok (.d (.tup xs))
  | .sorted, [.lst xs] => (match intsOf xs with
    | some ns => .ok (.fl ((sortI ns).map D.int))
    | none => .err)
  | .sset, [.lst xs] => (match intsOf xs with
    | some ns => guard' (decide (ns.length ≤ 1000)) (.ok (.fl ((sortU ns).map D.int)))
    | none => .err)
  | .sortP, [.lst xs] => (match prsOf xs with
    | some ps => .ok (.fl ((sortPr ps).map prD))
    | none => .err)
  | .repr, [.int i] => guard' (decide (i.natAbs < 2 ^ 1920)) (.ok (.d (.str (figs i))))
  | .sortS, [.lst xs] => (match strsOf xs with
    | some ss => guard' (decide (ss.length < 64)) (.ok (.fl ((sortS ss).map D.str)))
    | none => .err)
  | _, _ => .err
/-- max(a, default=d) -/
def maxdR (a : D) (d : W) : Res W := match a, d with
  | .lst xs, .d v => (match intsOf xs with
    | some ns => .ok (.d (if ns.isEmpty then v else .int (maxOf ns)))
    | none => .err)
  | _, _ => .err
/-- texts behind one another, with a comma -/
def shJ : List (List Nat) → List Nat
  | [] => []
  | [x] => x
  | x :: y :: r => x ++ ([44, 32] ++ shJ (y :: r))
mutual
/-- what repr tells -/
def shD : D → List Nat
  | .non => [78, 111, 110, 101]
  | .bl true => [84, 114, 117, 101]
  | .bl false => [70, 97, 108, 115, 101]
  | .int i => figs i
  | .str s => 39 :: (s ++ [39])
  | .tup xs => 40 :: (shJ (shDs xs) ++ (if xs.length = 1 then [44, 41] else [41]))
  | .lst xs => 91 :: (shJ (shDs xs) ++ [93])
  | _ => []
def shDs : List D → List (List Nat)
  | [] => []
  | x :: xs => shD x :: shDs xs
end
mutual
def shOk : Nat → D → Bool
  | _, .non => true
  | _, .bl _ => true
  | _, .int i => decide (i.natAbs < 2 ^ 1920)
  | _, .str s => s.all fun c => decide (97 ≤ c) && decide (c < 123)
  | 0, .tup _ => false
  | 0, .lst _ => false
  | n + 1, .tup xs => shOks n xs
  | n + 1, .lst xs => shOks n xs
  | _, .scr _ => false
  | _, .obj _ => false
  | _, .ex _ => false
def shOks : Nat → List D → Bool
  | _, [] => true
  | n, x :: xs => shOk n x && shOks n xs
end
def shwR (d : D) : Res W := match d with
  | .lst xs => guard' (shOks 39 xs && decide ((shD (.lst xs)).length ≤ most)) (.ok (.d (.str (shD (.lst xs)))))
  | .tup xs => guard' (shOks 39 xs && decide ((shD (.tup xs)).length ≤ most)) (.ok (.d (.str (shD (.tup xs)))))
  | _ => .err
/-- the built-in classes of isinstance -/
inductive Ty where
  | int | bool | str | list | tuple
  deriving DecidableEq
def isTy (t : Ty) (d : D) : Res Bool := match d with
  | .non => .ok false
  | .bl _ => .ok (t == .bool || t == .int)
  | .int _ => .ok (t == .int)
  | .str _ => .ok (t == .str)
  | .lst _ => .ok (t == .list)
  | .tup _ => .ok (t == .tuple)
  | .scr _ => .ok (t == .list)
  | .obj _ => .err
  | .ex _ => .err
/-! ### classes -/
/-- the refusals by their numbers; behind them ValueError -/
def exNames : List String := ["NotchError", "NoWriting", "NoAskings", "TooMany", "Unsure", "NoName", "Taken", "Unknown", "NoNumber", "Unlike", "Lent", "Same", "Nothing", "Short", "Over", "NotLent", "Spent", "NoHalf", "NoSpot", "NoDeed", "NoText"]
def exName (k : Nat) : String := exNames.getD k ""
def exVE : Nat := 21
/-- whether the k-th class is the c-th one, or one below it -/
def isSub (k c : Nat) : Bool := k == c || (c == 0 || c == exVE)
def clNames : List String := ["Reckoning", "Account", "Ledger", "Desk"]
def clName (c : Nat) : String := clNames.getD c ""
def fdNames : List String := ["writing", "askings", "ever", "turns", "most", "stock", "foil", "lent", "gone", "reckoning", "accounts", "past", "undone", "ledgers"]
def fdName (f : Nat) : String := fdNames.getD f ""
/-! ### dicts, fields -/
def kyOf : D → Option Ky
  | .int i => some (.i i)
  | .str s => some (.s s)
  | _ => none
def kysOf : List D → Option (List Ky)
  | [] => some []
  | d :: ds => (kyOf d).bind fun k => (kysOf ds).map (k :: ·)
def kyD : Ky → D
  | .i n => .int n
  | .s x => .str x
section
variable {κ : Type} [DecidableEq κ]
def valK (kvs : List (κ × D)) (k : κ) : Option D := (kvs.find? fun kv => decide (kv.1 = k)).map (·.2)
def setK (kvs : List (κ × D)) (k : κ) (v : D) : List (κ × D) :=
  if (kvs.any fun kv => decide (kv.1 = k)) = true then kvs.map (fun kv => if kv.1 = k then (kv.1, v) else kv) else kvs ++ [(k, v)]
end
/-- what a dict has at a key: none if it's no key, or no dict -/
def dGet (c : Cell) (k : D) : Option (Option D) := match c with
  | .dK kvs => (kyOf k).map (valK kvs)
  | .dT kvs => (match k with
    | .tup ds => (kysOf ds).map (valK kvs)
    | _ => none)
  | _ => none
def dPut (c : Cell) (k v : D) : Option Cell := match c with
  | .dK kvs => if kvs.length < most then (kyOf k).map fun q => .dK (setK kvs q v) else none
  | .dT kvs => (match k with
    | .tup ds => if kvs.length < most then (kysOf ds).map fun q => .dT (setK kvs q v) else none
    | _ => none)
  | _ => none
/-- the same of a dict by tuples of ints and None -/
def nkOf : D → Option (Option Int)
  | .non => some none
  | .int i => some (some i)
  | _ => none
def nksOf : List D → Option (List (Option Int))
  | [] => some []
  | d :: ds => (nkOf d).bind fun k => (nksOf ds).map (k :: ·)
def nGet (c : Cell) (k : D) : Option (Option D) := match c with
  | .dN kvs => (match k with
    | .tup ds => (nksOf ds).map (valK kvs)
    | _ => none)
  | _ => none
def nPut (c : Cell) (k v : D) : Option Cell := match c with
  | .dN kvs => (match k with
    | .tup ds => if kvs.length < most then (nksOf ds).map fun q => .dN (setK kvs q v) else none
    | _ => none)
  | _ => none
def isDN : Cell → Bool
  | .dN _ => true
  | _ => false
/-- the keys, as they were put in -/
def dKeys (c : Cell) : Option (List D) := match c with
  | .dK kvs => some (kvs.map fun kv => kyD kv.1)
  | .dT kvs => some (kvs.map fun kv => .tup (kv.1.map kyD))
  | _ => none
def getF (f : Nat) : List (Nat × D) → Option D
  | [] => none
  | (g, x) :: r => if g = f then some x else getF f r
def putF (f : Nat) (v : D) : List (Nat × D) → List (Nat × D)
  | [] => [(f, v)]
  | (g, x) :: r => if g = f then (g, v) :: r else (g, x) :: putF f v r

/-! ### the language -/
/-- what is walked: a list, a tuple, a text; range(a); range(a, b); enumerate(a); zip(a, b); reversed(a) -/
inductive Ik where
  | seq | rng1 | rng2 | enm | zp | rev | rr1 | rr2
  deriving DecidableEq
/-- a name's place, or several names -/
inductive Tg where
  | n (i : Nat)
  | t (is : List Nat)
  deriving DecidableEq
inductive Me where
  | append | extend | pop | reverse | count | insert
  deriving DecidableEq
mutual
inductive E where
  | var (i : Nat)
  | non
  | bl (b : Bool)
  | int (i : Int)
  | str (s : List Nat)
  | glob (g : Nat)
  | bin (o : Bop) (a b : E)
  | neg (a : E)
  | cmp (o : Cop) (a b : E)
  | chain (o o' : Cop) (a b c : E)
  | isN (a : E)
  | notN (a : E)
  | and (a b : E)
  | or (a b : E)
  | not (a : E)
  | ife (c a b : E)
  | tup (es : Es)
  | lst (es : Es)
  | ix (a b : E)
  | sl (a lo hi : E)
  | call (f : Nat) (es : Es)
  | bi (b : Bi) (es : Es)
  | isi (a : E) (t : Ty)
  | isis (a : E) (ts : List Ty)
  | me (m : Me) (a : E) (es : Es)
  | lc (el : E) (tg : Tg) (k : Ik) (a b : E) (own : List (Nat))
  | lcIf (el : E) (tg : Tg) (k : Ik) (a b : E) (c : E) (own : List (Nat))
  | lrng (k : Ik) (a b : E)
  | trng (k : Ik) (a b : E)
  | lsn (a : E)
  | lidx (a b : E)
  | isB (neg b : Bool) (a : E)
  | rev1 (a : E)
  | orv (a b : E)
  | dnew (t : Bool)
  | din (neg : Bool) (k d : E)
  | dget (d k : E)
  | dgetD (d k x : E)
  | dlen (d : E)
  | dlist (d : E)
  | fld (c : Nat) (a : E) (f : Nat)
  | meth (f c : Nat) (a : E) (es : Es)
  | make (f c : Nat) (es : Es)
  | isx (al : List Nat) (a : E) (ks : List Nat)
  | strI (a : E)
  /-- max(a, default=d) -/
  | maxd (a d : E)
  /-- repr of a list, a tuple -/
  | shw (a : E)
  | revc (j : Nat) (a : E)
  | nnew
  | ngetD (d k x : E)
  /-- a displayed dict, its keys texts -/
  | ddis (ks : List (List Nat)) (es : Es)
  /-- list(d.keys()) -/
  | dkl (d : E)
  /-- sorted(set(pairs)) -/
  | ssp (a : E)
  | box (e : E)
  | unbox (e : E)
inductive Es where
  | nil
  | cons (e : E) (es : Es)
end
def isNonE : E → Bool
  | .non => true
  | _ => false
mutual
inductive S where
  | asg (tg : Tg) (e : E)
  /-- several targets, each several names -/
  | asgTT (iss : List (List Nat)) (e : E)
  | setix (o i e : E)
  | ex (e : E)
  | ret (e : E)
  | retN
  | ife (c : E) (a b : Ss)
  | forr (tg : Tg) (k : Ik) (a b : E) (body : Ss)
  | whl (fuel : Nat) (c : E) (body : Ss)
  | pass
  | brk
  | cnt
  | raise (c : Nat)
  | setfld (c : Nat) (o : E) (f : Nat) (e : E)
  | dput (d k e : E)
  | nput (d k e : E)
  /-- try: s, except the c-th class as i: j = i -/
  | triA (al : List Nat) (s : S) (c i j : Nat)
  /-- try: s, except the c-th class: return e -/
  | triC (al : List Nat) (s : S) (c : Nat) (e : E)
  /-- try: s, except the c-th class as i: j = isinstance(i, ks); if isinstance(i, k) and isinstance(i, ValueError) and not j: return w -/
  | triB (al : List Nat) (s : S) (c i j : Nat) (ks : List Nat) (k : Nat) (w : List Nat)
inductive Ss where
  | nil
  | cons (s : S) (ss : Ss)
end
structure Fn where
  /-- the names by their places, parameters first -/
  names : List String
  /-- how many parameters -/
  arity : Nat
  /-- nothing of the store is handed in or out: it is run in a store of its own -/
  plain : Bool
  body : Ss
  /-- an __init__ -/
  init : Bool
abbrev Env := List (Option D)
abbrev Cf := Nat → List D → Store → Res (W × Store)

/-! ### what comes of them -/
def setTg (tg : Tg) (d : D) (env : Env) : Res Env := match tg with
  | .n i => .ok (env.set i (some d))
  | .t is => (match d with
    | .tup xs => guard' (decide (xs.length = is.length)) (.ok ((is.zip xs).foldl (fun e p => e.set p.1 (some p.2)) env))
    | .lst xs => guard' (decide (xs.length = is.length)) (.ok ((is.zip xs).foldl (fun e p => e.set p.1 (some p.2)) env))
    | _ => .err)
def setTs : List (List Nat) → List D → Env → Res Env
  | [], [], env => .ok env
  | is :: iss, d :: ds, env => (setTg (.t is) d env).bind fun env' => setTs iss ds env'
  | _, _, _ => .err
def setTT (iss : List (List Nat)) (d : D) (env : Env) : Res Env := match d with
  | .tup xs => setTs iss xs env
  | .lst xs => setTs iss xs env
  | _ => .err
/-- numbers from lo on, n of them -/
def upFrom (lo : Int) : Nat → List D
  | 0 => []
  | n + 1 => .int lo :: upFrom (lo + 1) n
def pairs : List D → List D → List D
  | x :: xs, y :: ys => .tup [x, y] :: pairs xs ys
  | _, _ => []
def small (i : Int) : Bool := decide (-(2 ^ 62) ≤ i) && decide (i < 2 ^ 62)
/-- the items that are walked -/
def seqItems (a : D) : Res (List D) := match a with
  | .lst xs => .ok xs
  | .tup xs => .ok xs
  | .scr xs => .ok (xs.map D.int)
  | .str s => .ok (s.map fun c => .str [c])
  | _ => .err
def rng1Items (a : D) : Res (List D) := match a with
  | .int n => guard' (small n) (.ok (upFrom 0 n.toNat))
  | _ => .err
def rng2Items (a b : D) : Res (List D) := match a, b with
  | .int m, .int n => guard' (small m && small n) (.ok (upFrom m (n - m).toNat))
  | _, _ => .err
def enmItems (a : D) : Res (List D) := match a with
  | .lst xs => .ok (pairs (upFrom 0 xs.length) xs)
  | .tup xs => .ok (pairs (upFrom 0 xs.length) xs)
  | _ => .err
def zpItems (a b : D) : Res (List D) := match a, b with
  | .lst xs, .lst ys => .ok (pairs xs ys)
  | .tup xs, .tup ys => .ok (pairs xs ys)
  | _, _ => .err
def revItems (a : D) : Res (List D) := match a with
  | .lst xs => .ok xs.reverse
  | .tup xs => .ok xs.reverse
  | _ => .err
def items (k : Ik) (a b : D) : Res (List D) := match k with
  | .seq => seqItems a
  | .rng1 => rng1Items a
  | .rng2 => rng2Items a b
  | .enm => enmItems a
  | .zp => zpItems a b
  | .rev => revItems a
  | .rr1 => (rng1Items a).bind fun ds => .ok ds.reverse
  | .rr2 => (rng2Items a b).bind fun ds => .ok ds.reverse
/-- range's items -/
def rgItems (k : Ik) (a b : D) : Res (List D) := match k with
  | .rng1 => rng1Items a
  | .rng2 => rng2Items a b
  | _ => .err
/-- a list of the store that is walked is as it was -/
def kept (a : D) (S S' : Store) : Bool := match a with
  | .obj n => decide (S[n]? = S'[n]?)
  | _ => true
/-- one turn after another, each may give a thing -/
def compL (ok : Store → Bool) (f : D → Store → Res (Option D × Store)) : List D → Store → Res (List D × Store)
  | [], S => .ok ([], S)
  | x :: xs, S => (f x S).bind fun r => guard' (ok r.2) ((compL ok f xs r.2).bind fun q => .ok (r.1.toList ++ q.1, q.2))
def wipe (env : Env) : List Nat → Env
  | [] => env
  | v :: vs => (wipe env vs).set v none
def noneOrInt : D → Bool
  | .non => true
  | .int _ => true
  | _ => false
def meOp (m : Me) (n : Nat) (args : List D) (S : Store) : Res (W × Store) := match S[n]? with
  | some (.lst xs) => (match m, args with
    | .append, [d] => guard' (decide (xs.length < most)) (.ok (.d .non, S.set n (.lst (xs ++ [d]))))
    | .extend, [d] => (match pk S d with
      | .lst ys => guard' (decide (xs.length + ys.length ≤ most)) (.ok (.d .non, S.set n (.lst (xs ++ ys))))
      | _ => .err)
    | .pop, [] => (match xs.getLast? with
      | some d => .ok (.d d, S.set n (.lst xs.dropLast))
      | none => .err)
    | .reverse, [] => .ok (.d .non, S.set n (.lst xs.reverse))
    | .insert, [.int i, d] => guard' (decide (xs.length < most) && (decide (0 ≤ i) && decide (i < 2 ^ 63))) (.ok (.d .non, S.set n (.lst (xs.take i.toNat ++ [d] ++ xs.drop i.toNat))))
    | .count, [.non] => guard' (xs.all noneOrInt) (.ok (.d (.int (xs.countP fun d => decide (d = .non) : Nat)), S))
    | _, _ => .err)
  | _ => .err
def toB (w : W) : Res Bool := match w with
  | .d (.bl b) => .ok b
  | _ => .err
section
variable (gl : Nat → Option D) (cf : Cf)
mutual
def ev : E → Env → Store → Res (W × Store)
  | .var i, env, S => (match env[i]? with
    | some (some d) => .ok (.d d, S)
    | _ => .err)
  | .non, _, S => .ok (.d .non, S)
  | .bl b, _, S => .ok (.d (.bl b), S)
  | .int i, _, S => .ok (.d (.int i), S)
  | .str s, _, S => .ok (.d (.str s), S)
  | .glob g, _, S => (match gl g with
    | some d => .ok (.d d, S)
    | none => .err)
  | .bin o a b, env, S => (ev a env S).bind fun x => (ev b env x.2).bind fun y => (binOp o (pk y.2 x.1.toD) (pk y.2 y.1.toD)).bind fun w => .ok (w, y.2)
  | .neg a, env, S => (ev a env S).bind fun x => (match x.1 with
    | .d (.int i) => .ok (.d (.int (-i)), x.2)
    | _ => .err)
  | .cmp o a b, env, S => (ev a env S).bind fun x => (ev b env x.2).bind fun y => (cmpOp o (pk y.2 x.1.toD) (pk y.2 y.1.toD)).bind fun r => .ok (.d (.bl r), y.2)
  | .chain o o' a b c, env, S => (ev a env S).bind fun x => (ev b env x.2).bind fun y => (cmpOp o (pk y.2 x.1.toD) (pk y.2 y.1.toD)).bind fun r =>
      if r then (ev c env y.2).bind fun z => (cmpOp o' (pk z.2 y.1.toD) (pk z.2 z.1.toD)).bind fun q => .ok (.d (.bl q), z.2) else .ok (.d (.bl false), y.2)
  | .isN a, env, S => (ev a env S).bind fun x => .ok (.d (.bl (decide (x.1.toD = .non))), x.2)
  | .notN a, env, S => (ev a env S).bind fun x => .ok (.d (.bl (!decide (x.1.toD = .non))), x.2)
  | .and a b, env, S => (ev a env S).bind fun x => (toB x.1).bind fun r => if r then (ev b env x.2).bind fun y => (toB y.1).bind fun q => .ok (.d (.bl q), y.2) else .ok (.d (.bl false), x.2)
  | .or a b, env, S => (ev a env S).bind fun x => (toB x.1).bind fun r => if r then .ok (.d (.bl true), x.2) else (ev b env x.2).bind fun y => (toB y.1).bind fun q => .ok (.d (.bl q), y.2)
  | .not a, env, S => (ev a env S).bind fun x => (toB x.1).bind fun r => .ok (.d (.bl (!r)), x.2)
  | .ife c a b, env, S => (ev c env S).bind fun x => (toB x.1).bind fun r => if r then ev a env x.2 else ev b env x.2
  | .tup es, env, S => (evs es env S).bind fun x => guard' (decide (x.1.length ≤ most)) (.ok (.d (.tup x.1), x.2))
  | .lst es, env, S => (evs es env S).bind fun x => guard' (decide (x.1.length ≤ most)) (.ok (.fl x.1, x.2))
  | .ix a b, env, S => (ev a env S).bind fun x => (ev b env x.2).bind fun y => (ixOp (pk y.2 x.1.toD) y.1.toD).bind fun d => .ok (.d d, y.2)
  | .sl a lo hi, env, S => (ev a env S).bind fun x => Res.calm <| (ev lo env x.2).bind fun l => (ev hi env l.2).bind fun h => (match endOf (isNonE lo) l.1.toD, endOf (isNonE hi) h.1.toD with
    | some i, some j => (slOp (pk h.2 x.1.toD) i j).bind fun w => .ok (w, h.2)
    | _, _ => .err)
  | .call f es, env, S => (evs es env S).bind fun x => cf f x.1 x.2
  | .bi b es, env, S => (evs es env S).bind fun x => (biOp b (x.1.map (pk x.2))).bind fun w => .ok (w, x.2)
  | .isi a t, env, S => (ev a env S).bind fun x => (isTy t (pk x.2 x.1.toD)).bind fun r => .ok (.d (.bl r), x.2)
  | .isis a ts, env, S => (ev a env S).bind fun x => (match ts with
    | [t, u] => (isTy t (pk x.2 x.1.toD)).bind fun r => (isTy u (pk x.2 x.1.toD)).bind fun q => .ok (.d (.bl (r || q)), x.2)
    | _ => .err)
  | .me m a es, env, S => (ev a env S).bind fun x => (match x.1 with
    | .d (.obj n) => (match x.2[n]? with
      | some (.lst _) => (evs es env x.2).bind fun y => meOp m n y.1 y.2
      | _ => .err)
    | _ => .err)
  | .lc el tg k a b own, env, S => (ev a env S).bind fun x => (ev b env x.2).bind fun y => (items k (pk y.2 x.1.toD) (pk y.2 y.1.toD)).bind fun ds =>
      (compL (fun S' => kept x.1.toD y.2 S' && kept y.1.toD y.2 S') (fun d S' => (setTg tg d (wipe env own)).bind fun env' => (ev el env' S').bind fun z => .ok (some z.1.toD, z.2)) ds y.2).calm.bind fun q =>
        guard' (decide (ds.length ≤ most)) (.ok (.fl q.1, q.2))
  | .lcIf el tg k a b c own, env, S => (ev a env S).bind fun x => (ev b env x.2).bind fun y => (items k (pk y.2 x.1.toD) (pk y.2 y.1.toD)).bind fun ds =>
      (compL (fun S' => kept x.1.toD y.2 S' && kept y.1.toD y.2 S') (fun d S' => (setTg tg d (wipe env own)).bind fun env' => (ev c env' S').bind fun t => (toB t.1).bind fun r =>
        if r then (ev el env' t.2).bind fun z => .ok (some z.1.toD, z.2) else .ok (none, t.2)) ds y.2).calm.bind fun q => guard' (decide (ds.length ≤ most)) (.ok (.fl q.1, q.2))
  | .lrng k a b, env, S => (ev a env S).bind fun x => (ev b env x.2).bind fun y => (rgItems k (pk y.2 x.1.toD) (pk y.2 y.1.toD)).bind fun ds => guard' (decide (ds.length ≤ most)) (.ok (.fl ds, y.2))
  | .trng k a b, env, S => (ev a env S).bind fun x => (ev b env x.2).bind fun y => (rgItems k (pk y.2 x.1.toD) (pk y.2 y.1.toD)).bind fun ds => guard' (decide (ds.length ≤ most)) (.ok (.d (.tup ds), y.2))
  | .lsn a, env, S => (ev a env S).bind fun x => (match pk x.2 x.1.toD with
    | .lst xs => (match intsOf xs with
      | some ns => guard' (decide (ns.length ≤ 1000)) (.ok (.d (.int (sortU ns).length), x.2))
      | none => .err)
    | _ => .err)
  | .lidx a b, env, S => (ev a env S).bind fun x => (match pk x.2 x.1.toD with
    | .lst _ => (ev b env x.2).bind fun y => (match pk y.2 x.1.toD, y.1.toD with
      | .lst xs, .int i => (match intsOf xs with
        | some ns => guard' (ns.contains i) (.ok (.d (.int (ns.idxOf i)), y.2))
        | none => .err)
      | _, _ => .err)
    | _ => .err)
  | .isB neg b a, env, S => (ev a env S).bind fun x => (match x.1 with
    | .d (.bl c) => .ok (.d (.bl (if neg then !decide (c = b) else decide (c = b))), x.2)
    | _ => .err)
  | .rev1 a, env, S => (ev a env S).bind fun x => (match pk x.2 x.1.toD with
    | .lst xs => .ok (.fl xs.reverse, x.2)
    | .tup xs => .ok (.d (.tup xs.reverse), x.2)
    | _ => .err)
  | .orv a b, env, S => (ev a env S).bind fun x => (match x.1 with
    | .d (.int i) => if i = 0 then (ev b env x.2).bind fun y => (match y.1 with
      | .d (.int j) => .ok (.d (.int j), y.2)
      | _ => .err) else .ok (.d (.int i), x.2)
    | .d .non => (ev b env x.2).bind fun y => (match y.1 with
      | .d (.int j) => .ok (.d (.int j), y.2)
      | _ => .err)
    | _ => .err)
  | .dnew t, _, S => .ok (.d (.obj S.length), S ++ [if t then .dT [] else .dK []])
  | .din neg k d, env, S => (ev k env S).bind fun x => (ev d env x.2).bind fun y => (match y.1 with
    | .d (.obj n) => (match (y.2[n]?).bind fun c => dGet c x.1.toD with
      | some o => .ok (.d (.bl (if neg then !o.isSome else o.isSome)), y.2)
      | none => .err)
    | _ => .err)
  | .dget d k, env, S => (ev d env S).bind fun x => (ev k env x.2).bind fun y => (match x.1 with
    | .d (.obj n) => (match (y.2[n]?).bind fun c => dGet c y.1.toD with
      | some (some v) => .ok (.d v, y.2)
      | _ => .err)
    | _ => .err)
  | .dgetD d k z, env, S => (ev d env S).bind fun x => (match x.1 with
    | .d (.obj n) => (match (x.2[n]?).bind dKeys with
      | some _ => (ev k env x.2).bind fun y => (ev z env y.2).bind fun u => (match (u.2[n]?).bind fun c => dGet c y.1.toD with
        | some o => .ok (.d (o.getD u.1.toD), u.2)
        | none => .err)
      | none => .err)
    | _ => .err)
  | .dlen d, env, S => (ev d env S).bind fun x => (match x.1 with
    | .d (.obj n) => (match (x.2[n]?).bind dKeys with
      | some ks => .ok (.d (.int ks.length), x.2)
      | none => .err)
    | _ => .err)
  | .dlist d, env, S => (ev d env S).bind fun x => (match x.1 with
    | .d (.obj n) => (match (x.2[n]?).bind dKeys with
      | some ks => .ok (.fl ks, x.2)
      | none => .err)
    | _ => .err)
  | .fld c a f, env, S => (ev a env S).bind fun x => (match x.1 with
    | .d (.obj n) => (match x.2[n]? with
      | some (.ins c' fs) => guard' (c' == c) (match getF f fs with
        | some d => .ok (.d d, x.2)
        | none => .err)
      | _ => .err)
    | _ => .err)
  | .meth f c a es, env, S => (ev a env S).bind fun x => (match x.1 with
    | .d (.obj n) => (match x.2[n]? with
      | some (.ins c' _) => guard' (c' == c) ((evs es env x.2).bind fun y => cf f (.obj n :: y.1) y.2)
      | _ => .err)
    | _ => .err)
  | .make f c es, env, S => (evs es env S).bind fun y => ((cf f (.obj y.2.length :: y.1) (y.2 ++ [.ins c []])).calm).bind fun r => (match r.1 with
    | .d .non => .ok (.d (.obj y.2.length), r.2)
    | _ => .err)
  | .isx al a ks, env, S => (ev a env S).bind fun x => (match x.1 with
    | .d (.ex k) => guard' (al.contains k) <| .ok (.d (.bl (ks.any fun c => isSub k c)), x.2)
    | _ => .err)
  | .strI a, env, S => (ev a env S).bind fun x => (match x.1 with
    | .d (.int i) => guard' (decide (i.natAbs < 2 ^ 1920)) (.ok (.d (.str (figs i)), x.2))
    | _ => .err)
  | .revc j a, env, S => (ev a env S).bind fun x => (match pk x.2 x.1.toD with
    | .tup xs => guard' (decide (j < xs.length)) (.ok (.d (.tup (xs.drop (j + 1)).reverse), x.2))
    | _ => .err)
  | .nnew, _, S => .ok (.d (.obj S.length), S ++ [.dN []])
  | .ngetD d k z, env, S => (ev d env S).bind fun x => (match x.1 with
    | .d (.obj n) => (match (x.2[n]?).map isDN with
      | some true => (ev k env x.2).bind fun y => (ev z env y.2).bind fun u => (match (u.2[n]?).bind fun c => nGet c y.1.toD with
        | some o => .ok (.d (o.getD u.1.toD), u.2)
        | none => .err)
      | _ => .err)
    | _ => .err)
  | .ddis ks es, env, S => (evs es env S).bind fun x => guard' (decide (x.1.length = ks.length)) (.ok (.d (.obj x.2.length), x.2 ++ [.dK ((ks.map Ky.s).zip x.1)]))
  | .dkl d, env, S => (ev d env S).bind fun x => (match x.1 with
    | .d (.obj n) => (match x.2[n]? with
      | some (.dK kvs) => .ok (.fl (kvs.map fun kv => kyD kv.1), x.2)
      | _ => .err)
    | _ => .err)
  | .ssp a, env, S => (ev a env S).bind fun x => (match pk x.2 x.1.toD with
    | .lst xs => (match prsOf xs with
      | some ps => guard' (decide (ps.length < 64) && ps.all fun p => decide (0 ≤ p.1) && decide (0 ≤ p.2)) (.ok (.fl ((sortPU ps).map prD), x.2))
      | none => .err)
    | _ => .err)
  | .maxd a d, env, S => (ev a env S).bind fun x => (ev d env x.2).bind fun y => (maxdR (pk y.2 x.1.toD) y.1).bind fun w => .ok (w, y.2)
  | .shw a, env, S => (ev a env S).bind fun x => (shwR (pk x.2 x.1.toD)).bind fun w => .ok (w, x.2)
  | .box e, env, S => (ev e env S).bind fun x => (match x.1 with
    | .fl xs => .ok (.d (.obj x.2.length), x.2 ++ [.lst xs])
    | _ => .err)
  | .unbox e, env, S => (ev e env S).bind fun x => (match x.1 with
    | .d (.obj n) => (match x.2[n]? with
      | some (.lst xs) => .ok (.fl xs, x.2.set n .dead)
      | _ => .err)
    | _ => .err)
def evs : Es → Env → Store → Res (List D × Store)
  | .nil, _, S => .ok ([], S)
  | .cons e es, env, S => (ev e env S).bind fun x => (evs es env x.2).bind fun y => .ok (x.1.toD :: y.1, y.2)
end
/-- how a statement ends -/
inductive Fl where
  | nx (env : Env)
  | ret (w : W)
  | brk (env : Env)
  | cnt (env : Env)
def loopF (ok : Store → Bool) (f : D → Env → Store → Res (Fl × Store)) : List D → Env → Store → Res (Fl × Store)
  | [], env, S => .ok (.nx env, S)
  | x :: xs, env, S => (f x env S).bind fun r => (match r.1 with
    | .nx env' => guard' (ok r.2) (loopF ok f xs env' r.2)
    | .cnt env' => guard' (ok r.2) (loopF ok f xs env' r.2)
    | .brk env' => .ok (.nx env', r.2)
    | .ret w => .ok (.ret w, r.2))
def loopW (c : Env → Store → Res (Bool × Store)) (f : Env → Store → Res (Fl × Store)) : Nat → Env → Store → Res (Fl × Store)
  | 0, _, _ => .err
  | n + 1, env, S => (c env S).bind fun t => if t.1 then (f env t.2).bind fun r => (match r.1 with
    | .nx env' => loopW c f n env' r.2
    | .cnt env' => loopW c f n env' r.2
    | .brk env' => .ok (.nx env', r.2)
    | .ret w => .ok (.ret w, r.2)) else .ok (.nx env, t.2)
mutual
def ex : S → Env → Store → Res (Fl × Store)
  | .asg tg e, env, S => (ev gl cf e env S).bind fun x => (setTg tg x.1.toD env).bind fun env' => .ok (.nx env', x.2)
  | .asgTT iss e, env, S => (ev gl cf e env S).bind fun x => (setTT iss x.1.toD env).bind fun env' => .ok (.nx env', x.2)
  | .setix o i e, env, S => (ev gl cf e env S).bind fun x => (ev gl cf o env x.2).bind fun y => (ev gl cf i env y.2).bind fun z => (match y.1, z.1 with
    | .d (.obj n), .d (.int k) => (match z.2[n]? with
      | some (.lst xs) => (match ixN xs.length k with
        | some j => .ok (.nx env, z.2.set n (.lst (xs.set j x.1.toD)))
        | none => .err)
      | _ => .err)
    | _, _ => .err)
  | .ex e, env, S => (ev gl cf e env S).bind fun x => .ok (.nx env, x.2)
  | .ret e, env, S => (ev gl cf e env S).bind fun x => .ok (.ret x.1, x.2)
  | .retN, _, S => .ok (.ret (.d .non), S)
  | .ife c a b, env, S => (ev gl cf c env S).bind fun x => (toB x.1).bind fun r => if r then exs a env x.2 else exs b env x.2
  | .forr tg k a b body, env, S => (ev gl cf a env S).bind fun x => (ev gl cf b env x.2).bind fun y => (items k (pk y.2 x.1.toD) (pk y.2 y.1.toD)).bind fun ds =>
      loopF (fun S' => kept x.1.toD y.2 S' && kept y.1.toD y.2 S') (fun d env' S' => (setTg tg d env').bind fun env2 => exs body env2 S') ds env y.2
  | .whl fuel c body, env, S => loopW (fun env' S' => (ev gl cf c env' S').bind fun x => (toB x.1).bind fun r => .ok (r, x.2)) (fun env' S' => exs body env' S') fuel env S
  | .pass, env, S => .ok (.nx env, S)
  | .brk, env, S => .ok (.brk env, S)
  | .cnt, env, S => .ok (.cnt env, S)
  | .raise c, _, S => .exc c S
  | .setfld c' o f e, env, S => (ev gl cf e env S).bind fun x => (ev gl cf o env x.2).bind fun y => (match y.1 with
    | .d (.obj n) => (match y.2[n]? with
      | some (.ins c fs) => guard' (c == c' && (decide (f < fdNames.length) && decide (fs.length < 100))) (.ok (.nx env, y.2.set n (.ins c (putF f x.1.toD fs))))
      | _ => .err)
    | _ => .err)
  | .dput d k e, env, S => (ev gl cf e env S).bind fun x => (ev gl cf d env x.2).bind fun y => (ev gl cf k env y.2).bind fun z => (match y.1 with
    | .d (.obj n) => (match (z.2[n]?).bind fun c => dPut c z.1.toD x.1.toD with
      | some c => .ok (.nx env, z.2.set n c)
      | none => .err)
    | _ => .err)
  | .nput d k e, env, S => (ev gl cf e env S).bind fun x => (ev gl cf d env x.2).bind fun y => (ev gl cf k env y.2).bind fun z => (match y.1 with
    | .d (.obj n) => (match (z.2[n]?).bind fun c => nPut c z.1.toD x.1.toD with
      | some c => .ok (.nx env, z.2.set n c)
      | none => .err)
    | _ => .err)
  | .triA al s c i j, env, S => (match ex s env S with
    | .exc k S' => guard' (al.contains k) <| if isSub k c then .ok (.nx ((env.set i none).set j (some (.ex k))), S') else .exc k S'
    | r => r)
  | .triC al s c e, env, S => (match ex s env S with
    | .exc k S' => guard' (al.contains k) <| if isSub k c then (ev gl cf e env S').bind fun x => .ok (.ret x.1, x.2) else .exc k S'
    | r => r)
  | .triB al s c i j ks k0 w, env, S => (match ex s env S with
    | .exc k S' => guard' (al.contains k && (decide (i < env.length) && decide (j < env.length))) <| if isSub k c then (if isSub k k0 && !(ks.any fun c => isSub k c) then .ok (.ret (.d (.str w)), S') else .ok (.nx ((env.set i none).set j (some (.bl (ks.any fun c => isSub k c)))), S')) else .exc k S'
    | r => r)
def exs : Ss → Env → Store → Res (Fl × Store)
  | .nil, env, S => .ok (.nx env, S)
  | .cons s ss, env, S => (ex s env S).bind fun r => (match r.1 with
    | .nx env' => exs ss env' r.2
    | _ => .ok r)
end
end
mutual
/-- no place of the store in it -/
def D.closed : D → Bool
  | .obj _ => false
  | .tup xs => D.closeds xs
  | .lst xs => D.closeds xs
  | _ => true
def D.closeds : List D → Bool
  | [] => true
  | x :: xs => D.closed x && D.closeds xs
end
def start (f : Fn) (args : List D) : Env := args.map some ++ List.replicate (f.names.length - args.length) none
def endW (r : Fl × Store) : Res (W × Store) := match r.1 with
  | .ret w => .ok (w, r.2)
  | .nx _ => .ok (.d .non, r.2)
  | _ => .err
/-- a def of its own store is left -/
def plainEnd (S : Store) (r : Res (W × Store)) : Res (W × Store) := match r with
  | .ok r => guard' (D.closed r.1.toD) (.ok (r.1, S))
  | .exc k _ => .exc k S
  | .err => .err
/-- a call, so many calls deep at most -/
def call (gl : Nat → Option D) (fs : List Fn) : Nat → Nat → List D → Store → Res (W × Store)
  | 0, _, _, _ => .err
  | n + 1, f, args, S => (match fs[f]? with
    | some fn => guard' (decide (args.length = fn.arity)) (if fn.init then (match n with
        | 0 => .err
        | m + 1 => (exs gl (call gl fs m) fn.body (start fn args) S).bind endW)
      else if fn.plain then guard' (D.closeds args) (plainEnd S ((exs gl (call gl fs n) fn.body (start fn args) []).bind endW))
      else (exs gl (call gl fs n) fn.body (start fn args) S).bind endW)
    | none => .err)
end Nl

namespace Nl
/-! ### rising, each once -/
theorem insU_mem (x k : Int) : ∀ ys : List Int, k ∈ insU x ys ↔ k = x ∨ k ∈ ys
  | [] => by simp [insU]
  | y :: ys => by
    unfold insU
    split
    · simp
    · split
      · rename_i h
        subst h
        simp
      · rw [List.mem_cons, insU_mem x k ys, List.mem_cons]
        constructor
        · rintro (h | h | h) <;> simp [h]
        · rintro (h | h | h) <;> simp [h]
theorem sortU_mem (k : Int) : ∀ xs : List Int, k ∈ sortU xs ↔ k ∈ xs
  | [] => Iff.rfl
  | x :: xs => by rw [sortU, insU_mem, sortU_mem k xs, List.mem_cons]
theorem insU_lt (x : Int) : ∀ ys : List Int, ys.Pairwise (· < ·) → (insU x ys).Pairwise (· < ·)
  | [], _ => by simp [insU]
  | y :: ys, h => by
    obtain ⟨h1, h2⟩ := List.pairwise_cons.mp h
    unfold insU
    split
    · rename_i hx
      refine List.pairwise_cons.mpr ⟨fun z hz => ?_, h⟩
      rcases List.mem_cons.mp hz with rfl | hz
      · exact hx
      · exact Int.lt_trans hx (h1 z hz)
    · split
      · exact h
      · rename_i n1 n2
        refine List.pairwise_cons.mpr ⟨fun z hz => ?_, insU_lt x ys h2⟩
        rcases (insU_mem x z ys).mp hz with rfl | hz
        · omega
        · exact h1 z hz
theorem sortU_lt : ∀ xs : List Int, (sortU xs).Pairwise (· < ·)
  | [] => List.Pairwise.nil
  | x :: xs => insU_lt x _ (sortU_lt xs)
theorem insU_le (x : Int) : ∀ ys : List Int, (insU x ys).length ≤ ys.length + 1
  | [] => by simp [insU]
  | y :: ys => by
    have := insU_le x ys
    unfold insU
    split
    · simp
    · split
      · simp
      · simp only [List.length_cons]
        omega
theorem sortU_le : ∀ xs : List Int, (sortU xs).length ≤ xs.length
  | [] => by simp [sortU]
  | x :: xs => by
    have a := insU_le x (sortU xs)
    have b := sortU_le xs
    show (insU x (sortU xs)).length ≤ _
    rw [List.length_cons]
    omega
theorem nodup_lt {xs : List Int} (h : xs.Pairwise (· < ·)) : xs.Nodup := h.imp fun a => Int.ne_of_lt a
theorem rise_unique : ∀ {xs ys : List Int}, xs.Pairwise (· < ·) → ys.Pairwise (· < ·) → (∀ k, k ∈ xs ↔ k ∈ ys) → xs = ys
  | [], [], _, _, _ => rfl
  | [], y :: ys, _, _, h => by have := (h y).mpr List.mem_cons_self; cases this
  | x :: xs, [], _, _, h => by have := (h x).mp List.mem_cons_self; cases this
  | x :: xs, y :: ys, h1, h2, h => by
    obtain ⟨a1, a2⟩ := List.pairwise_cons.mp h1
    obtain ⟨b1, b2⟩ := List.pairwise_cons.mp h2
    have e : x = y := by
      rcases List.mem_cons.mp ((h x).mp List.mem_cons_self) with e | e
      · exact e
      · rcases List.mem_cons.mp ((h y).mpr List.mem_cons_self) with e' | e'
        · exact e'.symm
        · have := b1 x e
          have := a1 y e'
          omega
    subst e
    rw [rise_unique a2 b2 fun k => ?_]
    have := h k
    simp only [List.mem_cons] at this
    constructor
    · intro hk
      rcases this.mp (Or.inr hk) with e | e
      · subst e; have := a1 k hk; omega
      · exact e
    · intro hk
      rcases this.mpr (Or.inr hk) with e | e
      · subst e; have := b1 k hk; omega
      · exact e
theorem sortU_unique {ns : List Int} {L : List Int} (h : L.Pairwise (· < ·)) (hm : ∀ k, k ∈ L ↔ k ∈ ns) : L = sortU ns := rise_unique h (sortU_lt ns) fun k => by rw [hm, sortU_mem]
theorem insI_perm (x : Int) : ∀ ys : List Int, (insI x ys).Perm (x :: ys)
  | [] => .refl _
  | y :: ys => by
    unfold insI
    split
    · exact .refl _
    · exact ((insI_perm x ys).cons y).trans (.swap x y ys)
theorem sortI_perm : ∀ xs : List Int, (sortI xs).Perm xs
  | [] => .refl _
  | x :: xs => (insI_perm x (sortI xs)).trans ((sortI_perm xs).cons x)
theorem insI_sorted (x : Int) : ∀ ys : List Int, ys.Pairwise (· ≤ ·) → (insI x ys).Pairwise (· ≤ ·)
  | [], _ => by simp [insI]
  | y :: ys, h => by
    unfold insI
    split
    · rename_i hxy
      refine List.pairwise_cons.mpr ⟨fun z hz => ?_, h⟩
      rcases List.mem_cons.mp hz with rfl | hz
      · exact hxy
      · have := (List.pairwise_cons.mp h).1 z hz; omega
    · rename_i hxy
      obtain ⟨h1, h2⟩ := List.pairwise_cons.mp h
      refine List.pairwise_cons.mpr ⟨fun z hz => ?_, insI_sorted x ys h2⟩
      rcases List.mem_cons.mp ((insI_perm x ys).mem_iff.mp hz) with rfl | hz
      · omega
      · exact h1 z hz
theorem sortI_sorted : ∀ xs : List Int, (sortI xs).Pairwise (· ≤ ·)
  | [] => .nil
  | x :: xs => insI_sorted x _ (sortI_sorted xs)
theorem sorted_unique : ∀ {xs ys : List Int}, xs.Perm ys → xs.Pairwise (· ≤ ·) → ys.Pairwise (· ≤ ·) → xs = ys
  | [], ys, p, _, _ => by rw [List.nil_perm.mp p]
  | x :: xs, [], p, _, _ => by have := List.perm_nil.mp p; cases this
  | x :: xs, y :: ys, p, h1, h2 => by
    obtain ⟨a1, a2⟩ := List.pairwise_cons.mp h1
    obtain ⟨b1, b2⟩ := List.pairwise_cons.mp h2
    have e : x = y := by
      have m1 : x ∈ y :: ys := p.mem_iff.mp List.mem_cons_self
      have m2 : y ∈ x :: xs := p.mem_iff.mpr List.mem_cons_self
      have k1 : y ≤ x := by
        rcases List.mem_cons.mp m1 with e | m
        · omega
        · exact b1 x m
      have k2 : x ≤ y := by
        rcases List.mem_cons.mp m2 with e | m
        · omega
        · exact a1 y m
      omega
    subst e
    rw [sorted_unique (List.Perm.cons_inv p) a2 b2]
def leP (p q : Int × Int) : Prop := p.1 < q.1 ∨ (p.1 = q.1 ∧ p.2 ≤ q.2)
theorem lePr_iff {p q : Int × Int} : lePr p q = true ↔ leP p q := by simp [lePr, leP]
theorem insP_perm (x : Int × Int) : ∀ ys, (insP x ys).Perm (x :: ys)
  | [] => List.Perm.refl _
  | y :: ys => by
    unfold insP
    split
    · exact List.Perm.refl _
    · exact ((insP_perm x ys).cons y).trans (List.Perm.swap x y ys)
theorem sortPr_perm : ∀ xs, (sortPr xs).Perm xs
  | [] => List.Perm.refl _
  | x :: xs => (insP_perm x _).trans ((sortPr_perm xs).cons x)
theorem insP_sorted (x : Int × Int) : ∀ ys, ys.Pairwise leP → (insP x ys).Pairwise leP
  | [], _ => List.pairwise_singleton _ _
  | y :: ys, h => by
    obtain ⟨h1, h2⟩ := List.pairwise_cons.mp h
    unfold insP
    split
    · rename_i k
      have k := lePr_iff.mp k
      refine List.pairwise_cons.mpr ⟨fun z hz => ?_, h⟩
      rcases List.mem_cons.mp hz with rfl | hz
      · exact k
      · have := h1 z hz
        unfold leP at *
        omega
    · rename_i k
      have k : ¬ leP x y := fun z => k (lePr_iff.mpr z)
      refine List.pairwise_cons.mpr ⟨fun z hz => ?_, insP_sorted x ys h2⟩
      rcases List.mem_cons.mp ((insP_perm x ys).mem_iff.mp hz) with rfl | hz
      · unfold leP at *
        omega
      · exact h1 z hz
theorem sortPr_sorted : ∀ xs, (sortPr xs).Pairwise leP
  | [] => List.Pairwise.nil
  | x :: xs => insP_sorted x _ (sortPr_sorted xs)
theorem leP_uniq : ∀ {xs ys : List (Int × Int)}, xs.Perm ys → xs.Pairwise leP → ys.Pairwise leP → xs = ys
  | [], ys, p, _, _ => (List.Perm.nil_eq p)
  | x :: xs, [], p, _, _ => by have := p.length_eq; simp at this
  | x :: xs, y :: ys, p, a, b => by
    obtain ⟨a1, a2⟩ := List.pairwise_cons.mp a
    obtain ⟨b1, b2⟩ := List.pairwise_cons.mp b
    have hxy : x = y := by
      rcases List.mem_cons.mp (p.mem_iff.mp List.mem_cons_self) with h | h
      · exact h
      · rcases List.mem_cons.mp (p.mem_iff.mpr (List.mem_cons_self (a := y) (l := ys))) with h' | h'
        · exact h'.symm
        · have q1 := b1 x h
          have q2 := a1 y h'
          obtain ⟨x1, x2⟩ := x
          obtain ⟨y1, y2⟩ := y
          unfold leP at q1 q2
          simp only [Prod.mk.injEq] at *
          omega
    subst hxy
    rw [leP_uniq (List.Perm.cons_inv p) a2 b2]
/-! ### the order of texts -/
theorem ltS_tri : ∀ x y : List Nat, ltS x y = false → ltS y x = false → x = y
  | [], [], _, _ => rfl
  | [], _ :: _, h, _ => by simp [ltS] at h
  | _ :: _, [], _, h => by simp [ltS] at h
  | x :: xs, y :: ys, h1, h2 => by
    unfold ltS at h1 h2
    by_cases e : x = y
    · subst e
      simp only [if_true] at h1 h2
      rw [ltS_tri xs ys h1 h2]
    · rw [if_neg e] at h1
      rw [if_neg (Ne.symm e)] at h2
      simp only [decide_eq_false_iff_not] at h1 h2
      omega
theorem ltS_tr : ∀ x y z : List Nat, ltS y x = false → ltS z y = false → ltS z x = false
  | [], y, [], _, _ => rfl
  | [], [], _ :: _, _, h => rfl
  | [], _ :: _, _ :: _, _, h => rfl
  | _ :: _, [], _, h, _ => by simp [ltS] at h
  | _ :: _, _ :: _, [], _, h => by simp [ltS] at h
  | x :: xs, y :: ys, z :: zs, h1, h2 => by
    unfold ltS at h1 h2 ⊢
    by_cases e : y = x
    · subst e
      simp only [if_true] at h1
      by_cases e2 : z = y
      · subst e2
        simp only [if_true] at h2 ⊢
        exact ltS_tr xs ys zs h1 h2
      · rw [if_neg e2] at h2 ⊢
        exact h2
    · rw [if_neg e] at h1
      simp only [decide_eq_false_iff_not] at h1
      by_cases e2 : z = y
      · subst e2
        rw [if_neg e]
        simpa using h1
      · rw [if_neg e2] at h2
        simp only [decide_eq_false_iff_not] at h2
        rw [if_neg (by omega)]
        simp only [decide_eq_false_iff_not]
        omega
theorem ltS_asym : ∀ x y : List Nat, ltS x y = true → ltS y x = false
  | [], [], h => by simp [ltS] at h
  | [], _ :: _, _ => rfl
  | _ :: _, [], h => by simp [ltS] at h
  | x :: xs, y :: ys, h => by
    unfold ltS at h ⊢
    by_cases e : x = y
    · subst e
      simp only [if_true] at h ⊢
      exact ltS_asym xs ys h
    · rw [if_neg e] at h
      rw [if_neg (Ne.symm e)]
      simp only [decide_eq_true_eq] at h
      simp only [decide_eq_false_iff_not]
      omega
theorem insS_perm (x : List Nat) : ∀ ys, (insS x ys).Perm (x :: ys)
  | [] => List.Perm.refl _
  | y :: ys => by
    unfold insS
    split
    · exact ((insS_perm x ys).cons y).trans (List.Perm.swap x y ys)
    · exact List.Perm.refl _
theorem sortS_perm : ∀ xs, (sortS xs).Perm xs
  | [] => List.Perm.refl _
  | x :: xs => (insS_perm x _).trans ((sortS_perm xs).cons x)
theorem insS_sorted (x : List Nat) : ∀ ys : List (List Nat), ys.Pairwise (fun a b => ltS b a = false) → (insS x ys).Pairwise (fun a b => ltS b a = false)
  | [], _ => by simp [insS]
  | y :: ys, h => by
    obtain ⟨h1, h2⟩ := List.pairwise_cons.mp h
    unfold insS
    split
    · rename_i hx
      refine List.pairwise_cons.mpr ⟨fun z hz => ?_, insS_sorted x ys h2⟩
      rcases List.mem_cons.mp ((insS_perm x ys).mem_iff.mp hz) with rfl | hz
      · exact ltS_asym _ _ hx
      · exact h1 z hz
    · rename_i hx
      have hx : ltS y x = false := by simpa using hx
      refine List.pairwise_cons.mpr ⟨fun z hz => ?_, h⟩
      rcases List.mem_cons.mp hz with rfl | hz
      · exact hx
      · exact ltS_tr x y z hx (h1 z hz)
theorem sortS_sorted : ∀ xs, (sortS xs).Pairwise (fun a b => ltS b a = false)
  | [] => List.Pairwise.nil
  | x :: xs => insS_sorted x _ (sortS_sorted xs)
theorem sortS_uniq : ∀ {xs ys : List (List Nat)}, xs.Perm ys → xs.Pairwise (fun a b => ltS b a = false) → ys.Pairwise (fun a b => ltS b a = false) → xs = ys
  | [], ys, p, _, _ => p.nil_eq
  | x :: xs, ys, p, hx, hy => by
    cases ys with
    | nil => exact absurd p.symm.nil_eq (by simp)
    | cons y ys =>
      obtain ⟨a1, a2⟩ := List.pairwise_cons.mp hx
      obtain ⟨b1, b2⟩ := List.pairwise_cons.mp hy
      have e : x = y := by
        rcases List.mem_cons.mp (p.mem_iff.mp List.mem_cons_self) with e | e
        · exact e
        · rcases List.mem_cons.mp (p.mem_iff.mpr List.mem_cons_self) with e' | e'
          · exact e'.symm
          · exact ltS_tri x y (b1 x e) (a1 y e')
      subst e
      rw [sortS_uniq (List.Perm.cons_inv p) a2 b2]
end Nl

/-! Dicts whose keys are tuples of ints and None. -/
namespace Nl
open PySem PySem.Spec PyProof.Rows L2
/-! ### the keys -/
def noIs : Option Int → Value → Bool
  | none, .none => true
  | none, _ => false
  | some i, v => Value.isInt i v
theorem no_none {v : Value} (h : noIs none v = true) : v = .none := by
  cases v with
  | none => rfl
  | _ => exact nomatch (show false = true from h)
theorem noInt_none (i : Int) : ¬ Value.isInt i .none = true := fun h => by
  obtain ⟨t, e⟩ := Value.isInt_shape h
  exact nomatch e
def noHash : Option Int → Int
  | none => reduceHash 0xFCA86420
  | some i => hashInt i
def noKind (prog : Program) (w : World) : PySem.KeyKind prog w (Option Int) where
  is := noIs
  hash := noHash
  inj := fun v a b ha hb => by
    cases a with
    | none =>
      have e := no_none ha
      subst e
      cases b with
      | none => rfl
      | some k => exact absurd hb (noInt_none k)
    | some k =>
      cases b with
      | none =>
        have e := no_none hb
        subst e
        exact absurd ha (noInt_none k)
      | some j =>
        obtain ⟨t, e⟩ := Value.isInt_shape (show Value.isInt k v = true from ha)
        obtain ⟨u, e2⟩ := Value.isInt_shape (show Value.isInt j v = true from hb)
        rw [e] at e2
        injection e2 with e3
        rw [e3]
  byValue := fun k v h => by
    cases k with
    | none =>
      have e := no_none h
      subst e
      rfl
    | some k =>
      obtain ⟨t, e⟩ := Value.isInt_shape (show Value.isInt k v = true from h)
      subst e
      rfl
  pyHash := @fun A E s k v Q hv h => by
    cases k with
    | none =>
      have e := no_none hv
      subst e
      exact PySem.W.pyHash_slot (T := "NoneType") rfl PySem.F.slot_NoneType_hash PySem.F.entry_NoneType_hash (PySem.F.args_NoneType_hash_1 _) (beq_builtin_none _) (.inl rfl) (wpAny_bind (wpAny_pure (wpAny_bind (wpAny_mkInt (wpAny_pure ⟨_, _, rfl, h⟩)))))
    | some k =>
      obtain ⟨t, e⟩ := Value.isInt_shape (show Value.isInt k v = true from hv)
      subst e
      exact wpAny_pyHash_int h
  eqBool := @fun A E s a b u v Q hu hv h => by
    cases a with
    | none =>
      have e := no_none hu
      subst e
      cases b with
      | none =>
        have e := no_none hv
        subst e
        rw [decide_eq_true rfl] at h
        exact SeqAt.EqAt.same _ _ _ _ _ h
      | some k =>
        rw [decide_eq_false (fun z => nomatch z)] at h
        obtain ⟨t, e⟩ := Value.isInt_shape (show Value.isInt k v = true from hv)
        subst e
        exact SeqAt.EqAt.none_int k t _ _ _ _ h
    | some k =>
      obtain ⟨t, e⟩ := Value.isInt_shape (show Value.isInt k u = true from hu)
      subst e
      cases b with
      | none =>
        have e := no_none hv
        subst e
        rw [decide_eq_false (fun z => nomatch z)] at h
        exact SeqAt.EqAt.int_none k t _ _ _ _ h
      | some j =>
        obtain ⟨t2, e⟩ := Value.isInt_shape (show Value.isInt j v = true from hv)
        subst e
        have e2 : decide ((some k : Option Int) = some j) = (k == j) := by
          by_cases c : k = j
          · subst c
            simp
          · rw [decide_eq_false fun z => c (Option.some.inj z)]
            exact (beq_eq_false_iff_ne.mpr c).symm
        rw [e2] at h
        exact wpAny_eqBool_int h
  «strs» := fun k x t v h => by
    cases k with
    | none => exact nomatch (show false = true from h)
    | some k =>
      obtain ⟨u, e⟩ := Value.isInt_shape (show Value.isInt k (.str x t) = true from h)
      exact nomatch e
def niV : Option Int → V
  | none => .non
  | some i => .int i
theorem niV_is {P : Program} {w : World} {k : Option Int} {u : Value} (r : RelV (niV k) u) : (noKind P w).is k u = true := by
  cases k with
  | none => cases (show u = Value.none from r); rfl
  | some i => obtain ⟨t, e⟩ := (show ∃ t, u = Value.int i t from r); subst e; show Value.isInt i (.int i t) = true; simp [Value.isInt]
theorem items_no {P : Program} {w : World} : ∀ {ks : List (Option Int)} {us : List Value}, Vals (ks.map niV) us → ItemsAre (noKind P w) ks us
  | [], _, r => by rw [List.map_nil] at r; cases r; exact .nil
  | k :: ks, _, r => by
    rw [List.map_cons] at r
    cases r with
    | cons h t => exact .cons (niV_is h) (items_no t)
/-- a tuple of ints and None is a key -/
theorem key_no {P : Program} {w : World} {H : Hp} {h : Heap} {a : Addr} {ks : List (Option Int)} (ok : HOk P w H h) (e : H a = some (.tup (ks.map niV))) : (tupleKind (noKind P w)).is h ks a := by
  obtain ⟨_, its, r, o, h1, h2, n, h3⟩ := (show ObjOk P w H h a (.tup (ks.map niV)) from ok a _ e)
  exact ⟨o, its.toArray, n, h1, h2, h3, by simpa using items_no r⟩
abbrev NX := List (List (Option Int) × Addr × Value)
def nEnt (x : List (Option Int) × Addr × Value) : DictEntry := ⟨reduceHash (Builtin.Tuple.tupleHashOf (x.1.map noHash)), .ref x.2.1, x.2.2⟩
/-- such a dict, by what is true of its object -/
def NdOk (a : Addr) (xs : NX) (h : Heap) : Prop := (a == sysModules) = false ∧ ∃ o es ep, h.get? a = some o ∧ o.ExactDict ∧ o.data = .dict es ep ∧ es.toList = xs.map nEnt ∧ (xs.map (·.1)).Nodup
def ndO (a : Addr) (xs : NX) : HO := .ext (NdOk a xs)
def NKs (H : Hp) (xs : NX) : Prop := ∀ x ∈ xs, H x.2.1 = some (.tup (x.1.map niV))
theorem nd_ok {P : Program} {w : World} {H : Hp} {h : Heap} {a : Addr} {xs : NX} (x : NdOk a xs h) : ObjOk P w H h a (ndO a xs) := by
  refine ⟨x, ?_, fun h1 h2 y k => ?_⟩
  · obtain ⟨_, o, _, _, e, _⟩ := x
    exact ⟨o, e⟩
  · obtain ⟨z, o, es, ep, e1, e2⟩ := y
    exact ⟨z, o, es, ep, k o e1, e2⟩
theorem nd_of {P : Program} {w : World} {H : Hp} {h : Heap} {a : Addr} {xs : NX} (ok : HOk P w H h) (e : H a = some (ndO a xs)) (hk : NKs H xs) : (a == sysModules) = false ∧ h.DictOfH (tupleKind (noKind P w)) a xs := by
  obtain ⟨⟨hd, o, es, ep, e1, e2, e3, e4, e5⟩, _⟩ := (show ObjOk P w H h a (ndO a xs) from ok a _ e)
  exact ⟨hd, o, es, ep, e1, e2, e3, e4, fun x hx => key_no ok (hk x hx), e5⟩
/-- what the dict at a holds at the key y -/
def NGet (H : Hp) (a : Addr) (y : V) (o : Option V) : Prop := ∃ (xs : NX) (k : List (Option Int)) (b : Addr), H a = some (ndO a xs) ∧ NKs H xs ∧ y = .ref b ∧ H b = some (.tup (k.map niV)) ∧ RelO o ((atKey xs k).map (·.2))
def IsN (H : Hp) (a : Addr) : Prop := ∃ xs : NX, H a = some (ndO a xs) ∧ NKs H xs
section
variable {X : Cx} {pins : List (Addr × Obj)} {σ : L2.St} {H : Hp} {s : Shared} {a : Addr} {y v d : V} {u r : Value} {o : Option V} {A : Around} {E : Value → Shared → Prop}
theorem isN_at (I : Inv X pins σ H s) (h : IsN H a) : s.TypeIs (.ref a) "dict" ∧ (∀ b, Value.ref a = .ref b → ∃ ob, s.heap.get? b = some ob ∧ ob.dict = none) := by
  obtain ⟨xs, e, hk⟩ := h
  obtain ⟨hd, dd⟩ := nd_of I.hok e hk
  refine ⟨dd.typeIs, fun b q => ?_⟩
  cases q
  obtain ⟨ob, _, _, h1, h2, _⟩ := dd
  exact ⟨ob, h1, h2.2.1⟩
theorem n_get2 {Q : Value → Shared → Prop} (hu : A.units + 1 < cLine) (I : Inv X pins σ H s) (g : NGet H a y o) (ry : RelV y u) (rd : RelV d r) (h : ∀ w' s', Inv X pins σ H s' → RelV (o.getD d) w' → Q w' s') :
    wpAny (model X.prog X.w) A (PySem.call (.builtin "dict.get") [.ref a, u, r]) Q E s := by
  obtain ⟨xs, k, b, e, hk, ey, eb, l⟩ := g
  subst ey
  cases (show u = Value.ref b from ry)
  obtain ⟨hd, dd⟩ := nd_of I.hok e hk
  exact call_meetsIn PySem.F.slot_dict_get dd.typeIs PySem.F.entry_dict_get (PySem.F.args_dict_get_3 _ _ _) (meetsH_dict_get_default (tupleKind (noKind X.prog X.w)) a b hd r) ⟨tupleKind_room_in1 hu, k, xs, key_no I.hok eb, dd, h _ _ (I.tok _) (l.getD rd)⟩
theorem n_setItem {xs : NX} {k : List (Option Int)} {b : Addr} {Q : Unit → Shared → Prop} (hu : A.units + 1 < cLine) (I : Inv X pins σ H s) (e : H a = some (ndO a xs)) (hk : NKs H xs) (eb : H b = some (.tup (k.map niV))) (hl : xs.length ≤ sizeLine) (h : ∀ s', Inv X pins σ (upd H a (ndO a (storedH xs k b r))) s' → Q () s') :
    wpAny (model X.prog X.w) A (setItem (.ref a) (.ref b) r) Q E s := by
  obtain ⟨hd, dd⟩ := nd_of I.hok e hk
  refine wpAny_setItem_heap (hsz := hl) (tupleKind_room_in1 hu) (key_no I.hok eb) dd fun h' dd' hs => h _ ?_
  obtain ⟨q, es, ep, hq, h2, h3, h4, _, h5⟩ := dd'
  exact d_write I (by rw [e]; exact True.intro) hs ⟨q, hq⟩ (nd_ok ⟨hd, q, es, ep, hq, h2, h3, h4, h5⟩)
end
/-! ### words -/
def tNNew : TE := fun _ H Q => ∀ p, H p = none → Q (.ref p) (upd H p (ndO p []))
def tNGet2 (td ty tx : TE) : TE := fun σ H Q => td σ H fun x H1 => ∃ a, x = .ref a ∧ IsN H1 a ∧ ty σ H1 fun y H2 => tx σ H2 fun z H3 => ∃ o, NGet H3 a y o ∧ Q (o.getD z) H3
def sNPut (td ty tv : TE) : TS := fun D σ H => tv σ H fun v H1 => td σ H1 fun x H2 => ty σ H2 fun y H3 => ∃ (a b : Addr) (xs : NX) (k : List (Option Int)), x = .ref a ∧ y = .ref b ∧ H3 a = some (ndO a xs) ∧ NKs H3 xs ∧ H3 b = some (.tup (k.map niV)) ∧ xs.length ≤ sizeLine ∧ ∀ r, RelV v r → D.nx σ (upd H3 a (ndO a (storedH xs k b r)))
section
variable {X : Cx} {o e f i value : Expr} {apos cpos pos pos' : Pos} {td ty tx tv : TE}
theorem pe_nnew : PE X (.Dict [] [] pos) tNNew := ⟨fun pins s σ H Q I h =>
  wpAny_Dict_empty ⟨.ref s.heap.objs.size, _, I.laid (a := s.heap.objs.size) (o := ndO s.heap.objs.size []) (t' := s.toks) (fun _ _ q => Heap.get?_push_of_some _ q) (Nat.le_refl _) (nd_ok ⟨beq_eq_false_iff_ne.mpr (Ne.symm (Nat.ne_of_lt I.big)), _, #[], 0, Heap.get?_push_size _ rfl, ⟨rfl, rfl, rfl⟩, rfl, rfl, List.nodup_nil⟩), rfl, h _ (I.hok.fresh (Nat.le_refl _))⟩⟩
theorem pe_nget2 (hu : X.A.units + 1 < cLine) (ho : PE X o td) (he : PE X e ty) (hf : PE X f tx) (m : M2 X o "get" apos e f cpos) : PE X (.Call (.Attribute o "get" apos) [e, f] [] cpos) (tNGet2 td ty tx) := by
  refine ⟨fun pins s σ H Q I h => ?_⟩
  refine wpAny_Call_method m.base m.few m.line PySem.F.plainAttrs_dict PySem.F.slot_dict_get PySem.F.type_dict_get (thn (ho.run pins s σ H _ I h) fun u s1 ⟨x, H1, I1, rx, a, ex, d, q1⟩ => ?_)
  subst ex
  obtain rfl : u = Value.ref a := rx
  obtain ⟨t1, t2⟩ := isN_at I1 d
  refine ⟨t1, t2, ?_⟩
  rw [m.trees]
  refine Calls.callWith_builtin rfl (Calls.evalArgs_plain (Calls.spliced_cons (thn (he.run pins s1 σ H1 _ I1 q1) fun iv s2 ⟨y, H2, I2, ry, q2⟩ =>
    Calls.spliced_cons (thn (hf.run pins s2 σ H2 _ I2 q2) fun fv s3 ⟨z, H3, I3, rz, ov, g, q3⟩ => Calls.spliced_nil ?_))))
  exact n_get2 hu I3 g ry rz fun w' s4 I4 rw' => ⟨_, H3, I4, rw', q3⟩
theorem ps_nput (hu : X.A.units + 1 < cLine) (ho : PE X o td) (hi : PE X i ty) (hv : PE X value tv) (hs : swapsWith value (some (.Subscript o i pos')) pos.line X.env = pure false) :
    PS X (.Assign [.Subscript o i pos'] value pos) (sNPut td ty tv) := by
  refine ⟨fun pins s σ H D I h => ?_⟩
  refine wpAny_Assign_Subscript (thn (hv.run pins s σ H _ I h) fun r s1 ⟨v, H1, I1, rv, q1⟩ => thn (ho.run pins s1 σ H1 _ I1 q1) fun u s2 ⟨x, H2, I2, rx, q2⟩ => thn (hi.run pins s2 σ H2 _ I2 q2) fun iv s3 ⟨y, H3, I3, ry, a, b, xs, k, ex, ey, e1, e2, e3, e4, q3⟩ => ?_) hs
  subst ex ey
  obtain rfl : u = Value.ref a := rx
  obtain rfl : iv = Value.ref b := ry
  exact n_setItem hu I3 e1 e2 e3 e4 fun s4 I4 => ⟨σ, _, I4, q3 r rv⟩
end
end Nl

/-! How the small language's data lie in the abstract heap of the hand layer. -/
namespace Nl
open PySem L2

def toS (s : List Nat) : Str := ⟨s.toArray⟩
theorem toS_inj {a b : List Nat} (h : toS a = toS b) : a = b := by
  have := congrArg (fun z : Str => z.cps.toList) h
  simpa [toS] using this
/-- a class of the text, by its name -/
def clsA (K : PySem.W.Frag) (x : String) : Addr := He.ga K (Str.ofString x)
/-- an exception object of the class cls that was caught, at a -/
def EvO (cls : Value) (a : Addr) : HO := .ext fun h => ∃ (oe : Obj) (vs : Array Value), h.get? a = some oe ∧ Zc cls none oe ∧ oe.data = .fields vs
def kyK : Ky → Key
  | .i n => .inl n
  | .s x => .inr (toS x)
theorem kyK_inj {a b : Ky} (h : kyK a = kyK b) : a = b := by
  cases a with
  | i n => cases b with
    | i m => cases h; rfl
    | s y => cases h
  | s x => cases b with
    | i m => cases h
    | s y => rw [toS_inj (Sum.inr.inj h)]
section
variable (K : PySem.W.Frag)
mutual
/-- v stands for d: what is frozen lies in G, the places of the store at ix -/
inductive Rp (G : Hp) (ix : List Addr) : V → D → Prop
  | non : Rp G ix .non .non
  | bl (b : Bool) : Rp G ix (.bl b) (.bl b)
  | int (i : Int) : Rp G ix (.int i) (.int i)
  | str (s : List Nat) : Rp G ix (.str (toS s)) (.str s)
  | tup {a : Addr} {vs : List V} {ds : List D} : G a = some (.tup vs) → Rps G ix vs ds → Rp G ix (.ref a) (.tup ds)
  | lst {a : Addr} {vs : List V} {ds : List D} : G a = some (.lst vs) → Rps G ix vs ds → Rp G ix (.ref a) (.lst ds)
  | scr {a : Addr} {ns : List Int} : SqL K G a (ns.map V.int) → Rp G ix (.ref a) (.scr ns)
  | obj {a : Addr} {n : Nat} : ix[n]? = some a → Rp G ix (.ref a) (.obj n)
  | ex {a : Addr} {k : Nat} : G a = some (EvO (.ref (clsA K (exName k))) a) → Rp G ix (.ref a) (.ex k)
inductive Rps (G : Hp) (ix : List Addr) : List V → List D → Prop
  | nil : Rps G ix [] []
  | cons {v : V} {vs : List V} {d : D} {ds : List D} : Rp G ix v d → Rps G ix vs ds → Rps G ix (v :: vs) (d :: ds)
end
end
def Le (G G' : Hp) : Prop := ∀ a o, G a = some o → G' a = some o
theorem Le.refl (G : Hp) : Le G G := fun _ _ h => h
theorem Le.trans {G G1 G2 : Hp} (a : Le G G1) (b : Le G1 G2) : Le G G2 := fun c o h => b c o (a c o h)
theorem Le.sql {K : PySem.W.Frag} {G G' : Hp} (e : Le G G') {a : Addr} {xs : List V} (h : SqL K G a xs) : SqL K G' a xs := by
  rcases h with (h | ⟨o, h⟩) | h
  · exact .inl (.inl (e _ _ h))
  · exact .inl (.inr ⟨o, e _ _ h⟩)
  · exact .inr h
def Ixs (ix ix' : List Addr) : Prop := ∀ (n : Nat) (a : Addr), ix[n]? = some a → ix'[n]? = some a
theorem Ixs.refl (ix : List Addr) : Ixs ix ix := fun _ _ h => h
theorem Ixs.trans {a b c : List Addr} (h : Ixs a b) (k : Ixs b c) : Ixs a c := fun n x e => k n x (h n x e)
theorem Ixs.app (ix : List Addr) (p : Addr) : Ixs ix (ix ++ [p]) := fun n a h => by
  have hn := (List.getElem?_eq_some_iff.mp h).1
  rw [List.getElem?_append_left hn]
  exact h
section
variable {K : PySem.W.Frag} {G G' : Hp} {ix ix' : List Addr}
mutual
theorem Rp.mono (g : Le G G') (x : Ixs ix ix') : ∀ (d : D) (v : V), Rp K G ix v d → Rp K G' ix' v d
  | .non, _, h => by cases h; exact .non
  | .bl _, _, h => by cases h; exact .bl _
  | .int _, _, h => by cases h; exact .int _
  | .str _, _, h => by cases h; exact .str _
  | .tup ds, _, h => by
    cases h with
    | tup a r => exact .tup (g _ _ a) (Rps.mono g x ds _ r)
  | .lst ds, _, h => by
    cases h with
    | lst a r => exact .lst (g _ _ a) (Rps.mono g x ds _ r)
  | .scr _, _, h => by
    cases h with
    | scr a => exact .scr (g.sql a)
  | .obj _, _, h => by
    cases h with
    | obj a => exact .obj (x _ _ a)
  | .ex _, _, h => by
    cases h with
    | ex a => exact .ex (g _ _ a)
theorem Rps.mono (g : Le G G') (x : Ixs ix ix') : ∀ (ds : List D) (vs : List V), Rps K G ix vs ds → Rps K G' ix' vs ds
  | [], _, h => by cases h; exact .nil
  | d :: ds, _, h => by
    cases h with
    | cons a r => exact .cons (Rp.mono g x d _ a) (Rps.mono g x ds _ r)
end
mutual
theorem Rp.closed : ∀ (d : D) (v : V), D.closed d = true → Rp K G ix v d → Rp K G ix' v d
  | .non, _, _, h => by cases h; exact .non
  | .bl _, _, _, h => by cases h; exact .bl _
  | .int _, _, _, h => by cases h; exact .int _
  | .str _, _, _, h => by cases h; exact .str _
  | .tup ds, _, c, h => by
    cases h with
    | tup a r => exact .tup a (Rps.closed ds _ (by simpa [D.closed] using c) r)
  | .lst ds, _, c, h => by
    cases h with
    | lst a r => exact .lst a (Rps.closed ds _ (by simpa [D.closed] using c) r)
  | .scr _, _, _, h => by
    cases h with
    | scr a => exact .scr a
  | .obj _, _, c, _ => by simp [D.closed] at c
  | .ex _, _, _, h => by
    cases h with
    | ex a => exact .ex a
theorem Rps.closed : ∀ (ds : List D) (vs : List V), D.closeds ds = true → Rps K G ix vs ds → Rps K G ix' vs ds
  | [], _, _, h => by cases h; exact .nil
  | d :: ds, _, c, h => by
    simp only [D.closeds, Bool.and_eq_true] at c
    cases h with
    | cons a r => exact .cons (Rp.closed d _ c.1 a) (Rps.closed ds _ c.2 r)
end
theorem Rps.length : ∀ {vs : List V} {ds : List D}, Rps K G ix vs ds → vs.length = ds.length
  | _, _, .nil => rfl
  | _, _, .cons _ r => by rw [List.length_cons, List.length_cons, Rps.length r]
theorem Rps.get : ∀ {vs : List V} {ds : List D} {i : Nat} {d : D}, Rps K G ix vs ds → ds[i]? = some d → ∃ v, vs[i]? = some v ∧ Rp K G ix v d
  | _, _, _, _, .nil, e => by simp at e
  | _, _, 0, _, .cons a _, e => by simp at e; subst e; exact ⟨_, rfl, a⟩
  | _, _, i + 1, d, .cons _ r, e => by
    obtain ⟨v, h1, h2⟩ := Rps.get (i := i) (d := d) r (by simpa using e)
    exact ⟨v, by simpa using h1, h2⟩
theorem Rps.get' : ∀ {vs : List V} {ds : List D} {i : Nat} {v : V}, Rps K G ix vs ds → vs[i]? = some v → ∃ d, ds[i]? = some d ∧ Rp K G ix v d
  | _, _, _, _, .nil, e => by simp at e
  | _, _, 0, _, .cons a _, e => by simp at e; subst e; exact ⟨_, rfl, a⟩
  | _, _, i + 1, v, .cons _ r, e => by
    obtain ⟨d, h1, h2⟩ := Rps.get' (i := i) (v := v) r (by simpa using e)
    exact ⟨d, by simpa using h1, h2⟩
theorem Rps.append : ∀ {vs us : List V} {ds es : List D}, Rps K G ix vs ds → Rps K G ix us es → Rps K G ix (vs ++ us) (ds ++ es)
  | _, _, _, _, .nil, s => s
  | _, _, _, _, .cons a r, s => .cons a (Rps.append r s)
theorem Rps.set {v : V} {d : D} (a : Rp K G ix v d) : ∀ {vs : List V} {ds : List D} (i : Nat), Rps K G ix vs ds → Rps K G ix (vs.set i v) (ds.set i d)
  | _, _, _, .nil => .nil
  | _, _, 0, .cons _ r => .cons a r
  | _, _, i + 1, .cons b r => .cons b (Rps.set a i r)
theorem Rps.drop : ∀ {vs : List V} {ds : List D} (n : Nat), Rps K G ix vs ds → Rps K G ix (vs.drop n) (ds.drop n)
  | _, _, 0, r => r
  | _, _, _ + 1, .nil => .nil
  | _, _, n + 1, .cons _ r => Rps.drop n r
theorem Rps.take : ∀ {vs : List V} {ds : List D} (n : Nat), Rps K G ix vs ds → Rps K G ix (vs.take n) (ds.take n)
  | _, _, 0, _ => .nil
  | _, _, _ + 1, .nil => .nil
  | _, _, n + 1, .cons a r => .cons a (Rps.take n r)
theorem Rps.dropLast : ∀ {vs : List V} {ds : List D}, Rps K G ix vs ds → Rps K G ix vs.dropLast ds.dropLast
  | _, _, .nil => .nil
  | _, _, .cons _ .nil => .nil
  | _, _, .cons a (.cons b r) => .cons a (Rps.dropLast (.cons b r))
theorem Rps.reverse : ∀ {vs : List V} {ds : List D}, Rps K G ix vs ds → Rps K G ix vs.reverse ds.reverse
  | _, _, .nil => .nil
  | _, _, .cons a r => by
    rw [List.reverse_cons, List.reverse_cons]
    exact (Rps.reverse r).append (.cons a .nil)
theorem Rps.rep {vs : List V} {ds : List D} (r : Rps K G ix vs ds) : ∀ n : Nat, Rps K G ix (rep n vs) (rep n ds)
  | 0 => .nil
  | n + 1 => r.append (Rps.rep r n)
theorem Rps.ints : ∀ {vs : List V} {ds : List D} {ns : List Int}, Rps K G ix vs ds → intsOf ds = some ns → vs = ns.map V.int
  | _, _, _, .nil, e => by simp [intsOf] at e; subst e; rfl
  | _, _, ns, .cons (d := d) (ds := ds) a r, e => by
    cases d with
    | int i =>
      simp only [intsOf, Option.map_eq_some_iff] at e
      obtain ⟨ms, h1, h2⟩ := e
      subst h2
      cases a
      rw [Rps.ints r h1]
      rfl
    | _ => simp [intsOf] at e
theorem Rps.bls : ∀ {vs : List V} {ds : List D} {bs : List Bool}, Rps K G ix vs ds → blsOf ds = some bs → vs = bs.map V.bl
  | _, _, _, .nil, e => by simp [blsOf] at e; subst e; rfl
  | _, _, bs, .cons (d := d) (ds := ds) a r, e => by
    cases d with
    | bl i =>
      simp only [blsOf, Option.map_eq_some_iff] at e
      obtain ⟨ms, h1, h2⟩ := e
      subst h2
      cases a
      rw [Rps.bls r h1]
      rfl
    | _ => simp [blsOf] at e
theorem Rps.ofInts : ∀ (ns : List Int), Rps K G ix (ns.map V.int) (ns.map D.int)
  | [] => .nil
  | n :: ns => .cons (.int n) (Rps.ofInts ns)
end

/-- pairs, by their first parts and what their second parts stand for -/
def PRs {α β : Type} (R : α → β → Prop) (K : PySem.W.Frag) (G : Hp) (ix : List Addr) (us : List (α × V)) (kvs : List (β × D)) : Prop := Paired (fun (p : α × V) (q : β × D) => R p.1 q.1 ∧ Rp K G ix p.2 q.2) us kvs
theorem PRs.mono {α β : Type} {R : α → β → Prop} {K : PySem.W.Frag} {G G' : Hp} {ix ix' : List Addr} {us : List (α × V)} {kvs : List (β × D)} (h : PRs R K G ix us kvs) (g : Le G G') (x : Ixs ix ix') : PRs R K G' ix' us kvs :=
  L2.Paired.mapP h fun _ _ z => ⟨z.1, z.2.mono g x _ _⟩
def rK (a : Key) (b : Ky) : Prop := a = kyK b
def rT (a : List Key) (b : List Ky) : Prop := a = b.map kyK
def rF (a : Str) (b : Nat) : Prop := a = Str.ofString (fdName b) ∧ b < fdNames.length
/-- the dict at a by tuples of ints and None -/
def NRs (K : PySem.W.Frag) (G : Hp) (ix : List Addr) (xs : NX) (kvs : List (List (Option Int) × D)) : Prop := Paired (fun (x : List (Option Int) × Addr × Value) (q : List (Option Int) × D) => x.1 = q.1 ∧ G x.2.1 = some (.tup (x.1.map niV)) ∧ ∃ v, RelV v x.2.2 ∧ Rp K G ix v q.2) xs kvs
theorem NRs.mono {K : PySem.W.Frag} {G G' : Hp} {ix ix' : List Addr} {xs : NX} {kvs : List (List (Option Int) × D)} (h : NRs K G ix xs kvs) (g : Le G G') (x : Ixs ix ix') : NRs K G' ix' xs kvs :=
  L2.Paired.mapP h fun _ _ z => ⟨z.1, g _ _ z.2.1, z.2.2.elim fun v q => ⟨v, q.1, q.2.mono g x _ _⟩⟩
/-- what stands at an address for a cell of the store -/
def CellR (K : PySem.W.Frag) (G : Hp) (ix : List Addr) (a : Addr) (o : Option HO) : Cell → Prop
  | .lst xs => ∃ vs, o = some (.lst vs) ∧ Rps K G ix vs xs
  | .dK kvs => ∃ us, o = some (.dK us) ∧ PRs rK K G ix us kvs
  | .dT kvs => ∃ us, o = some (.dT us) ∧ PRs rT K G ix us kvs
  | .dN kvs => ∃ xs, o = some (ndO a xs) ∧ NRs K G ix xs kvs
  | .ins c fs => ∃ dx us, o = some (.ins (clsA K (clName c)) dx us) ∧ PRs rF K G ix us fs
  | .dead => True
theorem CellR.mono {K : PySem.W.Frag} {G G' : Hp} {ix ix' : List Addr} {a : Addr} {o : Option HO} (g : Le G G') (x : Ixs ix ix') : ∀ {c : Cell}, CellR K G ix a o c → CellR K G' ix' a o c
  | .lst _, ⟨vs, h1, h2⟩ => ⟨vs, h1, h2.mono g x⟩
  | .dK _, ⟨us, h1, h2⟩ => ⟨us, h1, h2.mono g x⟩
  | .dT _, ⟨us, h1, h2⟩ => ⟨us, h1, h2.mono g x⟩
  | .dN _, ⟨us, h1, h2⟩ => ⟨us, h1, h2.mono g x⟩
  | .ins _ _, ⟨dx, us, h1, h2⟩ => ⟨dx, us, h1, h2.mono g x⟩
  | .dead, _ => trivial
theorem CellR.some_ {K : PySem.W.Frag} {G : Hp} {ix : List Addr} {a : Addr} {o : Option HO} : ∀ {c : Cell}, c ≠ .dead → CellR K G ix a o c → ∃ u, o = some u
  | .lst _, _, ⟨vs, h1, _⟩ => ⟨_, h1⟩
  | .dK _, _, ⟨us, h1, _⟩ => ⟨_, h1⟩
  | .dT _, _, ⟨us, h1, _⟩ => ⟨_, h1⟩
  | .dN _, _, ⟨us, h1, _⟩ => ⟨_, h1⟩
  | .ins _ _, _, ⟨dx, us, h1, _⟩ => ⟨_, h1⟩
  | .dead, h, _ => absurd rfl h
/-- no live place of the store is p -/
def Free (ix : List Addr) (S : Store) (p : Addr) : Prop := ∀ (n : Nat) (c : Cell), ix[n]? = some p → S[n]? = some c → c = .dead
/-- the abstract heap bears the store and what is frozen -/
structure Good (K : PySem.W.Frag) (G : Hp) (ix : List Addr) (S : Store) (H : Hp) : Prop where
  le : Le G H
  len : ix.length = S.length
  there : ∀ a ∈ ix, ∃ o, H a = some o
  cel : ∀ (n : Nat) (c : Cell), S[n]? = some c → c ≠ .dead → ∃ a, ix[n]? = some a ∧ G a = none ∧ CellR K G ix a (H a) c
  inj : ∀ (n m : Nat) (a : Addr) (c d : Cell), ix[n]? = some a → ix[m]? = some a → S[n]? = some c → S[m]? = some d → c ≠ .dead → d ≠ .dead → n = m
theorem Good.cell {K : PySem.W.Frag} {G : Hp} {ix : List Addr} {S : Store} {H : Hp} (g : Good K G ix S H) (n : Nat) (xs : List D) (h : S[n]? = some (.lst xs)) : ∃ a vs, ix[n]? = some a ∧ H a = some (.lst vs) ∧ G a = none ∧ Rps K G ix vs xs := by
  obtain ⟨a, h1, h2, vs, h3, h4⟩ := g.cel n _ h (by intro z; cases z)
  exact ⟨a, vs, h1, h3, h2, h4⟩
/-- from one moment to a later one -/
structure Stp (G : Hp) (ix : List Addr) (H : Hp) (G' : Hp) (ix' : List Addr) (H' : Hp) : Prop where
  g : Le G G'
  i : Ixs ix ix'
  keep : ∀ a o, H a = some o → a ∉ ix → H' a = some o
  there : ∀ a, H' a = none → H a = none
  new : ∀ a o, G' a = some o → G a = some o ∨ H a = none ∨ a ∈ ix ∨ ∃ vs, H a = some (.tup vs)
  fresh : ∀ a, a ∈ ix' → a ∈ ix ∨ H a = none
section
variable {G G1 G2 : Hp} {ix ix1 ix2 : List Addr} {H H1 H2 : Hp}
theorem Stp.refl : Stp G ix H G ix H := ⟨Le.refl _, Ixs.refl _, fun _ _ h _ => h, fun _ h => h, fun _ _ h => .inl h, fun _ h => .inl h⟩
theorem Stp.trans (a : Stp G ix H G1 ix1 H1) (b : Stp G1 ix1 H1 G2 ix2 H2) : Stp G ix H G2 ix2 H2 where
  g := a.g.trans b.g
  i := a.i.trans b.i
  keep := fun c o h hn => b.keep c o (a.keep c o h hn) fun z => (a.fresh c z).elim hn fun e => by rw [h] at e; cases e
  there := fun c h => a.there c (b.there c h)
  new := fun c o h => by
    rcases b.new c o h with h | h | h | ⟨vs, h⟩
    · exact a.new c o h
    · exact .inr (.inl (a.there c h))
    · rcases a.fresh c h with h | h
      · exact .inr (.inr (.inl h))
      · exact .inr (.inl h)
    · cases e : H c with
      | none => exact .inr (.inl rfl)
      | some u =>
        by_cases hc : c ∈ ix
        · exact .inr (.inr (.inl hc))
        · have := a.keep c u e hc
          rw [h] at this
          cases this
          exact .inr (.inr (.inr ⟨vs, rfl⟩))
  fresh := fun c h => by
    rcases b.fresh c h with h | h
    · exact a.fresh c h
    · exact .inr (a.there c h)
/-- a new object is laid that nobody tracks further -/
theorem Stp.lay {p : Addr} {o : HO} (hp : H p = none) : Stp G ix H G ix (upd H p o) := ⟨Le.refl _, Ixs.refl _, fun a u h _ => by rw [upd_ne (ne_of_none h hp)]; exact h,
  fun a h => by
    by_cases e : a = p
    · rw [e]; exact hp
    · rw [upd_ne e] at h; exact h, fun _ _ h => .inl h, fun _ h => .inl h⟩
end
section
variable {K : PySem.W.Frag} {G G1 : Hp} {ix ix1 : List Addr} {H H1 : Hp} {S : Store}
theorem Good.lay (g : Good K G ix S H) {p : Addr} {o : HO} (hp : H p = none) : Good K G ix S (upd H p o) where
  le := fun a u h => by rw [upd_ne (ne_of_none (g.le _ _ h) hp)]; exact g.le _ _ h
  len := g.len
  there := fun a h => by
    obtain ⟨u, e⟩ := g.there a h
    exact ⟨u, by rw [upd_ne (ne_of_none e hp)]; exact e⟩
  cel := fun n c h hc => by
    obtain ⟨a, h1, h2, h3⟩ := g.cel n c h hc
    obtain ⟨u, e⟩ := h3.some_ hc
    exact ⟨a, h1, h2, by rw [upd_ne (ne_of_none e hp)]; exact h3⟩
  inj := g.inj
/-- an object that no place of the store has is frozen -/
theorem Good.freeze (g : Good K G ix S H) {p : Addr} {o : HO} (hp : H p = some o) (hn : G p = none) (free : Free ix S p) : Good K (upd G p o) ix S H where
  le := fun a u h => by
    by_cases e : a = p
    · subst e; rw [upd_same] at h; cases h; exact hp
    · rw [upd_ne e] at h; exact g.le _ _ h
  len := g.len
  there := g.there
  cel := fun n c h hc => by
    obtain ⟨a, h1, h2, h3⟩ := g.cel n c h hc
    have ne : a ≠ p := fun e => hc (free n c (e ▸ h1) h)
    exact ⟨a, h1, by rw [upd_ne ne]; exact h2, h3.mono (fun b u q => by rw [upd_ne (ne_of_none q hn)]; exact q) (Ixs.refl _)⟩
  inj := g.inj
theorem Le.upd {p : Addr} {o : HO} (hn : G p = none) : Le G (upd G p o) := fun b u q => by rw [upd_ne (ne_of_none q hn)]; exact q
theorem Stp.freeze {p : Addr} {o : HO} {G0 : Hp} {ix0 : List Addr} {H0 : Hp} (s : Stp G0 ix0 H0 G ix H) (hn : G p = none) (h : H0 p = none ∨ p ∈ ix0 ∨ ∃ vs, H0 p = some (.tup vs)) : Stp G0 ix0 H0 (upd G p o) ix H where
  g := s.g.trans (Le.upd hn)
  i := s.i
  keep := s.keep
  there := s.there
  new := fun a u q => by
    by_cases e : a = p
    · subst e; exact .inr h
    · rw [upd_ne e] at q; exact s.new a u q
  fresh := s.fresh
theorem Good.notG (g : Good K G ix S H) {p : Addr} (h : H p = none) : G p = none := by
  cases q : G p with
  | none => rfl
  | some o => rw [g.le _ _ q] at h; cases h
theorem Good.notIx (g : Good K G ix S H) {p : Addr} (h : H p = none) : p ∉ ix := fun z => by
  obtain ⟨o, e⟩ := g.there p z
  rw [h] at e; cases e
theorem Good.free (g : Good K G ix S H) {p : Addr} (h : H p = none) : Free ix S p := fun n _ e _ => absurd (List.mem_of_getElem? e) (g.notIx h)
/-- a new frozen object -/
theorem Good.newG (g : Good K G ix S H) {p : Addr} {o : HO} (hp : H p = none) : Good K (upd G p o) ix S (upd H p o) :=
  (g.lay hp).freeze upd_same (g.notG hp) (g.free hp)
theorem Stp.newG (g : Good K G ix S H) {p : Addr} {o : HO} (hp : H p = none) : Stp G ix H (upd G p o) ix (upd H p o) := (Stp.lay hp).freeze (g.notG hp) (.inl hp)
end

/-- the value of W -/
def RpW (K : PySem.W.Frag) (ix0 : List Addr) (H0 : Hp) (G : Hp) (ix : List Addr) (S : Store) (H : Hp) (v : V) : W → Prop
  | .d x => Rp K G ix v x
  | .fl xs => ∃ p vs, v = .ref p ∧ H p = some (.lst vs) ∧ G p = none ∧ Free ix S p ∧ (H0 p = none ∨ p ∈ ix0) ∧ Rps K G ix vs xs
/-- what is wanted behind an expression that comes to w and S', begun at G, ix, H -/
def PostE (K : PySem.W.Frag) (G : Hp) (ix : List Addr) (H : Hp) (w : W) (S' : Store) (Q : VK) : Prop :=
  ∀ v G' ix' H', Stp G ix H G' ix' H' → Good K G' ix' S' H' → RpW K ix H G' ix' S' H' v w → Q v H'
section
variable {K : PySem.W.Frag} {G G1 : Hp} {ix ix1 : List Addr} {H H1 : Hp} {S S' : Store} {w : W} {Q : VK}
theorem RpW.back {ix0 : List Addr} {H0 : Hp} {G' : Hp} {ix' : List Addr} {H' : Hp} {v : V} (s : Stp G ix0 H0 G1 ix1 H1) (r : RpW K ix1 H1 G' ix' S' H' v w) : RpW K ix0 H0 G' ix' S' H' v w := by
  cases w with
  | d x => exact r
  | fl xs =>
    obtain ⟨p, vs, h1, h2, h3, h4, h5, h6⟩ := r
    refine ⟨p, vs, h1, h2, h3, h4, ?_, h6⟩
    rcases h5 with h5 | h5
    · exact .inl (s.there p h5)
    · exact (s.fresh p h5).symm
theorem PostE.from (q : PostE K G ix H w S' Q) (s : Stp G ix H G1 ix1 H1) : PostE K G1 ix1 H1 w S' Q := fun v G' ix' H' s' g r => q v G' ix' H' (s.trans s') g (r.back s)
/-- as data: what was just made is frozen -/
theorem RpW.data {ix0 : List Addr} {H0 : Hp} {G0 : Hp} {v : V} (s : Stp G0 ix0 H0 G ix H) (g : Good K G ix S H) (r : RpW K ix0 H0 G ix S H v w) : ∃ G', Stp G0 ix0 H0 G' ix H ∧ Good K G' ix S H ∧ Rp K G' ix v w.toD := by
  cases w with
  | d x => exact ⟨G, s, g, r⟩
  | fl xs =>
    obtain ⟨p, vs, h1, h2, h3, h4, h5, h6⟩ := r
    subst h1
    exact ⟨_, s.freeze h3 (h5.imp id .inl), g.freeze h2 h3 h4, .lst upd_same (h6.mono (Le.upd h3) (Ixs.refl _))⟩
/-- data out, nothing else changed -/
theorem PostE.same (q : PostE K G ix H w S Q) (g : Good K G ix S H) {v : V} (r : RpW K ix H G ix S H v w) : Q v H := q v G ix H Stp.refl g r
/-- a new list -/
theorem PostE.newL (q : PostE K G ix H w S Q) (g : Good K G ix S H) {p : Addr} {vs : List V} {xs : List D} (hp : H p = none) (hw : w = .fl xs) (r : Rps K G ix vs xs) : Q (.ref p) (upd H p (.lst vs)) := by
  subst hw
  exact q _ G ix _ (Stp.lay hp) (g.lay hp) ⟨p, vs, rfl, upd_same, g.notG hp, g.free hp, .inl hp, r⟩
/-- a new tuple -/
theorem PostE.newT (q : PostE K G ix H w S Q) (g : Good K G ix S H) {p : Addr} {vs : List V} {xs : List D} (hp : H p = none) (hw : w = .d (.tup xs)) (r : Rps K G ix vs xs) : Q (.ref p) (upd H p (.tup vs)) := by
  subst hw
  exact q _ _ ix _ (Stp.newG g hp) (g.newG hp) (.tup upd_same (r.mono (Le.upd (g.notG hp)) (Ixs.refl _)))
end
/-- the names' values -/
structure EnvR (K : PySem.W.Frag) (G : Hp) (ix : List Addr) (σ : L2.St) (env : Env) : Prop where
  len : env.length = σ.length
  get : ∀ (i : Nat) (d : D), env[i]? = some (some d) → ∃ v, σ[i]? = some (some v) ∧ Rp K G ix v d
section
variable {K : PySem.W.Frag} {G G' : Hp} {ix ix' : List Addr} {σ : L2.St} {env : Env}
theorem EnvR.mono (r : EnvR K G ix σ env) (g : Le G G') (x : Ixs ix ix') : EnvR K G' ix' σ env := ⟨r.len, fun i d h => by
  obtain ⟨v, h1, h2⟩ := r.get i d h
  exact ⟨v, h1, h2.mono g x _ _⟩⟩
theorem EnvR.stp {H H' : Hp} (r : EnvR K G ix σ env) (s : Stp G ix H G' ix' H') : EnvR K G' ix' σ env := r.mono s.g s.i
theorem EnvR.set (r : EnvR K G ix σ env) {v : V} {d : D} (h : Rp K G ix v d) (i : Nat) : EnvR K G ix (σ.set i (some v)) (env.set i (some d)) := ⟨by rw [List.length_set, List.length_set]; exact r.len, fun j x e => by
  by_cases hj : i = j
  · subst hj
    have hl : i < env.length := by
      have := (List.getElem?_eq_some_iff.mp e).1
      rwa [List.length_set] at this
    rw [List.getElem?_set_self hl] at e
    cases e
    exact ⟨v, by rw [List.getElem?_set_self (by rw [← r.len]; exact hl)], h⟩
  · rw [List.getElem?_set_ne hj] at e ⊢
    exact r.get j x e⟩
theorem EnvR.none (r : EnvR K G ix σ env) (i : Nat) : EnvR K G ix (σ.set i none) (env.set i none) := ⟨by rw [List.length_set, List.length_set]; exact r.len, fun j x e => by
  by_cases hj : i = j
  · subst hj
    have hl : i < env.length := by
      have := (List.getElem?_eq_some_iff.mp e).1
      rwa [List.length_set] at this
    rw [List.getElem?_set_self hl] at e
    cases e
  · rw [List.getElem?_set_ne hj] at e ⊢
    exact r.get j x e⟩
theorem EnvR.wipe (r : EnvR K G ix σ env) : ∀ vs : List Nat, EnvR K G ix (L2.wipe σ vs) (Nl.wipe env vs)
  | [] => r
  | v :: vs => (EnvR.wipe r vs).none v
end
end Nl

/-! The operations on values: what the small language has is what the model does. -/
namespace Nl
open PySem L2
theorem guard_ok {α : Type} {c : Bool} {r : Res α} {a : α} (h : guard' c r = .ok a) : c = true ∧ r = .ok a := by
  unfold guard' at h
  split at h
  · exact ⟨by assumption, h⟩
  · cases h
theorem dec_of {p : Prop} [Decidable p] (h : decide p = true) : p := of_decide_eq_true h
section
variable {K : PySem.W.Frag} {G : Hp} {ix : List Addr} {S : Store} {H : Hp} {v : V} {d : D}
/-! ### what a thing is -/
theorem pk_lst (g : Good K G ix S H) (r : Rp K G ix v d) {xs : List D} (h : pk S d = .lst xs) : ∃ a vs, v = .ref a ∧ H a = some (.lst vs) ∧ Rps K G ix vs xs := by
  cases r with
  | lst a q => cases h; exact ⟨_, _, rfl, g.le _ _ a, q⟩
  | @obj a n e =>
    simp only [pk] at h
    split at h
    · rename_i ys q
      cases h
      obtain ⟨a', vs, h1, h2, h3, h4⟩ := g.cell n _ q
      rw [e] at h1; cases h1
      exact ⟨_, vs, rfl, h2, h4⟩
    · cases h
  | _ => cases h
theorem pk_tup (g : Good K G ix S H) (r : Rp K G ix v d) {xs : List D} (h : pk S d = .tup xs) : ∃ a vs, v = .ref a ∧ H a = some (.tup vs) ∧ G a = some (.tup vs) ∧ Rps K G ix vs xs ∧ d = .tup xs := by
  cases r with
  | tup a q => cases h; exact ⟨_, _, rfl, g.le _ _ a, a, q, rfl⟩
  | obj e =>
    simp only [pk] at h
    split at h <;> cases h
  | _ => cases h
theorem pk_int (r : Rp K G ix v d) {i : Int} (h : pk S d = .int i) : v = .int i := by
  cases r with
  | int j => cases h; rfl
  | obj e =>
    simp only [pk] at h
    split at h <;> cases h
  | _ => cases h
theorem pk_bl (r : Rp K G ix v d) {i : Bool} (h : pk S d = .bl i) : v = .bl i := by
  cases r with
  | bl j => cases h; rfl
  | obj e =>
    simp only [pk] at h
    split at h <;> cases h
  | _ => cases h
theorem pk_non (r : Rp K G ix v d) (h : pk S d = .non) : v = .non := by
  cases r with
  | non => rfl
  | obj e =>
    simp only [pk] at h
    split at h <;> cases h
  | _ => cases h
theorem pk_str (r : Rp K G ix v d) {s : List Nat} (h : pk S d = .str s) : v = .str (toS s) := by
  cases r with
  | str j => cases h; rfl
  | obj e =>
    simp only [pk] at h
    split at h <;> cases h
  | _ => cases h
theorem pk_scr (g : Good K G ix S H) (r : Rp K G ix v d) {ns : List Int} (h : pk S d = .scr ns) : ∃ a, v = .ref a ∧ SqL K H a (ns.map V.int) := by
  cases r with
  | scr a => cases h; exact ⟨_, rfl, g.le.sql a⟩
  | obj e =>
    simp only [pk] at h
    split at h <;> cases h
  | _ => cases h
end
theorem toS_len (s : List Nat) : (toS s).length = s.length := by simp [toS, Str.length]
theorem toS_app (a b : List Nat) : toS a ++ toS b = toS (a ++ b) := by
  show Str.append _ _ = _
  simp [toS, Str.append]

/-! ### two ints, and other pairs -/
def pyB : Bop → Operator
  | .add => .Add
  | .sub => .Sub
  | .mul => .Mult
  | .fdiv => .FloorDiv
  | .mod => .Mod
  | .pow => .Pow
  | .shl => .LShift
  | .shr => .RShift
  | .band => .BitAnd
  | .bor => .BitOr
  | .bxor => .BitXor
open PyProof.Rows in
theorem tuple_mul1 (l : Addr) (items : Array Value) (n : Nat) (dd : Option Addr) (sl : Array (Option Value)) (u : Tok) :
    Meets (Builtin.«tuple.__mul__» ⟨[.ref l, .int 1 u], []⟩) (fun _ R s => s.heap.get? l = some { cls := .type "tuple", dict := dd, data := .seq items n, slots := sl } ∧ R (.ok (.ret (.ref l))) s) :=
  .of_wp fun prog w A R s h => by
    obtain ⟨hp, g, d, tk, os⟩ := s
    obtain ⟨hl, h⟩ := h
    have f1 := AutoSeq1.idx_int
    wp_walk using wpAny_loadPart' hl
    have c1 : (items.isEmpty || (1 : Int) == 1) = true := by simp
    repeat (first
      | (refine wpAny_ite_true (decide_eq_true c1) ?_; wp_walk using wpAny_loadPart' hl)
      | (refine wpAny_ite_false (decide_eq_false (by decide)) ?_; wp_walk using wpAny_loadPart' hl))
    exact ⟨_, rfl, h⟩
open PyProof.Rows in
theorem op_repT1 {X : Cx} : OpR X (binaryOp .Mult) (fun x y H Q => ∃ l xs, x = .ref l ∧ y = .int 1 ∧ SqT X.K H l xs ∧ Q (.ref l) H) := by
  intro pins s σ H x y v u Q I rx ry h
  obtain ⟨l, xs, rfl, rfl, hT, q⟩ := h
  cases rx
  obtain ⟨t, rfl⟩ := ry
  obtain ⟨its, r, ⟨⟨cls, dd, data, sl⟩, ho, hc, n, hd⟩, hs⟩ := I.tuple hT
  simp only at hc hd
  subst hc hd
  exact wpAny_binaryOp_repeat_ref (T := "tuple") (U := "int") (by decide) ⟨_, ho, rfl⟩ (fun s' => typeIs_int s' 1 t) noFill_tuple_mul F.fills_int_mul F.slot_int_rmul repeat_tuple F.slot_int_index.lookup
    (call_meets F.slot_int_rmul (typeIs_int s 1 t) F.entry_int_rmul (F.args_int_rmul_2 _ _) (int_rmul_tuple 1 t l its.toArray n dd sl)
      ⟨ho, rfl, ⟨_, ho, rfl⟩, call_meets F.slot_tuple_mul ⟨_, ho, rfl⟩ F.entry_tuple_mul (F.args_tuple_mul_2 _ _) (tuple_mul1 l its.toArray n dd sl t) ⟨ho, .ref l, _, I, rfl, q⟩⟩)
theorem foldA (x : Array Nat) : ∀ (n : Nat) (a : Array Nat), ((List.replicate n x).foldl (fun x1 x2 => x1 ++ x2) a).toList = a.toList ++ rep n x.toList
  | 0, a => by simp [rep]
  | n + 1, a => by rw [List.replicate_succ, List.foldl_cons, foldA x n]; simp [rep, List.append_assoc]
theorem rep_nil {α : Type} : ∀ n : Nat, rep n ([] : List α) = []
  | 0 => rfl
  | n + 1 => by rw [rep, rep_nil n]; rfl
open PyProof.Rows in
theorem op_repS {X : Cx} : OpR X (binaryOp .Mult) (fun x y H Q => ∃ (z : List Nat) (k : Int), x = .str (toS z) ∧ y = .int k ∧ 0 ≤ k ∧ k ≤ 1000 ∧ z.length ≤ 1000 ∧ Q (.str (toS (rep k.toNat z))) H) := by
  intro pins s σ H x y v u Q I rx ry h
  obtain ⟨z, k, rfl, rfl, h0, h1, h2, q⟩ := h
  obtain ⟨t, rfl⟩ := rx
  obtain ⟨t', rfl⟩ := ry
  have hl : (toS z).length = z.length := by simp [toS, Str.length]
  have e1 : (decide (k < -2 ^ 63) || decide (k ≥ 2 ^ 63)) = false := by
    rw [Bool.or_eq_false_iff]
    exact ⟨decide_eq_false (by omega), decide_eq_false (by omega)⟩
  have e2 : (toS z).length * k.toNat ≤ 1000000 := by
    rw [hl]
    calc z.length * k.toNat ≤ 1000 * 1000 := Nat.mul_le_mul h2 (by omega)
      _ = 1000000 := rfl
  refine wpAny_binaryOp_repeat (T := "str") (U := "int") (by decide) (fun s' => typeIs_str s' _ t) (fun s' => typeIs_int s' k t') noFill_str_mul F.fills_int_mul F.slot_int_rmul repeat_str F.slot_int_index.lookup
    (call_gives F.slot_int_rmul (typeIs_int s k t') F.entry_int_rmul (F.args_int_rmul_2 _ _) (AutoIntG1.int___rmul___int_str_0 k t' _ t) ⟨rfl, ?_⟩)
  refine call_gives F.slot_str_mul (typeIs_str s _ t) F.entry_str_mul (F.args_str_mul_2 _ _) (gives_str_mul (toS z) k t t' e1 (fun a b => ?_) (fun a b => ?_)) ?_
  · intro hz
    have : (1000 : Int) ≤ (2 ^ 63 - 1) / k := Int.le_ediv_of_mul_le (by omega) (by omega)
    rw [hl] at hz
    omega
  · unfold Builtin.Str.tooLong
    exact decide_eq_false (by have : sizeLine = 16777216 := rfl; omega)
  · have fin : ∀ (w : Str), w = toS (rep k.toNat z) → ∀ t tk, (EP X pins σ Q) (.str w t) { s with toks := tk } := fun w e t tk => ⟨.str w, _, I.tok tk, ⟨t, rfl⟩, by rw [e]; exact q⟩
    split
    · refine ⟨by show 0 ≤ sizeLine; omega, fin _ ?_ _ _⟩
      have : k = 0 := by omega
      subst this
      rfl
    · rename_i hk1
      split
      · rename_i hk
        refine fin _ ?_ _ s.toks
        rw [Bool.or_eq_true, beq_iff_eq, beq_iff_eq, hl] at hk
        rcases hk with hk | hk
        · subst hk
          show toS z = toS (z ++ [])
          rw [List.append_nil]
        · have : z = [] := List.length_eq_zero_iff.mp hk
          subst this
          rw [rep_nil]
      · have hf := foldA (toS z).cps k.toNat #[]
        rw [show (toS z).cps.toList = z from by simp [toS], List.nil_append] at hf
        have he : (⟨List.foldl (fun x1 x2 => x1 ++ x2) #[] (List.replicate k.toNat (toS z).cps)⟩ : Str) = toS (rep k.toNat z) := by
          show (⟨_⟩ : Str) = ⟨_⟩
          rw [← hf]
        refine ⟨?_, fin _ he _ _⟩
        rw [he]
        have hrl : ∀ n : Nat, (rep n z).length = n * z.length := fun n => by
          induction n with
          | zero => simp [rep]
          | succ n ih => rw [rep, List.length_append, ih, Nat.succ_mul]; omega
        have h3 : (toS (rep k.toNat z)).length = (rep k.toNat z).length := by simp [toS, Str.length]
        have : sizeLine = 16777216 := rfl
        rw [h3, hrl, Nat.mul_comm, ← hl]
        omega
section
variable {X : Cx}
theorem bitAnd_nn {i j : Int} (hi : 0 ≤ i) (hj : 0 ≤ j) : Builtin.bitAnd i j = ((i.toNat &&& j.toNat : Nat) : Int) := PyProof.Rows.bitAnd_pp hi hj
theorem op_int (o : Bop) : OpR X (binaryOp (pyB o)) (fun x y H Q => ∃ i j d, x = .int i ∧ y = .int j ∧ intOp o i j = .ok (.int d) ∧ Q (.int d) H) := by
  intro pins s σ H x y v u Q I rx ry h
  obtain ⟨i, j, d, rfl, rfl, e, q⟩ := h
  cases o with
  | add => cases e; exact op_add pins s σ H _ _ v u Q I rx ry ⟨i, j, rfl, rfl, q⟩
  | sub => cases e; exact op_sub pins s σ H _ _ v u Q I rx ry ⟨i, j, rfl, rfl, q⟩
  | mul =>
    obtain ⟨c, e⟩ := guard_ok e
    cases e
    simp only [mulOk, Bool.or_eq_true, Bool.and_eq_true, decide_eq_true_eq] at c
    exact op_mul pins s σ H _ _ v u Q I rx ry ⟨i, j, rfl, rfl, c, q⟩
  | fdiv =>
    obtain ⟨c, e⟩ := guard_ok e
    cases e
    simp only [Bool.and_eq_true, decide_eq_true_eq] at c
    exact op_fdiv pins s σ H _ _ v u Q I rx ry ⟨i, j, rfl, rfl, c, q⟩
  | mod =>
    obtain ⟨c, e⟩ := guard_ok e
    cases e
    exact op_mod pins s σ H _ _ v u Q I rx ry ⟨i, j, rfl, rfl, dec_of c, q⟩
  | pow =>
    obtain ⟨c, e⟩ := guard_ok e
    cases e
    simp only [powOk, Bool.and_eq_true, decide_eq_true_eq] at c
    exact op_pow pins s σ H _ _ v u Q I rx ry ⟨i, j, rfl, rfl, c, q⟩
  | shl =>
    obtain ⟨c, e⟩ := guard_ok e
    cases e
    simp only [powOk, Bool.and_eq_true, decide_eq_true_eq] at c
    exact op_shl pins s σ H _ _ v u Q I rx ry ⟨i, j, rfl, rfl, c, q⟩
  | shr =>
    obtain ⟨c, e⟩ := guard_ok e
    cases e
    exact op_shr pins s σ H _ _ v u Q I rx ry ⟨i, j, rfl, rfl, dec_of c, q⟩
  | band =>
    obtain ⟨c, e⟩ := guard_ok e
    cases e
    simp only [Bool.and_eq_true, decide_eq_true_eq] at c
    exact op_and pins s σ H _ _ v u Q I rx ry ⟨i, j, rfl, rfl, by show Q (.int (Builtin.bitAnd i j)) H; rw [bitAnd_nn c.1 c.2]; exact q⟩
  | bor =>
    obtain ⟨c, e⟩ := guard_ok e
    cases e
    simp only [Bool.and_eq_true, decide_eq_true_eq] at c
    exact op_or pins s σ H _ _ v u Q I rx ry ⟨i, j, rfl, rfl, by show Q (.int (Builtin.bitOr i j)) H; rw [Bits.bitOr_pp c.1 c.2]; exact q⟩
  | bxor =>
    obtain ⟨c, e⟩ := guard_ok e
    cases e
    simp only [Bool.and_eq_true, decide_eq_true_eq] at c
    exact op_xor pins s σ H _ _ v u Q I rx ry ⟨i, j, rfl, rfl, by show Q (.int (Builtin.bitXor i j)) H; rw [Bits.bitXor_pp c.1 c.2]; exact q⟩
theorem intOp_int {o : Bop} {i j : Int} {d : D} (h : intOp o i j = .ok d) : ∃ k, d = .int k := by
  cases o <;> simp only [intOp, guard'] at h <;> (try split at h) <;> cases h <;> exact ⟨_, rfl⟩
theorem rep_eq {α : Type} (n : Nat) (xs : List α) : (List.replicate n xs).flatten = rep n xs := by
  induction n with
  | zero => rfl
  | succ n ih => rw [List.replicate_succ, List.flatten_cons, ih]; rfl
def rBin (K : PySem.W.Frag) (o : Bop) : R2 := fun x y H Q => ∃ G ix S dx dy w, Good K G ix S H ∧ Rp K G ix x dx ∧ Rp K G ix y dy ∧ binOp o (pk S dx) (pk S dy) = .ok w ∧ PostE K G ix H w S Q
theorem op_bin (o : Bop) : OpR X (binaryOp (pyB o)) (rBin X.K o) := by
  intro pins s σ H x y v u Q I rx ry h
  obtain ⟨G, ix, S, dx, dy, w, g, hx, hy, e, q⟩ := h
  generalize ea : pk S dx = a at e
  generalize eb : pk S dy = b at e
  unfold binOp at e
  split at e
  · rename_i i j
    cases pk_int hx ea
    cases pk_int hy eb
    rw [Res.bind_eq_ok] at e
    obtain ⟨d, h1, h2⟩ := e
    cases h2
    obtain ⟨k, rfl⟩ := intOp_int h1
    exact op_int o pins s σ H _ _ v u Q I rx ry ⟨i, j, k, rfl, rfl, h1, q.same g (.int k)⟩
  · rename_i xs ys
    obtain ⟨a, vs, rfl, h1, r1⟩ := pk_lst g hx ea
    obtain ⟨b, us, rfl, h2, r2⟩ := pk_lst g hy eb
    split at e
    · obtain ⟨c, e⟩ := guard_ok e
      cases e
      exact op_cat pins s σ H _ _ v u Q I rx ry ⟨a, b, vs, us, rfl, rfl, h1, h2, by rw [r1.length, r2.length]; exact dec_of c, fun p hp => q.newL g hp rfl (r1.append r2)⟩
    · cases e
  · rename_i xs ys
    obtain ⟨a, vs, rfl, h1, g1, r1, e1⟩ := pk_tup g hx ea
    obtain ⟨b, us, rfl, h2, g2, r2, e2⟩ := pk_tup g hy eb
    split at e
    · obtain ⟨c, e⟩ := guard_ok e
      cases e
      refine op_catA pins s σ H _ _ v u Q I rx ry ⟨a, b, vs, us, rfl, rfl, SqT.of h1, SqT.of h2, by rw [r1.length, r2.length]; exact dec_of c, fun z => ?_, fun _ z => ?_, fun _ _ p hp => q.newT g hp rfl (r1.append r2)⟩
      · subst z
        cases r1
        exact q.same g (.tup g2 r2)
      · subst z
        cases r2
        refine q.same g ?_
        rw [List.append_nil]
        exact .tup g1 r1
    · cases e
  · rename_i xs ys
    cases pk_str hx ea
    cases pk_str hy eb
    split at e
    · obtain ⟨c, e⟩ := guard_ok e
      cases e
      refine op_add_str pins s σ H _ _ v u Q I rx ry ⟨_, _, rfl, rfl, by rw [toS_len, toS_len]; exact dec_of c, ?_⟩
      rw [toS_app]
      exact q.same g (.str _)
    · cases e
  · rename_i xs k
    obtain ⟨a, vs, rfl, h1, r1⟩ := pk_lst g hx ea
    cases pk_int hy eb
    split at e
    · obtain ⟨c, e⟩ := guard_ok e
      cases e
      simp only [Bool.and_eq_true, decide_eq_true_eq] at c
      exact op_rep pins s σ H _ _ v u Q I rx ry ⟨a, k, vs, rfl, rfl, h1, c.1, c.2.1, by rw [r1.length]; exact c.2.2, fun p hp => by rw [rep_eq]; exact q.newL g hp rfl (r1.rep _)⟩
    · cases e
  · rename_i xs k
    obtain ⟨a, vs, rfl, h1, g1, r1, e1⟩ := pk_tup g hx ea
    cases pk_int hy eb
    split at e
    · obtain ⟨c, e⟩ := guard_ok e
      cases e
      simp only [Bool.and_eq_true, decide_eq_true_eq, Bool.not_eq_true'] at c
      by_cases k1 : k = 1
      · subst k1
        refine op_repT1 pins s σ H _ _ v u Q I rx ry ⟨a, vs, rfl, rfl, SqT.of h1, q.same g ?_⟩
        show Rp X.K _ _ _ (.tup (rep 1 xs))
        rw [show rep 1 xs = xs from by simp [rep]]
        exact .tup g1 r1
      · exact op_repT pins s σ H _ _ v u Q I rx ry ⟨a, k, vs, rfl, rfl, SqT.of h1, fun z => by subst z; cases r1; simp at c, by have := c.1; omega, c.2.1, by rw [r1.length]; exact c.2.2.1, fun p hp => by rw [rep_eq]; exact q.newT g hp rfl (r1.rep _)⟩
    · cases e
  · rename_i xs k
    cases pk_str hx ea
    cases pk_int hy eb
    split at e
    · obtain ⟨c, e⟩ := guard_ok e
      cases e
      simp only [Bool.and_eq_true, decide_eq_true_eq] at c
      exact op_repS pins s σ H _ _ v u Q I rx ry ⟨xs, k, rfl, rfl, c.1, c.2.1, c.2.2, q.same g (.str _)⟩
    · cases e
  · cases e
end

/-! ### data as the library has it -/
mutual
def toPy : D → PyData
  | .non => .none
  | .bl b => .bool b
  | .int i => .int i
  | .str s => .str (toS s)
  | .tup xs => .tuple (toPys xs)
  | .lst xs => .list (toPys xs)
  | .scr _ => .none
  | .obj _ => .none
  | .ex _ => .none
def toPys : List D → List PyData
  | [] => []
  | x :: xs => toPy x :: toPys xs
end
theorem dec_toS (a b : List Nat) : (toS a == toS b) = (a == b) := by
  rw [Bool.eq_iff_iff]
  simp only [beq_iff_eq]
  exact ⟨toS_inj, fun h => by rw [h]⟩
mutual
theorem eqB_py : ∀ (n m : Nat) (a b : D), okD n a = true → okD m b = true → PyData.eqv (toPy a) (toPy b) = eqB a b
  | n, m, a, b, ha, hb => by
    cases a with
    | scr _ => simp [okD] at ha
    | obj _ => simp [okD] at ha
    | ex _ => simp [okD] at ha
    | non => cases b <;> first | (simp [okD] at hb; done) | simp [toPy, PyData.eqv, eqB]
    | bl x => cases b <;> first | (simp [okD] at hb; done) | simp [toPy, PyData.eqv, eqB]
    | int x => cases b <;> first | (simp [okD] at hb; done) | simp [toPy, PyData.eqv, eqB]
    | str x => cases b <;> first | (simp [okD] at hb; done) | simp [toPy, PyData.eqv, eqB, dec_toS]
    | tup xs =>
      cases b with
      | tup ys =>
        cases n with
        | zero => simp [okD] at ha
        | succ n =>
          cases m with
          | zero => simp [okD] at hb
          | succ m =>
            simp only [toPy, PyData.eqv, eqB]
            exact eqBs_py n m xs ys (by simpa [okD] using ha) (by simpa [okD] using hb)
      | scr _ => simp [okD] at hb
      | obj _ => simp [okD] at hb
      | ex _ => simp [okD] at hb
      | _ => simp [toPy, PyData.eqv, eqB]
    | lst xs =>
      cases b with
      | lst ys =>
        cases n with
        | zero => simp [okD] at ha
        | succ n =>
          cases m with
          | zero => simp [okD] at hb
          | succ m =>
            simp only [toPy, PyData.eqv, eqB]
            exact eqBs_py n m xs ys (by simpa [okD] using ha) (by simpa [okD] using hb)
      | scr _ => simp [okD] at hb
      | obj _ => simp [okD] at hb
      | ex _ => simp [okD] at hb
      | _ => simp [toPy, PyData.eqv, eqB]
theorem eqBs_py : ∀ (n m : Nat) (a b : List D), okDs n a = true → okDs m b = true → PyData.eqvAll (toPys a) (toPys b) = eqBs a b
  | n, m, [], [], _, _ => by simp [toPys, PyData.eqvAll, eqBs]
  | n, m, [], _ :: _, _, _ => by simp [toPys, PyData.eqvAll, eqBs]
  | n, m, _ :: _, [], _, _ => by simp [toPys, PyData.eqvAll, eqBs]
  | n, m, a :: as, b :: bs, ha, hb => by
    simp only [okDs, Bool.and_eq_true] at ha hb
    simp only [toPys, PyData.eqvAll, eqBs]
    rw [eqB_py n m a b ha.1 hb.1, eqBs_py n m as bs ha.2 hb.2]
end
mutual
theorem lay_py : ∀ (n : Nat) (a : D), okD n a = true → (toPy a).canLay0 = true ∧ (toPy a).depth ≤ n
  | n, .non, _ => by simp [toPy, PyData.canLay0, PyData.depth]
  | n, .bl _, _ => by simp [toPy, PyData.canLay0, PyData.depth]
  | n, .int _, _ => by simp [toPy, PyData.canLay0, PyData.depth]
  | n, .str s, h => by
    refine ⟨?_, by simp [toPy, PyData.depth]⟩
    simp only [okD] at h
    simp only [toPy, PyData.canLay0, PyData.strOk, toS]
    simpa using h
  | 0, .tup _, h => by simp [okD] at h
  | 0, .lst _, h => by simp [okD] at h
  | n + 1, .tup xs, h => by
    obtain ⟨h1, h2⟩ := lays_py n xs (by simpa [okD] using h)
    simp only [toPy, PyData.canLay0, PyData.depth]
    exact ⟨h1, by omega⟩
  | n + 1, .lst xs, h => by
    obtain ⟨h1, h2⟩ := lays_py n xs (by simpa [okD] using h)
    simp only [toPy, PyData.canLay0, PyData.depth]
    exact ⟨h1, by omega⟩
  | _, .scr _, h => by simp [okD] at h
  | _, .obj _, h => by simp [okD] at h
theorem lays_py : ∀ (n : Nat) (a : List D), okDs n a = true → PyData.canLayAll0 (toPys a) = true ∧ PyData.depthAll (toPys a) ≤ n
  | n, [], _ => by simp [toPys, PyData.canLayAll0, PyData.depthAll]
  | n, x :: xs, h => by
    simp only [okDs, Bool.and_eq_true] at h
    obtain ⟨h1, h2⟩ := lay_py n x h.1
    obtain ⟨h3, h4⟩ := lays_py n xs h.2
    simp only [toPys, PyData.canLayAll0, PyData.depthAll, h1, h3, Bool.and_self, true_and]
    omega
end
theorem shaped_py {n : Nat} {a : D} (hn : n ≤ 64) (h : okD n a = true) : SeqAt.shaped (toPy a) = true := by
  obtain ⟨h1, h2⟩ := lay_py n a h
  unfold SeqAt.shaped
  rw [h1, Bool.true_and]
  exact decide_eq_true (Nat.le_trans h2 hn)
section
variable {K : PySem.W.Frag} {G : Hp} {ix : List Addr} {S : Store} {H : Hp}
mutual
theorem Rp.dp (le : Le G H) : ∀ (n : Nat) (d : D) (v : V), okD n d = true → Rp K G ix v d → Dp K H v (toPy d)
  | _, .non, _, _, h => by cases h; exact .non
  | _, .bl _, _, _, h => by cases h; exact .bl _
  | _, .int _, _, _, h => by cases h; exact .int _
  | _, .str _, _, _, h => by cases h; exact .str _
  | 0, .tup _, _, o, _ => by simp [okD] at o
  | 0, .lst _, _, o, _ => by simp [okD] at o
  | n + 1, .tup ds, _, o, h => by
    cases h with
    | tup a r => exact .tup (SqT.of (le _ _ a)) (Rps.dp le n ds _ (by simpa [okD] using o) r)
  | n + 1, .lst ds, _, o, h => by
    cases h with
    | lst a r => exact .lst (SqL.of (le _ _ a)) (Rps.dp le n ds _ (by simpa [okD] using o) r)
  | _, .scr _, _, o, _ => by simp [okD] at o
  | _, .obj _, _, o, _ => by simp [okD] at o
  | _, .ex _, _, o, _ => by simp [okD] at o
theorem Rps.dp (le : Le G H) : ∀ (n : Nat) (ds : List D) (vs : List V), okDs n ds = true → Rps K G ix vs ds → DpAll K H vs (toPys ds)
  | _, [], _, _, h => by cases h; exact .nil
  | n, d :: ds, _, o, h => by
    simp only [okDs, Bool.and_eq_true] at o
    cases h with
    | cons a r => exact .cons (Rp.dp le n d _ o.1 a) (Rps.dp le n ds _ o.2 r)
end
/-- .. at its top it may be a list of the store -/
theorem pk_dp (g : Good K G ix S H) {v : V} {d : D} (r : Rp K G ix v d) {n : Nat} (o : okD n (pk S d) = true) : Dp K H v (toPy (pk S d)) := by
  cases e : pk S d with
  | lst xs =>
    obtain ⟨a, vs, rfl, h1, h2⟩ := pk_lst g r e
    rw [e] at o
    cases n with
    | zero => simp [okD] at o
    | succ n => exact .lst (SqL.of h1) (h2.dp g.le n xs vs (by simpa [okD] using o))
  | tup xs =>
    obtain ⟨a, vs, rfl, h1, _, h2, _⟩ := pk_tup g r e
    rw [e] at o
    cases n with
    | zero => simp [okD] at o
    | succ n => exact .tup (SqT.of h1) (h2.dp g.le n xs vs (by simpa [okD] using o))
  | non => cases pk_non r e; exact .non
  | bl b => cases pk_bl r e; exact .bl b
  | int i => cases pk_int r e; exact .int i
  | str s => cases pk_str r e; exact .str _
  | scr _ => rw [e] at o; simp [okD] at o
  | obj _ => rw [e] at o; simp [okD] at o
  | ex _ => rw [e] at o; simp [okD] at o
theorem any_py {n m : Nat} : ∀ (ys : List D) (a : D), okDs n ys = true → okD m a = true → ((toPys ys).any fun z => PyData.eqv z (toPy a)) = ys.any fun y => eqB y a
  | [], _, _, _ => rfl
  | y :: ys, a, h, ha => by
    simp only [okDs, Bool.and_eq_true] at h
    simp only [toPys, List.any_cons, eqB_py n m y a h.1 ha, any_py ys a h.2 ha]
end

/-! ### comparisons -/
def pyC : Cop → CmpOp
  | .eq => .Eq
  | .ne => .NotEq
  | .lt => .Lt
  | .le => .LtE
  | .gt => .Gt
  | .ge => .GtE
  | .inn => .In
  | .nin => .NotIn
section
variable {X : Cx}
theorem flat_V {K : PySem.W.Frag} {G : Hp} {ix : List Addr} {v : V} {d : D} (r : Rp K G ix v d) (h : flat d = true) : flatV v = true := by
  cases r <;> first | rfl | simp [flat] at h
theorem flats_V {K : PySem.W.Frag} {G : Hp} {ix : List Addr} : ∀ {vs : List V} {ds : List D}, Rps K G ix vs ds → ds.all flat = true → vs.all flatV = true
  | _, _, .nil, _ => rfl
  | _, _, .cons a r, h => by
    rw [List.all_cons, Bool.and_eq_true] at h
    rw [List.all_cons, flat_V a h.1, flats_V r h.2]
    rfl
theorem eq_flat {K : PySem.W.Frag} {G : Hp} {ix : List Addr} {v u : V} {d e : D} (r : Rp K G ix v d) (q : Rp K G ix u e) (h : flat d = true) (k : flat e = true) : eqV v u = eqB d e := by
  cases r <;> first | (simp [flat] at h; done) | (cases q <;> first | (simp [flat] at k; done) | simp [eqV, eqB, dec_toS])
theorem in_flat {K : PySem.W.Frag} {G : Hp} {ix : List Addr} {u : V} {e : D} (q : Rp K G ix u e) (k : flat e = true) : ∀ {vs : List V} {ds : List D}, Rps K G ix vs ds → ds.all flat = true → inV u vs = ds.any fun y => eqB y e
  | _, _, .nil, _ => rfl
  | _, _, .cons a r, h => by
    rw [List.all_cons, Bool.and_eq_true] at h
    have ih := in_flat q k r h.2
    unfold inV at ih ⊢
    rw [List.any_cons, List.any_cons, ih, eq_flat a q h.1 k]
theorem ltInts_ok : ∀ {xs ys : List D} {r : Bool}, ltInts xs ys = some r → ∃ ns ms, intsOf xs = some ns ∧ intsOf ys = some ms ∧ HT.lexLt ns ms = r
  | [], [], r, h => by
    simp [ltInts] at h
    exact ⟨[], [], rfl, rfl, h.symm⟩
  | [], y :: ys, r, h => by
    cases y with
    | int j =>
      simp only [ltInts, Option.map_eq_some_iff] at h
      obtain ⟨r', h1, h2⟩ := h
      obtain ⟨ns, ms, h3, h4, _⟩ := ltInts_ok h1
      exact ⟨[], j :: ms, rfl, by simp [intsOf, h4], by rw [← h2]; rfl⟩
    | _ => simp [ltInts] at h
  | x :: xs, [], r, h => by
    cases x with
    | int j =>
      simp only [ltInts, Option.map_eq_some_iff] at h
      obtain ⟨r', h1, h2⟩ := h
      obtain ⟨ns, ms, h3, h4, _⟩ := ltInts_ok h1
      exact ⟨j :: ns, [], by simp [intsOf, h3], rfl, by rw [← h2]; rfl⟩
    | _ => simp [ltInts] at h
  | x :: xs, y :: ys, r, h => by
    cases x with
    | int i =>
      cases y with
      | int j =>
        simp only [ltInts, Option.map_eq_some_iff] at h
        obtain ⟨r', h1, h2⟩ := h
        obtain ⟨ns, ms, h3, h4, h5⟩ := ltInts_ok h1
        refine ⟨i :: ns, j :: ms, by simp [intsOf, h3], by simp [intsOf, h4], ?_⟩
        rw [HT.lexLt_cons, h5]
        exact h2
      | _ => simp [ltInts] at h
    | _ => simp [ltInts] at h
def rCmp (K : PySem.W.Frag) (o : Cop) : R2 := fun x y H Q => ∃ G ix S dx dy r, Good K G ix S H ∧ Rp K G ix x dx ∧ Rp K G ix y dy ∧ cmpOp o (pk S dx) (pk S dy) = .ok r ∧ Q (.bl r) H
theorem inOp_ok (hu : X.A.units + 65 < cLine) {pins : List (Addr × Obj)} {s : Shared} {σ : L2.St} {H : Hp} {x y : V} {v u : Value} {Q : VK} (I : Inv X pins σ H s) (rx : RelV x v) (ry : RelV y u) {G : Hp} {ix : List Addr} {S : Store} {dx dy : D} {r : Bool}
    (g : Good X.K G ix S H) (hx : Rp X.K G ix x dx) (hy : Rp X.K G ix y dy) (e : inOp (pk S dx) (pk S dy) = .ok r) (neg : Bool) (q : Q (.bl (if neg then !r else r)) H) : wpAny (model X.prog X.w) X.A (compareOp (if neg then .NotIn else .In) v u) (EP X pins σ Q) X.xe s := by
  unfold inOp at e
  split at e
  · rename_i ys eb
    obtain ⟨c, e⟩ := guard_ok e
    cases e
    simp only [Bool.and_eq_true] at c
    have ds := pk_dp g hy c.2
    rw [eb] at ds
    have c2 : okDs 39 ys = true := by have := c.2; rw [eb] at this; simpa [okD] using this
    have sh : SeqAt.shaped (.list (toPys ys)) = true := by
      have := shaped_py (n := 40) (by decide) c.2
      rw [eb] at this
      exact this
    cases neg with
    | false =>
      exact op_inD hu pins s σ H x y v u Q I rx ry ⟨_, _, pk_dp g hx c.1, ds, shaped_py (by decide) c.1, sh, by rw [any_py ys _ c2 c.1]; exact q⟩
    | true =>
      exact op_notInD hu pins s σ H x y v u Q I rx ry ⟨_, _, pk_dp g hx c.1, ds, shaped_py (by decide) c.1, sh, by rw [any_py ys _ c2 c.1]; exact q⟩
  · rename_i ys eb
    obtain ⟨c, e⟩ := guard_ok e
    cases e
    simp only [Bool.and_eq_true] at c
    obtain ⟨b, us, rfl, h2, g2, r2, e2⟩ := pk_tup g hy eb
    have hxf : pk S dx = dx := by
      cases dx with
      | obj n =>
        have := c.1
        simp only [pk] at this
        split at this <;> simp [flat] at this
      | _ => rfl
    rw [hxf] at c q
    have e1 := in_flat hx c.1 r2 c.2
    cases neg with
    | false => exact op_in_seq pins s σ H x _ v u Q I rx ry ⟨b, us, rfl, .inr (SqT.of h2), flat_V hx c.1, flats_V r2 c.2, by rw [e1]; exact q⟩
    | true => exact op_notIn_seq pins s σ H x _ v u Q I rx ry ⟨b, us, rfl, .inr (SqT.of h2), flat_V hx c.1, flats_V r2 c.2, by rw [e1]; exact q⟩
  · rename_i z eb
    split at e
    · rename_i c ea
      cases e
      cases pk_str hx ea
      cases pk_str hy eb
      have hz : (toS z).cps.toList = z := by simp [toS]
      cases neg with
      | false => exact op_in_sign pins s σ H _ _ v u Q I rx ry ⟨c, toS z, rfl, rfl, by rw [hz]; exact q⟩
      | true => exact op_notIn_sign pins s σ H _ _ v u Q I rx ry ⟨c, toS z, rfl, rfl, by rw [hz]; exact q⟩
    · cases e
  · cases e
theorem op_cmp (o : Cop) (hu : X.A.units + 65 < cLine) : OpR X (compareOp (pyC o)) (rCmp X.K o) := by
  intro pins s σ H x y v u Q I rx ry h
  obtain ⟨G, ix, S, dx, dy, r, g, hx, hy, e, q⟩ := h
  have hu' : X.A.units + 64 < cLine := by omega
  have order : ∀ (o : Cop), (match pk S dx, pk S dy with
      | .int i, .int j => (match orderOp o i j with
        | some r => Res.ok r
        | none => .err)
      | .tup xs, .tup ys => (match o with
        | .lt => (match ltInts xs ys with
          | some r => .ok r
          | none => .err)
        | _ => .err)
      | _, _ => .err) = .ok r → wpAny (model X.prog X.w) X.A (compareOp (pyC o) v u) (EP X pins σ Q) X.xe s := by
    intro o e
    split at e
    · rename_i i j ea eb
      cases pk_int hx ea
      cases pk_int hy eb
      split at e
      · rename_i r' er
        cases e
        cases o with
        | lt => cases er; exact op_lt pins s σ H _ _ v u Q I rx ry ⟨i, j, rfl, rfl, q⟩
        | le => cases er; exact op_le pins s σ H _ _ v u Q I rx ry ⟨i, j, rfl, rfl, q⟩
        | gt => cases er; exact op_gt pins s σ H _ _ v u Q I rx ry ⟨i, j, rfl, rfl, q⟩
        | ge => cases er; exact op_ge pins s σ H _ _ v u Q I rx ry ⟨i, j, rfl, rfl, q⟩
        | _ => cases er
      · cases e
    · rename_i xs ys ea eb
      obtain ⟨a, vs, rfl, h1, g1, r1, e1⟩ := pk_tup g hx ea
      obtain ⟨b, us, rfl, h2, g2, r2, e2⟩ := pk_tup g hy eb
      split at e
      · split at e
        · rename_i r' er
          cases e
          obtain ⟨ns, ms, h3, h4, h5⟩ := ltInts_ok er
          have k1 := r1.ints h3
          have k2 := r2.ints h4
          subst k1 k2
          exact op_ltT (by omega) pins s σ H _ _ v u Q I rx ry ⟨a, b, ns, ms, rfl, rfl, SqT.of h1, SqT.of h2, by rw [h5]; exact q⟩
        · cases e
      · cases e
    · cases e
  cases o with
  | eq =>
    obtain ⟨c, e⟩ := guard_ok e
    cases e
    simp only [Bool.and_eq_true] at c
    exact op_eqD hu' pins s σ H x y v u Q I rx ry ⟨_, _, pk_dp g hx c.1, pk_dp g hy c.2, shaped_py (by decide) c.1, shaped_py (by decide) c.2, by rw [eqB_py 40 40 _ _ c.1 c.2]; exact q⟩
  | ne =>
    have e : (eqOp (pk S dx) (pk S dy)).bind (fun r => .ok (!r)) = .ok r := e
    rw [Res.bind_eq_ok] at e
    obtain ⟨r', e1, e2⟩ := e
    cases e2
    obtain ⟨c, e⟩ := guard_ok e1
    cases e
    simp only [Bool.and_eq_true] at c
    exact op_neD hu' pins s σ H x y v u Q I rx ry ⟨_, _, pk_dp g hx c.1, pk_dp g hy c.2, shaped_py (by decide) c.1, shaped_py (by decide) c.2, by rw [eqB_py 40 40 _ _ c.1 c.2]; exact q⟩
  | inn => exact inOp_ok hu I rx ry g hx hy e false q
  | nin =>
    have e : (inOp (pk S dx) (pk S dy)).bind (fun r => .ok (!r)) = .ok r := e
    rw [Res.bind_eq_ok] at e
    obtain ⟨r', e1, e2⟩ := e
    cases e2
    exact inOp_ok hu I rx ry g hx hy e1 true q
  | lt => exact order .lt e
  | le => exact order .le e
  | gt => exact order .gt e
  | ge => exact order .ge e
end
end Nl

/-! Subscripts, slices, built-ins, classes, methods of lists. -/
namespace Nl
open PySem L2
section
variable {X : Cx} {K : PySem.W.Frag} {G : Hp} {ix : List Addr} {S : Store} {H : Hp}
/-! ### subscripts -/
theorem ixN_eq (n : Nat) (i : Int) : L2.ixN n i = Nl.ixN n i := rfl
theorem atI_rp {vs : List V} {ds : List D} (r : Rps K G ix vs ds) {i : Int} {d : D} (h : Nl.atI ds i = some d) : ∃ v, L2.atI vs i = some v ∧ Rp K G ix v d := by
  unfold Nl.atI at h
  unfold L2.atI
  rw [ixN_eq, r.length]
  cases e : Nl.ixN ds.length i with
  | none => rw [e] at h; cases h
  | some j =>
    rw [e] at h
    exact r.get h
def rIxx (K : PySem.W.Frag) : R2 := fun x y H Q => ∃ G ix S dx dy d, Good K G ix S H ∧ Rp K G ix x dx ∧ Rp K G ix y dy ∧ ixOp (pk S dx) dy = .ok d ∧ PostE K G ix H (.d d) S Q
theorem ix_all : IxR X (rIxx X.K) := by
  intro value slice pins s σ H x y v u Q I rx ry h hs
  obtain ⟨G, ix, S, dx, dy, d, g, hx, hy, e, q⟩ := h
  unfold ixOp at e
  split at e
  · rename_i i
    cases hy
    split at e
    · rename_i xs ea
      obtain ⟨a, vs, rfl, h1, r1⟩ := pk_lst g hx ea
      split at e
      · rename_i d' ed
        cases e
        obtain ⟨v', e1, r2⟩ := atI_rp r1 ed
        exact ix_list value slice pins s σ H _ _ v u Q I rx ry ⟨a, vs, i, v', rfl, rfl, SqL.of h1, e1, q.same g r2⟩ hs
      · cases e
    · rename_i xs ea
      obtain ⟨a, vs, rfl, h1, _, r1, _⟩ := pk_tup g hx ea
      split at e
      · rename_i d' ed
        cases e
        obtain ⟨v', e1, r2⟩ := atI_rp r1 ed
        exact ix_tup value slice pins s σ H _ _ v u Q I rx ry ⟨a, vs, i, v', rfl, rfl, SqT.of h1, e1, q.same g r2⟩ hs
      · cases e
    · rename_i xs ea
      obtain ⟨a, rfl, h1⟩ := pk_scr g hx ea
      split at e
      · rename_i d' ed
        cases e
        have e1 : L2.atI (xs.map V.int) i = some (.int d') := by
          unfold Nl.atI at ed
          unfold L2.atI
          rw [ixN_eq, List.length_map]
          cases e2 : Nl.ixN xs.length i with
          | none => rw [e2] at ed; cases ed
          | some j =>
            rw [e2] at ed
            have ed : xs[j]? = some d' := ed
            show (xs.map V.int)[j]? = some (.int d')
            rw [List.getElem?_map, ed]
            rfl
        exact ix_list value slice pins s σ H _ _ v u Q I rx ry ⟨a, _, i, _, rfl, rfl, h1, e1, q.same g (.int d')⟩ hs
      · cases e
    · rename_i z ea
      cases pk_str hx ea
      obtain ⟨c, e⟩ := guard_ok e
      split at e
      · rename_i c' ed
        cases e
        exact ix_str value slice pins s σ H _ _ v u Q I rx ry ⟨toS z, i, c', rfl, rfl, by rw [toS_len]; exact dec_of c, (show L2.atI z i = some c' from ed), q.same g (.str [c'])⟩ hs
      · cases e
    · cases e
  · cases e
/-! ### slices -/
theorem slN_eq (n d : Nat) (o : Option Int) : HT.sIx n d o = slN n d o := by
  cases o with
  | none => rfl
  | some i => rfl
theorem cut_rp {vs : List V} {ds : List D} (r : Rps K G ix vs ds) (lo hi : Option Int) : Rps K G ix (cutV vs lo hi) (cut ds lo hi) := by
  unfold cutV cut
  rw [slN_eq, slN_eq, r.length]
  exact (r.drop _).take _
def rSll (K : PySem.W.Frag) : V → Option Int → Option Int → Hp → VK → Prop := fun x lo hi H Q => ∃ G ix S dx w, Good K G ix S H ∧ Rp K G ix x dx ∧ slOp (pk S dx) lo hi = .ok w ∧ PostE K G ix H w S Q
theorem sl_all : SlR X (rSll X.K) := by
  intro pins s σ H x v vl vu lo hi sl Q I rx hs pl pu h
  obtain ⟨G, ix, S, dx, w, g, hx, e, q⟩ := h
  unfold slOp at e
  split at e
  · rename_i xs ea
    cases e
    obtain ⟨a, vs, rfl, h1, r1⟩ := pk_lst g hx ea
    exact sl_list pins s σ H _ v vl vu lo hi sl Q I rx hs pl pu ⟨a, vs, rfl, SqL.of h1, fun p hp => q.newL g hp rfl (cut_rp r1 lo hi)⟩
  · rename_i xs ea
    cases e
    obtain ⟨a, vs, rfl, h1, g1, r1, _⟩ := pk_tup g hx ea
    refine sl_tupA pins s σ H _ v vl vu lo hi sl Q I rx hs pl pu ⟨a, vs, rfl, SqT.of h1, fun z => ?_, fun _ p hp => q.newT g hp rfl (cut_rp r1 lo hi)⟩
    rw [slN_eq, slN_eq, r1.length] at z
    have e1 : cut xs lo hi = xs := by
      unfold cut
      rw [z.1, z.2]
      simp
    refine q.same g ?_
    rw [e1]
    exact .tup g1 r1
  · rename_i z ea
    cases pk_str hx ea
    obtain ⟨c, e⟩ := guard_ok e
    cases e
    refine sl_str pins s σ H _ v vl vu lo hi sl Q I rx hs pl pu ⟨toS z, rfl, by rw [toS_len]; exact dec_of c, ?_⟩
    have e1 : cutS (toS z) lo hi = toS (cut z lo hi) := by
      unfold cutS cut
      rw [slN_eq, slN_eq, toS_len]
      rfl
    rw [e1]
    exact q.same g (.str _)
  · cases e
/-! ### built-ins -/
def biName : Bi → String
  | .len => "len"
  | .abs => "abs"
  | .sum => "sum"
  | .maxl => "max"
  | .minl => "min"
  | .max2 => "max"
  | .min2 => "min"
  | .any => "any"
  | .all => "all"
  | .int => "int"
  | .list => "list"
  | .tuple => "tuple"
  | .sorted => "sorted"
  | .sset => ""
  | .sortP => "sorted"
  | .repr => "repr"
  | .sortS => "sorted"
/-- a built-in class (True), a built-in function -/
def biTy : Bi → Bool
  | .int => true
  | .list => true
  | .tuple => true
  | _ => false
def biVal (b : Bi) : Value := if biTy b then .type (biName b) else .builtin (biName b)
theorem maxOf_ok : ∀ (ns : List Int), ns ≠ [] → maxOf ns ∈ ns ∧ ∀ y ∈ ns, y ≤ maxOf ns
  | [], h => absurd rfl h
  | [x], _ => by simp [maxOf]
  | x :: y :: ys, _ => by
    obtain ⟨h1, h2⟩ := maxOf_ok (y :: ys) (by simp)
    unfold maxOf
    simp only
    split
    · refine ⟨by simp, fun z hz => ?_⟩
      rcases List.mem_cons.mp hz with rfl | hz
      · exact Int.le_refl _
      · have := h2 z hz; omega
    · refine ⟨List.mem_cons_of_mem _ h1, fun z hz => ?_⟩
      rcases List.mem_cons.mp hz with rfl | hz
      · omega
      · exact h2 z hz
theorem minOf_ok : ∀ (ns : List Int), ns ≠ [] → minOf ns ∈ ns ∧ ∀ y ∈ ns, minOf ns ≤ y
  | [], h => absurd rfl h
  | [x], _ => by simp [minOf]
  | x :: y :: ys, _ => by
    obtain ⟨h1, h2⟩ := minOf_ok (y :: ys) (by simp)
    unfold minOf
    simp only
    split
    · refine ⟨by simp, fun z hz => ?_⟩
      rcases List.mem_cons.mp hz with rfl | hz
      · exact Int.le_refl _
      · have := h2 z hz; omega
    · refine ⟨List.mem_cons_of_mem _ h1, fun z hz => ?_⟩
      rcases List.mem_cons.mp hz with rfl | hz
      · omega
      · exact h2 z hz
def rBi (K : PySem.W.Frag) (b : Bi) : List V → Hp → VK → Prop := fun vs H Q => ∃ G ix S ds w, Good K G ix S H ∧ Rps K G ix vs ds ∧ biOp b (ds.map (pk S)) = .ok w ∧ PostE K G ix H w S Q
theorem map1 {f : D → D} {ds : List D} {x : D} (h : ds.map f = [x]) : ∃ d, ds = [d] ∧ f d = x := by
  match ds, h with
  | [d], h => exact ⟨d, rfl, by simpa using h⟩
theorem map2 {f : D → D} {ds : List D} {x y : D} (h : ds.map f = [x, y]) : ∃ d e, ds = [d, e] ∧ f d = x ∧ f e = y := by
  match ds, h with
  | [d, e], h => exact ⟨d, e, rfl, by simpa using h⟩
theorem rps1 {vs : List V} {d : D} (r : Rps K G ix vs [d]) : ∃ v, vs = [v] ∧ Rp K G ix v d := by
  cases r with
  | cons a r => cases r; exact ⟨_, rfl, a⟩
theorem rps2 {vs : List V} {d e : D} (r : Rps K G ix vs [d, e]) : ∃ v u, vs = [v, u] ∧ Rp K G ix v d ∧ Rp K G ix u e := by
  cases r with
  | cons a r =>
    cases r with
    | cons b r => cases r; exact ⟨_, _, rfl, a, b⟩
theorem Rps.strs : ∀ {vs : List V} {ds : List D} {ss : List (List Nat)}, Rps K G ix vs ds → strsOf ds = some ss → vs = ss.map (V.str ∘ toS)
  | _, _, _, .nil, e => by simp [strsOf] at e; subst e; rfl
  | _, _, ss, .cons (d := d) (ds := ds) a r, e => by
    cases d with
    | str i =>
      simp only [strsOf, Option.map_eq_some_iff] at e
      obtain ⟨ms, h1, h2⟩ := e
      subst h2
      cases a
      rw [Rps.strs r h1]
      rfl
    | _ => simp [strsOf] at e
theorem Rps.ofStrs : ∀ (ns : List (List Nat)), Rps K G ix (ns.map (V.str ∘ toS)) (ns.map D.str)
  | [] => .nil
  | n :: ns => .cons (.str n) (Rps.ofStrs ns)
theorem ltS_eq : ∀ x y : List Nat, PySem.Spec.ltCps x y = ltS x y
  | [], [] => rfl
  | [], _ :: _ => rfl
  | _ :: _, [] => rfl
  | x :: xs, y :: ys => by
    unfold PySem.Spec.ltCps ltS
    rw [ltS_eq xs ys]
    by_cases e : x = y
    · subst e
      simp
    · rw [if_neg e, (beq_eq_false_iff_ne).mpr e, Bool.false_and, Bool.or_false]
theorem rising_pair : ∀ (x : Str) (r : List Str), PyProof.Rows.risingS x r = true → (x :: r).Pairwise fun a b => ltS b.cps.toList a.cps.toList = false
  | x, [], _ => by simp
  | x, y :: r, h => by
    unfold PyProof.Rows.risingS at h
    simp only [Bool.and_eq_true, Bool.not_eq_true', ltS_eq] at h
    have ih := rising_pair y r h.2
    obtain ⟨a1, a2⟩ := List.pairwise_cons.mp ih
    refine List.pairwise_cons.mpr ⟨fun z hz => ?_, ih⟩
    rcases List.mem_cons.mp hz with rfl | hz
    · exact h.1
    · exact ltS_tr _ _ _ h.1 (a1 z hz)
theorem sorted_pair {ys : List Str} (h : PyProof.Rows.sortedS ys = true) : ys.Pairwise fun a b => ltS b.cps.toList a.cps.toList = false := by
  cases ys with
  | nil => exact List.Pairwise.nil
  | cons x r => exact rising_pair x r h
theorem sortS_of {ss : List (List Nat)} {ys : List Str} (p : ys.Perm (ss.map toS)) (h : PyProof.Rows.sortedS ys = true) : ys = (sortS ss).map toS := by
  have e : ys = (ys.map fun z => z.cps.toList).map toS := by
    rw [List.map_map]
    refine (List.map_id ys).symm.trans (List.map_congr_left fun z _ => ?_)
    cases z
    simp [toS]
  have p2 : (ys.map fun z => z.cps.toList).Perm ss := by
    have := p.map fun z : Str => z.cps.toList
    rw [List.map_map] at this
    rw [show (ss.map ((fun z : Str => z.cps.toList) ∘ toS)) = ss from by
      refine (List.map_congr_left fun z _ => ?_).trans (List.map_id _)
      simp [toS]] at this
    exact this
  have s2 : (ys.map fun z => z.cps.toList).Pairwise (fun a b => ltS b a = false) := List.pairwise_map.mpr (sorted_pair h)
  rw [e, sortS_uniq (p2.trans (sortS_perm ss).symm) s2 (sortS_sorted ss)]
/-- the pair that stands at an address -/
def prK (H : Hp) (x : V) : Int × Int := match x with
  | .ref t => (match H t with
    | some (.tup [.int i, .int j]) => (i, j)
    | _ => (0, 0))
  | _ => (0, 0)
theorem prs_of (g : Good K G ix S H) : ∀ {vs : List V} {ds : List D} {ps : List (Int × Int)}, Rps K G ix vs ds → prsOf ds = some ps → (∀ x ∈ vs, (∃ t, x = V.ref t ∧ H t = some (.tup [.int (prK H x).1, .int (prK H x).2])) ∧ Rp K G ix x (prD (prK H x))) ∧ vs.map (prK H) = ps
  | _, _, _, .nil, e => by
    simp [prsOf] at e
    subst e
    exact ⟨fun x hx => (by cases hx), rfl⟩
  | _, _, ps, .cons (v := v) (vs := vs) (d := d) (ds := ds) a r, e => by
    unfold prsOf at e
    split at e
    · rename_i h; cases h
    · rename_i i j xs h
      cases h
      obtain ⟨qs, e1, e2⟩ := Option.map_eq_some_iff.mp e
      obtain ⟨h1, h2⟩ := prs_of g r e1
      cases a with
      | tup k q =>
        rename_i t us
        cases q with
        | cons q1 q =>
          cases q with
          | cons q2 q =>
            cases q
            cases q1
            cases q2
            have hH := g.le _ _ k
            have hk : prK H (V.ref t) = (i, j) := by simp only [prK, hH]
            refine ⟨fun x hx => ?_, by rw [List.map_cons, h2, hk, ← e2]⟩
            rcases List.mem_cons.mp hx with rfl | hx
            · rw [hk]
              exact ⟨⟨t, rfl, hH⟩, .tup k (.cons (.int _) (.cons (.int _) .nil))⟩
            · exact h1 x hx
    · cases e
theorem prs_rps : ∀ {zs : List V}, (∀ z ∈ zs, Rp K G ix z (prD (prK H z))) → Rps K G ix zs (zs.map (prD ∘ prK H))
  | [], _ => .nil
  | z :: zs, h => .cons (h z List.mem_cons_self) (prs_rps fun y hy => h y (List.mem_cons_of_mem _ hy))
theorem prs_uniq {H : Hp} {zs : List V} {ps : List (Int × Int)} (h : SrtO.Srtd (ltP (prK H)) zs) (p : (zs.map (prK H)).Perm ps) : zs.map (prK H) = sortPr ps := by
  refine leP_uniq (p.trans (sortPr_perm ps).symm) ?_ (sortPr_sorted ps)
  rw [List.pairwise_map]
  refine h.imp fun {x y} k => ?_
  have k := SrtO.lexB_no.mp k
  unfold leP
  omega
theorem log2_ltR {n : Nat} (h : n < 2 ^ 1920) : n.log2 < 1920 := by
  by_cases z : n = 0
  · subst z; decide
  · exact (Nat.log2_lt z).mpr h
theorem figs_strR (i : Int) : toS (figs i) = Str.ofString (toString i) := by
  rw [Str.ofString_eq_toList]
  rfl
theorem call_bi (b : Bi) (hb : b ≠ .sset) (hc : X.calm = true) : CallR X (biVal b) (rBi X.K b) := by
  intro pins s σ H xs us Q I r h
  obtain ⟨G, ix, S, ds, w, g, hv, e, q⟩ := h
  have one : ∀ {x : D}, ds.map (pk S) = [x] → ∃ v d, xs = [v] ∧ ds = [d] ∧ pk S d = x ∧ Rp X.K G ix v d := fun {x} em => by
    obtain ⟨d, rfl, ed⟩ := map1 em
    obtain ⟨v, rfl, rv⟩ := rps1 hv
    exact ⟨v, d, rfl, rfl, ed, rv⟩
  have two : ∀ {x y : D}, ds.map (pk S) = [x, y] → ∃ v u d e, xs = [v, u] ∧ ds = [d, e] ∧ pk S d = x ∧ pk S e = y ∧ Rp X.K G ix v d ∧ Rp X.K G ix u e := fun {x y} em => by
    obtain ⟨d, d', rfl, ed, ed'⟩ := map2 em
    obtain ⟨v, u, rfl, rv, ru⟩ := rps2 hv
    exact ⟨v, u, d, d', rfl, rfl, ed, ed', rv, ru⟩
  unfold biOp at e
  split at e
  · rename_i ys em
    cases e
    obtain ⟨v, d, rfl, rfl, ed, rv⟩ := one em
    obtain ⟨a, vs, rfl, h1, r1⟩ := pk_lst g rv ed
    exact call_len_seq pins s σ H _ us Q I r ⟨a, vs, rfl, .inl (SqL.of h1), by rw [r1.length]; exact q.same g (.int _)⟩
  · rename_i ys em
    cases e
    obtain ⟨v, d, rfl, rfl, ed, rv⟩ := one em
    obtain ⟨a, vs, rfl, h1, _, r1, _⟩ := pk_tup g rv ed
    exact call_len_seq pins s σ H _ us Q I r ⟨a, vs, rfl, .inr (SqT.of h1), by rw [r1.length]; exact q.same g (.int _)⟩
  · rename_i ys em
    cases e
    obtain ⟨v, d, rfl, rfl, ed, rv⟩ := one em
    obtain ⟨a, rfl, h1⟩ := pk_scr g rv ed
    exact call_len_seq pins s σ H _ us Q I r ⟨a, _, rfl, .inl h1, by rw [List.length_map]; exact q.same g (.int _)⟩
  · rename_i z em
    obtain ⟨c, e⟩ := guard_ok e
    cases e
    obtain ⟨v, d, rfl, rfl, ed, rv⟩ := one em
    cases pk_str rv ed
    exact call_len_str pins s σ H _ us Q I r ⟨toS z, rfl, by rw [toS_len]; exact dec_of c, by rw [toS_len]; exact q.same g (.int _)⟩
  · rename_i i em
    cases e
    obtain ⟨v, d, rfl, rfl, ed, rv⟩ := one em
    cases pk_int rv ed
    exact call_abs pins s σ H _ us Q I r ⟨i, rfl, q.same g (.int _)⟩
  · rename_i ys em
    obtain ⟨v, d, rfl, rfl, ed, rv⟩ := one em
    obtain ⟨a, vs, rfl, h1, r1⟩ := pk_lst g rv ed
    split at e
    · rename_i ns en
      cases e
      cases r1.ints en
      exact cr_sum hc pins s σ H _ us Q I r ⟨a, ns, rfl, SqL.of h1, q.same g (.int _)⟩
    · cases e
  · rename_i ys em
    obtain ⟨v, d, rfl, rfl, ed, rv⟩ := one em
    obtain ⟨a, vs, rfl, h1, r1⟩ := pk_lst g rv ed
    split at e
    · rename_i ns en
      obtain ⟨c, e⟩ := guard_ok e
      cases e
      cases r1.ints en
      have hne : ns ≠ [] := by intro z; subst z; simp at c
      obtain ⟨m1, m2⟩ := maxOf_ok ns hne
      refine cr_max hc pins s σ H _ us Q I r ⟨a, ns, rfl, SqL.of h1, List.length_pos_iff.mpr hne, fun m k1 k2 => ?_⟩
      have : m = maxOf ns := by have := k2 _ m1; have := m2 _ k1; omega
      rw [this]
      exact q.same g (.int _)
    · cases e
  · rename_i ys em
    obtain ⟨v, d, rfl, rfl, ed, rv⟩ := one em
    obtain ⟨a, vs, rfl, h1, r1⟩ := pk_lst g rv ed
    split at e
    · rename_i ns en
      obtain ⟨c, e⟩ := guard_ok e
      cases e
      cases r1.ints en
      have hne : ns ≠ [] := by intro z; subst z; simp at c
      obtain ⟨m1, m2⟩ := minOf_ok ns hne
      refine cr_min hc pins s σ H _ us Q I r ⟨a, ns, rfl, SqL.of h1, List.length_pos_iff.mpr hne, fun m k1 k2 => ?_⟩
      have : m = minOf ns := by have := k2 _ m1; have := m2 _ k1; omega
      rw [this]
      exact q.same g (.int _)
    · cases e
  · rename_i i j em
    cases e
    obtain ⟨v, u, d, d', rfl, rfl, ed, ed', rv, ru⟩ := two em
    cases pk_int rv ed
    cases pk_int ru ed'
    exact call_max2 hc pins s σ H _ us Q I r ⟨i, j, rfl, q.same g (.int _)⟩
  · rename_i i j em
    cases e
    obtain ⟨v, u, d, d', rfl, rfl, ed, ed', rv, ru⟩ := two em
    cases pk_int rv ed
    cases pk_int ru ed'
    exact call_min2 hc pins s σ H _ us Q I r ⟨i, j, rfl, q.same g (.int _)⟩
  · rename_i ys em
    obtain ⟨v, d, rfl, rfl, ed, rv⟩ := one em
    obtain ⟨a, vs, rfl, h1, r1⟩ := pk_lst g rv ed
    split at e
    · rename_i bs en
      cases e
      cases r1.bls en
      exact cr_any hc pins s σ H _ us Q I r ⟨a, bs, rfl, SqL.of h1, q.same g (.bl _)⟩
    · cases e
  · rename_i ys em
    obtain ⟨v, d, rfl, rfl, ed, rv⟩ := one em
    obtain ⟨a, vs, rfl, h1, r1⟩ := pk_lst g rv ed
    split at e
    · rename_i bs en
      cases e
      cases r1.bls en
      exact cr_all hc pins s σ H _ us Q I r ⟨a, bs, rfl, SqL.of h1, q.same g (.bl _)⟩
    · cases e
  · rename_i i em
    cases e
    obtain ⟨v, d, rfl, rfl, ed, rv⟩ := one em
    cases pk_int rv ed
    exact call_int1 pins s σ H _ us Q I r (.inl ⟨i, rfl, q.same g (.int _)⟩)
  · rename_i i em
    cases e
    obtain ⟨v, d, rfl, rfl, ed, rv⟩ := one em
    cases pk_bl rv ed
    exact call_int1 pins s σ H _ us Q I r (.inr ⟨i, rfl, q.same g (.int _)⟩)
  · rename_i ys em
    cases e
    obtain ⟨v, d, rfl, rfl, ed, rv⟩ := one em
    obtain ⟨a, vs, rfl, h1, r1⟩ := pk_lst g rv ed
    exact call_list_of pins s σ H _ us Q I r ⟨a, vs, rfl, .inl (SqL.of h1), fun p hp => q.newL g hp rfl r1⟩
  · rename_i ys em
    cases e
    obtain ⟨v, d, rfl, rfl, ed, rv⟩ := one em
    obtain ⟨a, vs, rfl, h1, _, r1, _⟩ := pk_tup g rv ed
    exact call_list_of pins s σ H _ us Q I r ⟨a, vs, rfl, .inr (SqT.of h1), fun p hp => q.newL g hp rfl r1⟩
  · rename_i ys em
    cases e
    obtain ⟨v, d, rfl, rfl, ed, rv⟩ := one em
    obtain ⟨a, vs, rfl, h1, r1⟩ := pk_lst g rv ed
    exact call_tuple_of pins s σ H _ us Q I r ⟨a, vs, rfl, .inl ⟨SqL.of h1, fun p hp => q.newT g hp rfl r1⟩⟩
  · rename_i ys em
    cases e
    obtain ⟨v, d, rfl, rfl, ed, rv⟩ := one em
    obtain ⟨a, vs, rfl, h1, g1, r1, _⟩ := pk_tup g rv ed
    exact call_tuple_of pins s σ H _ us Q I r ⟨a, vs, rfl, .inr ⟨SqT.of h1, q.same g (.tup g1 r1)⟩⟩
  · rename_i ys em
    obtain ⟨v, d, rfl, rfl, ed, rv⟩ := one em
    obtain ⟨a, vs, rfl, h1, r1⟩ := pk_lst g rv ed
    split at e
    · rename_i ns en
      cases e
      cases r1.ints en
      refine cr_sortedI pins s σ H _ us Q I r ⟨a, ns, rfl, SqL.of h1, fun ns' p k1 k2 hp => ?_⟩
      have : ns' = sortI ns := sorted_unique (k1.trans (sortI_perm ns).symm) k2 (sortI_sorted ns)
      rw [this]
      exact q.newL g hp rfl (Rps.ofInts _)
    · cases e
  · exact absurd rfl hb
  · rename_i ys em
    obtain ⟨v, d, rfl, rfl, ed, rv⟩ := one em
    obtain ⟨a, vs, rfl, h1, r1⟩ := pk_lst g rv ed
    split at e
    · rename_i ps en
      cases e
      obtain ⟨w1, w2⟩ := prs_of g r1 en
      refine cr_sortedPO pins s σ H _ us Q I r ⟨a, vs, prK H, rfl, SqL.of h1, fun x hx => (w1 x hx).1, fun zs p k1 k2 hp => ?_⟩
      have hm : ∀ z ∈ zs, z ∈ vs := fun z hz => k2.perm.mem_iff.mp hz
      have hs : zs.map (prK H) = sortPr ps := prs_uniq k1 (by rw [← w2]; exact k2.perm.map _)
      refine q.newL g hp rfl ?_
      rw [← hs, List.map_map]
      exact prs_rps fun z hz => (w1 z (hm z hz)).2
    · cases e
  · rename_i i em
    obtain ⟨c, e⟩ := guard_ok e
    cases e
    obtain ⟨v, d, rfl, rfl, ed, rv⟩ := one em
    cases pk_int rv ed
    refine SkE.call_repr_int pins s σ H _ us Q I r ⟨i, rfl, log2_ltR (dec_of c), ?_⟩
    show Q (.str (Str.ofString (toString i))) H
    rw [← figs_strR]
    exact q.same g (.str _)
  · rename_i ys em
    obtain ⟨v, d, rfl, rfl, ed, rv⟩ := one em
    obtain ⟨a, vs, rfl, h1, r1⟩ := pk_lst g rv ed
    split at e
    · rename_i ss en
      obtain ⟨c, e⟩ := guard_ok e
      cases e
      have ev := r1.strs en
      subst ev
      refine cr_sortedS pins s σ H _ us Q I r ⟨a, ss.map toS, rfl, ?_, by rw [List.length_map]; exact dec_of c, fun zs p k1 k2 hp => ?_⟩
      · rw [List.map_map]
        exact SqL.of h1
      · rw [sortS_of k1 k2, List.map_map]
        exact q.newL g hp rfl (Rps.ofStrs _)
    · cases e
  · cases e
/-! ### isinstance -/
def tyName : Ty → String
  | .int => "int"
  | .bool => "bool"
  | .str => "str"
  | .list => "list"
  | .tuple => "tuple"
theorem ty_of (g : Good K G ix S H) {v : V} {d : D} (r : Rp K G ix v d) {t : Ty} {b : Bool} (e : isTy t (pk S d) = .ok b) : ∃ T, TyX K H v (.type T) ∧ ∀ t' b', isTy t' (pk S d) = .ok b' → PySem.W.kitOne K (.type T) (.type (tyName t')) = some b' := by
  have fin : ∀ (T : String) (f : Ty → Bool), (∀ t', kitB T (tyName t') = some (f t')) → (∀ t', isTy t' (pk S d) = .ok (f t')) → ∀ t' b', isTy t' (pk S d) = .ok b' → PySem.W.kitOne K (.type T) (.type (tyName t')) = some b' := fun T f h1 h2 t' b' h3 => by
    rw [h2 t'] at h3
    cases h3
    exact kit_ty (h1 t')
  cases ed : pk S d with
  | non =>
    cases pk_non r ed
    rw [ed] at fin
    exact ⟨"NoneType", .base .non, fin _ (fun _ => false) (fun t' => by cases t' <;> decide +kernel) fun t' => rfl⟩
  | bl x =>
    cases pk_bl r ed
    rw [ed] at fin
    exact ⟨"bool", .base (.bl x), fin _ (fun t => t == .bool || t == .int) (fun t' => by cases t' <;> decide +kernel) fun t' => rfl⟩
  | int x =>
    cases pk_int r ed
    rw [ed] at fin
    exact ⟨"int", .base (.int x), fin _ (fun t => t == .int) (fun t' => by cases t' <;> decide +kernel) fun t' => rfl⟩
  | str x =>
    cases pk_str r ed
    rw [ed] at fin
    exact ⟨"str", .base (.str _), fin _ (fun t => t == .str) (fun t' => by cases t' <;> decide +kernel) fun t' => rfl⟩
  | tup xs =>
    obtain ⟨a, vs, rfl, h1, _, r1, _⟩ := pk_tup g r ed
    rw [ed] at fin
    exact ⟨"tuple", .base (.tup h1), fin _ (fun t => t == .tuple) (fun t' => by cases t' <;> decide +kernel) fun t' => rfl⟩
  | lst xs =>
    obtain ⟨a, vs, rfl, h1, r1⟩ := pk_lst g r ed
    rw [ed] at fin
    exact ⟨"list", .base (.lst h1), fin _ (fun t => t == .list) (fun t' => by cases t' <;> decide +kernel) fun t' => rfl⟩
  | scr xs =>
    obtain ⟨a, rfl, h1⟩ := pk_scr g r ed
    rw [ed] at fin
    have k := fin "list" (fun t => t == .list) (fun t' => by cases t' <;> decide +kernel) fun t' => rfl
    rcases h1 with (h1 | ⟨o, h1⟩) | ⟨o, its, n, hk, hc, _⟩
    · exact ⟨"list", .base (.lst h1), k⟩
    · exact ⟨"list", .base (.frz h1), k⟩
    · exact ⟨"list", .kList hk hc, k⟩
  | obj n => rw [ed] at e; cases e
  | ex n => rw [ed] at e; cases e
/-! ### methods of a list of the store -/
theorem ixs_mem {n : Nat} {a : Addr} (h : ix[n]? = some a) : a ∈ ix := List.mem_of_getElem? h
/-- what stands at a place is another thing now -/
theorem Good.updC (g : Good K G ix S H) {n : Nat} {a : Addr} {c c' : Cell} {o' : HO} (hn : ix[n]? = some a) (hs : S[n]? = some c) (hc : c ≠ .dead) (hc' : c' ≠ .dead) (r : CellR K G ix a (some o') c') : Good K G ix (S.set n c') (upd H a o') := by
  obtain ⟨a', e1, e3, e4⟩ := g.cel n c hs hc
  rw [hn] at e1; cases e1
  have hl : n < S.length := (List.getElem?_eq_some_iff.mp hs).1
  have gne : ∀ b o, G b = some o → b ≠ a := fun b o q z => by subst z; rw [e3] at q; cases q
  refine ⟨fun b o q => ?_, by rw [List.length_set]; exact g.len, fun b hb => ?_, fun m d q hd => ?_, fun m k b zs ws h1 h2 h3 h4 h5 h6 => ?_⟩
  · rw [upd_ne (gne b o q)]; exact g.le b o q
  · by_cases e : b = a
    · subst e; exact ⟨_, upd_same⟩
    · rw [upd_ne e]; exact g.there b hb
  · by_cases e : n = m
    · subst e
      rw [List.getElem?_set_self hl] at q
      cases q
      exact ⟨a, hn, e3, by rw [upd_same]; exact r⟩
    · rw [List.getElem?_set_ne e] at q
      obtain ⟨b, f1, f3, f4⟩ := g.cel m d q hd
      have ne : b ≠ a := fun z => by subst z; exact e (g.inj n m b c d hn f1 hs q hc hd)
      exact ⟨b, f1, f3, by rw [upd_ne ne]; exact f4⟩
  · have live : ∀ (m : Nat) (d : Cell), (S.set n c')[m]? = some d → d ≠ .dead → ∃ w, S[m]? = some w ∧ w ≠ .dead := fun m d q hd => by
      by_cases e : n = m
      · subst e; exact ⟨c, hs, hc⟩
      · rw [List.getElem?_set_ne e] at q; exact ⟨d, q, hd⟩
    obtain ⟨z1, k1, l1⟩ := live m zs h3 h5
    obtain ⟨z2, k2, l2⟩ := live k ws h4 h6
    exact g.inj m k b z1 z2 h1 h2 k1 k2 l1 l2
/-- the list at a place is another one now -/
theorem Good.upd (g : Good K G ix S H) {n : Nat} {a : Addr} {xs ys : List D} {us : List V} (hn : ix[n]? = some a) (hs : S[n]? = some (.lst xs)) (r : Rps K G ix us ys) : Good K G ix (S.set n (.lst ys)) (upd H a (.lst us)) :=
  g.updC hn hs (by intro z; cases z) (by intro z; cases z) ⟨us, rfl, r⟩
theorem Stp.upd (g : Good K G ix S H) {n : Nat} {a : Addr} {o : HO} (hn : ix[n]? = some a) : Stp G ix H G ix (upd H a o) where
  g := Le.refl _
  i := Ixs.refl _
  keep := fun b u h hb => by rw [upd_ne (fun z => hb (by subst z; exact ixs_mem hn))]; exact h
  there := fun b h => by
    by_cases e : b = a
    · subst e; rw [upd_same] at h; cases h
    · rw [upd_ne e] at h; exact h
  new := fun _ _ h => .inl h
  fresh := fun _ h => .inl h
def meName : Me → String
  | .append => "append"
  | .extend => "extend"
  | .pop => "pop"
  | .reverse => "reverse"
  | .count => "count"
  | .insert => "insert"
/-- whether a value is None -/
def isNo : Value → Bool
  | .none => true
  | _ => false
theorem cnt_vals {A : Around} {s : Shared} : ∀ {vs : List V} {ds : List D} {us : List Value}, Rps K G ix vs ds → Vals vs us → ds.all noneOrInt = true →
    (∀ y ∈ us, SeqAt.EqAt A s y .none (isNo y)) ∧ us.countP isNo = ds.countP (fun d => decide (d = .non))
  | _, _, _, .nil, .nil, _ => ⟨fun _ h => (by cases h), rfl⟩
  | _, _, _, .cons r rs, .cons (b := u) v vs, h => by
    simp only [List.all_cons, Bool.and_eq_true] at h
    obtain ⟨h1, h2⟩ := cnt_vals (A := A) (s := s) rs vs h.2
    cases r with
    | non =>
      have e : u = .none := v
      subst e
      refine ⟨fun y hy => ?_, by simp [List.countP_cons, h2, isNo]⟩
      rcases List.mem_cons.mp hy with rfl | hy
      · exact SeqAt.EqAt.same _
      · exact h1 y hy
    | int i =>
      obtain ⟨t, rfl⟩ := (v : ∃ t, u = .int i t)
      refine ⟨fun y hy => ?_, by simp [List.countP_cons, h2, isNo]⟩
      rcases List.mem_cons.mp hy with rfl | hy
      · exact SeqAt.EqAt.int_none _ _
      · exact h1 y hy
    | _ => exact absurd h.1 (by simp [noneOrInt])
def rMe (K : PySem.W.Frag) (m : Me) : V → List V → Hp → VK → Prop := fun x vs H Q => ∃ G ix S n a ds w S', Good K G ix S H ∧ x = .ref a ∧ ix[n]? = some a ∧ Rps K G ix vs ds ∧ meOp m n ds S = .ok (w, S') ∧ PostE K G ix H w S' Q
theorem mt_me (m : Me) : MtR X ("list." ++ meName m) (rMe X.K m) := by
  intro pins s σ H x xs v us Q I rx rxs h
  obtain ⟨G, ix, S, n, a, ds, w, S', g, rfl, hn, rv, e, q⟩ := h
  unfold meOp at e
  split at e
  · rename_i ys hs
    obtain ⟨a', vs, e1, e2, e3, e4⟩ := g.cell n ys hs
    rw [hn] at e1; cases e1
    split at e
    · rename_i d
      obtain ⟨c, e⟩ := guard_ok e
      cases e
      obtain ⟨v', rfl, r1⟩ := rps1 rv
      exact mt_append pins s σ H _ _ v us Q I rx rxs ⟨a, vs, v', rfl, rfl, e2, by rw [e4.length]; exact dec_of c, q _ _ _ _ (Stp.upd g hn) (g.upd hn hs (e4.append (.cons r1 .nil))) .non⟩
    · rename_i d
      obtain ⟨v', rfl, r1⟩ := rps1 rv
      split at e
      · rename_i zs ez
        obtain ⟨c, e⟩ := guard_ok e
        cases e
        obtain ⟨b, ws, rfl, f1, f2⟩ := pk_lst g r1 ez
        exact mt_extend pins s σ H _ _ v us Q I rx rxs ⟨a, b, vs, ws, rfl, rfl, e2, f1, by rw [e4.length, f2.length]; exact dec_of c, q _ _ _ _ (Stp.upd g hn) (g.upd hn hs (e4.append f2)) .non⟩
      · cases e
    · cases rv
      split at e
      · rename_i d ed
        cases e
        rw [List.getLast?_eq_getElem?] at ed
        obtain ⟨v', f1, f2⟩ := e4.get ed
        refine mt_pop pins s σ H _ _ v us Q I rx rxs ⟨a, vs, v', rfl, rfl, e2, by rw [e4.length]; exact f1, q _ _ _ _ (Stp.upd g hn) (g.upd hn hs e4.dropLast) f2⟩
      · cases e
    · cases rv
      cases e
      exact mt_reverse pins s σ H _ _ v us Q I rx rxs ⟨a, vs, rfl, rfl, e2, q _ _ _ _ (Stp.upd g hn) (g.upd hn hs e4.reverse) .non⟩
    · rename_i i d
      obtain ⟨c, e⟩ := guard_ok e
      cases e
      simp only [Bool.and_eq_true, decide_eq_true_eq] at c
      obtain ⟨v', u', rfl, r1, r2⟩ := rps2 rv
      cases r1
      exact mt_insert pins s σ H _ _ v us Q I rx rxs ⟨a, vs, i, u', rfl, rfl, e2, by rw [e4.length]; exact c.1, c.2.1, c.2.2, q _ _ _ _ (Stp.upd g hn) (g.upd hn hs (((e4.take i.toNat).append (.cons r2 .nil)).append (e4.drop i.toNat))) .non⟩
    · obtain ⟨c, e⟩ := guard_ok e
      cases e
      obtain ⟨v', rfl, r1⟩ := rps1 rv
      cases r1
      cases rx
      obtain ⟨u, rfl, ru⟩ := rxs.one
      have ru : u = .none := ru
      subst ru
      obtain ⟨z, its, k, r, hl, eo⟩ := I.lstM e2
      obtain ⟨c1, c2⟩ := cnt_vals (A := _) (s := s) e4 r c
      refine call_meets PySem.F.slot_list_count ⟨_, eo, rfl⟩ PySem.F.entry_list_count (PySem.F.args_list_count_2 _ _) (SeqAt.list_countAt a its.toArray k none #[] .none isNo) ⟨eo, fun y hy => c1 y (by simpa using hy), ?_⟩
      have hv : RpW X.K ix H G ix S H (.int ((ys.countP fun d => decide (d = .non) : Nat) : Int)) (.d (.int ((ys.countP fun d => decide (d = .non) : Nat) : Int))) := Rp.int _
      refine ⟨.int ((ys.countP fun d => decide (d = .non) : Nat) : Int), H, I.tok _, ⟨s.toks, ?_⟩, q.same g hv⟩
      show Value.int ((its.toArray.toList.countP isNo : Nat) : Int) s.toks = _
      rw [show its.toArray.toList = its from rfl, c2]
    · cases e
  · cases e
end
end Nl

/-! Which text of the model a text of the small language stands for. -/
namespace Nl
open PySem L2
/-- the module's names: its defs, its constants -/
structure Nms where
  fn : List (Str × Option Str)
  gl : List Str
  /-- classes whose instances are used -/
  cl : List Nat
  /-- refusals that may be raised; classes of refusals that are named -/
  xr : List Nat
  xc : List Nat
def vis (sc : Scope) (x : Str) : Bool := match sc.names.lookup x with
  | some .local => true
  | some .cell => true
  | some .free => true
  | _ => false
def loc (sc : Scope) (x : Str) : Bool := match sc.names.lookup x with
  | some .local => true
  | some .cell => true
  | _ => false
def glb (sc : Scope) (x : Str) : Bool := match sc.names.lookup x with
  | some .globalImplicit => true
  | _ => false
/-- no name of the machine's own -/
def okN (x : Str) : Bool := !(x == ("__debug__" : Str)) && (!(x == ("__classdict__" : Str)) && !(x == ("__name__" : Str)))
/-- a built-in's name that the text has as it is -/
def isB (sc : Scope) (s : String) (x : Str) : Bool := x == Str.ofString s && glb sc x
theorem vis_ok {sc : Scope} {x : Str} (h : vis sc x = true) : Vis sc x := by
  unfold vis at h
  split at h
  · exact .inl (by assumption)
  · exact .inr (.inl (by assumption))
  · exact .inr (.inr (by assumption))
  · cases h
theorem loc_ok {sc : Scope} {x : Str} (h : loc sc x = true) : Loc sc x := by
  unfold loc at h
  split at h
  · exact .inl (by assumption)
  · exact .inr (by assumption)
  · cases h
theorem glb_ok {sc : Scope} {x : Str} (h : glb sc x = true) : sc.names.lookup x = some .globalImplicit := by
  unfold glb at h
  split at h
  · assumption
  · cases h
theorem okN_ok {x : Str} (h : okN x = true) : (x == ("__debug__" : Str)) = false ∧ (x == ("__classdict__" : Str)) = false ∧ x ≠ "__name__" := by
  unfold okN at h
  simp only [Bool.and_eq_true, Bool.not_eq_true'] at h
  exact ⟨h.1, h.2.1, fun e => by rw [e] at h; simp at h⟩
/-- the names of a comprehension's own -/
def ownOf (N : List Str) (own : List Nat) : List (Str × Nat) := own.map fun i => (N.getD i Str.empty, i)
theorem ownOf_snd (N : List Str) (own : List Nat) : (ownOf N own).map (·.2) = own := by
  unfold ownOf
  rw [List.map_map]
  exact List.map_id' own
/-- a target: a name, or several -/
def chkNames (N : List Str) (sc : Scope) : List Nat → List Expr → Bool
  | [], [] => true
  | i :: is, .Name x _ :: xs => decide (N[i]? = some x) && (loc sc x && chkNames N sc is xs)
  | _, _ => false
def chkTg (N : List Str) (sc : Scope) : Tg → Expr → Bool
  | .n i, .Name x _ => decide (N[i]? = some x) && loc sc x
  | .t is, .Tuple xs _ _ => chkNames N sc is xs
  | _, _ => false
/-- what a method may be called of -/
def recv : Expr → Bool
  | .Name _ _ => true
  | .Subscript _ _ _ => true
  | .Attribute _ _ _ => true
  | .Call (.Attribute _ _ _) _ _ _ => true
  | .Call (.Name _ _) (_ :: _) _ _ => true
  | _ => false
theorem recv_base {o : Expr} (h : recv o = true) (f : Str) (env : PySem.Env) : attributeBase o f env (eval o env) = eval o env := by
  unfold recv at h
  split at h <;> first | rfl | cases h
/-- a class of the text -/
def clStr (c : Nat) : Str := Str.ofString (clName c)
/-- the class of a refusal by its name; behind them ValueError -/
def chkX (nm : Nms) (sc : Scope) (k : Nat) : Expr → Bool
  | .Name x _ => if k = exVE then isB sc "ValueError" x else (decide (x = Str.ofString (exName k)) && (nm.xc.contains k && (glb sc x && okN x)))
  | _ => false
def chkXs (nm : Nms) (sc : Scope) : List Nat → List Expr → Bool
  | [], [] => true
  | k :: ks, e :: es => chkX nm sc k e && chkXs nm sc ks es
  | _, _ => false
def isIfX : Expr → Bool
  | .IfExp _ _ _ _ => true
  | _ => false
/-- what may be a test -/
def tstE : E → Bool
  | .box _ => false
  | .unbox _ => false
  | .orv _ _ => false
  | _ => true
def okT (c : E) (e : Expr) : Bool := !isIfX e && tstE c
theorem okT_ok {c : E} {e : Expr} (h : okT c e = true) : isIfX e = false ∧ tstE c = true := by
  unfold okT at h
  simpa using h
def tgIs : Tg → List Nat
  | .n i => [i]
  | .t is => is
def isTupX : Expr → Bool
  | .Tuple _ _ _ => true
  | _ => false
def chkTy (sc : Scope) (t : Ty) : Expr → Bool
  | .Name x _ => isB sc (tyName t) x
  | _ => false
/-- the keys of a displayed dict -/
def chkKey (k : List Nat) : Option Expr → Bool
  | some (.Constant (.str x) _ _) => decide (x = toS k)
  | _ => false
theorem chkKey_ok {k : List Nat} {e : Option Expr} (h : chkKey k e = true) : ∃ j p, e = some (.Constant (.str (toS k)) j p) := by
  unfold chkKey at h
  split at h
  · exact ⟨_, _, by rw [of_decide_eq_true h]⟩
  · cases h
def chkK : List (List Nat) → List (Option Expr) → Bool
  | [], es => es.isEmpty
  | _ :: _, [] => false
  | k :: ks, e :: es => chkKey k e && chkK ks es
section
variable (nm : Nms) (N : List Str)
mutual
def chk : E → Scope → Expr → Bool
  | .var i, sc, e => (match e with
    | .Name x _ => decide (N[i]? = some x) && (vis sc x && okN x)
    | _ => false)
  | .non, _, e => (match e with
    | .Constant .none _ _ => true
    | _ => false)
  | .bl b, _, e => (match e with
    | .Constant (.bool c) _ _ => b == c
    | _ => false)
  | .int i, _, e => (match e with
    | .Constant (.int j) _ _ => decide (i = j)
    | _ => false)
  | .str s, _, e => (match e with
    | .Constant (.str x) _ _ => decide (x = toS s)
    | _ => false)
  | .glob g, sc, e => (match e with
    | .Name x _ => decide (nm.gl[g]? = some x) && (glb sc x && okN x)
    | _ => false)
  | .bin o a b, sc, e => (match e with
    | .BinOp l op r _ => decide (op = pyB o) && (chk a sc l && chk b sc r)
    | _ => false)
  | .neg a, sc, e => (match e with
    | .UnaryOp .USub x _ => chk a sc x
    | _ => false)
  | .cmp o a b, sc, e => (match e with
    | .Compare l [op] [r] _ => decide (op = pyC o) && (chk a sc l && chk b sc r)
    | _ => false)
  | .chain o o' a b c, sc, e => (match e with
    | .Compare l [p, q] [r, t] _ => decide (p = pyC o) && (decide (q = pyC o') && (chk a sc l && (chk b sc r && chk c sc t)))
    | _ => false)
  | .isN a, sc, e => (match e with
    | .Compare l [.Is] [.Constant .none _ _] _ => chk a sc l
    | _ => false)
  | .notN a, sc, e => (match e with
    | .Compare l [.IsNot] [.Constant .none _ _] _ => chk a sc l
    | _ => false)
  | .and a b, sc, e => (match e with
    | .BoolOp .And [x, y] _ => okT a x && (okT b y && (chk a sc x && chk b sc y))
    | .BoolOp .And (x :: y :: z :: r) p => okT a x && tstE b && (chk a sc x && chk b sc (.BoolOp .And (y :: z :: r) p))
    | _ => false)
  | .or a b, sc, e => (match e with
    | .BoolOp .Or [x, y] _ => okT a x && (okT b y && (chk a sc x && chk b sc y))
    | .BoolOp .Or (x :: y :: z :: r) p => okT a x && tstE b && (chk a sc x && chk b sc (.BoolOp .Or (y :: z :: r) p))
    | _ => false)
  | .not a, sc, e => (match e with
    | .UnaryOp .Not x _ => okT a x && chk a sc x
    | _ => false)
  | .ife c a b, sc, e => (match e with
    | .IfExp t x y _ => okT c t && (chk c sc t && (chk a sc x && chk b sc y))
    | _ => false)
  | .tup es, sc, e => (match e with
    | .Tuple xs _ _ => chks es sc xs
    | _ => false)
  | .lst es, sc, e => (match e with
    | .List xs _ => chks es sc xs
    | _ => false)
  | .ix a b, sc, e => (match e with
    | .Subscript x y _ => chk a sc x && chk b sc y
    | _ => false)
  | .sl a lo hi, sc, e => (match e with
    | .Subscript x (.Slice l h none _) _ => chk a sc x && ((match l with
        | none => isNonE lo
        | some y => !isNonE lo && chk lo sc y) && (match h with
        | none => isNonE hi
        | some y => !isNonE hi && chk hi sc y))
    | _ => false)
  | .call f es, sc, e => (match e with
    | .Call (.Name x _) args [] _ => decide (nm.fn[f]? = some (x, none)) && (glb sc x && (okN x && chks es sc args))
    | _ => false)
  | .bi b es, sc, e => (match e with
    | .Call (.Name x _) (a :: args) [] _ => (match b with
      | .sset => isB sc "sorted" x && (match a, args with
        | .Call (.Name y _) (c :: cs) [] _, [] => isB sc "set" y && (cs.isEmpty && chks es sc (c :: cs))
        | _, _ => false)
      | b => isB sc (biName b) x && chks es sc (a :: args))
    | _ => false)
  | .isi a t, sc, e => (match e with
    | .Call (.Name x _) [y, z] [] _ => isB sc "isinstance" x && (chk a sc y && chkTy sc t z)
    | _ => false)
  | .isis a ts, sc, e => (match e with
    | .Call (.Name x _) [y, .Tuple [z, u] _ _] [] _ => isB sc "isinstance" x && (chk a sc y && (match ts with
      | [t, t'] => chkTy sc t z && chkTy sc t' u
      | _ => false))
    | _ => false)
  | .me m a es, sc, e => (match e with
    | .Call (.Attribute o name apos) args [] cpos => decide (name = Str.ofString (meName m)) && (recv o && apos.endLine == cpos.line && (decide (args.length < 30) && (chk a sc o && chks es sc args)))
    | _ => false)
  | .lc el tg k a b own, sc, e => (match e with
    | .ListComp elt [⟨target, iter, [], 0⟩] scope _ => blkC N sc scope (ownOf N own) && ((tgIs tg).all (fun i => own.contains i) && chkTg N scope tg target && ((match k, iter with
        | .seq, it => chk a sc it && isNonE b
        | .rng1, .Call (.Name x _) [y] [] _ => isB sc "range" x && (chk a sc y && isNonE b)
        | .rng2, .Call (.Name x _) [y, z] [] _ => isB sc "range" x && (chk a sc y && chk b sc z)
        | .enm, .Call (.Name x _) [y] [] _ => isB sc "enumerate" x && (isTupX target && (chk a sc y && isNonE b))
        | .zp, .Call (.Name x _) [y, z] [] _ => isB sc "zip" x && (isTupX target && (chk a sc y && chk b sc z))
        | .rev, .Call (.Name x _) [y] [] _ => isB sc "reversed" x && (chk a sc y && isNonE b)
        | .rr1, .Call (.Name x _) [.Call (.Name y _) [z] [] _] [] _ => isB sc "reversed" x && (isB sc "range" y && (chk a sc z && isNonE b))
        | .rr2, .Call (.Name x _) [.Call (.Name y _) [z, u] [] _] [] _ => isB sc "reversed" x && (isB sc "range" y && (chk a sc z && chk b sc u))
        | _, _ => false) && chk el (relS scope sc) elt))
    | _ => false)
  | .lcIf el tg k a b c own, sc, e => (match e with
    | .ListComp elt [⟨target, iter, [i], 0⟩] scope _ => blkC N sc scope (ownOf N own) && ((tgIs tg).all (fun i => own.contains i) && chkTg N scope tg target && ((match k, iter with
        | .seq, it => chk a sc it && isNonE b
        | .rng1, .Call (.Name x _) [y] [] _ => isB sc "range" x && (chk a sc y && isNonE b)
        | .rng2, .Call (.Name x _) [y, z] [] _ => isB sc "range" x && (chk a sc y && chk b sc z)
        | .enm, .Call (.Name x _) [y] [] _ => isB sc "enumerate" x && (isTupX target && (chk a sc y && isNonE b))
        | .zp, .Call (.Name x _) [y, z] [] _ => isB sc "zip" x && (isTupX target && (chk a sc y && chk b sc z))
        | .rev, .Call (.Name x _) [y] [] _ => isB sc "reversed" x && (chk a sc y && isNonE b)
        | .rr1, .Call (.Name x _) [.Call (.Name y _) [z] [] _] [] _ => isB sc "reversed" x && (isB sc "range" y && (chk a sc z && isNonE b))
        | .rr2, .Call (.Name x _) [.Call (.Name y _) [z, u] [] _] [] _ => isB sc "reversed" x && (isB sc "range" y && (chk a sc z && chk b sc u))
        | _, _ => false) && (okT c i && chk c (relS scope sc) i && chk el (relS scope sc) elt)))
    | _ => false)
  | .lrng k a b, sc, e => (match e with
    | .Call (.Name x _) [.Call (.Name y _) args [] _] [] _ => isB sc "list" x && (isB sc "range" y && (match k, args with
      | .rng1, [u] => chk a sc u && isNonE b
      | .rng2, [u, v] => chk a sc u && chk b sc v
      | _, _ => false))
    | _ => false)
  | .trng k a b, sc, e => (match e with
    | .Call (.Name x _) [.Call (.Name y _) args [] _] [] _ => isB sc "tuple" x && (isB sc "range" y && (match k, args with
      | .rng1, [u] => chk a sc u && isNonE b
      | .rng2, [u, v] => chk a sc u && chk b sc v
      | _, _ => false))
    | _ => false)
  | .lsn a, sc, e => (match e with
    | .Call (.Name x _) [.Call (.Name y _) [u] [] _] [] _ => isB sc "len" x && (isB sc "set" y && chk a sc u)
    | _ => false)
  | .lidx a b, sc, e => (match e with
    | .Call (.Attribute o name apos) [u] [] cpos => decide (name = Str.ofString "index") && (recv o && apos.endLine == cpos.line && (chk a sc o && chk b sc u))
    | _ => false)
  | .isB neg b a, sc, e => (match e with
    | .Compare l [op] [.Constant (.bool c) _ _] _ => decide (op = if neg then .IsNot else .Is) && (b == c && chk a sc l)
    | _ => false)
  | .rev1 a, sc, e => (match e with
    | .Subscript x (.Slice none none (some (.UnaryOp .USub (.Constant (.int i) _ _) _)) _) _ => decide (i = 1) && chk a sc x
    | _ => false)
  | .orv a b, sc, e => (match e with
    | .BoolOp .Or [x, y] _ => chk a sc x && chk b sc y
    | _ => false)
  | .dnew _, _, e => (match e with
    | .Dict [] [] _ => true
    | _ => false)
  | .din neg k d, sc, e => (match e with
    | .Compare l [op] [r] _ => decide (op = if neg then .NotIn else .In) && (chk k sc l && chk d sc r)
    | _ => false)
  | .dget d k, sc, e => (match e with
    | .Subscript x y _ => chk d sc x && chk k sc y
    | _ => false)
  | .dgetD d k z, sc, e => (match e with
    | .Call (.Attribute o name apos) [x, y] [] cpos => decide (name = Str.ofString "get") && (recv o && apos.endLine == cpos.line && (chk d sc o && (chk k sc x && chk z sc y)))
    | _ => false)
  | .dlen d, sc, e => (match e with
    | .Call (.Name x _) [y] [] _ => isB sc "len" x && chk d sc y
    | _ => false)
  | .dlist d, sc, e => (match e with
    | .Call (.Name x _) [y] [] _ => isB sc "list" x && chk d sc y
    | _ => false)
  | .fld c a f, sc, e => (match e with
    | .Attribute o name _ => nm.cl.contains c && decide (name = Str.ofString (fdName f)) && (decide (f < fdNames.length) && (recv o && chk a sc o))
    | _ => false)
  | .meth f c a es, sc, e => (match e with
    | .Call (.Attribute o name apos) args [] cpos => nm.cl.contains c && decide (nm.fn[f]? = some (clStr c, some name)) && (!(fdNames.any fun g => Str.ofString g == name) && (recv o && apos.endLine == cpos.line && (decide (args.length < 30) && (chk a sc o && chks es sc args))))
    | _ => false)
  | .make f c es, sc, e => (match e with
    | .Call (.Name x _) args [] _ => decide (x = clStr c) && (decide (nm.fn[f]? = some (clStr c, some (Str.ofString "__init__"))) && (glb sc x && (okN x && chks es sc args)))
    | _ => false)
  | .isx al a ks, sc, e => (match e with
    | .Call (.Name x _) [y, z] [] _ => isB sc "isinstance" x && (al.all fun k => nm.xr.contains k) && (chk a sc y && (match z with
      | .Tuple zs _ _ => decide (ks.length ≤ 100) && chkXs nm sc ks zs
      | z => (match ks with
        | [k] => chkX nm sc k z
        | _ => false)))
    | _ => false)
  | .strI a, sc, e => (match e with
    | .Call (.Name x _) [y] [] _ => isB sc "str" x && chk a sc y
    | _ => false)
  | .maxd a d, sc, e => (match e with
    | .Call (.Name x _) [u] [⟨some k, v, _⟩] _ => isB sc "max" x && (decide (k = Str.ofString "default") && (chk a sc u && chk d sc v))
    | _ => false)
  | .shw a, sc, e => (match e with
    | .Call (.Name x _) [y] [] _ => isB sc "repr" x && chk a sc y
    | _ => false)
  | .revc q a, sc, e => (match e with
    | .Subscript x (.Slice none (some (.Constant (.int i) _ _)) (some (.UnaryOp .USub (.Constant (.int j) _ _) _)) _) _ => decide (i = (q : Int)) && (decide (j = 1) && chk a sc x)
    | _ => false)
  | .nnew, _, e => (match e with
    | .Dict [] [] _ => true
    | _ => false)
  | .ngetD d k z, sc, e => (match e with
    | .Call (.Attribute o name apos) [x, y] [] cpos => decide (name = Str.ofString "get") && (recv o && apos.endLine == cpos.line && (chk d sc o && (chk k sc x && chk z sc y)))
    | _ => false)
  | .ddis ks es, sc, e => (match e with
    | .Dict keys values _ => chkK ks keys && (decide (ks.Nodup) && (!ks.isEmpty && (decide (ks.length ≤ 15) && (decide (keys.length = values.length) && chks es sc values))))
    | _ => false)
  | .dkl d, sc, e => (match e with
    | .Call (.Name x _) [.Call (.Attribute o name apos) [] [] cpos] [] _ => isB sc "list" x && (decide (name = Str.ofString "keys") && (recv o && apos.endLine == cpos.line && chk d sc o))
    | _ => false)
  | .ssp a, sc, e => (match e with
    | .Call (.Name x _) [.Call (.Name y _) [u] [] _] [] _ => isB sc "sorted" x && (isB sc "set" y && chk a sc u)
    | _ => false)
  | .box a, sc, e => chk a sc e
  | .unbox a, sc, e => chk a sc e
def chks : Es → Scope → List Expr → Bool
  | .nil, _, xs => xs.isEmpty
  | .cons e es, sc, xs => (match xs with
    | x :: xs => chk e sc x && chks es sc xs
    | [] => false)
end
end
/-! ### ordinary expressions: nothing of the machine's marks -/
def ord : Expr → Bool
  | .Constant _ _ _ => true
  | .Name _ _ => true
  | .BoolOp _ _ _ => true
  | .BinOp _ _ _ _ => true
  | .UnaryOp _ _ _ => true
  | .IfExp _ _ _ _ => true
  | .List _ _ => true
  | .Tuple _ _ _ => true
  | .ListComp _ _ _ _ => true
  | .Compare _ _ _ _ => true
  | .Call _ _ _ _ => true
  | .Subscript _ _ _ => true
  | .Attribute _ _ _ => true
  | .Dict _ _ _ => true
  | _ => false
theorem chk_ord {nm : Nms} {N : List Str} : ∀ (c : E) (sc : Scope) (e : Expr), chk nm N c sc e = true → ord e = true
  | .box a, sc, e, h => chk_ord a sc e (by simpa [chk] using h)
  | .unbox a, sc, e, h => chk_ord a sc e (by simpa [chk] using h)
  | .var _, _, e, h => by unfold chk at h; split at h <;> first | rfl | cases h
  | .non, _, e, h => by unfold chk at h; split at h <;> first | rfl | cases h
  | .bl _, _, e, h => by unfold chk at h; split at h <;> first | rfl | cases h
  | .int _, _, e, h => by unfold chk at h; split at h <;> first | rfl | cases h
  | .str _, _, e, h => by unfold chk at h; split at h <;> first | rfl | cases h
  | .glob _, _, e, h => by unfold chk at h; split at h <;> first | rfl | cases h
  | .bin _ _ _, _, e, h => by unfold chk at h; split at h <;> first | rfl | cases h
  | .neg _, _, e, h => by unfold chk at h; split at h <;> first | rfl | cases h
  | .cmp _ _ _, _, e, h => by unfold chk at h; split at h <;> first | rfl | cases h
  | .chain _ _ _ _ _, _, e, h => by unfold chk at h; split at h <;> first | rfl | cases h
  | .isN _, _, e, h => by unfold chk at h; split at h <;> first | rfl | cases h
  | .notN _, _, e, h => by unfold chk at h; split at h <;> first | rfl | cases h
  | .and _ _, _, e, h => by unfold chk at h; split at h <;> first | rfl | cases h
  | .or _ _, _, e, h => by unfold chk at h; split at h <;> first | rfl | cases h
  | .not _, _, e, h => by unfold chk at h; split at h <;> first | rfl | cases h
  | .ife _ _ _, _, e, h => by unfold chk at h; split at h <;> first | rfl | cases h
  | .tup _, _, e, h => by unfold chk at h; split at h <;> first | rfl | cases h
  | .lst _, _, e, h => by unfold chk at h; split at h <;> first | rfl | cases h
  | .ix _ _, _, e, h => by unfold chk at h; split at h <;> first | rfl | cases h
  | .sl _ _ _, _, e, h => by unfold chk at h; split at h <;> first | rfl | cases h
  | .call _ _, _, e, h => by unfold chk at h; split at h <;> first | rfl | cases h
  | .bi _ _, _, e, h => by unfold chk at h; split at h <;> first | rfl | cases h
  | .isi _ _, _, e, h => by unfold chk at h; split at h <;> first | rfl | cases h
  | .isis _ _, _, e, h => by unfold chk at h; split at h <;> first | rfl | cases h
  | .me _ _ _, _, e, h => by unfold chk at h; split at h <;> first | rfl | cases h
  | .isB _ _ _, _, e, h => by unfold chk at h; split at h <;> first | rfl | cases h
  | .rev1 _, _, e, h => by unfold chk at h; split at h <;> first | rfl | cases h
  | .orv _ _, _, e, h => by unfold chk at h; split at h <;> first | rfl | cases h
  | .dnew _, _, e, h => by unfold chk at h; split at h <;> first | rfl | cases h
  | .din _ _ _, _, e, h => by unfold chk at h; split at h <;> first | rfl | cases h
  | .dget _ _, _, e, h => by unfold chk at h; split at h <;> first | rfl | cases h
  | .dgetD _ _ _, _, e, h => by unfold chk at h; split at h <;> first | rfl | cases h
  | .dlen _, _, e, h => by unfold chk at h; split at h <;> first | rfl | cases h
  | .dlist _, _, e, h => by unfold chk at h; split at h <;> first | rfl | cases h
  | .fld _ _ _, _, e, h => by unfold chk at h; split at h <;> first | rfl | cases h
  | .meth _ _ _ _, _, e, h => by unfold chk at h; split at h <;> first | rfl | cases h
  | .make _ _ _, _, e, h => by unfold chk at h; split at h <;> first | rfl | cases h
  | .isx _ _ _, _, e, h => by unfold chk at h; split at h <;> first | rfl | cases h
  | .strI _, _, e, h => by unfold chk at h; split at h <;> first | rfl | cases h
  | .maxd _ _, _, e, h => by unfold chk at h; split at h <;> first | rfl | cases h
  | .shw _, _, e, h => by unfold chk at h; split at h <;> first | rfl | cases h
  | .revc _ _, _, e, h => by unfold chk at h; split at h <;> first | rfl | cases h
  | .nnew, _, e, h => by unfold chk at h; split at h <;> first | rfl | cases h
  | .ngetD _ _ _, _, e, h => by unfold chk at h; split at h <;> first | rfl | cases h
  | .ddis _ _, _, e, h => by unfold chk at h; split at h <;> first | rfl | cases h
  | .dkl _, _, e, h => by unfold chk at h; split at h <;> first | rfl | cases h
  | .ssp _, _, e, h => by unfold chk at h; split at h <;> first | rfl | cases h
  | .lrng _ _ _, _, e, h => by unfold chk at h; split at h <;> first | rfl | cases h
  | .trng _ _ _, _, e, h => by unfold chk at h; split at h <;> first | rfl | cases h
  | .lsn _, _, e, h => by unfold chk at h; split at h <;> first | rfl | cases h
  | .lidx _ _, _, e, h => by unfold chk at h; split at h <;> first | rfl | cases h
  | .lc _ _ _ _ _ _, _, e, h => by unfold chk at h; split at h <;> first | rfl | cases h
  | .lcIf _ _ _ _ _ _ _, _, e, h => by unfold chk at h; split at h <;> first | rfl | cases h
section
variable {env : PySem.Env}
theorem ord_star {e : Expr} (h : ord e = true) (es : List Expr) : starEach (e :: es) env = (false, eval e env) :: starEach es env := by
  cases e <;> first | rfl | cases h
theorem ord_ix {e : Expr} (h : ord e = true) : PlainIx e := by
  intro o i
  cases e <;> first | rfl | cases h
theorem ord_mark {e : Expr} (h : ord e = true) (op : CmpOp) : behindInMarks op e = false := by
  cases e <;> first | rfl | cases h
theorem ord_fold {e : Expr} (h : ord e = true) (x : Value) : foldedSetIterable e env x = pure x := by
  cases e <;> first | rfl | cases h
def isLc : Expr → Bool
  | .ListComp _ _ _ _ => true
  | _ => false
theorem ord_swap {e : Expr} (h : ord e = true) (hl : isLc e = false) (t : Option Expr) (l : Nat) : swapsWith e t l env = pure false := by
  cases e <;> first | rfl | (cases hl; done) | (cases h; done)
theorem chks_star {nm : Nms} {N : List Str} {sc : Scope} : ∀ (c : Es) (es : List Expr), chks nm N c sc es = true → ∀ (pos : Pos), (backTo pos (starEach es env)).any (·.1) = false
  | .nil, [], _, pos => rfl
  | .nil, _ :: _, h, pos => by simp [chks] at h
  | .cons c cs, [], h, pos => by simp [chks] at h
  | .cons c cs, e :: es, h, pos => by
    simp only [chks, Bool.and_eq_true] at h
    rw [ord_star (chk_ord c sc e h.1)]
    show (false || (backTo pos (starEach es env)).any (·.1)) = false
    rw [chks_star cs es h.2 pos]
    rfl
theorem chks_few {nm : Nms} {N : List Str} {sc : Scope} : ∀ (c : Es) (es : List Expr), chks nm N c sc es = true → ∀ (pos : Pos), (backTo pos (starEach es env)).all (fun x => !x.1) = true
  | .nil, [], _, pos => rfl
  | .nil, _ :: _, h, pos => by simp [chks] at h
  | .cons c cs, [], h, pos => by simp [chks] at h
  | .cons c cs, e :: es, h, pos => by
    simp only [chks, Bool.and_eq_true] at h
    rw [ord_star (chk_ord c sc e h.1)]
    show (true && (backTo pos (starEach es env)).all (fun x => !x.1)) = true
    rw [chks_few cs es h.2 pos]
    rfl
end
end Nl

/-! Calls where no guard of repr is open: a def's promise, kept there alone. -/
namespace Nl
open PySem L2 PyProof.Rows PySem.Spec
/-- a def's promise where no guard is open -/
structure FnG (P : Program) (w : World) (K : PySem.W.Frag) (mg : Str → Option Value) (base : Heap) (CX : CXT) (k : Nat) (f : Addr) (fd : FuncData) (ps : List Str) (sp : Sp) : Prop where
  len : ∀ vs H Q E, sp vs H Q E → vs.length = ps.length
  run : ∀ (A : Around), A.guards = some [] → ∀ (below : List PySem.Env) (s : Shared) (G : Hp) (args : Args) (us : List Value) (vs : List V) (Q : VK) (E : XK), Room k A →
    Env0 P w K mg base A below s G → BindsTo s fd args (ps.zip us) → Vals vs us → sp vs G Q E → codeAny (model P w) A (.call (.ref f) args) (CR CX below P w G s Q E) s
theorem guard_make {A : Around} (C : Addr) (us : List Value) (g : A.guards = some []) : (A.under (.builtin "type.__call__" ⟨.ref C :: us, []⟩)).guards = some [] := by
  have e : (Code.builtin "type.__call__" ⟨.ref C :: us, []⟩).guards = [] := by
    have : (Code.builtin "type.__call__" ⟨.ref C :: us, []⟩).isGuard = false := (show guardIds.contains "type.__call__" = false by decide +kernel)
    simp [Code.guards, this]
  simp [Around.under, e, pushGuards, g]
section
variable {X : Cx} {CX : CXT} {k : Nat} {f C : Addr} {fd : FuncData} {ps : List Str} {sp : Sp} {E : L2.St → XK} {x : Str} {p pos : Pos} {e : Expr} {es : List Expr} {t : TA}
theorem CR.ok_of {below : List PySem.Env} {G : Hp} {s s' : Shared} {Q : VK} {E : XK} {r : Result} {A : Prop} (h : CR CX below X.prog X.w G s Q E r s') (h1 : ∀ u, r = .ok (.ret u) → CE below X.prog X.w G s Q u s' → A) (h2 : ∀ e, r = .error e → CX below G s E e s' → A) : A := by
  rcases r with e | fl
  · exact h2 e rfl h
  · cases fl with
    | ret u => exact h1 u rfl h
    | _ => cases h
theorem run_fnG {pins : List (Addr × Obj)} {σ : L2.St} {G : Hp} {s : Shared} {Q : VK} {us : List Value} {vs : List V} (F : FnG X.prog X.w X.K X.mg X.base CX k f fd ps sp) (gd : X.A.guards = some []) (rm : Room k X.A) (bd : Binds X.K fd ps []) (px : PassesAt CX X σ (E σ))
    (I : Inv X pins σ G s) (rv : Vals vs us) (h : sp vs G Q (E σ)) : wpAny (model X.prog X.w) X.A (PySem.call (.ref f) us) (EP X pins σ Q) X.xe s := by
  have len2 : us.length = ps.length := rv.length ▸ F.len _ _ _ _ h
  have bnd : BindsTo s fd ⟨us, []⟩ (ps.zip us) := by
    have := bd s us I.kIn (by simpa using len2)
    simpa using this
  exact wpAny_call (codeAny_mono (F.run X.A gd X.stack s G ⟨us, []⟩ us vs Q (E σ) rm I.env0 bnd rv h) fun r s' z =>
    CR.ok_of z (fun u er c => by subst er; exact I.after c) fun e er c => by subst er; exact px pins G s e s' I c)
theorem pe_callG (F : FnG X.prog X.w X.K X.mg X.base CX k f fd ps sp) (gd : X.A.guards = some []) (rm : Room k X.A) (hg : Gl X x) (hm : X.mg x = some (.ref f)) (hk : PySem.W.keepIn X.K (.ref f) = true) (bd : Binds X.K fd ps []) (px : ∀ σ, PassesAt CX X σ (E σ))
    (pa : PA X (e :: es) t) (nd : (x == ("__debug__" : Str)) = false) (st : starEach (e :: es) X.env = (false, eval e X.env) :: starEach es X.env) (pl : (backTo pos (starEach es X.env)).any (·.1) = false) :
    PE X (.Call (.Name x p) (e :: es) [] pos) (tCallS sp E t) := ⟨fun pins s σ G Q I h =>
  wpAny_Call_Name_kw (ld_glob I hg hm (PySem.W.callWith_K (h₀ := X.base) I.ok.mod.kin hk (thn (pa.run pos pins s σ G _ I h) fun us s1 z => by
    obtain ⟨vs, G1, I1, r, q⟩ := z
    exact ⟨I1.kIn, run_fnG F gd rm bd (px σ) I1 r q⟩) st pl) nd)⟩
theorem run_makeG {E : XK} {pins : List (Addr × Obj)} {σ : L2.St} {G : Hp} {s : Shared} {Q : VK} {us : List Value} {vs : List V} (M : Mk X.K C f) (F : FnG X.prog X.w X.K X.mg X.base CX k f fd ps sp) (gd : X.A.guards = some []) (rm : Room (k + 1) X.A) (bd : Binds X.K fd ps []) (px : Passes CX X E)
    (I : Inv X pins σ G s) (rv : Vals vs us) (h : ∀ y dy, G y = none → G dy = none → dy ≠ y → sp (.ref y :: (vs ++ [])) (upd (upd G dy (.own y)) y (.ins C dy [])) (fun v G2 => v = .non ∧ Q (.ref y) G2) E) :
    wpAny (model X.prog X.w) X.A (PySem.call (.ref C) us) (EP X pins σ Q) X.xe s := by
  have I2 := Inv.made (C := C) I
  have lt := Nat.lt_succ_self s.heap.objs.size
  have h2 := h (s.heap.objs.size + 1) s.heap.objs.size (I.hok.fresh (Nat.le_of_lt lt)) (I.hok.fresh (Nat.le_refl _)) (Nat.ne_of_lt lt)
  rw [List.append_nil] at h2
  have rv2 : Vals (V.ref (s.heap.objs.size + 1) :: vs) (Value.ref (s.heap.objs.size + 1) :: us) := .cons rfl rv
  have len2 : (Value.ref (s.heap.objs.size + 1) :: us).length = ps.length := by
    rw [← rv2.length]
    exact F.len _ _ _ _ h2
  have bnd := bd _ (Value.ref (s.heap.objs.size + 1) :: us) I2.kIn (by rw [List.append_nil]; exact len2)
  rw [List.append_nil] at bnd
  have go := F.run _ (guard_make C us gd) X.stack _ _ ⟨Value.ref (s.heap.objs.size + 1) :: us, []⟩ (Value.ref (s.heap.objs.size + 1) :: us) _ _ E (rm.make C us []) (I2.env0.make C us []) bnd rv2 h2
  refine wpAny_call (make_map (f := f) I.kIn M.makes M.init (beq_iff_eq.mp M.fn) (codeAny_mono go fun r s' z => CR.ok_of z (fun u er c => ?_) fun e er c => ?_))
  · subst er
    obtain ⟨v, G', I3, rv3, ev, q3⟩ := I2.after c
    subst ev
    exact ⟨rv3, ⟨V.ref (s.heap.objs.size + 1), G', I3, rfl, q3⟩⟩
  · subst er
    exact px pins σ _ _ e s' I2 c
theorem pe_makeG {E : XK} (M : Mk X.K C f) (F : FnG X.prog X.w X.K X.mg X.base CX k f fd ps sp) (gd : X.A.guards = some []) (rm : Room (k + 1) X.A) (hg : Gl X x) (hm : X.mg x = some (.ref C)) (bd : Binds X.K fd ps []) (px : Passes CX X E)
    (pa : PA X (e :: es) t) (nd : (x == ("__debug__" : Str)) = false) (st : starEach (e :: es) X.env = (false, eval e X.env) :: starEach es X.env) (pl : (backTo pos (starEach es X.env)).any (·.1) = false) :
    PE X (.Call (.Name x p) (e :: es) [] pos) (tMake C sp [] E t) := ⟨fun pins s σ G Q I h =>
  wpAny_Call_Name_kw (ld_glob I hg hm (PySem.W.callWith_K (h₀ := X.base) I.ok.mod.kin M.kp (thn (pa.run pos pins s σ G _ I h) fun us s1 z => by
    obtain ⟨vs, G1, I1, r, q⟩ := z
    exact ⟨I1.kIn, run_makeG M F gd rm bd px I1 r q⟩) st pl) nd)⟩
theorem pe_makeG0 {E : XK} (M : Mk X.K C f) (F : FnG X.prog X.w X.K X.mg X.base CX k f fd ps sp) (gd : X.A.guards = some []) (rm : Room (k + 1) X.A) (hg : Gl X x) (hm : X.mg x = some (.ref C)) (bd : Binds X.K fd ps []) (px : Passes CX X E)
    (nd : (x == ("__debug__" : Str)) = false) : PE X (.Call (.Name x p) [] [] pos) (tMake C sp [] E tNil) := ⟨fun pins s σ G Q I h =>
  wpAny_Call_Name_kw (ld_glob I hg hm (PySem.W.callWith_K0 I.kIn M.kp (run_makeG (us := []) M F gd rm bd px I .nil h)) nd)⟩
end
section
variable {P : Program} {w : World} {K : PySem.W.Frag} {mg : Str → Option Value} {base : Heap} {x qual : Str} {params : Arguments} {body : List Stmt} {scope : Scope} {f : Addr} {fd : FuncData}
/-- a def of the text by its body -/
theorem funG {CX : CXT} {N ps : List Str} {k : Nat} {sp : Sp} (F : FunD K x qual params body scope [] [] f fd) (S : FnScope N ps scope) (len : ∀ vs H Q E, sp vs H Q E → vs.length = ps.length)
    (hbody : ∀ (cdv : Value) (A : Around), A.guards = some [] → ∀ (below : List PySem.Env) (s : Shared) (G : Hp) (vs : List V) (Q : VK) (E : XK), Room k (A.deeper (envOfC qual scope s.heap.objs.size f cdv)) → sp vs G Q E →
      ∃ t, PSs (cxOf CX P w K mg base N qual scope f cdv A below s G E) body t ∧ t { nx := fun _ G' => Q .non G', rt := Q } (L2.start N vs) G) : FnG P w K mg base CX (k + 1) f fd ps sp := by
  obtain ⟨oc, od, dV, kV, doc, pm, an, cdv, ct, osl, rfl, lk, hcd, _, _⟩ := F.ex
  constructor
  · exact len
  intro A gd below s G args us vs Q E rm e0 bnd rv hsp
  have old := fun b o e => (e0.bs b o e).1
  have kin : K.In s.heap := e0.mod.kin.keeps old
  have lim : s.heap.NoLimit := e0.mod.nolimit.keeps old
  have kinds : ∀ y ∈ ps.zip us, scope.names.lookup y.1 = some .local ∨ (scope.names.lookup y.1 = some .cell ∧ ((cellsFrom (s.heap.objs.size + 1) scope.names []).lookup y.1).isSome = true) := by
    intro y hy
    obtain ⟨n, v⟩ := y
    exact (S.par n (List.of_mem_zip hy).1).imp id fun q => ⟨q, PySem.W.cellsFrom_some _ _ _ (.inl q)⟩
  obtain ⟨t, ht, hq⟩ := hbody cdv A gd below s G vs Q E (rm.deeper _) hsp
  refine codeAny_call_function rm.depth (kin _ _ lk) rfl S.co S.gen rfl (PySem.W.codeRec_of kin hcd) (bnd _ _ _ _ (wpAny_newFunctionEnv_cells S.kind kinds fun env he s1 inn => ?_))
  subst he
  have I := inv_start (CX := CX) (E := E) S rm.hd e0 (len _ _ _ _ hsp) rv inn
  refine ⟨lim.keeps inn.toInCall.keep, codeAny_func (wpAny_mono (ht.run [] s1 (L2.start N vs) G _ I hq) (fun fl s' z => ?_) fun e s' z => z)⟩
  cases fl with
  | ret u =>
    obtain ⟨v, σ', G', J, rv2, q⟩ := z
    exact ⟨v, G', J.os, J.bare, J.base, J.hok, rv2, q⟩
  | next =>
    obtain ⟨σ', G', J, q⟩ := z
    exact ⟨V.non, G', J.os, J.bare, J.base, J.hok, rfl, q⟩
  | brk => exact z.elim fun _ z => z.elim fun _ z => z.2.elim
  | cont => exact z.elim fun _ z => z.elim fun _ z => z.2.elim
end
/-- a law's def called with the script: law_call of a promise that wants no guard open -/
theorem law_callG {P : Program} {w : World} {K : PySem.W.Frag} {mg mb : Str → Option Value} {CX : CXT} {k : Nat} {fa a : Addr} {fd : FuncData} {x : Str} {sp : Sp} {s1 : Shared} {us : List Value} {ns : List Int}
    (kin : K.In s1.heap) (hns : s1.heap.Ns mainGlobals mg) (hb : s1.heap.Ns builtinsNs mb) (hbb : ∀ x : Str, x ≠ "__name__" → mb x = bootBuiltins x) (lim : s1.heap.NoLimit) (hg : s1.gens = #[])
    (scr : s1.heap.get? a = some { cls := .type "list", data := .seq us.toArray }) (hi : IntsAre us ns) (hl : ns.length ≤ sizeLine) (rm : Room k callerA)
    (F : ∀ base : Heap, K.In base → base.Ns mainGlobals mg → FnG P w K mg base CX k fa fd [x] sp) (bnd : ∀ (s : Shared) (u : Value), BindsTo s fd ⟨[u], []⟩ [(x, u)])
    (hsp : ∀ G : Hp, Only G → SqL K G a (ns.map V.int) → sp [.ref a] G (fun v _ => v = .bl true) fun _ _ _ => False)
    (hCX : ∀ G e s', CX [] G s1 (fun _ _ _ => False) e s' → False) :
    codeAny (model P w) callerA (.call (.ref fa) ⟨[.ref a], []⟩) (fun r s' => r = .ok (.ret (.bool true)) ∧ PySem.OldK s1.heap s'.heap ∧ s'.os = s1.os ∧ AllBare s'.gens) s1 := by
  have rv := vals_ints hi
  have one : ∀ G : Hp, Only G → SqL K G a (ns.map V.int) → HOk P w G s1.heap → (∀ b, G b ≠ none → b = a) → (G a ≠ none → K.lookup a = none) →
      codeAny (model P w) callerA (.call (.ref fa) ⟨[.ref a], []⟩) (fun r s' => r = .ok (.ret (.bool true)) ∧ PySem.OldK s1.heap s'.heap ∧ s'.os = s1.os ∧ AllBare s'.gens) s1 := by
    intro G hO hS hok only notK
    have stay : ∀ {b : Addr} {o : Obj}, s1.heap.get? b = some o → b ≠ a → (hidT s1.heap G).get? b = some o := by
      intro b o e ne
      refine hidT_get e ?_
      cases q : G b with
      | none => rfl
      | some u => exact absurd (only b (by rw [q]; simp)) ne
    have dicts : ∀ {b : Addr} {m : Str → Option Value}, s1.heap.Ns b m → (hidT s1.heap G).Ns b m := by
      intro b m h
      obtain ⟨o, es, ep, e, d, r⟩ := h
      refine ⟨o, es, ep, stay e ?_, d, r⟩
      intro z
      subst z
      rw [scr] at e
      cases e
      cases (show Data.seq us.toArray _ = Data.dict es ep from d)
    have kin2 : K.In (hidT s1.heap G) := by
      intro b o e
      cases q : G b with
      | none => exact hidT_get (kin b o e) q
      | some u =>
        have z := only b (by rw [q]; simp)
        subst z
        have n := notK (by rw [q]; simp)
        rw [n] at e
        cases e
    have lim2 : (hidT s1.heap G).NoLimit := by
      obtain ⟨mc, h1, h2⟩ := lim
      exact ⟨mc, dicts h1, h2⟩
    have none_ : ∀ {b : Addr}, b ∈ ([] : List Addr) → False := fun z => by simp at z
    have e0 : Env0 P w K mg (hidT s1.heap G) callerA [] s1 G :=
      ⟨rfl, ⟨kin2, dicts hns, ⟨mb, dicts hb, hbb⟩, lim2⟩, fun _ _ => of_hidT, Nat.le_of_eq (hidT_size _ _), trivial, fun b z => absurd (show b ∈ ([] : List Addr) from z) (by simp), hok, .of_eq hg⟩
    have go := (F _ kin2 (dicts hns)).run callerA rfl [] s1 G ⟨[.ref a], []⟩ [.ref a] [.ref a] _ _ rm e0 (bnd s1 (.ref a)) (.cons rfl .nil) (hsp G hO hS)
    refine codeAny_mono go fun r s' h => ?_
    rcases r with e | fl
    · exact absurd h (fun h => hCX G e s' h)
    rcases fl with _ | _ | _ | u
    case ret =>
      obtain ⟨v, G', os, bare, un, hok2, rv2, q⟩ := h
      cases (show v = .bl true from q)
      cases (show u = Value.bool true from rv2)
      refine ⟨rfl, PySem.OldK.of_keep fun b o e => ?_, os, bare⟩
      cases q : G b with
      | none => exact un.keep b o e q (fun z => none_ z) (by simp)
      | some u =>
        rcases hO b with z | ⟨ob, xs, z⟩
        · rw [q] at z; cases z
        · have a1 := (hok b _ z).1
          have a2 := (hok2 b _ (un.frzs b ob _ z)).1
          rw [e] at a1
          cases a1
          exact a2
    all_goals exact False.elim h
  cases hk : K.lookup a with
  | some o =>
    have e := kin a o hk
    rw [scr] at e
    cases e
    refine one (fun _ => none) (fun _ => .inl rfl) (.inr ⟨_, us.toArray, _, hk, rfl, rfl, rfl, ?_, by simpa using rv⟩) (fun b u z => nomatch z) (fun b z => (z rfl).elim) fun z => (z rfl).elim
    rw [List.size_toArray, hi.length]
    exact hl
  | none =>
    let T : Hp := fun b => if b = a then some (HO.frz { cls := .type "list", data := .seq us.toArray } (.lst (ns.map V.int))) else none
    have yes : ∀ b, b = a → T b = some (HO.frz { cls := .type "list", data := .seq us.toArray } (.lst (ns.map V.int))) := fun b e => if_pos e
    have no : ∀ b, b ≠ a → T b = none := fun b e => if_neg e
    refine one T (fun b => ?_) (.inl (.inr ⟨_, yes a rfl⟩)) (fun b u z => ?_) (fun b z => ?_) fun _ => hk
    · by_cases e : b = a
      · exact .inr ⟨_, _, yes b e⟩
      · exact .inl (no b e)
    · by_cases e : b = a
      · rw [yes b e] at z
        cases z
        subst e
        refine ⟨scr, ?_, us, _, rv, scr⟩
        rw [List.length_map]
        exact hl
      · rw [no b e] at z
        cases z
    · by_cases e : b = a
      · exact e
      · exact absurd (no b e) z
theorem walkG {l : PySem.W.OpenLaw} {n k : Nat} {q : Program} {loose : List Str} {XP : (Str → Option Value) → Heap → Prop} {YP : World → Heap → Prop} {d : DefRec} {CX : CXT} {x : Str}
    (hn : l.most = some n) (hn2 : n ≤ sizeLine) (hdf : d.params.defaults = []) (rm : Room k callerA)
    (F : ∀ (w : World) (mg : Str → Option Value) (fa : Addr) (h : Heap), YP w h → h.Ns mainGlobals mg → mg d.name = some (.ref fa) →
      ∃ (K : PySem.W.Frag) (fd : FuncData) (sp : Sp), K.In h ∧ (∀ (s : Shared) (u : Value), BindsTo s fd ⟨[u], []⟩ [(x, u)]) ∧
        (∀ (G : Hp) (a : Addr) (ns : List Int), ns.length ≤ n → Only G → SqL K G a (ns.map V.int) → sp [.ref a] G (fun v _ => v = .bl true) fun _ _ _ => False) ∧
        ∀ base : Heap, K.In base → base.Ns mainGlobals mg → FnG l.prog w K mg base CX k fa fd [x] sp)
    (hCX : ∀ (G : Hp) (s : Shared) (e : Value) (s' : Shared), CX [] G s (fun _ _ _ => False) e s' → False) :
    PySem.W.WalkO q loose XP YP l.row.toRowW d [] (fun f vs => PySem.call f vs) :=
  Att.attach_call hn hdf fun w s0 s1 mg mb fa o pm cd doc a us ns Gr Y _ _ _ hmg scr isA len gens => by
    obtain ⟨K, fd, sp, kin, bnd, hsp, hF⟩ := F w mg fa _ Y Gr.T.g hmg
    exact law_callG kin Gr.T.g Gr.T.b Gr.T.builtins Gr.T.nolimit gens scr isA (Nat.le_trans len hn2) rm hF bnd (fun G hO hS => hsp G a ns len hO hS) fun G e s' => hCX G s1 e s'
end Nl

/-! What a text of the small language comes to is what the text of the model does: expressions. -/
namespace Nl
open PySem L2
/-- what is wanted behind a raise -/
def PostX (K : PySem.W.Frag) (G : Hp) (ix : List Addr) (H : Hp) (k : Nat) (S' : Store) (E : XK) : Prop := ∀ G' ix' H', Stp G ix H G' ix' H' → Good K G' ix' S' H' → E (.ref (clsA K (exName k))) none H'
theorem PostX.from {K : PySem.W.Frag} {G G1 : Hp} {ix ix1 : List Addr} {H H1 : Hp} {k : Nat} {S' : Store} {E : XK} (q : PostX K G ix H k S' E) (s : Stp G ix H G1 ix1 H1) : PostX K G1 ix1 H1 k S' E := fun G' ix' H' s' g => q G' ix' H' (s.trans s') g
/-- what a call of the f-th def asks -/
def spF (K : PySem.W.Frag) (cf : Cf) (f : Nat) : Sp := fun vs H Q E => ∃ G ix S ds, Good K G ix S H ∧ Rps K G ix vs ds ∧ ((∃ w S', cf f ds S = .ok (w, S') ∧ PostE K G ix H w S' Q) ∨ ∃ k S', cf f ds S = .exc k S' ∧ PostX K G ix H k S' E)
/-- the widest wish about exceptions that a context takes -/
def Wof (X : Cx) : WX := fun cls d σ H => ∀ u s', XE X (fun cls' d' σ' H' => cls' = cls ∧ d' = d ∧ σ' = σ ∧ H' = H) u s' → X.xe u s'
theorem wof_takes (X : Cx) : Takes X (Wof X) := fun u s' ⟨a, B, sI, pins, σ, H, cls, d, e, I, nb, up, sky, na, os, ag, w⟩ => w u s' ⟨a, B, sI, pins, σ, H, cls, d, e, I, nb, up, sky, na, os, ag, rfl, rfl, rfl, rfl⟩
theorem wof_of {X : Cx} {W : WX} (tk : Takes X W) {cls : Value} {d : Option Addr} {σ : L2.St} {H : Hp} (h : W cls d σ H) : Wof X cls d σ H := fun u s' ⟨a, B, sI, pins, σ', H', cls', d', e, I, nb, up, sky, na, os, ag, h1, h2, h3, h4⟩ => by
  subst h1 h2 h3 h4
  exact tk u s' ⟨a, B, sI, pins, σ', H', cls', d', e, I, nb, up, sky, na, os, ag, h⟩
/-- the names of built-ins that texts may use -/
def bNames : List String := ["len", "abs", "sum", "max", "min", "any", "all", "int", "bool", "str", "list", "tuple", "sorted", "set", "isinstance", "range", "enumerate", "zip", "reversed", "ValueError", "repr"]
/-- the class of a refusal, as a value -/
def exV (K : PySem.W.Frag) (c : Nat) : Value := if c = exVE then .type "ValueError" else .ref (clsA K (exName c))
/-- what is known of the classes of refusals -/
structure XFacts (K : PySem.W.Frag) (mg : Str → Option Value) (xr xc : List Nat) : Prop where
  mgr : ∀ k ∈ xr, mg (Str.ofString (exName k)) = some (.ref (clsA K (exName k)))
  mg : ∀ k ∈ xc, mg (Str.ofString (exName k)) = some (.ref (clsA K (exName k)))
  exc : ∀ k ∈ xr, PySem.W.excIn K (clsA K (exName k)) He.veBase "ValueError.__new__" = true ∧ PySem.W.keepIn K (.ref (clsA K (exName k))) = true ∧ PySem.W.subIn K (.ref (clsA K (exName k))) (.type "BaseException") = some true ∧ PySem.W.typeIn K (.ref (clsA K (exName k))) = some (.type "type")
  is : ∀ k ∈ xr, ExcC K (clsA K (exName k))
  exm : ∀ k ∈ xr, ∀ c ∈ xc, PySem.W.exmOne K (.ref (clsA K (exName k))) (.ref (clsA K (exName c))) = some (isSub k c)
  kit : ∀ k ∈ xr, ∀ c, c ∈ xc ∨ c = exVE → PySem.W.kitOne K (.ref (clsA K (exName k))) (exV K c) = some (isSub k c)
/-- where a text of the small language runs -/
structure Ctx (nm : Nms) (gl : Nat → Option D) (cf : Cf) (X : Cx) : Prop where
  nd : X.N.Nodup
  calm : X.calm = true
  hu : X.A.units + 65 < cLine
  bi : ∀ s ∈ bNames, X.mg (Str.ofString s) = none
  fn : ∀ (f : Nat) (x : Str), nm.fn[f]? = some (x, none) → ∃ a k fd ps, Room k X.A ∧ X.mg x = some (.ref a) ∧ PySem.W.keepIn X.K (.ref a) = true ∧ Binds X.K fd ps [] ∧ FnG X.prog X.w X.K X.mg X.base (L2.CX X.prog X.w) k a fd ps (spF X.K cf f)
  mt : ∀ (f : Nat) (x m : Str), nm.fn[f]? = some (x, some m) → ∃ a k fd ps, Meth X.K (He.ga X.K x) m a ∧ Room k X.A ∧ Binds X.K fd ps [] ∧ FnG X.prog X.w X.K X.mg X.base (L2.CX X.prog X.w) k a fd ps (spF X.K cf f)
  mkr : ∀ (f : Nat) (x : Str), nm.fn[f]? = some (x, some (Str.ofString "__init__")) → ∃ a k fd ps, Mk X.K (He.ga X.K x) a ∧ X.mg x = some (.ref (He.ga X.K x)) ∧ Room (k + 1) X.A ∧ Binds X.K fd ps [] ∧ FnG X.prog X.w X.K X.mg X.base (L2.CX X.prog X.w) k a fd ps (spF X.K cf f)
  cl : ∀ c, c ∈ nm.cl → Cls X.K (clsA X.K (clName c)) ∧ ∀ g, g < fdNames.length → NoAttr X.K (clsA X.K (clName c)) (Str.ofString (fdName g))
  xc : XFacts X.K X.mg nm.xr nm.xc
  gl : ∀ (g : Nat) (x : Str) (d : D), nm.gl[g]? = some x → gl g = some d → ∃ v u, X.mg x = some u ∧ RelV v u ∧ ∀ G ix, Rp X.K G ix v d
  gd : X.A.guards = some []
theorem Ctx.blk {nm : Nms} {gl : Nat → Option D} {cf : Cf} {X : Cx} (C : Ctx nm gl cf X) (s : Shared) (H : Hp) (scope : Scope) (cenv : PySem.Env) (fp : List Addr) : Ctx nm gl cf (X.blk s H scope cenv fp) := ⟨C.nd, C.calm, C.hu, C.bi, C.fn, C.mt, C.mkr, C.cl, C.xc, C.gl, C.gd⟩
section
variable (gl : Nat → Option D) (cf : Cf)
/-- a reading that an expression's coming to something makes true -/
def SemE (K : PySem.W.Frag) (c : E) (t : TE) : Prop := ∀ σ H env G ix S w S' Q, EnvR K G ix σ env → Good K G ix S H → ev gl cf c env S = .ok (w, S') → PostE K G ix H w S' Q → t σ H Q
def AsgOk (X : Cx) (e : Expr) (t : TE) : Prop := ∀ (i : Nat) (y : Str) (py pos : Pos), X.N[i]? = some y → Loc X.env.scope y → X.fn y = true → PS X (.Assign [.Name y py] e pos) (tAsg t (gName i))
/-- .. that its raising something makes true -/
def SemX (X : Cx) (c : E) (t : TE) : Prop := ∀ σ H env G ix S k S' Q, EnvR X.K G ix σ env → Good X.K G ix S H → ev gl cf c env S = .exc k S' → PostX X.K G ix H k S' (WE (Wof X) σ) → t σ H Q
def SndE (X : Cx) (e : Expr) (c : E) : Prop := ∃ t, PE X e t ∧ AsgOk X e t ∧ SemE gl cf X.K c t ∧ SemX gl cf X c t
def SemT (K : PySem.W.Frag) (c : E) (t : TT) : Prop := ∀ σ H env G ix S b S' Q, EnvR K G ix σ env → Good K G ix S H → ev gl cf c env S = .ok (.d (.bl b), S') → (∀ G' ix' H', Stp G ix H G' ix' H' → Good K G' ix' S' H' → Q b H') → t σ H Q
def SemXT (X : Cx) (c : E) (t : TT) : Prop := ∀ σ H env G ix S k S' Q, EnvR X.K G ix σ env → Good X.K G ix S H → ev gl cf c env S = .exc k S' → PostX X.K G ix H k S' (WE (Wof X) σ) → t σ H Q
def SndT (X : Cx) (e : Expr) (c : E) : Prop := ∃ t, PT X e t ∧ SemT gl cf X.K c t ∧ SemXT gl cf X c t
def SemA (K : PySem.W.Frag) (c : Es) (t : TA) : Prop := ∀ σ H env G ix S ds S' Q, EnvR K G ix σ env → Good K G ix S H → evs gl cf c env S = .ok (ds, S') → (∀ vs G' ix' H', Stp G ix H G' ix' H' → Good K G' ix' S' H' → Rps K G' ix' vs ds → Q vs H') → t σ H Q
def SemXA (X : Cx) (c : Es) (t : TA) : Prop := ∀ σ H env G ix S k S' Q, EnvR X.K G ix σ env → Good X.K G ix S H → evs gl cf c env S = .exc k S' → PostX X.K G ix H k S' (WE (Wof X) σ) → t σ H Q
def SndA (X : Cx) (es : List Expr) (c : Es) : Prop := ∃ t, PA X es t ∧ SemA gl cf X.K c t ∧ SemXA gl cf X c t
end
section
variable {nm : Nms} {gl : Nat → Option D} {cf : Cf} {X : Cx}
/-! ### helpers -/
theorem asg_ord {e : Expr} {t : TE} (nd : X.N.Nodup) (ho : ord e = true) (hl : isLc e = false) (h : PE X e t) : AsgOk X e t := fun i y py pos hi hy hf => ps_set nd hi hy h (ord_swap ho hl _ _) (.inl hf)
theorem asg_lc {elt : Expr} {gs : List Comprehension} {scope : Scope} {p : Pos} {t : TE} (nd : X.N.Nodup) (h : PE X (.ListComp elt gs scope p) t)
    (hs : ∀ (i : Nat) (y : Str) (py spos : Pos), X.N[i]? = some y → X.env.scope.names.lookup y = some .local → swapsWith (.ListComp elt gs scope p) (some (.Name y py)) spos.line X.env = pure true → PS X (.Assign [.Name y py] (.ListComp elt gs scope p) spos) (tAsg t (gName i))) :
    AsgOk X (.ListComp elt gs scope p) t := fun i y py pos hi hy hf => by
  have e : swapsWith (.ListComp elt gs scope p) (some (.Name y py)) pos.line X.env = pure (X.env.blockKind == .function && X.env.kindOf y == some .local && py.line == (Expr.ListComp elt gs scope p).pos.line && !(scope.names.any fun (n, k) => n == y && (k == .local || k == .cell))) := rfl
  cases q : (X.env.blockKind == .function && X.env.kindOf y == some .local && py.line == (Expr.ListComp elt gs scope p).pos.line && !(scope.names.any fun (n, k) => n == y && (k == .local || k == .cell))) with
  | false => exact ps_set nd hi hy h (by rw [e, q]) (.inl hf)
  | true =>
    refine hs i y py pos hi ?_ (by rw [e, q])
    simp only [Bool.and_eq_true] at q
    have := q.1.1.2
    exact beq_iff_eq.mp this
/-- data behind an expression: what was made is frozen -/
theorem SemE.data {K : PySem.W.Frag} {c : E} {t : TE} (h : SemE gl cf K c t) {σ : L2.St} {H : Hp} {env : Env} {G : Hp} {ix : List Addr} {S : Store} {w : W} {S' : Store} {Q : VK} (r : EnvR K G ix σ env) (g : Good K G ix S H) (e : ev gl cf c env S = .ok (w, S'))
    (q : ∀ v G' ix' H', Stp G ix H G' ix' H' → Good K G' ix' S' H' → Rp K G' ix' v w.toD → Q v H') : t σ H Q := h σ H env G ix S w S' Q r g e fun v G' ix' H' s g' rw => by
  obtain ⟨G2, s2, g2, r2⟩ := rw.data s g'
  exact q v G2 ix' H' s2 g2 r2
theorem ok2 {α β : Type} {r : Res α} {f : α → Res β} {b : β} (h : r.bind f = .ok b) : ∃ a, r = .ok a ∧ f a = .ok b := Res.bind_eq_ok.mp h
/-! ### what raises nothing -/
def Res.NX {α : Type} (r : Res α) : Prop := ∀ k S, r ≠ .exc k S
theorem nx_ok {α : Type} {a : α} : (Res.ok a).NX := fun _ _ h => by cases h
theorem nx_err {α : Type} : (Res.err : Res α).NX := fun _ _ h => by cases h
theorem nx_guard {α : Type} {c : Bool} {r : Res α} (h : r.NX) : (guard' c r).NX := by
  unfold guard'
  split
  · exact h
  · exact nx_err
theorem Res.NX.bind {α β : Type} {r : Res α} {f : α → Res β} (h : r.NX) (k : ∀ a, (f a).NX) : (r.bind f).NX := fun c S e => by
  rcases Res.bind_eq_exc.mp e with e | ⟨a, _, e⟩
  · exact h c S e
  · exact k a c S e
theorem Res.calm_nx {α : Type} {r : Res α} : r.calm.NX := fun k S h => Res.calm_exc.mp h
theorem exc2 {α β : Type} {r : Res α} {f : α → Res β} {k : Nat} {S : Store} (h : r.bind f = .exc k S) : r = .exc k S ∨ ∃ a, r = .ok a ∧ f a = .exc k S := Res.bind_eq_exc.mp h
theorem nx_toB {w : W} : (toB w).NX := by
  unfold toB
  split
  · exact nx_ok
  · exact nx_err
theorem nx_intOp {o : Bop} {i j : Int} : (intOp o i j).NX := by
  cases o <;> simp only [intOp] <;> first | exact nx_ok | exact nx_guard nx_ok
theorem nx_binOp {o : Bop} {a b : D} : (binOp o a b).NX := by
  unfold binOp
  split
  · exact nx_intOp.bind fun _ => nx_ok
  all_goals first | exact nx_err | (split <;> first | exact nx_guard nx_ok | exact nx_err)
theorem nx_eqOp {a b : D} : (eqOp a b).NX := nx_guard nx_ok
theorem nx_inOp {a b : D} : (inOp a b).NX := by
  unfold inOp
  split <;> first | exact nx_guard nx_ok | exact nx_err | (split <;> first | exact nx_ok | exact nx_err)
theorem nx_cmpOp {o : Cop} {a b : D} : (cmpOp o a b).NX := by
  unfold cmpOp
  split
  · exact nx_eqOp
  · exact nx_eqOp.bind fun _ => nx_ok
  · exact nx_inOp
  · exact nx_inOp.bind fun _ => nx_ok
  · split
    · split <;> first | exact nx_ok | exact nx_err
    · split
      · split <;> first | exact nx_ok | exact nx_err
      · exact nx_err
    · exact nx_err
theorem nx_ixOp {a b : D} : (ixOp a b).NX := by
  unfold ixOp
  split
  · split
    · split <;> first | exact nx_ok | exact nx_err
    · split <;> first | exact nx_ok | exact nx_err
    · split <;> first | exact nx_ok | exact nx_err
    · refine nx_guard ?_
      split <;> first | exact nx_ok | exact nx_err
    · exact nx_err
  · exact nx_err
theorem nx_biOp {b : Bi} {as : List D} : (biOp b as).NX := by
  unfold biOp
  split <;> first | exact nx_ok | exact nx_guard nx_ok | exact nx_err | (split <;> first | exact nx_ok | exact nx_guard nx_ok | exact nx_err)
theorem nx_isTy {t : Ty} {d : D} : (isTy t d).NX := by
  unfold isTy
  split <;> first | exact nx_ok | exact nx_err
theorem nx_setTg {t : Tg} {d : D} {env : Env} : (setTg t d env).NX := by
  unfold setTg
  split
  · exact nx_ok
  · split <;> first | exact nx_guard nx_ok | exact nx_err
theorem nx_items {k : Ik} {a b : D} : (items k a b).NX := by
  cases k with
  | rr1 =>
    simp only [items, rng1Items]
    refine Res.NX.bind ?_ fun _ => nx_ok
    split <;> first | exact nx_guard nx_ok | exact nx_err
  | rr2 =>
    simp only [items, rng2Items]
    refine Res.NX.bind ?_ fun _ => nx_ok
    split <;> first | exact nx_guard nx_ok | exact nx_err
  | _ => simp only [items, seqItems, rng1Items, rng2Items, enmItems, zpItems, revItems] <;> split <;> first | exact nx_ok | exact nx_guard nx_ok | exact nx_err
theorem nx_rgItems {k : Ik} {a b : D} : (rgItems k a b).NX := by
  cases k <;> simp only [rgItems, rng1Items, rng2Items] <;> first | exact nx_err | (split <;> first | exact nx_ok | exact nx_guard nx_ok | exact nx_err)
theorem nx_meOp {m : Me} {n : Nat} {as : List D} {S : Store} : (meOp m n as S).NX := by
  unfold meOp
  split
  · split
    · exact nx_guard nx_ok
    · split <;> first | exact nx_guard nx_ok | exact nx_err
    · split <;> first | exact nx_ok | exact nx_err
    · exact nx_ok
    · exact nx_guard nx_ok
    · exact nx_guard nx_ok
    · exact nx_err
  · exact nx_err
theorem toB_ok {w : W} {b : Bool} (h : toB w = .ok b) : w = .d (.bl b) := by
  unfold toB at h
  split at h
  · cases h; rfl
  · cases h
/-- a truth as a value, as a test -/
theorem snd_t_val {e : Expr} {c : E} (h : SndE gl cf X e c) (he : ∀ whole, isTrue e X.env whole = (do let v ← whole; standAt e.pos; holding [v] (truthy v))) : SndT gl cf X e c := by
  obtain ⟨t, p, _, m, mx⟩ := h
  refine ⟨_, pt_val p he, fun σ H env G ix S b S' Q r g e q => ?_, fun σ H env G ix S k S' Q r g e q => mx σ H env G ix S k S' _ r g e q⟩
  refine m σ H env G ix S _ S' _ r g e fun v G' ix' H' s g' rw => ?_
  cases (show Rp X.K G' ix' v (.bl b) from rw)
  exact ⟨b, rfl, q G' ix' H' s g'⟩
/-- two operands -/
theorem sem2 {K : PySem.W.Frag} {a b : E} {ta tb : TE} (ha : SemE gl cf K a ta) (hb : SemE gl cf K b tb) {σ : L2.St} {H : Hp} {env : Env} {G : Hp} {ix : List Addr} {S : Store} {x y : W × Store} {R : V → V → Hp → Prop} (r : EnvR K G ix σ env) (g : Good K G ix S H)
    (ea : ev gl cf a env S = .ok x) (eb : ev gl cf b env x.2 = .ok y)
    (q : ∀ v u G' ix' H', Stp G ix H G' ix' H' → Good K G' ix' y.2 H' → Rp K G' ix' v x.1.toD → Rp K G' ix' u y.1.toD → R v u H') : ta σ H fun v H1 => tb σ H1 fun u H2 => R v u H2 :=
  ha.data r g (show ev gl cf a env S = .ok (x.1, x.2) from ea) fun v G1 ix1 H1 s1 g1 r1 => hb.data (r.stp s1) g1 (show ev gl cf b env x.2 = .ok (y.1, y.2) from eb) fun u G2 ix2 H2 s2 g2 r2 => q v u G2 ix2 H2 (s1.trans s2) g2 (r1.mono s2.g s2.i _ _) r2
/-- an operand raises -/
theorem semX1 {a : E} {ta : TE} (xa : SemX gl cf X a ta) {σ : L2.St} {H : Hp} {env : Env} {G : Hp} {ix : List Addr} {S : Store} {k : Nat} {S' : Store} {α : Type} {f : W × Store → Res α} {R : VK} (r : EnvR X.K G ix σ env) (g : Good X.K G ix S H)
    (e : (ev gl cf a env S).bind f = .exc k S') (hf : ∀ x, (f x).NX) (q : PostX X.K G ix H k S' (WE (Wof X) σ)) : ta σ H R := by
  rcases exc2 e with e1 | ⟨x, _, e⟩
  · exact xa σ H env G ix S k S' _ r g e1 q
  · exact absurd e (hf x k S')
theorem semX2 {a b : E} {ta tb : TE} (ma : SemE gl cf X.K a ta) (xa : SemX gl cf X a ta) (xb : SemX gl cf X b tb) {σ : L2.St} {H : Hp} {env : Env} {G : Hp} {ix : List Addr} {S : Store} {k : Nat} {S' : Store} {α : Type} {f : W × Store → W × Store → Res α} {R : V → V → Hp → Prop} (r : EnvR X.K G ix σ env) (g : Good X.K G ix S H)
    (e : ((ev gl cf a env S).bind fun x => (ev gl cf b env x.2).bind (f x)) = .exc k S') (hf : ∀ x y, (f x y).NX) (q : PostX X.K G ix H k S' (WE (Wof X) σ)) : ta σ H fun v H1 => tb σ H1 fun u H2 => R v u H2 := by
  rcases exc2 e with e1 | ⟨x, e1, e⟩
  · exact xa σ H env G ix S k S' _ r g e1 q
  · exact ma.data r g (show ev gl cf a env S = .ok (x.1, x.2) from e1) fun v G1 ix1 H1 s1 g1 r1 => semX1 xb (r.stp s1) g1 e (hf x) (q.from s1)
/-- the arguments raise -/
theorem semXA1 {a : Es} {ta : TA} (xa : SemXA gl cf X a ta) {σ : L2.St} {H : Hp} {env : Env} {G : Hp} {ix : List Addr} {S : Store} {k : Nat} {S' : Store} {α : Type} {f : List D × Store → Res α} {R : List V → Hp → Prop} (r : EnvR X.K G ix σ env) (g : Good X.K G ix S H)
    (e : (evs gl cf a env S).bind f = .exc k S') (hf : ∀ x, (f x).NX) (q : PostX X.K G ix H k S' (WE (Wof X) σ)) : ta σ H R := by
  rcases exc2 e with e1 | ⟨x, _, e⟩
  · exact xa σ H env G ix S k S' _ r g e1 q
  · exact absurd e (hf x k S')
/-- it raises nothing -/
theorem semX0 {c : E} {t : TE} (h : ∀ env S, (ev gl cf c env S).NX) : SemX gl cf X c t := fun σ H env G ix S k S' Q r g e q => absurd e (h env S k S')
theorem postE_bl {K : PySem.W.Frag} {G : Hp} {ix : List Addr} {H : Hp} {b : Bool} {S' : Store} {Q : VK} (q : PostE K G ix H (.d (.bl b)) S' Q) {G' : Hp} {ix' : List Addr} {H' : Hp} (s : Stp G ix H G' ix' H') (g : Good K G' ix' S' H') : Q (.bl b) H' := q _ G' ix' H' s g (.bl b)

/-! ### names and constants -/
theorem snd_var (C : Ctx nm gl cf X) {i : Nat} {x : Str} {pos : Pos} (hN : X.N[i]? = some x) (hv : Vis X.env.scope x) (hn : okN x = true) : SndE gl cf X (.Name x pos) (.var i) := by
  obtain ⟨n1, n2, _⟩ := okN_ok hn
  have p : PE X (.Name x pos) (tVar i) := pe_var hN hv n1 n2
  refine ⟨_, p, asg_ord C.nd rfl rfl p, fun σ H env G ix S w S' Q r g e q => ?_, semX0 fun env S => by unfold ev; split <;> first | exact nx_ok | exact nx_err⟩
  unfold ev at e
  split at e
  · rename_i d ed
    cases e
    obtain ⟨v, h1, h2⟩ := r.get i d ed
    exact ⟨v, h1, q.same g h2⟩
  · cases e
theorem snd_const (C : Ctx nm gl cf X) {k : Const} {j : Nat} {pos : Pos} {v : V} {d : D} {c : E} (p : PE X (.Constant k j pos) (tC v)) (hv : ∀ G ix, Rp X.K G ix v d) (he : ∀ env S, ev gl cf c env S = .ok (.d d, S)) : SndE gl cf X (.Constant k j pos) c := by
  refine ⟨_, p, asg_ord C.nd rfl rfl p, fun σ H env G ix S w S' Q r g e q => ?_, semX0 fun env S => by rw [he]; exact nx_ok⟩
  rw [he] at e
  cases e
  exact q.same g (hv G ix)
theorem snd_glob (C : Ctx nm gl cf X) {g : Nat} {x : Str} {pos : Pos} (hg : nm.gl[g]? = some x) (hs : Gl X x) (hn : okN x = true) : SndE gl cf X (.Name x pos) (.glob g) := by
  obtain ⟨n1, n2, _⟩ := okN_ok hn
  cases ed : gl g with
  | none =>
    refine ⟨fun _ _ _ => False, ⟨fun _ _ _ _ _ _ h => h.elim⟩, fun i y py pos' hi hy hf => ps_set C.nd hi hy ⟨fun _ _ _ _ _ _ h => h.elim⟩ rfl (.inl hf), fun σ H env G ix S w S' Q r g' e q => ?_, semX0 fun env S => by simp only [ev, ed]; exact nx_err⟩
    simp [ev, ed] at e
  | some d =>
    obtain ⟨v, u, h1, h2, h3⟩ := C.gl g x d hg ed
    have p : PE X (.Name x pos) (tC v) := pe_glob hs h1 h2 n1
    refine ⟨_, p, asg_ord C.nd rfl rfl p, fun σ H env G ix S w S' Q r g' e q => ?_, semX0 fun env S => by simp only [ev, ed]; exact nx_ok⟩
    simp only [ev, ed] at e
    cases e
    exact q.same g' (h3 G ix)

/-! ### operators -/
theorem snd_bin (C : Ctx nm gl cf X) {o : Bop} {a b : Expr} {ca cb : E} {pos : Pos} (ha : SndE gl cf X a ca) (hb : SndE gl cf X b cb) : SndE gl cf X (.BinOp a (pyB o) b pos) (.bin o ca cb) := by
  obtain ⟨ta, pa, _, ma, xa⟩ := ha
  obtain ⟨tb, pb, _, mb, xb⟩ := hb
  have p : PE X (.BinOp a (pyB o) b pos) (tOp (rBin X.K o) ta tb) := pe_op (op_bin o) pa pb
  refine ⟨_, p, asg_ord C.nd rfl rfl p, fun σ H env G ix S w S' Q r g e q => ?_, fun σ H env G ix S k S' Q r g e q => semX2 ma xa xb r g (by simpa only [ev] using e) (fun _ _ => nx_binOp.bind fun _ => nx_ok) q⟩
  simp only [ev] at e
  obtain ⟨x, e1, e⟩ := ok2 e
  obtain ⟨y, e2, e⟩ := ok2 e
  obtain ⟨w', e3, e⟩ := ok2 e
  cases e
  exact sem2 ma mb r g e1 e2 fun v u G' ix' H' s g' rv ru => ⟨G', ix', y.2, _, _, _, g', rv, ru, e3, q.from s⟩
theorem snd_neg (C : Ctx nm gl cf X) {a : Expr} {ca : E} {pos : Pos} (ha : SndE gl cf X a ca) : SndE gl cf X (.UnaryOp .USub a pos) (.neg ca) := by
  obtain ⟨ta, pa, _, ma, xa⟩ := ha
  have p : PE X (.UnaryOp .USub a pos) _ := pe_un un_neg pa
  refine ⟨_, p, asg_ord C.nd rfl rfl p, fun σ H env G ix S w S' Q r g e q => ?_, fun σ H env G ix S k S' Q r g e q => semX1 xa r g (by simpa only [ev] using e) (fun _ => by split <;> first | exact nx_ok | exact nx_err) q⟩
  simp only [ev] at e
  obtain ⟨x, e1, e⟩ := ok2 e
  obtain ⟨x1, x2⟩ := x
  simp only at e
  split at e
  · rename_i i
    cases e
    refine ma σ H env G ix S _ _ _ r g e1 fun v G' ix' H' s g' rw => ?_
    cases (show Rp X.K G' ix' v (.int i) from rw)
    exact ⟨i, rfl, q _ G' ix' H' s g' (.int _)⟩
  · cases e
theorem snd_cmp (C : Ctx nm gl cf X) {o : Cop} {a b : Expr} {ca cb : E} {pos : Pos} (ob : ord b = true) (ha : SndE gl cf X a ca) (hb : SndE gl cf X b cb) : SndE gl cf X (.Compare a [pyC o] [b] pos) (.cmp o ca cb) ∧ SndT gl cf X (.Compare a [pyC o] [b] pos) (.cmp o ca cb) := by
  obtain ⟨ta, pa, _, ma, xa⟩ := ha
  obtain ⟨tb, pb, _, mb, xb⟩ := hb
  have p : PE X (.Compare a [pyC o] [b] pos) (tOp (rCmp X.K o) ta tb) := pe_cmpR (op_cmp o C.hu) pa pb (ord_mark ob _)
  refine ⟨⟨_, p, asg_ord C.nd rfl rfl p, fun σ H env G ix S w S' Q r g e q => ?_, fun σ H env G ix S k S' Q r g e q => semX2 ma xa xb r g (by simpa only [ev] using e) (fun _ _ => nx_cmpOp.bind fun _ => nx_ok) q⟩, ⟨_, pt_cmpR (op_cmp o C.hu) pa pb (ord_mark ob _), fun σ H env G ix S w S' Q r g e q => ?_, fun σ H env G ix S k S' Q r g e q => semX2 ma xa xb r g (by simpa only [ev] using e) (fun _ _ => nx_cmpOp.bind fun _ => nx_ok) q⟩⟩
  · simp only [ev] at e
    obtain ⟨x, e1, e⟩ := ok2 e
    obtain ⟨y, e2, e⟩ := ok2 e
    obtain ⟨k, e3, e⟩ := ok2 e
    cases e
    exact sem2 ma mb r g e1 e2 fun v u G' ix' H' s g' rv ru => ⟨G', ix', y.2, _, _, _, g', rv, ru, e3, postE_bl q s g'⟩
  · simp only [ev] at e
    obtain ⟨x, e1, e⟩ := ok2 e
    obtain ⟨y, e2, e⟩ := ok2 e
    obtain ⟨k, e3, e⟩ := ok2 e
    cases e
    exact sem2 ma mb r g e1 e2 fun v u G' ix' H' s g' rv ru => ⟨G', ix', y.2, _, _, _, g', rv, ru, e3, _, rfl, q G' ix' H' s g'⟩
theorem sem_chain (C : Ctx nm gl cf X) {o o' : Cop} {ca cb cc : E} {ta tb tc : TE} (ma : SemE gl cf X.K ca ta) (mb : SemE gl cf X.K cb tb) (mc : SemE gl cf X.K cc tc) {σ : L2.St} {H : Hp} {env : Env} {G : Hp} {ix : List Addr} {S : Store} {w : W} {S' : Store} {Q : VK} (r : EnvR X.K G ix σ env) (g : Good X.K G ix S H)
    (e : ev gl cf (.chain o o' ca cb cc) env S = .ok (w, S')) (q : ∀ b, w = .d (.bl b) → ∀ G' ix' H', Stp G ix H G' ix' H' → Good X.K G' ix' S' H' → Q (.bl b) H') : tChain (rCmp X.K o) (rCmp X.K o') ta tb tc σ H Q := by
  simp only [ev] at e
  obtain ⟨x, e1, e⟩ := ok2 e
  obtain ⟨y, e2, e⟩ := ok2 e
  obtain ⟨k, e3, e⟩ := ok2 e
  refine sem2 ma mb r g e1 e2 fun v u G' ix' H' s g' rv ru => ⟨G', ix', y.2, _, _, _, g', rv, ru, e3, k, rfl, ?_⟩
  cases k with
  | false =>
    simp only [Bool.false_eq_true, if_false] at e ⊢
    cases e
    exact q false rfl G' ix' H' s g'
  | true =>
    simp only [if_true] at e ⊢
    obtain ⟨z, e4, e⟩ := ok2 e
    obtain ⟨k', e5, e⟩ := ok2 e
    cases e
    exact mc.data (r.stp s) g' (show ev gl cf cc env y.2 = .ok (z.1, z.2) from e4) fun u' G2 ix2 H2 s2 g2 r2 => ⟨G2, ix2, z.2, _, _, _, g2, ru.mono s2.g s2.i _ _, r2, e5, q k' rfl G2 ix2 H2 (s.trans s2) g2⟩
theorem semX_chain (C : Ctx nm gl cf X) {o o' : Cop} {ca cb cc : E} {ta tb tc : TE} (ma : SemE gl cf X.K ca ta) (mb : SemE gl cf X.K cb tb) (xa : SemX gl cf X ca ta) (xb : SemX gl cf X cb tb) (xc : SemX gl cf X cc tc) {σ : L2.St} {H : Hp} {env : Env} {G : Hp} {ix : List Addr} {S : Store} {k : Nat} {S' : Store} {Q : VK} (r : EnvR X.K G ix σ env) (g : Good X.K G ix S H)
    (e : ev gl cf (.chain o o' ca cb cc) env S = .exc k S') (q : PostX X.K G ix H k S' (WE (Wof X) σ)) : tChain (rCmp X.K o) (rCmp X.K o') ta tb tc σ H Q := by
  simp only [ev] at e
  rcases exc2 e with e1 | ⟨x, e1, e⟩
  · exact xa σ H env G ix S k S' _ r g e1 q
  rcases exc2 e with e2 | ⟨y, e2, e⟩
  · exact ma.data r g (show ev gl cf ca env S = .ok (x.1, x.2) from e1) fun v G1 ix1 H1 s1 g1 r1 => xb σ H1 env G1 ix1 x.2 k S' _ (r.stp s1) g1 e2 (q.from s1)
  rcases exc2 e with e3 | ⟨b, e3, e⟩
  · exact absurd e3 (nx_cmpOp k S')
  refine sem2 ma mb r g e1 e2 fun v u G' ix' H' s g' rv ru => ⟨G', ix', y.2, _, _, _, g', rv, ru, e3, b, rfl, ?_⟩
  cases b with
  | false =>
    simp only [Bool.false_eq_true, if_false] at e
    cases e
  | true =>
    simp only [if_true] at e ⊢
    exact semX1 xc (r.stp s) g' e (fun _ => nx_cmpOp.bind fun _ => nx_ok) (q.from s)
theorem snd_chain (C : Ctx nm gl cf X) {o o' : Cop} {a b c : Expr} {ca cb cc : E} {pos : Pos} (ob : ord b = true) (oc : ord c = true) (ha : SndE gl cf X a ca) (hb : SndE gl cf X b cb) (hc : SndE gl cf X c cc) :
    SndE gl cf X (.Compare a [pyC o, pyC o'] [b, c] pos) (.chain o o' ca cb cc) ∧ SndT gl cf X (.Compare a [pyC o, pyC o'] [b, c] pos) (.chain o o' ca cb cc) := by
  obtain ⟨ta, pa, _, ma, xa⟩ := ha
  obtain ⟨tb, pb, _, mb, xb⟩ := hb
  obtain ⟨tc, pc, _, mc, xc⟩ := hc
  have p : PE X (.Compare a [pyC o, pyC o'] [b, c] pos) _ := pe_chain (op_cmp o C.hu) (op_cmp o' C.hu) pa pb pc (show behindInMarks (pyC o') c = false from ord_mark oc _)
  refine ⟨⟨_, p, asg_ord C.nd rfl rfl p, fun σ H env G ix S w S' Q r g e q => ?_, fun σ H env G ix S k S' Q r g e q => semX_chain C ma mb xa xb xc r g e q⟩, ⟨_, pt_chain (op_cmp o C.hu) (op_cmp o' C.hu) pa pb pc (show behindInMarks (pyC o') c = false from ord_mark oc _), fun σ H env G ix S w S' Q r g e q => ?_, fun σ H env G ix S k S' Q r g e q => semX_chain C ma mb xa xb xc r g e q⟩⟩
  · exact sem_chain C ma mb mc r g e fun b hb G' ix' H' s g' => by subst hb; exact postE_bl q s g'
  · exact sem_chain C ma mb mc r g e fun b hb G' ix' H' s g' => by cases hb; exact ⟨_, rfl, q G' ix' H' s g'⟩
theorem none_iff {K : PySem.W.Frag} {G : Hp} {ix : List Addr} {v : V} {d : D} (r : Rp K G ix v d) : decide (v = .non) = decide (d = .non) := by
  cases r <;> simp
theorem snd_isN (C : Ctx nm gl cf X) {a : Expr} {ca : E} {j : Nat} {pos' pos : Pos} (ha : SndE gl cf X a ca) : SndE gl cf X (.Compare a [.Is] [.Constant .none j pos'] pos) (.isN ca) ∧ SndT gl cf X (.Compare a [.Is] [.Constant .none j pos'] pos) (.isN ca) := by
  obtain ⟨ta, pa, _, ma, xa⟩ := ha
  have p : PE X (.Compare a [.Is] [.Constant .none j pos'] pos) (tIsN ta) := pe_cmp (pc_isN pa) rfl
  refine ⟨⟨_, p, asg_ord C.nd rfl rfl p, fun σ H env G ix S w S' Q r g e q => ?_, fun σ H env G ix S k S' Q r g e q => semX1 xa r g (by simpa only [ev] using e) (fun _ => nx_ok) q⟩, ⟨_, pt_cmp (pc_isN pa) rfl, fun σ H env G ix S w S' Q r g e q => ?_, fun σ H env G ix S k S' Q r g e q => semX1 xa r g (by simpa only [ev] using e) (fun _ => nx_ok) q⟩⟩
  · simp only [ev] at e
    obtain ⟨x, e1, e⟩ := ok2 e
    cases e
    exact ma.data r g (show ev gl cf ca env S = .ok (x.1, x.2) from e1) fun v G' ix' H' s g' rv => by
      show Q (.bl (decide (v = .non))) H'
      rw [none_iff rv]; exact postE_bl q s g'
  · simp only [ev] at e
    obtain ⟨x, e1, e⟩ := ok2 e
    cases e
    exact ma.data r g (show ev gl cf ca env S = .ok (x.1, x.2) from e1) fun v G' ix' H' s g' rv => ⟨_, rfl, by rw [none_iff rv]; exact q G' ix' H' s g'⟩
theorem snd_notN (C : Ctx nm gl cf X) {a : Expr} {ca : E} {j : Nat} {pos' pos : Pos} (ha : SndE gl cf X a ca) : SndE gl cf X (.Compare a [.IsNot] [.Constant .none j pos'] pos) (.notN ca) ∧ SndT gl cf X (.Compare a [.IsNot] [.Constant .none j pos'] pos) (.notN ca) := by
  obtain ⟨ta, pa, _, ma, xa⟩ := ha
  have p : PE X (.Compare a [.IsNot] [.Constant .none j pos'] pos) (tNotN ta) := pe_cmp (pc_notN pa) rfl
  refine ⟨⟨_, p, asg_ord C.nd rfl rfl p, fun σ H env G ix S w S' Q r g e q => ?_, fun σ H env G ix S k S' Q r g e q => semX1 xa r g (by simpa only [ev] using e) (fun _ => nx_ok) q⟩, ⟨_, pt_cmp (pc_notN pa) rfl, fun σ H env G ix S w S' Q r g e q => ?_, fun σ H env G ix S k S' Q r g e q => semX1 xa r g (by simpa only [ev] using e) (fun _ => nx_ok) q⟩⟩
  · simp only [ev] at e
    obtain ⟨x, e1, e⟩ := ok2 e
    cases e
    exact ma.data r g (show ev gl cf ca env S = .ok (x.1, x.2) from e1) fun v G' ix' H' s g' rv => by
      show Q (.bl (!decide (v = .non))) H'
      rw [none_iff rv]; exact postE_bl q s g'
  · simp only [ev] at e
    obtain ⟨x, e1, e⟩ := ok2 e
    cases e
    exact ma.data r g (show ev gl cf ca env S = .ok (x.1, x.2) from e1) fun v G' ix' H' s g' rv => ⟨_, rfl, by rw [none_iff rv]; exact q G' ix' H' s g'⟩

/-! ### and, or, not -/
/-- a truth of an expression that comes to one -/
theorem SemE.bool {K : PySem.W.Frag} {c : E} {t : TE} (h : SemE gl cf K c t) {σ : L2.St} {H : Hp} {env : Env} {G : Hp} {ix : List Addr} {S : Store} {b : Bool} {S' : Store} {Q : VK} (r : EnvR K G ix σ env) (g : Good K G ix S H) (e : ev gl cf c env S = .ok (.d (.bl b), S'))
    (q : ∀ G' ix' H', Stp G ix H G' ix' H' → Good K G' ix' S' H' → Q (.bl b) H') : t σ H Q := h σ H env G ix S _ S' Q r g e fun v G' ix' H' s g' rw => by
  cases (show Rp K G' ix' v (.bl b) from rw)
  exact q G' ix' H' s g'
theorem ev_and {a b : E} {env : Env} {S : Store} {w : W} {S' : Store} (e : ev gl cf (.and a b) env S = .ok (w, S')) : ∃ k, w = .d (.bl k) ∧ ((∃ x2, ev gl cf a env S = .ok (.d (.bl true), x2) ∧ ev gl cf b env x2 = .ok (.d (.bl k), S')) ∨ (k = false ∧ ev gl cf a env S = .ok (.d (.bl false), S'))) := by
  simp only [ev] at e
  obtain ⟨⟨x1, x2⟩, e1, e⟩ := ok2 e
  obtain ⟨k, e2, e⟩ := ok2 e
  cases toB_ok e2
  cases k with
  | true =>
    simp only [if_true] at e
    obtain ⟨⟨y1, y2⟩, e3, e⟩ := ok2 e
    obtain ⟨k', e4, e⟩ := ok2 e
    cases toB_ok e4
    cases e
    exact ⟨k', rfl, .inl ⟨x2, e1, e3⟩⟩
  | false =>
    simp only [Bool.false_eq_true, if_false] at e
    cases e
    exact ⟨false, rfl, .inr ⟨rfl, e1⟩⟩
theorem ev_or {a b : E} {env : Env} {S : Store} {w : W} {S' : Store} (e : ev gl cf (.or a b) env S = .ok (w, S')) : ∃ k, w = .d (.bl k) ∧ ((∃ x2, ev gl cf a env S = .ok (.d (.bl false), x2) ∧ ev gl cf b env x2 = .ok (.d (.bl k), S')) ∨ (k = true ∧ ev gl cf a env S = .ok (.d (.bl true), S'))) := by
  simp only [ev] at e
  obtain ⟨⟨x1, x2⟩, e1, e⟩ := ok2 e
  obtain ⟨k, e2, e⟩ := ok2 e
  cases toB_ok e2
  cases k with
  | false =>
    simp only [Bool.false_eq_true, if_false] at e
    obtain ⟨⟨y1, y2⟩, e3, e⟩ := ok2 e
    obtain ⟨k', e4, e⟩ := ok2 e
    cases toB_ok e4
    cases e
    exact ⟨k', rfl, .inl ⟨x2, e1, e3⟩⟩
  | true =>
    simp only [if_true] at e
    cases e
    exact ⟨true, rfl, .inr ⟨rfl, e1⟩⟩
theorem evx_and {a b : E} {env : Env} {S : Store} {k : Nat} {S' : Store} (e : ev gl cf (.and a b) env S = .exc k S') : ev gl cf a env S = .exc k S' ∨ ∃ x2, ev gl cf a env S = .ok (.d (.bl true), x2) ∧ ev gl cf b env x2 = .exc k S' := by
  simp only [ev] at e
  rcases exc2 e with e1 | ⟨⟨x1, x2⟩, e1, e⟩
  · exact .inl e1
  rcases exc2 e with e2 | ⟨b, e2, e⟩
  · exact absurd e2 (nx_toB k S')
  cases toB_ok e2
  cases b with
  | false => simp only [Bool.false_eq_true, if_false] at e; cases e
  | true =>
    simp only [if_true] at e
    rcases exc2 e with e3 | ⟨y, e3, e⟩
    · exact .inr ⟨x2, e1, e3⟩
    · exact absurd e ((nx_toB.bind fun _ => nx_ok) k S')
theorem evx_or {a b : E} {env : Env} {S : Store} {k : Nat} {S' : Store} (e : ev gl cf (.or a b) env S = .exc k S') : ev gl cf a env S = .exc k S' ∨ ∃ x2, ev gl cf a env S = .ok (.d (.bl false), x2) ∧ ev gl cf b env x2 = .exc k S' := by
  simp only [ev] at e
  rcases exc2 e with e1 | ⟨⟨x1, x2⟩, e1, e⟩
  · exact .inl e1
  rcases exc2 e with e2 | ⟨b, e2, e⟩
  · exact absurd e2 (nx_toB k S')
  cases toB_ok e2
  cases b with
  | true => simp only [if_true] at e; cases e
  | false =>
    simp only [Bool.false_eq_true, if_false] at e
    rcases exc2 e with e3 | ⟨y, e3, e⟩
    · exact .inr ⟨x2, e1, e3⟩
    · exact absurd e ((nx_toB.bind fun _ => nx_ok) k S')
/-- b is one expression, or the rest of the chain -/
def SndW (gl : Nat → Option D) (cf : Cf) (X : Cx) (e : Expr) (c : E) : Prop := ∃ t, PW X e t ∧ SemT gl cf X.K c t ∧ SemXT gl cf X c t
theorem snd_and (C : Ctx nm gl cf X) {a b : Expr} {rest : List Expr} {ca cb : E} {pos : Pos} (ha : SndE gl cf X a ca) (hat : SndT gl cf X a ca) (hb : ∃ t, PE X (.BoolOp .And (b :: rest) pos) t ∧ SemE gl cf X.K cb t ∧ SemX gl cf X cb t) (hbt : SndW gl cf X (.BoolOp .And (b :: rest) pos) cb) :
    SndE gl cf X (.BoolOp .And (a :: b :: rest) pos) (.and ca cb) ∧ SndW gl cf X (.BoolOp .And (a :: b :: rest) pos) (.and ca cb) := by
  obtain ⟨ta, pa, _, ma, xa⟩ := ha
  obtain ⟨tb, pb, mb, xb⟩ := hb
  obtain ⟨ua, qa, na, ya⟩ := hat
  obtain ⟨ub, qb, nb, yb⟩ := hbt
  have p : PE X (.BoolOp .And (a :: b :: rest) pos) (tAndV ta tb) := pe_and pa pb
  refine ⟨⟨_, p, asg_ord C.nd rfl rfl p, fun σ H env G ix S w S' Q r g e q => ?_, fun σ H env G ix S k S' Q r g e q => ?x1⟩, ⟨_, pw_and qa qb, fun σ H env G ix S w S' Q r g e q => ?_, fun σ H env G ix S k S' Q r g e q => ?x2⟩⟩
  case x1 =>
    rcases evx_and e with e1 | ⟨x2, e1, e2⟩
    · exact xa σ H env G ix S k S' _ r g e1 q
    · exact ma.bool r g e1 fun G1 ix1 H1 s1 g1 => ⟨true, rfl, by
        rw [if_pos rfl]
        exact xb σ H1 env G1 ix1 x2 k S' Q (r.stp s1) g1 e2 (q.from s1)⟩
  case x2 =>
    rcases evx_and e with e1 | ⟨x2, e1, e2⟩
    · exact ya σ H env G ix S k S' _ r g e1 q
    · exact na σ H env G ix S true x2 _ r g e1 fun G1 ix1 H1 s1 g1 => by
        rw [if_pos rfl]
        exact yb σ H1 env G1 ix1 x2 k S' Q (r.stp s1) g1 e2 (q.from s1)
  · obtain ⟨k, rfl, ⟨x2, e1, e2⟩ | ⟨rfl, e1⟩⟩ := ev_and e
    · exact ma.bool r g e1 fun G1 ix1 H1 s1 g1 => ⟨true, rfl, by
        rw [if_pos rfl]
        exact mb σ H1 env G1 ix1 x2 _ S' Q (r.stp s1) g1 e2 (q.from s1)⟩
    · exact ma.bool r g e1 fun G1 ix1 H1 s1 g1 => ⟨false, rfl, by
        rw [if_neg Bool.false_ne_true]
        exact postE_bl q s1 g1⟩
  · obtain ⟨k, hk, h⟩ := ev_and e
    cases hk
    rcases h with ⟨x2, e1, e2⟩ | ⟨hw, e1⟩
    · exact na σ H env G ix S true x2 _ r g e1 fun G1 ix1 H1 s1 g1 => by
        rw [if_pos rfl]
        exact nb σ H1 env G1 ix1 x2 _ S' Q (r.stp s1) g1 e2 fun G2 ix2 H2 s2 g2 => q G2 ix2 H2 (s1.trans s2) g2
    · subst hw
      exact na σ H env G ix S false S' _ r g e1 fun G1 ix1 H1 s1 g1 => by
        rw [if_neg Bool.false_ne_true]
        exact q G1 ix1 H1 s1 g1
theorem snd_or (C : Ctx nm gl cf X) {a b : Expr} {rest : List Expr} {ca cb : E} {pos : Pos} (ha : SndE gl cf X a ca) (hat : SndT gl cf X a ca) (hb : ∃ t, PE X (.BoolOp .Or (b :: rest) pos) t ∧ SemE gl cf X.K cb t ∧ SemX gl cf X cb t) (hbt : SndW gl cf X (.BoolOp .Or (b :: rest) pos) cb) :
    SndE gl cf X (.BoolOp .Or (a :: b :: rest) pos) (.or ca cb) ∧ SndW gl cf X (.BoolOp .Or (a :: b :: rest) pos) (.or ca cb) := by
  obtain ⟨ta, pa, _, ma, xa⟩ := ha
  obtain ⟨tb, pb, mb, xb⟩ := hb
  obtain ⟨ua, qa, na, ya⟩ := hat
  obtain ⟨ub, qb, nb, yb⟩ := hbt
  have p : PE X (.BoolOp .Or (a :: b :: rest) pos) (tOrV ta tb) := pe_or pa pb
  refine ⟨⟨_, p, asg_ord C.nd rfl rfl p, fun σ H env G ix S w S' Q r g e q => ?_, fun σ H env G ix S k S' Q r g e q => ?x1⟩, ⟨_, pw_or qa qb, fun σ H env G ix S w S' Q r g e q => ?_, fun σ H env G ix S k S' Q r g e q => ?x2⟩⟩
  case x1 =>
    rcases evx_or e with e1 | ⟨x2, e1, e2⟩
    · exact xa σ H env G ix S k S' _ r g e1 q
    · exact ma.bool r g e1 fun G1 ix1 H1 s1 g1 => ⟨false, rfl, by
        rw [if_neg Bool.false_ne_true]
        exact xb σ H1 env G1 ix1 x2 k S' Q (r.stp s1) g1 e2 (q.from s1)⟩
  case x2 =>
    rcases evx_or e with e1 | ⟨x2, e1, e2⟩
    · exact ya σ H env G ix S k S' _ r g e1 q
    · exact na σ H env G ix S false x2 _ r g e1 fun G1 ix1 H1 s1 g1 => by
        rw [if_neg Bool.false_ne_true]
        exact yb σ H1 env G1 ix1 x2 k S' Q (r.stp s1) g1 e2 (q.from s1)
  · obtain ⟨k, rfl, ⟨x2, e1, e2⟩ | ⟨rfl, e1⟩⟩ := ev_or e
    · exact ma.bool r g e1 fun G1 ix1 H1 s1 g1 => ⟨false, rfl, by
        rw [if_neg Bool.false_ne_true]
        exact mb σ H1 env G1 ix1 x2 _ S' Q (r.stp s1) g1 e2 (q.from s1)⟩
    · exact ma.bool r g e1 fun G1 ix1 H1 s1 g1 => ⟨true, rfl, by
        rw [if_pos rfl]
        exact postE_bl q s1 g1⟩
  · obtain ⟨k, hk, h⟩ := ev_or e
    cases hk
    rcases h with ⟨x2, e1, e2⟩ | ⟨hw, e1⟩
    · exact na σ H env G ix S false x2 _ r g e1 fun G1 ix1 H1 s1 g1 => by
        rw [if_neg Bool.false_ne_true]
        exact nb σ H1 env G1 ix1 x2 _ S' Q (r.stp s1) g1 e2 fun G2 ix2 H2 s2 g2 => q G2 ix2 H2 (s1.trans s2) g2
    · subst hw
      exact na σ H env G ix S true S' _ r g e1 fun G1 ix1 H1 s1 g1 => by
        rw [if_pos rfl]
        exact q G1 ix1 H1 s1 g1
theorem snd_not (C : Ctx nm gl cf X) {a : Expr} {ca : E} {pos : Pos} (ha : SndE gl cf X a ca) (hat : SndT gl cf X a ca) : SndE gl cf X (.UnaryOp .Not a pos) (.not ca) ∧ SndT gl cf X (.UnaryOp .Not a pos) (.not ca) := by
  obtain ⟨ta, pa, _, ma, xa⟩ := ha
  obtain ⟨ua, qa, na, ya⟩ := hat
  have p : PE X (.UnaryOp .Not a pos) (tNotV ta) := pe_not pa
  refine ⟨⟨_, p, asg_ord C.nd rfl rfl p, fun σ H env G ix S w S' Q r g e q => ?_, fun σ H env G ix S k S' Q r g e q => semX1 xa r g (by simpa only [ev] using e) (fun _ => nx_toB.bind fun _ => nx_ok) q⟩, ⟨_, pt_not qa, fun σ H env G ix S w S' Q r g e q => ?_, fun σ H env G ix S k S' Q r g e q => ?x2⟩⟩
  case x2 =>
    simp only [ev] at e
    rcases exc2 e with e1 | ⟨x, e1, e⟩
    · exact ya σ H env G ix S k S' _ r g e1 q
    · exact absurd e ((nx_toB.bind fun _ => nx_ok) k S')
  · simp only [ev] at e
    obtain ⟨⟨x1, x2⟩, e1, e⟩ := ok2 e
    obtain ⟨k, e2, e⟩ := ok2 e
    cases toB_ok e2
    cases e
    exact ma.bool r g e1 fun G1 ix1 H1 s1 g1 => ⟨k, rfl, postE_bl q s1 g1⟩
  · simp only [ev] at e
    obtain ⟨⟨x1, x2⟩, e1, e⟩ := ok2 e
    obtain ⟨k, e2, e⟩ := ok2 e
    cases toB_ok e2
    cases e
    exact na σ H env G ix S k _ _ r g e1 fun G1 ix1 H1 s1 g1 => q G1 ix1 H1 s1 g1
theorem snd_ife (C : Ctx nm gl cf X) {c a b : Expr} {cc ca cb : E} {pos : Pos} (hc : SndT gl cf X c cc) (ha : SndE gl cf X a ca) (hb : SndE gl cf X b cb) : SndE gl cf X (.IfExp c a b pos) (.ife cc ca cb) := by
  obtain ⟨tc, pc, mc, yc⟩ := hc
  obtain ⟨ta, pa, _, ma, xa⟩ := ha
  obtain ⟨tb, pb, _, mb, xb⟩ := hb
  have p : PE X (.IfExp c a b pos) (tIf tc ta tb) := pe_ifExp pc pa pb
  refine ⟨_, p, asg_ord C.nd rfl rfl p, fun σ H env G ix S w S' Q r g e q => ?_, fun σ H env G ix S k S' Q r g e q => ?x⟩
  case x =>
    simp only [ev] at e
    rcases exc2 e with e1 | ⟨⟨x1, x2⟩, e1, e⟩
    · exact yc σ H env G ix S k S' _ r g e1 q
    rcases exc2 e with e2 | ⟨b, e2, e⟩
    · exact absurd e2 (nx_toB k S')
    cases toB_ok e2
    refine mc σ H env G ix S b x2 _ r g e1 fun G1 ix1 H1 s1 g1 => ?_
    cases b with
    | true =>
      simp only [if_true] at e ⊢
      exact xa σ H1 env G1 ix1 x2 k S' Q (r.stp s1) g1 e (q.from s1)
    | false =>
      simp only [Bool.false_eq_true, if_false] at e ⊢
      exact xb σ H1 env G1 ix1 x2 k S' Q (r.stp s1) g1 e (q.from s1)
  simp only [ev] at e
  obtain ⟨⟨x1, x2⟩, e1, e⟩ := ok2 e
  obtain ⟨k, e2, e⟩ := ok2 e
  cases toB_ok e2
  refine mc σ H env G ix S k x2 _ r g e1 fun G1 ix1 H1 s1 g1 => ?_
  cases k with
  | true =>
    simp only [if_true] at e ⊢
    exact ma σ H1 env G1 ix1 x2 w S' Q (r.stp s1) g1 e (q.from s1)
  | false =>
    simp only [Bool.false_eq_true, if_false] at e ⊢
    exact mb σ H1 env G1 ix1 x2 w S' Q (r.stp s1) g1 e (q.from s1)

/-! ### lists of expressions, displays -/
theorem snd_nil : SndA gl cf X [] .nil := ⟨_, pa_nil, fun σ H env G ix S ds S' Q r g e q => by
  simp only [evs] at e
  cases e
  exact q [] G ix H Stp.refl g .nil, fun σ H env G ix S k S' Q r g e q => by
  simp only [evs] at e
  cases e⟩
theorem snd_cons {x : Expr} {xs : List Expr} {c : E} {cs : Es} (ox : ord x = true) (hx : SndE gl cf X x c) (hs : SndA gl cf X xs cs) : SndA gl cf X (x :: xs) (.cons c cs) := by
  obtain ⟨t, p, _, m, mx⟩ := hx
  obtain ⟨u, q, n, nx⟩ := hs
  refine ⟨_, pa_cons p q (ord_star ox xs), fun σ H env G ix S ds S' Q r g e k => ?_, fun σ H env G ix S k S' Q r g e q => ?x⟩
  case x =>
    simp only [evs] at e
    rcases exc2 e with e1 | ⟨x, e1, e⟩
    · exact mx σ H env G ix S k S' _ r g e1 q
    · exact m.data r g (show ev gl cf c env S = .ok (x.1, x.2) from e1) fun v G1 ix1 H1 s1 g1 r1 => semXA1 nx (r.stp s1) g1 e (fun _ => nx_ok) (q.from s1)
  simp only [evs] at e
  obtain ⟨x, e1, e⟩ := ok2 e
  obtain ⟨y, e2, e⟩ := ok2 e
  cases e
  exact m.data r g (show ev gl cf c env S = .ok (x.1, x.2) from e1) fun v G1 ix1 H1 s1 g1 r1 => n σ H1 env G1 ix1 x.2 y.1 y.2 _ (r.stp s1) g1 e2 fun vs G2 ix2 H2 s2 g2 r2 => k (v :: vs) G2 ix2 H2 (s1.trans s2) g2 (.cons (r1.mono s2.g s2.i _ _) r2)
theorem snd_tup (C : Ctx nm gl cf X) {xs : List Expr} {cs : Es} {k : Nat} {pos : Pos} (hs : SndA gl cf X xs cs) : SndE gl cf X (.Tuple xs k pos) (.tup cs) := by
  obtain ⟨u, q, n, nx⟩ := hs
  have p : PE X (.Tuple xs k pos) (tTup u) := pe_tup q
  refine ⟨_, p, asg_ord C.nd rfl rfl p, fun σ H env G ix S w S' Q r g e k => ?_, fun σ H env G ix S k S' Q r g e q => semXA1 nx r g (by simpa only [ev] using e) (fun _ => nx_guard nx_ok) q⟩
  simp only [ev] at e
  obtain ⟨x, e1, e⟩ := ok2 e
  obtain ⟨c, e⟩ := guard_ok e
  cases e
  exact n σ H env G ix S x.1 x.2 _ r g e1 fun vs G1 ix1 H1 s1 g1 r1 => ⟨by rw [r1.length]; exact dec_of c, fun p hp => (k.from s1).newT g1 hp rfl r1⟩
theorem snd_lst (C : Ctx nm gl cf X) {xs : List Expr} {cs : Es} {pos : Pos} (hs : SndA gl cf X xs cs) : SndE gl cf X (.List xs pos) (.lst cs) := by
  obtain ⟨u, q, n, nx⟩ := hs
  have p : PE X (.List xs pos) (tLst u) := pe_lst q
  refine ⟨_, p, asg_ord C.nd rfl rfl p, fun σ H env G ix S w S' Q r g e k => ?_, fun σ H env G ix S k S' Q r g e q => semXA1 nx r g (by simpa only [ev] using e) (fun _ => nx_guard nx_ok) q⟩
  simp only [ev] at e
  obtain ⟨x, e1, e⟩ := ok2 e
  obtain ⟨c, e⟩ := guard_ok e
  cases e
  exact n σ H env G ix S x.1 x.2 _ r g e1 fun vs G1 ix1 H1 s1 g1 r1 => ⟨by rw [r1.length]; exact dec_of c, fun p hp => (k.from s1).newL g1 hp rfl r1⟩
/-! ### subscripts -/
theorem snd_ix (C : Ctx nm gl cf X) {a b : Expr} {ca cb : E} {pos : Pos} (ob : ord b = true) (ha : SndE gl cf X a ca) (hb : SndE gl cf X b cb) : SndE gl cf X (.Subscript a b pos) (.ix ca cb) := by
  obtain ⟨ta, pa, _, ma, xa⟩ := ha
  obtain ⟨tb, pb, _, mb, xb⟩ := hb
  have p : PE X (.Subscript a b pos) (tOp (rIxx X.K) ta tb) := pe_ix ix_all pa pb (ord_ix ob)
  refine ⟨_, p, asg_ord C.nd rfl rfl p, fun σ H env G ix S w S' Q r g e q => ?_, fun σ H env G ix S k S' Q r g e q => semX2 ma xa xb r g (by simpa only [ev] using e) (fun _ _ => nx_ixOp.bind fun _ => nx_ok) q⟩
  simp only [ev] at e
  obtain ⟨x, e1, e⟩ := ok2 e
  obtain ⟨y, e2, e⟩ := ok2 e
  obtain ⟨d, e3, e⟩ := ok2 e
  cases e
  exact sem2 ma mb r g e1 e2 fun v u G' ix' H' s g' rv ru => ⟨G', ix', y.2, _, _, d, g', rv, ru, e3, q.from s⟩
/-- an end of a slice -/
def SemO (gl : Nat → Option D) (cf : Cf) (K : PySem.W.Frag) (c : E) (t : TO) : Prop := ∀ σ H env G ix S x o Q, EnvR K G ix σ env → Good K G ix S H → ev gl cf c env S = .ok x → endOf (isNonE c) x.1.toD = some o → (∀ G' ix' H', Stp G ix H G' ix' H' → Good K G' ix' x.2 H' → Q o H') → t σ H Q
def SemXO (gl : Nat → Option D) (cf : Cf) (X : Cx) (c : E) (t : TO) : Prop := ∀ σ H env G ix S k S' Q, EnvR X.K G ix σ env → Good X.K G ix S H → ev gl cf c env S = .exc k S' → PostX X.K G ix H k S' (WE (Wof X) σ) → t σ H Q
theorem snd_po {l : Option Expr} {c : E} (h : (l = none ∧ c = .non) ∨ ∃ e, l = some e ∧ isNonE c = false ∧ SndE gl cf X e c) : ∃ t, PO X l t ∧ SemO gl cf X.K c t ∧ SemXO gl cf X c t := by
  rcases h with ⟨rfl, rfl⟩ | ⟨e, rfl, hc, t, p, _, m, mx⟩
  · refine ⟨_, po_none, fun σ H env G ix S x o Q r g e ho q => ?_, fun σ H env G ix S k S' Q r g e q => by simp only [ev] at e; cases e⟩
    simp only [ev] at e
    cases e
    cases ho
    exact q G ix H Stp.refl g
  · refine ⟨_, po_some p, fun σ H env G ix S x o Q r g e ho q => ?_, fun σ H env G ix S k S' Q r g e q => mx σ H env G ix S k S' _ r g e q⟩
    refine m.data r g (show ev gl cf c env S = .ok (x.1, x.2) from e) fun v G1 ix1 H1 s1 g1 r1 => ?_
    rw [hc] at ho
    simp only [endOf, Bool.false_eq_true, if_false] at ho
    generalize x.1.toD = d at ho r1
    cases d with
    | int i => cases ho; cases r1; exact ⟨i, rfl, q G1 ix1 H1 s1 g1⟩
    | _ => cases ho
theorem snd_sl (C : Ctx nm gl cf X) {a : Expr} {l h : Option Expr} {ca cl ch : E} {p2 pos : Pos} (ha : SndE gl cf X a ca) (hl : ∃ t, PO X l t ∧ SemO gl cf X.K cl t ∧ SemXO gl cf X cl t) (hh : ∃ t, PO X h t ∧ SemO gl cf X.K ch t ∧ SemXO gl cf X ch t) : SndE gl cf X (.Subscript a (.Slice l h none p2) pos) (.sl ca cl ch) := by
  obtain ⟨ta, pa, _, ma, xa⟩ := ha
  obtain ⟨tl, pl, ml, yl⟩ := hl
  obtain ⟨th, ph, mh, yh⟩ := hh
  have p : PE X (.Subscript a (.Slice l h none p2) pos) (tSl (rSll X.K) ta tl th) := pe_slice sl_all pa pl ph
  refine ⟨_, p, asg_ord C.nd rfl rfl p, fun σ H env G ix S w S' Q r g e q => ?_, fun σ H env G ix S k S' Q r g e q => ?x⟩
  case x =>
    simp only [ev] at e
    rcases exc2 e with e1 | ⟨x, e1, e⟩
    · exact xa σ H env G ix S k S' _ r g e1 q
    · exact absurd e (Res.calm_nx k S')
  simp only [ev] at e
  obtain ⟨x, e1, e⟩ := ok2 e
  obtain ⟨y, e2, e⟩ := ok2 (Res.calm_ok.mp e)
  obtain ⟨z, e3, e⟩ := ok2 e
  split at e
  · rename_i i j hi hj
    obtain ⟨w', e4, e⟩ := ok2 e
    cases e
    exact ma.data r g (show ev gl cf ca env S = .ok (x.1, x.2) from e1) fun v G1 ix1 H1 s1 g1 r1 =>
      ml σ H1 env G1 ix1 x.2 y i _ (r.stp s1) g1 e2 hi fun G2 ix2 H2 s2 g2 =>
        mh σ H2 env G2 ix2 y.2 z j _ (r.stp (s1.trans s2)) g2 e3 hj fun G3 ix3 H3 s3 g3 =>
          ⟨G3, ix3, z.2, _, _, g3, r1.mono (s2.trans s3).g (s2.trans s3).i _ _, e4, q.from (s1.trans (s2.trans s3))⟩
  · cases e
/-! ### calls -/
theorem pe_callS0 {CX : CXT} {k : Nat} {f : Addr} {fd : FuncData} {ps : List Str} {sp : Sp} {E : L2.St → XK} {x : Str} {p pos : Pos} (F : FnG X.prog X.w X.K X.mg X.base CX k f fd ps sp) (gd : X.A.guards = some []) (hr : Room k X.A) (hg : Gl X x) (hm : X.mg x = some (.ref f)) (hk : PySem.W.keepIn X.K (.ref f) = true) (hb : Binds X.K fd ps []) (hx : ∀ σ, PassesAt CX X σ (E σ))
    (hdb : (x == ("__debug__" : Str)) = false) : PE X (.Call (.Name x p) [] [] pos) (tCallS sp E tNil) :=
  ⟨fun pins s σ H Q I h => wpAny_Call_Name_kw (ld_glob I hg hm (PySem.W.callWith_K0 I.kIn hk (run_fnG (us := []) F gd hr hb (hx σ) I .nil h)) hdb)⟩
theorem snd_call (C : Ctx nm gl cf X) {f : Nat} {x : Str} {p pos : Pos} {args : List Expr} {cs : Es} (hf : nm.fn[f]? = some (x, none)) (hg : Gl X x) (hn : okN x = true) (hs : SndA gl cf X args cs)
    (h0 : (args = [] ∧ cs = .nil) ∨ ∃ e es, args = e :: es ∧ ord e = true ∧ (backTo pos (starEach es X.env)).any (·.1) = false) : SndE gl cf X (.Call (.Name x p) args [] pos) (.call f cs) := by
  obtain ⟨n1, _, _⟩ := okN_ok hn
  obtain ⟨a, k, fd, ps, hr, hm, hk, hb, F⟩ := C.fn f x hf
  obtain ⟨t, pt, m, mx⟩ := hs
  have pe : PE X (.Call (.Name x p) args [] pos) (tCallS (spF X.K cf f) (WE (Wof X)) t) ∨ (cs = .nil ∧ PE X (.Call (.Name x p) args [] pos) (tCallS (spF X.K cf f) (WE (Wof X)) tNil)) := by
    rcases h0 with ⟨rfl, rfl⟩ | ⟨e, es, rfl, oe, h1⟩
    · exact .inr ⟨rfl, pe_callS0 F C.gd hr hg hm hk hb (fun σ => passAt (wof_takes X) σ) n1⟩
    · exact .inl (pe_callG F C.gd hr hg hm hk hb (fun σ => passAt (wof_takes X) σ) pt n1 (ord_star oe es) h1)
  rcases pe with pe | ⟨rfl, pe⟩
  · refine ⟨_, pe, asg_ord C.nd rfl rfl pe, fun σ H env G ix S w S' Q r g e q => ?_, fun σ H env G ix S k S' Q r g e q => ?_⟩
    · simp only [ev] at e
      obtain ⟨y, e1, e⟩ := ok2 e
      exact m σ H env G ix S y.1 y.2 _ r g e1 fun vs G1 ix1 H1 s1 g1 r1 => ⟨G1, ix1, y.2, y.1, g1, r1, .inl ⟨w, S', e, q.from s1⟩⟩
    · simp only [ev] at e
      rcases exc2 e with e1 | ⟨y, e1, e⟩
      · exact mx σ H env G ix S k S' _ r g e1 q
      · exact m σ H env G ix S y.1 y.2 _ r g e1 fun vs G1 ix1 H1 s1 g1 r1 => ⟨G1, ix1, y.2, y.1, g1, r1, .inr ⟨k, S', e, q.from s1⟩⟩
  · refine ⟨_, pe, asg_ord C.nd rfl rfl pe, fun σ H env G ix S w S' Q r g e q => ?_, fun σ H env G ix S k S' Q r g e q => ?_⟩
    · simp only [ev, evs] at e
      exact ⟨G, ix, S, [], g, .nil, .inl ⟨w, S', e, q⟩⟩
    · simp only [ev, evs] at e
      exact ⟨G, ix, S, [], g, .nil, .inr ⟨k, S', e, q⟩⟩
end
end Nl

/-! Built-ins, classes, methods, what is walked, comprehensions. -/
namespace Nl
open PySem L2
section
variable {nm : Nms} {gl : Nat → Option D} {cf : Cf} {X : Cx}
theorem boot_bi (b : Bi) (hb : b ≠ .sset) : bootBuiltins (Str.ofString (biName b)) = some (biVal b) := by
  cases b <;> first | exact absurd rfl hb | decide +kernel
theorem bi_in (b : Bi) (hb : b ≠ .sset) : biName b ∈ bNames := by
  cases b <;> first | exact absurd rfl hb | decide
theorem bi_nm (b : Bi) : Str.ofString (biName b) ≠ "__name__" ∧ (Str.ofString (biName b) == ("__debug__" : Str)) = false := by
  cases b <;> decide +kernel
theorem snd_bi (C : Ctx nm gl cf X) {b : Bi} {p pos : Pos} {e : Expr} {es : List Expr} {cs : Es} (hb : b ≠ .sset) (hg : Gl X (Str.ofString (biName b))) (oe : ord e = true) (hpl : (backTo pos (starEach es X.env)).any (·.1) = false) (hs : SndA gl cf X (e :: es) cs) :
    SndE gl cf X (.Call (.Name (Str.ofString (biName b)) p) (e :: es) [] pos) (.bi b cs) := by
  obtain ⟨t, pt, m, mx⟩ := hs
  have k := call_bi (X := X) b hb C.calm
  have hm := C.bi _ (bi_in b hb)
  have hv := boot_bi b hb
  obtain ⟨n1, n2⟩ := bi_nm b
  have pe : PE X (.Call (.Name (Str.ofString (biName b)) p) (e :: es) [] pos) (tCB (rBi X.K b) t) := by
    unfold biVal at k hv
    cases q : biTy b with
    | true =>
      rw [q] at k hv
      exact pe_callTy k hg hm hv pt n1 n2 (ord_star oe es) hpl
    | false =>
      rw [q] at k hv
      exact pe_callB k hg hm hv pt n1 n2 (ord_star oe es) hpl
  refine ⟨_, pe, asg_ord C.nd rfl rfl pe, fun σ H env G ix S w S' Q r g e q => ?_, fun σ H env G ix S k S' Q r g e q => semXA1 mx r g (by simpa only [ev] using e) (fun _ => nx_biOp.bind fun _ => nx_ok) q⟩
  simp only [ev] at e
  obtain ⟨y, e1, e⟩ := ok2 e
  obtain ⟨w', e2, e⟩ := ok2 e
  cases e
  exact m σ H env G ix S y.1 y.2 _ r g e1 fun vs G1 ix1 H1 s1 g1 r1 => ⟨G1, ix1, y.2, y.1, _, g1, r1, e2, q.from s1⟩
/-! ### isinstance -/
theorem boot_ty (t : Ty) : bootBuiltins (Str.ofString (tyName t)) = some (.type (tyName t)) := by
  cases t <;> decide +kernel
theorem ty_in (t : Ty) : tyName t ∈ bNames := by cases t <;> decide
theorem ty_nm (t : Ty) : Str.ofString (tyName t) ≠ "__name__" ∧ (Str.ofString (tyName t) == ("__debug__" : Str)) = false := by
  cases t <;> decide +kernel
theorem pe_ty (C : Ctx nm gl cf X) (t : Ty) {p : Pos} (hg : Gl X (Str.ofString (tyName t))) : PE X (.Name (Str.ofString (tyName t)) p) (tC (.ty (tyName t))) :=
  pe_bltn hg (C.bi _ (ty_in t)) (boot_ty t) rfl (ty_nm t).1 (ty_nm t).2
theorem boot_isi : bootBuiltins (Str.ofString "isinstance") = some (.builtin "isinstance") := by decide +kernel
theorem snd_isi (C : Ctx nm gl cf X) {a : Expr} {ca : E} {t : Ty} {p p2 pos : Pos} (hi : Gl X (Str.ofString "isinstance")) (hg : Gl X (Str.ofString (tyName t))) (oa : ord a = true) (ha : SndE gl cf X a ca) :
    SndE gl cf X (.Call (.Name (Str.ofString "isinstance") p) [a, .Name (Str.ofString (tyName t)) p2] [] pos) (.isi ca t) := by
  obtain ⟨ta, pa, _, ma, xa⟩ := ha
  have pe : PE X (.Call (.Name (Str.ofString "isinstance") p) [a, .Name (Str.ofString (tyName t)) p2] [] pos) (tCB (rIsi X.K) (tCons ta (tCons (tC (.ty (tyName t))) tNil))) :=
    pe_callB call_isi hi (C.bi _ (by decide)) boot_isi (pa_cons pa (pa_cons (pe_ty C t hg) pa_nil rfl) (ord_star oa _)) (by decide +kernel) (by decide +kernel) (ord_star oa _) rfl
  refine ⟨_, pe, asg_ord C.nd rfl rfl pe, fun σ H env G ix S w S' Q r g e q => ?_, fun σ H env G ix S k S' Q r g e q => semX1 xa r g (by simpa only [ev] using e) (fun _ => nx_isTy.bind fun _ => nx_ok) q⟩
  simp only [ev] at e
  obtain ⟨x, e1, e⟩ := ok2 e
  obtain ⟨k, e2, e⟩ := ok2 e
  cases e
  refine ma.data r g (show ev gl cf ca env S = .ok (x.1, x.2) from e1) fun v G1 ix1 H1 s1 g1 r1 => ?_
  obtain ⟨T, h1, h2⟩ := ty_of g1 r1 e2
  exact ⟨v, .ty (tyName t), .type T, .type (tyName t), k, rfl, .ty _, h1, h2 t k e2, postE_bl q s1 g1⟩
theorem snd_isis (C : Ctx nm gl cf X) {a : Expr} {ca : E} {t u : Ty} {p p2 p3 p4 pos : Pos} {kk : Nat} (hi : Gl X (Str.ofString "isinstance")) (hg : Gl X (Str.ofString (tyName t))) (hg2 : Gl X (Str.ofString (tyName u))) (oa : ord a = true) (ha : SndE gl cf X a ca) :
    SndE gl cf X (.Call (.Name (Str.ofString "isinstance") p) [a, .Tuple [.Name (Str.ofString (tyName t)) p2, .Name (Str.ofString (tyName u)) p3] kk p4] [] pos) (.isis ca [t, u]) := by
  obtain ⟨ta, pa, _, ma, xa⟩ := ha
  have pe : PE X (.Call (.Name (Str.ofString "isinstance") p) [a, .Tuple [.Name (Str.ofString (tyName t)) p2, .Name (Str.ofString (tyName u)) p3] kk p4] [] pos)
      (tCB (rIsiT X.K) (tCons ta (tCons (tTup (tCons (tC (.ty (tyName t))) (tCons (tC (.ty (tyName u))) tNil))) tNil))) :=
    pe_callB call_isiT hi (C.bi _ (by decide)) boot_isi (pa_cons pa (pa_cons (pe_tup (pa_cons (pe_ty C t hg) (pa_cons (pe_ty C u hg2) pa_nil rfl) rfl)) pa_nil rfl) (ord_star oa _)) (by decide +kernel) (by decide +kernel) (ord_star oa _) rfl
  refine ⟨_, pe, asg_ord C.nd rfl rfl pe, fun σ H env G ix S w S' Q r g e q => ?_, fun σ H env G ix S k S' Q r g e q => semX1 xa r g (by simpa only [ev] using e) (fun _ => nx_isTy.bind fun _ => nx_isTy.bind fun _ => nx_ok) q⟩
  simp only [ev] at e
  obtain ⟨x, e1, e⟩ := ok2 e
  obtain ⟨k, e2, e⟩ := ok2 e
  obtain ⟨k', e3, e⟩ := ok2 e
  cases e
  refine ma.data r g (show ev gl cf ca env S = .ok (x.1, x.2) from e1) fun v G1 ix1 H1 s1 g1 r1 => ⟨by show 2 ≤ sizeLine; decide, fun tp htp => ?_⟩
  have g2 := g1.lay (o := .tup [.ty (tyName t), .ty (tyName u)]) htp
  obtain ⟨T, h1, h2⟩ := ty_of g2 r1 e2
  refine ⟨v, tp, [.ty (tyName t), .ty (tyName u)], .type T, [.type (tyName t), .type (tyName u)], k || k', rfl, upd_same, .cons (.ty _) (.cons (.ty _) .nil), h1, ?_, postE_bl q (s1.trans (Stp.lay htp)) g2⟩
  have a1 := h2 t k e2
  have a2 := h2 u k' e3
  simp only [PySem.W.kitAny, a1, a2]
  cases k <;> cases k' <;> rfl
/-! ### methods of lists -/
theorem slot_me (m : Me) : Slot "list" (Str.ofString (meName m)) ("list." ++ meName m) ∧ typeOf (.builtin ("list." ++ meName m)) = pure (.type "method_descriptor") := by
  cases m with
  | append => exact ⟨PySem.F.slot_list_append, PySem.F.type_list_append⟩
  | extend => exact ⟨PySem.F.slot_list_extend, PySem.F.type_list_extend⟩
  | insert => exact ⟨PySem.F.slot_list_insert, PySem.F.type_list_insert⟩
  | pop => exact ⟨PySem.F.slot_list_pop, PySem.F.type_list_pop⟩
  | reverse => exact ⟨PySem.F.slot_list_reverse, PySem.F.type_list_reverse⟩
  | count => exact ⟨PySem.F.slot_list_count, PySem.F.type_list_count⟩
theorem snd_me (C : Ctx nm gl cf X) {m : Me} {o : Expr} {co : E} {args : List Expr} {cs : Es} {apos cpos : Pos} (ho : recv o = true) (hl : (apos.endLine == cpos.line) = true) (hn : args.length < 30) (so : SndE gl cf X o co) (hs : SndA gl cf X args cs)
    (h0 : (args = [] ∧ cs = .nil) ∨ ∃ e es, args = e :: es ∧ ord e = true ∧ (backTo cpos (starEach es X.env)).any (·.1) = false ∧ (backTo cpos (starEach args X.env)).all (fun x => !x.1) = true) :
    SndE gl cf X (.Call (.Attribute o (Str.ofString (meName m)) apos) args [] cpos) (.me m co cs) := by
  obtain ⟨to, po, _, mo, xo⟩ := so
  obtain ⟨t, pt, mt, xt⟩ := hs
  obtain ⟨sl, ty⟩ := slot_me m
  have hbase : attributeBase o (Str.ofString (meName m)) X.env (eval o X.env) = eval o X.env := recv_base ho _ _
  have fin : ∀ {σ : L2.St} {H : Hp} {env : Env} {G : Hp} {ix : List Addr} {S : Store} {w : W} {S' : Store}, ev gl cf (.me m co cs) env S = .ok (w, S') → ∃ n x2 ys y, ev gl cf co env S = .ok (.d (.obj n), x2) ∧ x2[n]? = some (.lst ys) ∧ evs gl cf cs env x2 = .ok y ∧ meOp m n y.1 y.2 = .ok (w, S') := fun {σ H env G ix S w S'} e => by
    simp only [ev] at e
    obtain ⟨⟨x1, x2⟩, e1, e⟩ := ok2 e
    simp only at e
    split at e
    · rename_i n
      split at e
      · rename_i ys ey
        obtain ⟨y, e2, e⟩ := ok2 e
        exact ⟨n, x2, ys, y, e1, ey, e2, e⟩
      · cases e
    · cases e
  have finx : ∀ {env : Env} {S : Store} {k : Nat} {S' : Store}, ev gl cf (.me m co cs) env S = .exc k S' → ev gl cf co env S = .exc k S' ∨ ∃ n x2 ys, ev gl cf co env S = .ok (.d (.obj n), x2) ∧ x2[n]? = some (.lst ys) ∧ evs gl cf cs env x2 = .exc k S' := fun {env S k S'} e => by
    simp only [ev] at e
    rcases exc2 e with e1 | ⟨⟨x1, x2⟩, e1, e⟩
    · exact .inl e1
    simp only at e
    split at e
    · rename_i n
      split at e
      · rename_i ys ey
        rcases exc2 e with e2 | ⟨y, e2, e⟩
        · exact .inr ⟨n, x2, ys, e1, ey, e2⟩
        · exact absurd e (nx_meOp k S')
      · cases e
    · cases e
  rcases h0 with ⟨rfl, rfl⟩ | ⟨e, es, rfl, oe, h1, h2⟩
  · have pe : PE X (.Call (.Attribute o (Str.ofString (meName m)) apos) [] [] cpos) (tBM0 X.K "list" (rMe X.K m) to) := pe_bm0 PySem.F.plainAttrs_list sl ty (mt_me m) po hbase hl
    refine ⟨_, pe, asg_ord C.nd rfl rfl pe, fun σ H env G ix S w S' Q r g e q => ?_, fun σ H env G ix S k S' Q r g e q => ?x⟩
    case x =>
      rcases finx e with e1 | ⟨n, x2, ys, e1, ey, e2⟩
      · exact xo σ H env G ix S k S' _ r g e1 q
      · simp only [evs] at e2
        cases e2
    obtain ⟨n, x2, ys, y, e1, ey, e2, e3⟩ := fin (σ := σ) (H := H) (G := G) (ix := ix) e
    simp only [evs] at e2
    cases e2
    refine mo σ H env G ix S _ x2 _ r g e1 fun v G1 ix1 H1 s1 g1 r1 => ?_
    cases (show Rp X.K G1 ix1 v (.obj n) from r1) with
    | @obj a _ ha =>
      obtain ⟨a', vs, f1, f2, f3, f4⟩ := g1.cell n ys ey
      rw [ha] at f1; cases f1
      exact ⟨.inl ⟨rfl, vs, SqL.of f2⟩, G1, ix1, x2, n, a, [], w, S', g1, rfl, ha, .nil, e3, q.from s1⟩
  · have pe : PE X (.Call (.Attribute o (Str.ofString (meName m)) apos) (e :: es) [] cpos) (tBM X.K "list" (rMe X.K m) to t) := pe_bm PySem.F.plainAttrs_list sl ty (mt_me m) po pt hbase (by
        rw [h2]
        simp only [keywordEach, backToKw, List.map_nil, List.all_nil, Bool.true_and, Bool.and_true, List.isEmpty_nil, if_true, decide_eq_true_eq]
        exact hn) hl (ord_star oe es) h1
    refine ⟨_, pe, asg_ord C.nd rfl rfl pe, fun σ H env G ix S w S' Q r g e q => ?_, fun σ H env G ix S k S' Q r g e q => ?x⟩
    case x =>
      rcases finx e with e1 | ⟨n, x2, ys, e1, ey, e2⟩
      · exact xo σ H env G ix S k S' _ r g e1 q
      · refine mo σ H env G ix S _ x2 _ r g e1 fun v G1 ix1 H1 s1 g1 r1 => ?_
        cases (show Rp X.K G1 ix1 v (.obj n) from r1) with
        | @obj a _ ha =>
          obtain ⟨a', vs, f1, f2, f3, f4⟩ := g1.cell n ys ey
          rw [ha] at f1; cases f1
          exact ⟨.inl ⟨rfl, vs, SqL.of f2⟩, xt σ H1 env G1 ix1 x2 k S' _ (r.stp s1) g1 e2 (q.from s1)⟩
    obtain ⟨n, x2, ys, y, e1, ey, e2, e3⟩ := fin (σ := σ) (H := H) (G := G) (ix := ix) e
    refine mo σ H env G ix S _ x2 _ r g e1 fun v G1 ix1 H1 s1 g1 r1 => ?_
    cases (show Rp X.K G1 ix1 v (.obj n) from r1) with
    | @obj a _ ha =>
      obtain ⟨a', vs, f1, f2, f3, f4⟩ := g1.cell n ys ey
      rw [ha] at f1; cases f1
      refine ⟨.inl ⟨rfl, vs, SqL.of f2⟩, ?_⟩
      exact mt σ H1 env G1 ix1 x2 y.1 y.2 _ (r.stp s1) g1 e2 fun vs' G2 ix2 H2 s2 g2 r2 => ⟨G2, ix2, y.2, n, a, y.1, w, S', g2, rfl, s2.i _ _ ha, r2, e3, q.from (s1.trans s2)⟩
/-! ### a list goes into the store, and out of it -/
theorem Good.boxC {K : PySem.W.Frag} {G : Hp} {ix : List Addr} {S : Store} {H : Hp} (g : Good K G ix S H) {p : Addr} {o : HO} {c : Cell} (h2 : H p = some o) (h3 : G p = none) (h4 : Free ix S p) (h6 : CellR K G (ix ++ [p]) p (some o) c) :
    Good K G (ix ++ [p]) (S ++ [c]) H where
  le := g.le
  len := by rw [List.length_append, List.length_append, g.len] <;> rfl
  there := fun a h => by
    rcases List.mem_append.mp h with h | h
    · exact g.there a h
    · rw [List.mem_singleton.mp h]; exact ⟨_, h2⟩
  cel := fun n d h hd => by
    by_cases hn : n < S.length
    · rw [List.getElem?_append_left hn] at h
      obtain ⟨a, k1, k3, k4⟩ := g.cel n d h hd
      exact ⟨a, Ixs.app ix p n a k1, k3, k4.mono (Le.refl _) (Ixs.app ix p)⟩
    · rw [List.getElem?_append_right (by omega)] at h
      have e0 : n - S.length = 0 := by
        by_cases z : n - S.length = 0
        · exact z
        · rw [List.getElem?_eq_none (by simp; omega)] at h; cases h
      rw [e0] at h
      cases h
      refine ⟨p, ?_, h3, by rw [h2]; exact h6⟩
      rw [List.getElem?_append_right (by rw [g.len]; omega), g.len, e0]
      rfl
  inj := fun n m a ys zs k1 k2 k3 k4 k5 k6 => by
    have side : ∀ (n : Nat) (d : Cell), (ix ++ [p])[n]? = some a → (S ++ [c])[n]? = some d → (n < S.length ∧ ix[n]? = some a ∧ S[n]? = some d) ∨ (n = S.length ∧ a = p) := fun n d k1 k3 => by
      by_cases hn : n < S.length
      · rw [List.getElem?_append_left hn] at k3
        rw [List.getElem?_append_left (by rw [g.len]; exact hn)] at k1
        exact .inl ⟨hn, k1, k3⟩
      · have hl := (List.getElem?_eq_some_iff.mp k3).1
        rw [List.length_append] at hl
        have e0 : n = S.length := by simp at hl; omega
        subst e0
        rw [List.getElem?_append_right (by rw [g.len]; exact Nat.le_refl _), g.len, Nat.sub_self] at k1
        cases k1
        exact .inr ⟨rfl, rfl⟩
    rcases side n ys k1 k3 with ⟨a1, a2, a3⟩ | ⟨a1, a2⟩ <;> rcases side m zs k2 k4 with ⟨b1, b2, b3⟩ | ⟨b1, b2⟩
    · exact g.inj n m a ys zs a2 b2 a3 b3 k5 k6
    · subst b2; exact absurd (h4 n ys a2 a3) k5
    · subst a2; exact absurd (h4 m zs b2 b3) k6
    · rw [a1, b1]
theorem Good.box {K : PySem.W.Frag} {G : Hp} {ix : List Addr} {S : Store} {H : Hp} (g : Good K G ix S H) {p : Addr} {vs : List V} {xs : List D} (h2 : H p = some (.lst vs)) (h3 : G p = none) (h4 : Free ix S p) (h6 : Rps K G ix vs xs) :
    Good K G (ix ++ [p]) (S ++ [.lst xs]) H := g.boxC h2 h3 h4 ⟨vs, rfl, h6.mono (Le.refl _) (Ixs.app ix p)⟩
theorem obj_last {ix : List Addr} {S : Store} {p : Addr} (h : ix.length = S.length) : (ix ++ [p])[S.length]? = some p := by
  rw [List.getElem?_append_right (by rw [h]; exact Nat.le_refl _), h, Nat.sub_self]
  rfl
theorem snd_box {e : Expr} {c : E} (h : SndE gl cf X e c) : SndE gl cf X e (.box c) := by
  obtain ⟨t, p, a, m, mx⟩ := h
  refine ⟨t, p, a, fun σ H env G ix S w S' Q r g e q => ?_, fun σ H env G ix S k S' Q r g e q => ?x⟩
  case x =>
    simp only [ev] at e
    rcases exc2 e with e1 | ⟨x, e1, e⟩
    · exact mx σ H env G ix S k S' _ r g e1 q
    · exfalso
      split at e
      all_goals first | (cases e; done) | (split at e <;> cases e)
  simp only [ev] at e
  obtain ⟨⟨x1, x2⟩, e1, e⟩ := ok2 e
  simp only at e
  split at e
  · rename_i xs
    cases e
    refine m σ H env G ix S _ x2 Q r g e1 fun v G1 ix1 H1 s1 g1 r1 => ?_
    obtain ⟨p, vs, rfl, h2, h3, h4, h5, h6⟩ := r1
    refine q _ G1 (ix1 ++ [p]) H1 ⟨s1.g, s1.i.trans (Ixs.app ix1 p), s1.keep, s1.there, s1.new, fun b hb => ?_⟩ (g1.box h2 h3 h4 h6) (.obj ?_)
    · rcases List.mem_append.mp hb with hb | hb
      · exact s1.fresh b hb
      · rw [List.mem_singleton.mp hb]; exact h5.symm
    · rw [List.getElem?_append_right (by rw [g1.len]; exact Nat.le_refl _), g1.len, Nat.sub_self]
      rfl
  · cases e
theorem snd_unbox {e : Expr} {c : E} (h : SndE gl cf X e c) : SndE gl cf X e (.unbox c) := by
  obtain ⟨t, p, a, m, mx⟩ := h
  refine ⟨t, p, a, fun σ H env G ix S w S' Q r g e q => ?_, fun σ H env G ix S k S' Q r g e q => ?x⟩
  case x =>
    simp only [ev] at e
    rcases exc2 e with e1 | ⟨x, e1, e⟩
    · exact mx σ H env G ix S k S' _ r g e1 q
    · exfalso
      split at e
      all_goals first | (cases e; done) | (split at e <;> cases e)
  simp only [ev] at e
  obtain ⟨⟨x1, x2⟩, e1, e⟩ := ok2 e
  simp only at e
  split at e
  · rename_i n
    split at e
    · rename_i xs ex
      cases e
      refine m σ H env G ix S _ x2 Q r g e1 fun v G1 ix1 H1 s1 g1 r1 => ?_
      cases (show Rp X.K G1 ix1 v (.obj n) from r1) with
      | @obj a _ ha =>
        obtain ⟨a', vs, f1, f2, f3, f4⟩ := g1.cell n xs ex
        rw [ha] at f1; cases f1
        have hl : n < x2.length := (List.getElem?_eq_some_iff.mp ex).1
        have live : ∀ (k : Nat) (d : Cell), (x2.set n .dead)[k]? = some d → d ≠ .dead → k ≠ n ∧ x2[k]? = some d := fun k d hk hd => by
          by_cases e : n = k
          · subst e
            rw [List.getElem?_set_self hl] at hk
            cases hk
            exact absurd rfl hd
          · rw [List.getElem?_set_ne e] at hk
            exact ⟨fun z => e z.symm, hk⟩
        refine q _ G1 ix1 H1 s1 ⟨g1.le, by rw [List.length_set]; exact g1.len, g1.there, fun k d hk hd => g1.cel k d (live k d hk hd).2 hd, fun k l b zs ws k1 k2 k3 k4 k5 k6 => g1.inj k l b zs ws k1 k2 (live k zs k3 k5).2 (live l ws k4 k6).2 k5 k6⟩
          ⟨a, vs, rfl, f2, f3, fun k d hk hz => ?_, (s1.fresh a (ixs_mem ha)).symm, f4⟩
        by_cases hd : d = .dead
        · exact hd
        · obtain ⟨z1, z2⟩ := live k d hz hd
          exact absurd (g1.inj k n a d _ hk ha z2 ex hd (by intro z; cases z)) z1
    · cases e
  · cases e
end
end Nl

/-! sorted of a set of ints, up to a thousand of them. -/
namespace L2
open PySem PySem.Spec PyProof.Rows
section
variable {P : Program} {w : World} {A : Around} {E : Value → Shared → Prop} {s : Shared} {a : Addr}
theorem set_sortA {S : Int → Bool} {n : Nat} {Q : Value → Shared → Prop} (hset : SetR w s.heap a S n) (calm : A.handled = none) (few : n ≤ 1000)
    (done : ∀ s' p (got : Array Value) (c : Nat) (is : List Int), (∀ b o, s.heap.get? b = some o → s'.heap.get? b = some o) → s'.gens = s.gens → s'.os = s.os → s.heap.objs.size ≤ p → s'.heap.get? p = some (seqObj "list" got c) → IntsAre got.toList is → is.Pairwise (· < ·) → (∀ k, k ∈ is ↔ S k = true) → is.length = n → Q (.ref p) s') :
    wpAny (model P w) A (call (.builtin "sorted") [.ref a]) Q E s := by
  obtain ⟨ob, rows, ep, tb, at_, kind, sto, nums, once, mem, bnd, fit, many, rise, lead⟩ := hset
  refine Calls.call_function_entry kind_sorted plain_sorted entry_sorted (args_sorted1 _) ?_
  unfold Builtin.«sorted»
  refine wpAny_bind (m := checkCount "sorted" 1 1 _) (wpAny_pure ?_)
  refine wpAny_bind (collect_set (A := A.in1) calm ⟨ob, at_, kind.1, sto⟩ fit bnd rise lead fun s1 us old big gen1 os1 same => ?_)
  have lenU : us.length = n := by
    rw [same.length_eq, List.length_map, Array.length_toList, many]
  have areI : IntsAre us (us.map Builtin.Re.reRawOf) := by
    refine ints_of us fun v hv => ?_
    obtain ⟨e, he, q⟩ := List.mem_map.mp (same.mem_iff.mp hv)
    obtain ⟨k, tk, h1, _⟩ := nums e he
    exact ⟨k, tk, q ▸ h1⟩
  have keys : (us.map Builtin.Re.reRawOf).Perm (rows.toList.map keyOf) := by
    have z := same.map Builtin.Re.reRawOf
    rwa [List.map_map] at z
  have room : us.length ≤ sizeLine := by
    rw [lenU, sizeLine_eq]
    omega
  refine wpAny_bind (wpAny_newList ?_ room)
  have fresh : (s1.heap.push (seqObj "list" us.toArray 0)).get? s1.heap.objs.size = some (seqObj "list" us.toArray 0) := Heap.get?_push_size _ rfl
  refine wpAny_bind (wpAny_holding (wpAny_call_entry slot_list_sort ⟨_, fresh, rfl⟩ entry_list_sort
    (SrtO.list_sort_ord SrtO.swo_int fresh room (fun h2 => SrtO.ints_sortable areI h2) fun got g1 g2 => ⟨_, rfl, ?_⟩) (args_list_sort _)))
  obtain ⟨k1, k2, k3⟩ := SrtO.ints_out areI g1 g2
  obtain ⟨c, hc⟩ := sortedHeap_at (vs := us) (out := got.toArray) fresh
  have all := k2.trans keys
  refine wpAny_pure ⟨_, rfl, done _ s1.heap.objs.size got.toArray c (got.map SrtO.iv) (fun b u e => ?_) gen1 os1 big hc k1 (lt_of_le_nodup _ k3 (all.nodup_iff.mpr once)) (fun k => by rw [all.mem_iff, ← mem k]) ?_⟩
  · have q := old b u e
    have lt := Heap.lt_size q
    refine (sortedHeap_old (Nat.ne_of_lt lt) ?_).trans (Heap.get?_push_of_some _ q)
    rw [size_push']
    exact Nat.lt_succ_of_lt lt
  · rw [all.length_eq, List.length_map, Array.length_toList, many]
end
/-- sorted(found), up to a thousand members -/
def rSortA (w : World) : List V → Hp → VK → Prop := fun vs H Q => ∃ (a : Addr) (S : Int → Bool) (n : Nat), vs = [V.ref a] ∧ (H a = some (SetO w a S n) ∧ n ≤ 1000) ∧
  ∀ (is : List Int) (p : Addr), is.Pairwise (· < ·) → (∀ k : Int, k ∈ is ↔ S k = true) → is.length = n → H p = none → Q (.ref p) (upd H p (.lst (is.map V.int)))
theorem cr_sortA {X : Cx} (hc : X.calm = true) : CallR X (.builtin "sorted") (rSortA X.w) := by
  intro pins s σ H vs us Q I r h
  obtain ⟨a, S, n, rfl, ⟨ha, few⟩, q⟩ := h
  rw [Vals.ref1 r]
  refine set_sortA (setO_get I ha) (I.ok.hd hc) few fun s' p got c is k g o hp hg hi hs hm hl => ?_
  have room : (is.map V.int).length ≤ sizeLine := by
    rw [List.length_map, hl, sizeLine_eq]
    omega
  have free : H p = none := I.hok.fresh hp
  have J : Inv X pins σ (upd H p (.lst (is.map V.int))) { s with heap := s'.heap, gens := s'.gens, drawn := s'.drawn, toks := s'.toks } := by
    refine I.call (ch := []) (Un.laid k hp free) (I.hok.laid k hp ⟨room, got.toList, c, vals_of_ints hi, hg⟩) ?_ fun _ z => nomatch z
    rw [g]
    exact I.bare
  have e : s' = { s with heap := s'.heap, gens := s'.gens, drawn := s'.drawn, toks := s'.toks } := by
    cases s'; cases s; cases o; rfl
  rw [e]
  exact ⟨.ref p, _, J, rfl, q is p hs hm hl free⟩
end L2

/-! set(a list of ints), for sorted(set(..)). -/
namespace Nl
open PySem PySem.Spec PyProof.Rows L2
/-- a set just made, the heap with it -/
abbrev oS (w : World) : Obj := { cls := .type "set", dict := none, data := .set #[] 0 (.fresh 0 0 (!w.params.followText "set-order")) }
abbrev hS (w : World) (h : Heap) : Heap := h.push (oS w)
section
variable {P : Program} {w : World} {A : Around} {E : Value → Shared → Prop} {s : Shared}
/-- what is wanted behind the filling -/
def Filled (w : World) (s : Shared) (ns : List Int) (r : Value) (s2 : Shared) : Prop := r = .none ∧ ∃ h' tk c, s2 = { s with heap := h', toks := tk } ∧ SetR w h' s.heap.objs.size (fun j => decide (j ∈ ns)) c ∧ c ≤ ns.length ∧ ∀ b o, s.heap.get? b = some o → h'.get? b = some o
theorem set_of_list {l : Addr} {items : Array Value} {ns : List Int} {Q : Value → Shared → Prop} (hh : A.handled = none) (hl : s.heap.IsList l items) (hit : IntsAre items.toList ns) (hb : ns.length + 1 < scanBound)
    (q : ∀ (h' : Heap) (tk c : Nat), SetR w h' s.heap.objs.size (fun j => decide (j ∈ ns)) c → c ≤ ns.length → (∀ b o, s.heap.get? b = some o → h'.get? b = some o) → Q (.ref s.heap.objs.size) { s with heap := h', toks := tk }) :
    wpAny (model P w) A (PySem.call (.type "set") [.ref l]) Q E s := by
  obtain ⟨c, tl, hmro⟩ := F.called_set.mro
  have hmade := F.called_set.made
  have hsub := F.called_set.sub
  refine wpAny_call (codeAny_of_tree ?_)
  show wpAny _ _ (callAny (.type "set") _) _ _ _
  refine wpAny_pure ⟨Code.quiet_builtin _ (by decide +kernel), codeAny_builtin F.entry_type_call ?_⟩
  rw [Around.under_plain (weight_type_call_type "set" [.ref l] []) rfl]
  have h1 := F.called_set.notType
  have h2 := F.called_set.canCreate
  have hct := F.typeCall_set_1 (.ref l)
  repeat (any_goals (first | assumption | wp_step))
  refine codeAny_mono (code_set_led1 (.ref l) (E := E) (Q₁ := fun obj s1 => obj = .ref s.heap.objs.size ∧ s1 = { s with heap := hS w s.heap }) ⟨rfl, rfl⟩) fun r s1 hr => ?_
  cases r with
  | error e => exact hr
  | ok fl =>
    cases fl with
    | ret obj =>
      obtain ⟨rfl, rfl⟩ := hr
      have hT : Shared.TypeIs { s with heap := hS w s.heap } (.ref s.heap.objs.size) "set" := ⟨_, Heap.get?_push_size _ rfl, rfl⟩
      have hli := F.called_set.init.lookup
      have hbi := F.called_set.init.bind (.ref s.heap.objs.size)
      repeat (any_goals (first | assumption | wp_step))
      refine codeAny_mono (codeAny_call_builtin (R := wants (Filled w s ns) E) F.called_set.init.plain F.entry_set_init (check_set_init_1 hT ?_)) fun r2 s2 h2 => ?_
      · obtain ⟨⟨ocls, odict, odata, oslots⟩, hol, hcl, nl, hdl⟩ := hl
        simp only at hcl hdl
        subst hcl
        subst hdl
        have hol' := Heap.get?_push_of_some (oS w) hol
        have hl1 : (hS w s.heap).IsList l items := ⟨_, hol', rfl, nl, rfl⟩
        have k1 := F.sub_list_set
        have k2 := F.sub_list_frozenset
        have k3 : (Value.type "list" == Value.type "dict") = false := by decide
        unfold Builtin.«set.__init__» noKeywords Builtin.Frozenset.updateFrom
        generalize hPI : pyIter = PI
        wp_walk
        subst hPI
        refine wpAny_pyIter_list hl1 ?_
        refine wpAny_bind (wpAny_runValue ?_)
        have hlt : l < s.heap.objs.size := Heap.lt_size hol
        have hz : (hS w s.heap).objs.size = s.heap.objs.size + 1 := Heap.size_push ..
        have hin : A.in1.in1.in1.handled = none := by simp [hh]
        have hlen : items.size = ns.length := by
          have := IntsAre.length hit
          rwa [Array.length_toList] at this
        have hval : ∀ (i : Nat) (v : Value), items[i]? = some v → ∃ k t, ns[i]? = some k ∧ v = .int k t := fun i v hv => by
          have hi : i < ns.length := hlen ▸ (Array.getElem?_eq_some_iff.mp hv).1
          obtain ⟨t, e⟩ := IntsAre.int_at hit i v (by rw [Array.getElem?_toList]; exact hv)
          rw [List.getD_eq_getElem?_getD, List.getElem?_eq_getElem hi] at e
          exact ⟨_, t, List.getElem?_eq_getElem hi, e⟩
        have n1 : l ≠ (hS w s.heap).objs.size := by
          rw [hz]
          exact Nat.ne_of_lt (Nat.lt_succ_of_lt hlt)
        have n2 : s.heap.objs.size ∉ [(hS w s.heap).objs.size, l] := by
          rw [hz]
          intro h
          rcases List.mem_cons.mp h with h | h
          · exact Nat.ne_of_lt (Nat.lt_succ_self _) h
          · exact Nat.ne_of_gt hlt (List.mem_singleton.mp h)
        refine set_update_ints ((Walks.list hin _ l n1 items).toS) s.heap.objs.size n2 ns hlen hb hval items.size 0 _ (by omega) (Nat.zero_le _) ⟨⟨_, Heap.get?_push_size _ rfl, rfl, rfl⟩, hl1.push _⟩ ⟨0, Nat.le_refl 0, setR_new_at (Heap.get?_push_of_some _ (Heap.get?_push_size _ rfl))⟩ fun s3 c3 hm hc3 h3 => ?_
        obtain ⟨h', g2, d2, tk2, os2⟩ := s3
        cases (show g2 = s.gens from hm.gens)
        cases (show d2 = s.drawn from hm.drawn)
        cases (show os2 = s.os from hm.os)
        show wpAny _ _ _ _ _ _
        refine wpAny_pure ?_
        show wpAny _ _ (ret Value.none) _ _ _
        refine wpAny_pure ⟨rfl, h', tk2, c3, rfl, h3, by omega, fun b o e => ?_⟩
        have hb0 : b < s.heap.objs.size := Heap.lt_size e
        refine hm.heap b o ?_ (Heap.get?_push_of_some _ (Heap.get?_push_of_some _ e))
        rw [hz]
        intro h
        rcases List.mem_cons.mp h with h | h
        · exact Nat.ne_of_lt hb0 h
        · exact Nat.ne_of_lt (Nat.lt_succ_of_lt hb0) (List.mem_singleton.mp h)
      · cases r2 with
        | error e => exact h2
        | ok fl2 =>
          cases fl2 with
          | ret r =>
            obtain ⟨rfl, h', tk, c', rfl, a1, a2, a3⟩ := h2
            repeat (any_goals (first | assumption | wp_step))
            exact q _ _ _ a1 a2 a3
          | _ => exact h2.elim
    | _ => exact hr.elim
theorem setR_len {h : Heap} {a : Addr} {ns : List Int} {c : Nat} (R : SetR w h a (fun j => decide (j ∈ ns)) c) (L : List Int) (nd : L.Nodup) (hL : ∀ k, k ∈ L ↔ k ∈ ns) : c = L.length := by
  obtain ⟨o, es, ep, t, _, _, _, _, n1, n2, _, _, n3, _⟩ := R
  have p : (es.toList.map keyOf).Perm L := (List.perm_ext_iff_of_nodup n1 nd).mpr fun k => by
    rw [hL k, ← n2 k]
    simp
  have := p.length_eq
  rw [List.length_map, Array.length_toList] at this
  omega
variable {X : Cx}
/-- set(a list of ints) -/
def rSetI (K : PySem.W.Frag) (w : World) : List V → Hp → VK → Prop := fun xs H Q => ∃ (p : Addr) (ns : List Int), xs = [V.ref p] ∧ SqL K H p (ns.map V.int) ∧ ns.length ≤ 1000 ∧ ∀ a c, H a = none → (∀ L : List Int, L.Nodup → (∀ k, k ∈ L ↔ k ∈ ns) → c = L.length) → Q (.ref a) (upd H a (SetO w a (fun j => decide (j ∈ ns)) c))
theorem cr_setI (hc : X.calm = true) : CallR X (.type "set") (rSetI X.K X.w) := by
  intro pins s σ H xs us Q I r h
  obtain ⟨p, ns, rfl, hq, hl, q⟩ := h
  obtain ⟨u, rfl, rx⟩ := vals1 r
  cases rx
  obtain ⟨its, r', pl, hz⟩ := I.list hq
  refine set_of_list (ns := ns) (I.ok.hd hc) pl.isList ?_ (by unfold scanBound; omega) fun h' tk c R hcn k => ?_
  · exact intsAre_of r'
  · exact ⟨.ref s.heap.objs.size, _, I.laid (t' := tk) k (Nat.le_refl _) (setO_new R), rfl, q _ c (I.hok.fresh (Nat.le_refl _)) (setR_len R)⟩
end
section
variable {nm : Nms} {gl : Nat → Option D} {cf : Cf} {X : Cx}
theorem snd_sset (C : Ctx nm gl cf X) {p pos p2 pos2 : Pos} {e : Expr} {cs : Es} (hg : Gl X (Str.ofString "sorted")) (hg2 : Gl X (Str.ofString "set")) (oe : ord e = true) (hs : SndA gl cf X [e] cs) :
    SndE gl cf X (.Call (.Name (Str.ofString "sorted") p) [.Call (.Name (Str.ofString "set") p2) [e] [] pos2] [] pos) (.bi .sset cs) := by
  obtain ⟨t, pt, m, mx⟩ := hs
  have pi : PE X (.Call (.Name (Str.ofString "set") p2) [e] [] pos2) (tCB (rSetI X.K X.w) t) := pe_callTy (cr_setI C.calm) hg2 (C.bi _ (by decide)) (by decide +kernel) pt (by decide +kernel) (by decide +kernel) (ord_star oe []) rfl
  have pe : PE X (.Call (.Name (Str.ofString "sorted") p) [.Call (.Name (Str.ofString "set") p2) [e] [] pos2] [] pos) (tCB (rSortA X.w) (tCons (tCB (rSetI X.K X.w) t) tNil)) := pe_callB (cr_sortA C.calm) hg (C.bi _ (by decide)) (by decide +kernel) (pa_cons pi pa_nil rfl) (by decide +kernel) (by decide +kernel) rfl rfl
  refine ⟨_, pe, asg_ord C.nd rfl rfl pe, fun σ H env G ix S w S' Q r g e q => ?_, fun σ H env G ix S k S' Q r g e q => semXA1 mx r g (by simpa only [ev] using e) (fun _ => nx_biOp.bind fun _ => nx_ok) q⟩
  simp only [ev] at e
  obtain ⟨y, e1, e⟩ := ok2 e
  obtain ⟨w', e2, e⟩ := ok2 e
  cases e
  refine m σ H env G ix S y.1 y.2 _ r g e1 fun vs G1 ix1 H1 s1 g1 r1 => ?_
  obtain ⟨y1, y2⟩ := y
  dsimp only at *
  unfold biOp at e2
  split at e2 <;> first | (rename_i z _; cases z; done) | skip
  all_goals try (rename_i z; cases z; done)
  all_goals try contradiction
  rename_i xs _ em
  split at e2
  · rename_i ns en
    obtain ⟨c, e2⟩ := guard_ok e2
    cases e2
    rw [decide_eq_true_eq] at c
    obtain ⟨d, rfl, ed⟩ := map1 em
    obtain ⟨v, rfl, rv⟩ := rps1 r1
    obtain ⟨a, us, rfl, h1, r2⟩ := pk_lst g1 rv ed
    have hu := r2.ints en
    subst hu
    refine ⟨a, ns, rfl, SqL.of h1, c, fun b k hb hk => ?_⟩
    have hk' := hk (sortU ns) (nodup_lt (sortU_lt ns)) fun z => sortU_mem z ns
    have hle := sortU_le ns
    refine ⟨b, _, k, rfl, ⟨upd_same, by omega⟩, fun L p' h2 h3 h4 h5 => ?_⟩
    have hL : L = sortU ns := sortU_unique h2 fun z => by rw [h3 z]; simp
    subst hL
    exact (q.from (s1.trans (Stp.lay hb))).newL (g1.lay hb) h5 rfl (Rps.ofInts _)
  · cases e2
end
end Nl

/-! enumerate(a tuple). -/
namespace Nl
open PySem PySem.Spec PyProof.Rows L2
open AutoSeq1 (wpAny_loadPart')
theorem enumT_new (l : Addr) (items : Array Value) (n : Nat) (dct : Option Addr) (sl : Array (Option Value)) :
    Meets (Builtin.«enumerate.__new__» ⟨[.type "enumerate", .ref l], []⟩) (fun _ R s => s.heap.get? l = some { cls := .type "tuple", dict := dct, data := .seq items n, slots := sl } ∧
      R (.ok (.ret (.ref (s.heap.push { cls := .type "tuple_iterator", data := .fields #[.ref l, .int 0 0] }).objs.size)))
        { s with heap := (s.heap.push { cls := .type "tuple_iterator", data := .fields #[.ref l, .int 0 0] }).push { cls := .type "enumerate", data := .fields #[.none, .bool false, .ref s.heap.objs.size, rawInt 0, .none, .none] } }) :=
  .of_wp fun prog w A R s h => by
    obtain ⟨hp, g, d, tk, os⟩ := s; obtain ⟨hl, h⟩ := h
    have hsub := sub_enumerate
    have hL : Heap.IsTuple (Shared.heap ⟨hp, g, d, tk, os⟩) l items := ⟨_, hl, rfl, n, rfl⟩
    wp_walk using wpAny_loadPart' hl
    refine wpAny_stack_any fun st => wpAny_pure ?_
    split
    · rename_i c _ _ _ _ _
      cases (c == Value.type "enumerate")
      · wp_walk using wpAny_loadPart' hl, wpAny_pyIter_tuple hL
        exact ⟨_, rfl, h⟩
      · wp_walk using wpAny_loadPart' hl, wpAny_pyIter_tuple hL
        exact ⟨_, rfl, h⟩
    · wp_walk using wpAny_loadPart' hl, wpAny_pyIter_tuple hL
      exact ⟨_, rfl, h⟩
section
variable {prog : Program} {w : World} {A : Around} {E : Value → Shared → Prop} {s : Shared}
theorem call_enumT {l : Addr} {items : Array Value} {Q : Value → Shared → Prop} (hL : s.heap.IsTuple l items)
    (h : ∀ h', IsEnum h' (s.heap.objs.size + 1) s.heap.objs.size 0 .none → h'.IsTupleIter s.heap.objs.size l 0 → h'.objs.size = s.heap.objs.size + 2 →
      (∀ b o, s.heap.get? b = some o → h'.get? b = some o) → Q (.ref (s.heap.objs.size + 1)) { s with heap := h' }) :
    wpAny (model prog w) A (PySem.call (.type "enumerate") [.ref l]) Q E s := by
  obtain ⟨⟨c, dct, dt, sl⟩, hl, hc, n, hd⟩ := hL
  replace hc : c = .type "tuple" := hc
  replace hd : dt = .seq items n := hd
  subst hc hd
  refine callType_new F.called_enumerate (by decide) (F.typeCall_enumerate_1 _) (F.newCall_enumerate_1 _) (fun obj => F.args_object_init_2 obj _) F.entry_enumerate_new
    (enumT_new l items n dct sl) ⟨hl, ?_⟩
  have hz : (s.heap.push { cls := .type "tuple_iterator", data := .fields #[.ref l, .int 0 0] }).objs.size = s.heap.objs.size + 1 := Heap.size_push ..
  show _ ∧ _
  rw [hz]
  have he : IsEnum ((s.heap.push { cls := .type "tuple_iterator", data := .fields #[.ref l, .int 0 0] }).push
      { cls := .type "enumerate", data := .fields #[.none, .bool false, .ref s.heap.objs.size, rawInt 0, .none, .none] }) (s.heap.objs.size + 1) s.heap.objs.size 0 .none := by
    have := Heap.get?_push_size (s.heap.push { cls := .type "tuple_iterator", data := .fields #[.ref l, .int 0 0] })
      (o := { cls := .type "enumerate", data := .fields #[.none, .bool false, .ref s.heap.objs.size, rawInt 0, .none, .none] }) rfl
    rw [hz] at this; exact this
  refine ⟨⟨_, he, rfl⟩, h _ he ⟨_, Heap.get?_push_of_some _ (Heap.get?_push_size _ rfl), rfl, rfl⟩ (by rw [Heap.size_push, hz]) fun b o x => Heap.get?_push_of_some _ (Heap.get?_push_of_some _ x)⟩
end
/-- the tuple at a, each item in a new pair -/
def IteT (K : PySem.W.Frag) (a : Addr) : It :=
  ⟨fun i H => ∃ (xs : List V) (x : V), SqT K H a xs ∧ xs[i]? = some x, fun i H v H' => ∃ T x, v = .ref T ∧ H T = none ∧ H' = L2.upd H T (.tup [.int (i : Nat), x]) ∧ ∀ xs, SqT K H a xs → xs[i]? = some x, fun i H => ∃ xs : List V, SqT K H a xs ∧ xs.length = i⟩
theorem turn_enumT {P : Program} {w : World} {K : PySem.W.Frag} {elts : List Expr} {kk : Nat} {tpos : Pos} (a e it : Addr) :
    Turn P w K (.Tuple elts kk tpos) (IteT K a) [e, it] e (fun i h => (∃ old, IsEnum h e it ((i : Nat) : Int) old) ∧ h.IsTupleIter it a i ∧ e ≠ it ∧ a ≠ it ∧ a ≠ e) where
  mem := by simp
  obj := fun i h st b hb => by
    obtain ⟨⟨old, he⟩, ⟨o, ho, hc, hd⟩, _⟩ := st
    have e' : b = e ∨ b = it := by simpa using hb
    rcases e' with z | z
    · rw [z]; exact ⟨_, he, fun v q => nomatch q⟩
    · rw [z]; exact ⟨o, ho, fun v q => by rw [hd] at q; cases q⟩
  keep := fun i h h' st k => let ⟨⟨old, he⟩, hi, hne⟩ := st; ⟨⟨old, k e (by simp) _ he⟩, hi.at fun o q => k it (by simp) o q, hne⟩
  item := by
    intro X hP hw hK hc i pins s σ H E I hf st hg
    subst hP hw hK
    obtain ⟨⟨old, he⟩, hit, hne, hai, hae⟩ := st
    obtain ⟨xs, x, hq, hx⟩ := hg
    obtain ⟨its, rv, p, hz⟩ := I.tuple hq
    obtain ⟨u, hu, ru⟩ := rv.get hx
    have p' : s.heap.IsTuple a its.toArray := p
    have hil : i < its.toArray.size := by
      have := (List.getElem?_eq_some_iff.mp hu).1
      simpa using this
    have hel : e < s.heap.objs.size := Heap.lt_size he
    have hil2 : it < s.heap.objs.size := by obtain ⟨_, q, _⟩ := hit; exact Heap.lt_size q
    refine wpAny_pyNext_enum_itemD (Draws.tuple (A := X.A.in1) (I.ok.hd hc) it a hai its.toArray) he ⟨hit, p'⟩ hil hne (by simp [hne, Ne.symm hae]) fun y h' tk hy ho hst hT hsz hk => ?_
    have hy' : y = u := by
      have : its.toArray[i]? = some y := hy
      rw [show its.toArray[i]? = its[i]? by simp, hu] at this
      exact (Option.some.inj this).symm
    subst hy'
    refine ⟨_, rfl, wpAny_letOwnedTupleGo_enum (s := { s with heap := h', toks := tk + 1 }) ho fun h'' he' sb => ?_⟩
    have hT2 : h''.get? s.heap.objs.size = some { cls := .type "tuple", data := .seq #[.int i tk, y] } := (sb.2 _ (Nat.ne_of_gt hel)).trans hT
    have new : ObjOk X.prog X.w (L2.upd H s.heap.objs.size (.tup [.int (i : Nat), x])) h'' s.heap.objs.size (.tup [.int (i : Nat), x]) :=
      ⟨by show 2 ≤ sizeLine; decide, [.int i tk, y], .cons ⟨_, rfl⟩ (.cons ru .nil), ⟨_, hT2, rfl, _, rfl⟩⟩
    have I1 : Inv X pins σ (L2.upd H s.heap.objs.size (.tup [.int (i : Nat), x])) { s with heap := h'', toks := tk + 1 } :=
      I.turnedNew (ch := [e, it]) (fun b ob hb q => (sb.2 b (fun z => hb (by simp [z]))).trans (hk b ob (fun z => hb (by simp [z])) (fun z => hb (by simp [z])) q)) hf (Nat.le_refl _) new
    refine ⟨.ref s.heap.objs.size, _, I1, rfl, ⟨_, x, rfl, I.hok.fresh (Nat.le_refl _), rfl, fun ys hy => by rw [I.tuple_inj hy hq]; exact hx⟩, ⟨⟨y, ?_⟩, hst.1.at fun o q => (sb.2 it (Ne.symm hne)).trans q, hne, hai, hae⟩, fun b hb => ?_⟩
    · have e1 : ((i + 1 : Nat) : Int) = (i : Int) + 1 := by omega
      rw [e1]; exact he'
    · have hb' : b < s.heap.objs.size := by
        have e' : b = e ∨ b = it := by simpa using hb
        rcases e' with z | z
        · rw [z]; exact hel
        · rw [z]; exact hil2
      rw [upd_ne (Nat.ne_of_lt hb')]
      exact (hf b hb).1
  done := by
    intro X hP hw hK hc i pins s σ H E I hf st hg
    subst hP hw hK
    obtain ⟨⟨old, he⟩, hit, hne, hai, hae⟩ := st
    obtain ⟨xs, hq, hx⟩ := hg
    obtain ⟨its, rv, p, hz⟩ := I.tuple hq
    have p' : s.heap.IsTuple a its.toArray := p
    obtain ⟨f0, f1, f2, f3, f4, f5⟩ := hf it (by simp)
    have hl := rv.length
    have hi : i = its.toArray.size := by rw [List.size_toArray]; omega
    subst hi
    exact wpAny_pyNext_enum_endD (Draws.tuple (A := X.A.in1) (I.ok.hd hc) it a hai its.toArray) he ⟨hit, p'⟩ fun h' eb => ⟨rfl, I.turned (t' := s.toks) (fun b o hb q => eb b o hb q) f0 f1 f3 f4 f5⟩
  self := fun A i s Q E st h => let ⟨⟨_, he⟩, _⟩ := st; wpAny_pyIter_enum he h
def iEnumA (K : PySem.W.Frag) (ta : TA) : TI := fun σ H R => ta σ H fun vs H1 => ∃ a xs, vs = [.ref a] ∧ ((SqL K H1 a xs ∧ R (Ite K a) H1) ∨ (SqT K H1 a xs ∧ R (IteT K a) H1))
theorem pi_enumA {X : Cx} {e : Expr} {ta : TA} {p pos tpos : Pos} {elts : List Expr} {kk : Nat} (hg : Gl X "enumerate") (hm : X.mg "enumerate" = none) (ha : PA X [e] ta) (hs : starEach [e] X.env = [(false, PySem.eval e X.env)] := by rfl) :
    PI X (.Tuple elts kk tpos) (.Call (.Name "enumerate" p) [e] [] pos) (iEnumA X.K ta) := by
  refine ⟨fun pins s σ H R I h => ?_⟩
  refine Call_ (ld_blt I hg hm boot_enumerate (PyProof.Rows.callWith_type1 (thn (ha.run pos pins s σ H _ I h) fun us s1 ⟨vs, H1, I1, r1, q1⟩ => ?_) hs rfl))
  obtain ⟨a, xs, ex, q1⟩ := q1
  subst ex
  cases r1 with
  | cons r rr =>
    cases rr
    cases r
    have fresh2 : ∀ b, b ∈ [s1.heap.objs.size + 1, s1.heap.objs.size] → FpOk X pins H1 b := fun b hb => by
      have e' : b = s1.heap.objs.size + 1 ∨ b = s1.heap.objs.size := by simpa using hb
      have hle : s1.heap.objs.size ≤ b := by
        rcases e' with z | z
        · rw [z]; exact Nat.le_add_right _ _
        · rw [z]; exact Nat.le_refl _
      exact I1.fpOk hle (I1.hok.fresh hle)
    rcases q1 with ⟨hq, q⟩ | ⟨hq, q⟩
    · obtain ⟨its, rv, p', hz⟩ := I1.list hq
      refine call_enumerate_list p'.isList fun h' he hit hsz hk => wpAny_pyIter_enum he ?_
      have I2 : Inv X pins σ H1 { s1 with heap := h' } := I1.kept (t' := s1.toks) hk
      exact ⟨s1.heap.objs.size + 1, [s1.heap.objs.size + 1, s1.heap.objs.size], _, _, H1, rfl, I2, turn_enum a (s1.heap.objs.size + 1) s1.heap.objs.size, ⟨⟨.none, he⟩, hit, Nat.succ_ne_self _⟩, fresh2, q⟩
    · obtain ⟨its, rv, p', hz⟩ := I1.tuple hq
      have p2 : s1.heap.IsTuple a its.toArray := p'
      obtain ⟨o1, ho1, _⟩ := id p'
      have hlt : a < s1.heap.objs.size := Heap.lt_size ho1
      refine call_enumT p2 fun h' he hit hsz hk => wpAny_pyIter_enum he ?_
      have I2 : Inv X pins σ H1 { s1 with heap := h' } := I1.kept (t' := s1.toks) hk
      exact ⟨s1.heap.objs.size + 1, [s1.heap.objs.size + 1, s1.heap.objs.size], _, _, H1, rfl, I2, turn_enumT a (s1.heap.objs.size + 1) s1.heap.objs.size, ⟨⟨.none, he⟩, hit, Nat.succ_ne_self _, Nat.ne_of_lt hlt, Nat.ne_of_lt (Nat.lt_succ_of_lt hlt)⟩, fresh2, q⟩
end Nl

/-! t[::-1] of a tuple. -/
namespace Nl
open PySem PySem.Spec PyProof.Rows L2
section
variable {prog : Program} {w : World} {A : Around} {E : Value → Shared → Prop} {s : Shared}
theorem adj_rev (n : Nat) : Builtin.Slice.sliceAdjust none none (-1) (n : Int) = ((n : Int) - 1, -1) := by
  unfold Builtin.Slice.sliceAdjust
  simp
theorem places_rev (n : Nat) : Builtin.Slice.slicePlaces ((n : Int) - 1) (-1) (-1) = n := by
  unfold Builtin.Slice.slicePlaces
  by_cases h : n = 0
  · subst h
    simp
  · have h1 : (-1 : Int) < (n : Int) - 1 := by omega
    simp [h1]
theorem fm_congr {α β : Type} {f g : α → Option β} : ∀ {l : List α}, (∀ x ∈ l, f x = g x) → l.filterMap f = l.filterMap g
  | [], _ => rfl
  | x :: xs, h => by
    rw [List.filterMap_cons, List.filterMap_cons, h x List.mem_cons_self, fm_congr fun y hy => h y (List.mem_cons_of_mem _ hy)]
theorem applied_rev {sl : Addr} {vs : Value} {n : Nat} {Q : Int × Int × Nat → Shared → Prop} (hs : s.heap.IsSliceOf sl .none .none vs) (ps : IsPart vs (some (-1)))
    (h : Q ((n : Int) - 1, -1, n) s) : wpAny (model prog w) A (Builtin.Slice.sliceApplied (.ref sl) (pure (n : Int))) Q E s := by
  obtain ⟨os, hos, hcs, hds⟩ := id hs
  unfold Builtin.Slice.sliceApplied Builtin.Slice.sliceFields
  refine wpAny_bind (wpAny_bind (wpAny_field hos hds (x := .none) rfl (wpAny_bind (wpAny_field hos hds (x := .none) rfl (wpAny_bind (wpAny_field hos hds (x := vs) rfl (wpAny_pure ?_)))))))
  refine wpAny_bind (HT.slicePart_ ps ?_)
  show wpAny _ _ (if ((-1 : Int) == 0) = true then _ else _) _ _ s
  rw [if_neg (by decide)]
  refine wpAny_bind (HT.slicePart_ IsPart.none (wpAny_bind (HT.slicePart_ IsPart.none (wpAny_bind (wpAny_pure ?_)))))
  show wpAny _ _ (match Builtin.Slice.sliceAdjust none none (-1) (n : Int) with | (lo, hi) => pure (lo, (-1 : Int), Builtin.Slice.slicePlaces lo hi (-1))) _ _ s
  rw [adj_rev n]
  show wpAny _ _ (pure ((n : Int) - 1, (-1 : Int), Builtin.Slice.slicePlaces ((n : Int) - 1) (-1) (-1))) _ _ s
  rw [places_rev]
  exact wpAny_pure h
theorem pick_rev (xs : Array Value) : ((List.range xs.size).filterMap fun (m : Nat) => xs[((xs.size : Int) - 1 + (m : Int) * (-1)).toNat]?).toArray = xs.toList.reverse.toArray := by
  have h1 : (List.range xs.size).filterMap (fun (m : Nat) => xs[((xs.size : Int) - 1 + (m : Int) * (-1)).toNat]?) = ((List.range xs.size).map fun k => xs.size - 1 - k).filterMap (xs[·]?) := by
    rw [List.filterMap_map]
    refine fm_congr fun m hm => ?_
    have := List.mem_range.mp hm
    have e2 : ((xs.size : Int) - 1 + (m : Int) * (-1)).toNat = xs.size - 1 - m := by omega
    rw [e2]
    rfl
  rw [h1, PySem.W.krv_range, List.filterMap_reverse, PySem.W.krv_all]
theorem getItem_tuple_rev {t sl : Addr} {items : Array Value} {vs : Value} {Q : Value → Shared → Prop} (ht : IsTup s.heap t items) (hs : s.heap.IsSliceOf sl .none .none vs) (ps : IsPart vs (some (-1)))
    (h : Q (.ref s.heap.objs.size) { s with heap := s.heap.push { cls := .type "tuple", data := .seq items.toList.reverse.toArray } })
    (hsz : items.size ≤ sizeLine) : wpAny (model prog w) A (getItem (.ref t) (.ref sl)) Q E s := by
  have htake : sizeOk (.seq items.toList.reverse.toArray) := by
    show items.toList.reverse.toArray.size ≤ sizeLine
    rw [List.size_toArray, List.length_reverse, Array.length_toList]
    exact hsz
  obtain ⟨os, hos, hcs, hds⟩ := id hs
  have hTs : s.TypeIs (.ref sl) "slice" := ⟨os, hos, hcs⟩
  unfold getItem
  try with_reducible refine wpAny_holding ?_
  first | refine wpAny_bind (wpAny_pure ?_) | skip
  refine wpAny_bind (wpAny_sequenceKey ht.typeIs (by decide) ?_)
  refine wpAny_bind (wpAny_callSpecial?_slot (name := Str.ofString "__getitem__") ht.typeIs PyProof.Rows.slot_tuple_getitem
    (wpAny_call_entry PyProof.Rows.slot_tuple_getitem ht.typeIs entry_tuple_getitem ?_ (args_tuple_getitem _ _)))
  show wpAny _ _ (Builtin.Tuple.tupleItemsOf (.ref t) >>= _) _ _ s
  refine wpAny_bind (tupleItemsOf_ ht ?_)
  refine wpAny_bind (wpAny_typeOf hTs ?_)
  rw [if_pos (by decide)]
  refine wpAny_bind (applied_rev hs ps ?_)
  have hno : ¬ ((((items.size : Int) - 1) == 0 && (-1 : Int) == 1 && items.size == items.size) = true) := by
    intro q
    rw [Bool.and_eq_true, Bool.and_eq_true] at q
    have := eq_of_beq q.1.2
    omega
  show wpAny _ _ (if (((items.size : Int) - 1) == 0 && (-1 : Int) == 1 && items.size == items.size) = true then _ else _) _ _ s
  rw [if_neg hno, pick_rev]
  first
    | exact wpAny_bind (m := Builtin.Tuple.tupleExact _) (wpAny_newObj_type (wpAny_pure ⟨_, rfl, wpAny_pure h⟩) htake)
    | exact wpAny_bind (m := Builtin.Tuple.tupleExact _) (wpAny_newObj_type (wpAny_bind (wpAny_pure (wpAny_pure ⟨_, rfl, wpAny_pure h⟩))) htake)
    | exact wpAny_bind (wpAny_bind (m := Builtin.Tuple.tupleExact _) (wpAny_newObj_type (wpAny_pure (wpAny_pure ⟨_, rfl, wpAny_pure h⟩)) htake))
    | exact wpAny_bind (wpAny_bind (m := Builtin.Tuple.tupleExact _) (wpAny_newObj_type (wpAny_pure ⟨_, rfl, wpAny_pure h⟩) htake))
end
section
variable {X : Cx}
def tRevA (K : PySem.W.Frag) (te : TE) : TE := fun σ H Q => te σ H fun x H1 => (∃ a xs, x = .ref a ∧ SqL K H1 a xs ∧ ∀ p, H1 p = none → Q (.ref p) (L2.upd H1 p (.lst xs.reverse))) ∨ ∃ a xs, x = .ref a ∧ SqT K H1 a xs ∧ ∀ p, H1 p = none → Q (.ref p) (L2.upd H1 p (.tup xs.reverse))
theorem pe_revA {e : Expr} {te : TE} {k : Nat} {p1 p2 p3 pos : Pos} (he : PE X e te) : PE X (.Subscript e (.Slice none none (some (.UnaryOp .USub (.Constant (.int 1) k p1) p2)) p3) pos) (tRevA X.K te) := by
  refine ⟨fun pins s σ H Q I h => ?_⟩
  refine Subscript_ (thn (he.run pins s σ H _ I h) fun v s1 ⟨x, H1, I1, r1, q1⟩ => ?_)
  have hst : PO X (some (.UnaryOp .USub (.Constant (.int 1) k p1) p2)) (tPart (tUn (rU fun i => .int (-i)) (tC (.int 1)))) := po_some (pe_un un_neg pe_int)
  refine wpAny_Slice (thn (po_none.run pins s1 σ H1 (fun o H2 => o = none ∧ H2 = H1) I1 ⟨rfl, rfl⟩) fun vl s2 ⟨l, H2, I2, pl, el, e2⟩ => ?_)
  subst el e2
  refine thn (po_none.run pins s2 σ H2 (fun o H3 => o = none ∧ H3 = H2) I2 ⟨rfl, rfl⟩) fun vu s3 ⟨u, H3, I3, pu, eu, e3⟩ => ?_
  subst eu e3
  refine thn (hst.run pins s3 σ H3 (fun o H4 => o = some (-1) ∧ H4 = H3) I3 ⟨1, rfl, -1, rfl, rfl, rfl⟩) fun vs s4 ⟨o, H4, I4, ps, eo, e4⟩ => ?_
  subst eo e4
  have I5 : Inv X pins σ H4 { s4 with heap := s4.heap.push { cls := .type "slice", data := .fields #[vl, vu, vs] } } := I4.kept (t' := s4.toks) fun b ob q => Heap.get?_push_of_some _ q
  rcases q1 with ⟨a, xs, ex, hx, q⟩ | ⟨a, xs, ex, hx, q⟩
  · subst ex
    cases r1
    obtain ⟨its, r, ht, hz⟩ := I5.list hx
    have hlen := r.length
    show wpAny (model X.prog X.w) X.A (subscriptTail e (.Slice none none (some (.UnaryOp .USub (.Constant (.int 1) k p1) p2)) p3) (.ref a) (.ref s4.heap.objs.size)) (EP X pins σ Q) X.xe { s4 with heap := s4.heap.push { cls := .type "slice", data := .fields #[vl, vu, vs] } }
    refine tail_any (ops := [.ref a, .ref s4.heap.objs.size]) ht.isList.typeIs (PySem.slot_list_getitem.lookup) ?_ (by with_unfolding_all rfl)
    refine wpAny_getItem_list_slice ht.isList (Heap.IsSliceOf.new _ vl vu vs) pl pu ps (by decide) ?_ (by rw [List.size_toArray]; omega)
    rw [PySem.W.krv_pick]
    refine ⟨.ref _, _, I5.laid (t' := s4.toks) (o := .lst xs.reverse) (fun b ob q => Heap.get?_push_of_some _ q) (Nat.le_refl _) ?_, rfl, q _ (I5.hok.fresh (Nat.le_refl _))⟩
    exact ⟨by rw [List.length_reverse]; exact hz, _, 0, r.reverse, Heap.get?_push_size _ rfl⟩
  · subst ex
    cases r1
    obtain ⟨its, r, ht, hz⟩ := I5.tuple hx
    have hlen := r.length
    cases pl
    cases pu
    show wpAny (model X.prog X.w) X.A (subscriptTail e (.Slice none none (some (.UnaryOp .USub (.Constant (.int 1) k p1) p2)) p3) (.ref a) (.ref s4.heap.objs.size)) (EP X pins σ Q) X.xe { s4 with heap := s4.heap.push { cls := .type "slice", data := .fields #[.none, .none, vs] } }
    refine tail_any (ops := [.ref a, .ref s4.heap.objs.size]) ht.typeIs (PyProof.Rows.slot_tuple_getitem.lookup) ?_ (by with_unfolding_all rfl)
    refine getItem_tuple_rev ht (Heap.IsSliceOf.new _ .none .none vs) ps ?_ (by rw [List.size_toArray]; omega)
    refine ⟨.ref _, _, I5.laid (t' := s4.toks) (o := .tup xs.reverse) (fun b ob q => Heap.get?_push_of_some _ q) (Nat.le_refl _) ?_, rfl, q _ (I5.hok.fresh (Nat.le_refl _))⟩
    exact ⟨by rw [List.length_reverse]; exact hz, _, r.reverse, IsTup.new _ _⟩
end
end Nl

/-! What is walked, and comprehensions. -/
namespace Nl
open PySem L2
/-- J walks the items ds, as long as the sources are as they were -/
structure Wlk (K : PySem.W.Frag) (G0 : Hp) (ix0 : List Addr) (S0 : Store) (a b : D) (J : It) (ds : List D) : Prop where
  go : ∀ i G ix S H, Le G0 G → Ixs ix0 ix → Good K G ix S H → kept a S0 S = true → kept b S0 S = true → i < ds.length → J.go i H
  stop : ∀ G ix S H, Le G0 G → Ixs ix0 ix → Good K G ix S H → kept a S0 S = true → kept b S0 S = true → J.stop ds.length H
  yld : ∀ i G ix S H x H', Le G0 G → Ixs ix0 ix → Good K G ix S H → kept a S0 S = true → kept b S0 S = true → i < ds.length → J.yld i H x H' →
    ∃ G' d, Stp G ix H G' ix H' ∧ Good K G' ix S H' ∧ ds[i]? = some d ∧ Rp K G' ix x d
theorem kept_pk {a : D} {S0 S : Store} (h : kept a S0 S = true) : pk S a = pk S0 a := by
  unfold kept at h
  split at h
  · rename_i n
    have e := of_decide_eq_true h
    simp only [pk, e]
  · rename_i hn
    cases a with
    | obj n => exact absurd rfl (hn n)
    | _ => rfl
theorem kept_refl (a : D) (S : Store) : kept a S S = true := by
  unfold kept
  split
  · exact decide_eq_true rfl
  · rfl
section
variable {K : PySem.W.Frag} {G0 : Hp} {ix0 : List Addr} {S0 : Store} {a b : D}
theorem later_lst {p : Addr} {xs : List D} (r : Rp K G0 ix0 (.ref p) a) (h : pk S0 a = .lst xs) {G : Hp} {ix : List Addr} {S : Store} {H : Hp} (l : Le G0 G) (i : Ixs ix0 ix) (g : Good K G ix S H) (k : kept a S0 S = true) : ∃ vs, H p = some (.lst vs) ∧ Rps K G ix vs xs := by
  obtain ⟨q, vs, e, h1, h2⟩ := pk_lst g (r.mono l i _ _) (by rw [kept_pk k]; exact h)
  cases e
  exact ⟨vs, h1, h2⟩
theorem later_tup {p : Addr} {xs : List D} (r : Rp K G0 ix0 (.ref p) a) (h : pk S0 a = .tup xs) {G : Hp} {ix : List Addr} {S : Store} {H : Hp} (l : Le G0 G) (i : Ixs ix0 ix) (g : Good K G ix S H) (k : kept a S0 S = true) : ∃ vs, H p = some (.tup vs) ∧ Rps K G ix vs xs := by
  obtain ⟨q, vs, e, h1, _, h2, _⟩ := pk_tup g (r.mono l i _ _) (by rw [kept_pk k]; exact h)
  cases e
  exact ⟨vs, h1, h2⟩
/-- a new pair is laid -/
theorem pair_new {G : Hp} {ix : List Addr} {S : Store} {H : Hp} (g : Good K G ix S H) {T : Addr} (hT : H T = none) {x y : V} {d e : D} (rx : Rp K G ix x d) (ry : Rp K G ix y e) :
    ∃ G', Stp G ix H G' ix (upd H T (.tup [x, y])) ∧ Good K G' ix S (upd H T (.tup [x, y])) ∧ Rp K G' ix (.ref T) (.tup [d, e]) :=
  ⟨_, Stp.newG g hT, g.newG hT, .tup upd_same (.cons (rx.mono (Le.upd (g.notG hT)) (Ixs.refl _) _ _) (.cons (ry.mono (Le.upd (g.notG hT)) (Ixs.refl _) _ _) .nil))⟩
theorem pairs_len : ∀ xs ys : List D, (pairs xs ys).length = min xs.length ys.length
  | [], _ => by simp [pairs]
  | _ :: _, [] => by simp [pairs]
  | x :: xs, y :: ys => by simp [pairs, pairs_len xs ys]
theorem pairs_get : ∀ {xs ys : List D} {i : Nat} {x y : D}, xs[i]? = some x → ys[i]? = some y → (pairs xs ys)[i]? = some (.tup [x, y])
  | [], _, _, _, _, h, _ => by simp at h
  | _ :: _, [], _, _, _, _, h => by simp at h
  | a :: xs, b :: ys, 0, x, y, h, k => by simp at h k; subst h k; simp [pairs]
  | a :: xs, b :: ys, i + 1, x, y, h, k => by
    simp only [pairs, List.getElem?_cons_succ]
    exact pairs_get (by simpa using h) (by simpa using k)
theorem up_len : ∀ (n : Nat) (lo : Int), (upFrom lo n).length = n
  | 0, _ => rfl
  | n + 1, lo => by simp [upFrom, up_len n]
theorem up_get : ∀ (n : Nat) (lo : Int) (i : Nat), i < n → (upFrom lo n)[i]? = some (.int (lo + i))
  | 0, _, _, h => by omega
  | n + 1, lo, 0, _ => by simp [upFrom]
  | n + 1, lo, i + 1, h => by
    simp only [upFrom, List.getElem?_cons_succ]
    rw [up_get n (lo + 1) i (by omega)]
    congr 2
    omega
theorem wlk_list {p : Addr} {xs : List D} (r : Rp K G0 ix0 (.ref p) a) (h : pk S0 a = .lst xs) : Wlk K G0 ix0 S0 a b (Itl K p) xs where
  go := fun i G ix S H l x g k _ hi => by
    obtain ⟨vs, h1, h2⟩ := later_lst r h l x g k
    exact ⟨vs, vs[i]'(by rw [h2.length]; exact hi), SqL.of h1, by simp [h2.length, hi]⟩
  stop := fun G ix S H l x g k _ => by
    obtain ⟨vs, h1, h2⟩ := later_lst r h l x g k
    exact ⟨vs, SqL.of h1, by rw [h2.length]; exact Nat.le_refl _⟩
  yld := fun i G ix S H v H' l x g k _ hi y => by
    obtain ⟨vs, h1, h2⟩ := later_lst r h l x g k
    obtain ⟨rfl, y⟩ := y
    obtain ⟨d, e1, e2⟩ := h2.get' (y vs (SqL.of h1))
    exact ⟨G, d, Stp.refl, g, e1, e2⟩
theorem wlk_tup {p : Addr} {xs : List D} (r : Rp K G0 ix0 (.ref p) a) (h : pk S0 a = .tup xs) : Wlk K G0 ix0 S0 a b (Itt K p) xs where
  go := fun i G ix S H l x g k _ hi => by
    obtain ⟨vs, h1, h2⟩ := later_tup r h l x g k
    exact ⟨vs, vs[i]'(by rw [h2.length]; exact hi), SqT.of h1, by simp [h2.length, hi]⟩
  stop := fun G ix S H l x g k _ => by
    obtain ⟨vs, h1, h2⟩ := later_tup r h l x g k
    exact ⟨vs, SqT.of h1, by rw [h2.length]; exact Nat.le_refl _⟩
  yld := fun i G ix S H v H' l x g k _ hi y => by
    obtain ⟨vs, h1, h2⟩ := later_tup r h l x g k
    obtain ⟨rfl, y⟩ := y
    obtain ⟨d, e1, e2⟩ := h2.get' (y vs (SqT.of h1))
    exact ⟨G, d, Stp.refl, g, e1, e2⟩
theorem wlk_scr {p : Addr} {ns : List Int} (r : SqL K G0 p (ns.map V.int)) : Wlk K G0 ix0 S0 a b (Itl K p) (ns.map D.int) where
  go := fun i G ix S H l x g k _ hi => ⟨_, (ns.map V.int)[i]'(by simpa using hi), (l.trans g.le).sql r, by rw [List.length_map] at hi; simp [hi]⟩
  stop := fun G ix S H l x g k _ => ⟨_, (l.trans g.le).sql r, by simp⟩
  yld := fun i G ix S H v H' l x g k _ hi y => by
    obtain ⟨rfl, y⟩ := y
    have e := y _ ((l.trans g.le).sql r)
    rw [List.getElem?_map] at e
    cases q : ns[i]? with
    | none => rw [q] at e; cases e
    | some z =>
      rw [q] at e
      cases e
      exact ⟨G, .int z, Stp.refl, g, by rw [List.getElem?_map, q]; rfl, .int z⟩
theorem wlk_str {s : List Nat} : Wlk K G0 ix0 S0 a b (Its (toS s)) (s.map fun c => D.str [c]) where
  go := fun i G ix S H l x g k _ hi => by
    show i < (toS s).cps.size
    simpa [toS] using hi
  stop := fun G ix S H l x g k _ => by
    show (toS s).cps.size ≤ _
    simp [toS]
  yld := fun i G ix S H v H' l x g k _ hi y => by
    obtain ⟨rfl, c, e, rfl⟩ := y
    refine ⟨G, .str [c], Stp.refl, g, ?_, .str [c]⟩
    have e2 : s[i]? = some c := by simpa [toS] using e
    rw [List.getElem?_map, e2]
    rfl
theorem wlk_range {lo : Int} {n : Nat} : Wlk K G0 ix0 S0 a b (Itr lo n) (upFrom lo n) where
  go := fun i G ix S H l x g k _ hi => by rw [up_len] at hi; exact hi
  stop := fun G ix S H l x g k _ => by rw [up_len]; exact Nat.le_refl _
  yld := fun i G ix S H v H' l x g k _ hi y => by
    rw [up_len] at hi
    obtain ⟨rfl, rfl⟩ := y
    exact ⟨G, _, Stp.refl, g, up_get n lo i hi, .int _⟩
theorem wlk_enum {p : Addr} {xs : List D} (r : Rp K G0 ix0 (.ref p) a) (h : pk S0 a = .lst xs) : Wlk K G0 ix0 S0 a b (Ite K p) (pairs (upFrom 0 xs.length) xs) where
  go := fun i G ix S H l x g k _ hi => by
    rw [pairs_len, up_len, Nat.min_self] at hi
    obtain ⟨vs, h1, h2⟩ := later_lst r h l x g k
    exact ⟨vs, vs[i]'(by rw [h2.length]; exact hi), SqL.of h1, by simp [h2.length, hi]⟩
  stop := fun G ix S H l x g k _ => by
    obtain ⟨vs, h1, h2⟩ := later_lst r h l x g k
    exact ⟨vs, SqL.of h1, by rw [pairs_len, up_len, Nat.min_self, h2.length]; exact Nat.le_refl _⟩
  yld := fun i G ix S H v H' l x g k _ hi y => by
    rw [pairs_len, up_len, Nat.min_self] at hi
    obtain ⟨vs, h1, h2⟩ := later_lst r h l x g k
    obtain ⟨T, u, rfl, hT, rfl, y⟩ := y
    obtain ⟨d, e1, e2⟩ := h2.get' (y vs (SqL.of h1))
    obtain ⟨G', s', g', r'⟩ := pair_new g hT (.int ((i : Nat) : Int)) e2
    exact ⟨G', _, s', g', pairs_get (by rw [up_get xs.length 0 i hi, Int.zero_add]) e1, r'⟩
theorem wlk_enumT {p : Addr} {xs : List D} (r : Rp K G0 ix0 (.ref p) a) (h : pk S0 a = .tup xs) : Wlk K G0 ix0 S0 a b (IteT K p) (pairs (upFrom 0 xs.length) xs) where
  go := fun i G ix S H l x g k _ hi => by
    rw [pairs_len, up_len, Nat.min_self] at hi
    obtain ⟨vs, h1, h2⟩ := later_tup r h l x g k
    exact ⟨vs, vs[i]'(by rw [h2.length]; exact hi), SqT.of h1, by simp [h2.length, hi]⟩
  stop := fun G ix S H l x g k _ => by
    obtain ⟨vs, h1, h2⟩ := later_tup r h l x g k
    exact ⟨vs, SqT.of h1, by rw [pairs_len, up_len, Nat.min_self, h2.length]⟩
  yld := fun i G ix S H v H' l x g k _ hi y => by
    rw [pairs_len, up_len, Nat.min_self] at hi
    obtain ⟨vs, h1, h2⟩ := later_tup r h l x g k
    obtain ⟨T, u, rfl, hT, rfl, y⟩ := y
    obtain ⟨d, e1, e2⟩ := h2.get' (y vs (SqT.of h1))
    obtain ⟨G', s', g', r'⟩ := pair_new g hT (.int ((i : Nat) : Int)) e2
    exact ⟨G', _, s', g', pairs_get (by rw [up_get xs.length 0 i hi, Int.zero_add]) e1, r'⟩
theorem wlk_zip {p q : Addr} {xs ys : List D} (r : Rp K G0 ix0 (.ref p) a) (h : pk S0 a = .lst xs) (r' : Rp K G0 ix0 (.ref q) b) (h' : pk S0 b = .lst ys) : Wlk K G0 ix0 S0 a b (Itz K p q) (pairs xs ys) where
  go := fun i G ix S H l x g k k' hi => by
    rw [pairs_len] at hi
    obtain ⟨vs, h1, h2⟩ := later_lst r h l x g k
    obtain ⟨us, f1, f2⟩ := later_lst r' h' l x g k'
    exact ⟨vs, us, vs[i]'(by rw [h2.length]; omega), us[i]'(by rw [f2.length]; omega), SqL.of h1, SqL.of f1, by simp [h2.length], by simp [f2.length]⟩
  stop := fun G ix S H l x g k k' => by
    obtain ⟨vs, h1, h2⟩ := later_lst r h l x g k
    obtain ⟨us, f1, f2⟩ := later_lst r' h' l x g k'
    exact ⟨vs, us, SqL.of h1, SqL.of f1, by rw [pairs_len, h2.length, f2.length]; omega⟩
  yld := fun i G ix S H v H' l x g k k' hi y => by
    obtain ⟨vs, h1, h2⟩ := later_lst r h l x g k
    obtain ⟨us, f1, f2⟩ := later_lst r' h' l x g k'
    obtain ⟨T, u, w, rfl, hT, rfl, y1, y2⟩ := y
    obtain ⟨d, e1, e2⟩ := h2.get' (y1 vs (SqL.of h1))
    obtain ⟨d', e1', e2'⟩ := f2.get' (y2 us (SqL.of f1))
    obtain ⟨G', s', g', r'⟩ := pair_new g hT e2 e2'
    exact ⟨G', _, s', g', pairs_get e1 e1', r'⟩
theorem wlk_zipT {p q : Addr} {xs ys : List D} (r : Rp K G0 ix0 (.ref p) a) (h : pk S0 a = .tup xs) (r' : Rp K G0 ix0 (.ref q) b) (h' : pk S0 b = .tup ys) : Wlk K G0 ix0 S0 a b (RZ.ItzT K p q) (pairs xs ys) where
  go := fun i G ix S H l x g k k' hi => by
    rw [pairs_len] at hi
    obtain ⟨vs, h1, h2⟩ := later_tup r h l x g k
    obtain ⟨us, f1, f2⟩ := later_tup r' h' l x g k'
    exact ⟨vs, us, vs[i]'(by rw [h2.length]; omega), us[i]'(by rw [f2.length]; omega), SqT.of h1, SqT.of f1, by simp [h2.length], by simp [f2.length]⟩
  stop := fun G ix S H l x g k k' => by
    obtain ⟨vs, h1, h2⟩ := later_tup r h l x g k
    obtain ⟨us, f1, f2⟩ := later_tup r' h' l x g k'
    exact ⟨vs, us, SqT.of h1, SqT.of f1, by rw [pairs_len, h2.length, f2.length]; omega⟩
  yld := fun i G ix S H v H' l x g k k' hi y => by
    obtain ⟨vs, h1, h2⟩ := later_tup r h l x g k
    obtain ⟨us, f1, f2⟩ := later_tup r' h' l x g k'
    obtain ⟨T, u, w, rfl, hT, rfl, y1, y2⟩ := y
    obtain ⟨d, e1, e2⟩ := h2.get' (y1 vs (SqT.of h1))
    obtain ⟨d', e1', e2'⟩ := f2.get' (y2 us (SqT.of f1))
    obtain ⟨G', s', g', r'⟩ := pair_new g hT e2 e2'
    exact ⟨G', _, s', g', pairs_get e1 e1', r'⟩
theorem rev_get {α : Type} {xs : List α} {i : Nat} {x : α} (hi : i < xs.length) (h : xs[xs.length - 1 - i]? = some x) : xs.reverse[i]? = some x := by
  rw [List.getElem?_reverse hi]
  exact h
theorem wlk_rev {p : Addr} {xs : List D} (r : Rp K G0 ix0 (.ref p) a) (h : pk S0 a = .lst xs) : Wlk K G0 ix0 S0 a b (Itv K p xs.length) xs.reverse where
  go := fun i G ix S H l x g k _ hi => by
    rw [List.length_reverse] at hi
    obtain ⟨vs, h1, h2⟩ := later_lst r h l x g k
    exact ⟨hi, vs, vs[xs.length - 1 - i]'(by rw [h2.length]; omega), SqL.of h1, by simp [h2.length]⟩
  stop := fun G ix S H l x g k _ => by
    show xs.length ≤ xs.reverse.length
    rw [List.length_reverse]; exact Nat.le_refl _
  yld := fun i G ix S H v H' l x g k _ hi y => by
    rw [List.length_reverse] at hi
    obtain ⟨vs, h1, h2⟩ := later_lst r h l x g k
    obtain ⟨rfl, y⟩ := y
    obtain ⟨d, e1, e2⟩ := h2.get' (y vs (SqL.of h1))
    exact ⟨G, d, Stp.refl, g, rev_get hi e1, e2⟩
theorem wlk_revT {p : Addr} {xs : List D} (r : Rp K G0 ix0 (.ref p) a) (h : pk S0 a = .tup xs) : Wlk K G0 ix0 S0 a b (RT.ItvT K p xs.length) xs.reverse where
  go := fun i G ix S H l x g k _ hi => by
    rw [List.length_reverse] at hi
    obtain ⟨vs, h1, h2⟩ := later_tup r h l x g k
    exact ⟨hi, vs, vs[xs.length - 1 - i]'(by rw [h2.length]; omega), SqT.of h1, by simp [h2.length]⟩
  stop := fun G ix S H l x g k _ => by
    show xs.length ≤ xs.reverse.length
    rw [List.length_reverse]; exact Nat.le_refl _
  yld := fun i G ix S H v H' l x g k _ hi y => by
    rw [List.length_reverse] at hi
    obtain ⟨vs, h1, h2⟩ := later_tup r h l x g k
    obtain ⟨rfl, y⟩ := y
    obtain ⟨d, e1, e2⟩ := h2.get' (y vs (SqT.of h1))
    exact ⟨G, d, Stp.refl, g, rev_get hi e1, e2⟩
end
section
variable {nm : Nms} {gl : Nat → Option D} {cf : Cf} {X : Cx} {tg : Expr}
theorem PI.or {iter : Expr} {w1 w2 : TI} (h : PI X tg iter w1) (k : PI X tg iter w2) : PI X tg iter (fun σ H R => w1 σ H R ∨ w2 σ H R) := ⟨fun pins s σ H R I q => by
  rcases q with q | q
  · exact h.run pins s σ H R I q
  · exact k.run pins s σ H R I q⟩
/-- what an iterable's coming to some items makes true -/
def SemI (gl : Nat → Option D) (cf : Cf) (K : PySem.W.Frag) (k : Ik) (ca cb : E) (wi : TI) : Prop := ∀ σ H env G ix S x y ds R, EnvR K G ix σ env → Good K G ix S H → ev gl cf ca env S = .ok x → ev gl cf cb env x.2 = .ok y → items k (pk y.2 x.1.toD) (pk y.2 y.1.toD) = .ok ds →
  (∀ J G' ix' H', Stp G ix H G' ix' H' → Good K G' ix' y.2 H' → Wlk K G' ix' y.2 x.1.toD y.1.toD J ds → R J H') → wi σ H R
/-- .. that its raising something makes true -/
def SemXI (gl : Nat → Option D) (cf : Cf) (X : Cx) (ca cb : E) (wi : TI) : Prop := ∀ σ H env G ix S k S' R, EnvR X.K G ix σ env → Good X.K G ix S H → (ev gl cf ca env S = .exc k S' ∨ ∃ x, ev gl cf ca env S = .ok x ∧ ev gl cf cb env x.2 = .exc k S') → PostX X.K G ix H k S' (WE (Wof X) σ) → wi σ H R
def SndI (gl : Nat → Option D) (cf : Cf) (X : Cx) (tg iter : Expr) (k : Ik) (ca cb : E) : Prop := ∃ wi, PI X tg iter wi ∧ SemI gl cf X.K k ca cb wi ∧ SemXI gl cf X ca cb wi
theorem xi1 {a : E} {ta : TE} (xa : SemX gl cf X a ta) {σ : L2.St} {H : Hp} {env : Env} {G : Hp} {ix : List Addr} {S : Store} {k : Nat} {S' : Store} {R : VK} (r : EnvR X.K G ix σ env) (g : Good X.K G ix S H)
    (e : ev gl cf a env S = .exc k S' ∨ ∃ x, ev gl cf a env S = .ok x ∧ ev gl cf .non env x.2 = .exc k S') (q : PostX X.K G ix H k S' (WE (Wof X) σ)) : ta σ H R := by
  rcases e with e | ⟨x, _, e⟩
  · exact xa σ H env G ix S k S' _ r g e q
  · simp only [ev] at e; cases e
theorem xi2 {a b : E} {ta tb : TE} (ma : SemE gl cf X.K a ta) (xa : SemX gl cf X a ta) (xb : SemX gl cf X b tb) {σ : L2.St} {H : Hp} {env : Env} {G : Hp} {ix : List Addr} {S : Store} {k : Nat} {S' : Store} {R : V → V → Hp → Prop} (r : EnvR X.K G ix σ env) (g : Good X.K G ix S H)
    (e : ev gl cf a env S = .exc k S' ∨ ∃ x, ev gl cf a env S = .ok x ∧ ev gl cf b env x.2 = .exc k S') (q : PostX X.K G ix H k S' (WE (Wof X) σ)) : ta σ H fun v H1 => tb σ H1 fun u H2 => R v u H2 := by
  rcases e with e | ⟨x, e1, e⟩
  · exact xa σ H env G ix S k S' _ r g e q
  · exact ma.data r g (show ev gl cf a env S = .ok (x.1, x.2) from e1) fun v G1 ix1 H1 s1 g1 r1 => xb σ H1 env G1 ix1 x.2 k S' _ (r.stp s1) g1 e (q.from s1)
/-- one source, nothing beside it -/
theorem sem1 {K : PySem.W.Frag} {a : E} {ta : TE} (ha : SemE gl cf K a ta) {σ : L2.St} {H : Hp} {env : Env} {G : Hp} {ix : List Addr} {S : Store} {x y : W × Store} {R : V → Hp → Prop} (r : EnvR K G ix σ env) (g : Good K G ix S H) (ea : ev gl cf a env S = .ok x) (eb : ev gl cf .non env x.2 = .ok y)
    (q : ∀ v G' ix' H', Stp G ix H G' ix' H' → Good K G' ix' y.2 H' → Rp K G' ix' v x.1.toD → R v H') : ta σ H R := by
  simp only [ev] at eb
  cases eb
  exact ha.data r g (show ev gl cf a env S = .ok (x.1, x.2) from ea) q
theorem isNon_eq {b : E} (h : isNonE b = true) : b = .non := by
  cases b <;> first | rfl | cases h
theorem snd_seq {a : Expr} {ca cb : E} (ha : SndE gl cf X a ca) (hb : isNonE cb = true) : SndI gl cf X tg a .seq ca cb := by
  obtain ⟨ta, pa, _, ma, xa⟩ := ha
  cases isNon_eq hb
  refine ⟨_, PI.or (pi_list pa) (PI.or (pi_tup pa) (pi_str pa)), fun σ H env G ix S x y ds R r g e1 e2 e3 q => ?_, fun σ H env G ix S k S' R r g e q => .inl (xi1 xa r g e q)⟩
  have e3 : seqItems (pk y.2 x.1.toD) = .ok ds := e3
  unfold seqItems at e3
  split at e3
  · rename_i xs e4
    cases e3
    refine .inl (sem1 ma r g e1 e2 fun v G' ix' H' s g' rv => ?_)
    obtain ⟨p, vs, rfl, h1, _⟩ := pk_lst g' rv e4
    exact ⟨p, rfl, ⟨vs, SqL.of h1⟩, q _ G' ix' H' s g' (wlk_list rv e4)⟩
  · rename_i xs e4
    cases e3
    refine .inr (.inl (sem1 ma r g e1 e2 fun v G' ix' H' s g' rv => ?_))
    obtain ⟨p, vs, rfl, h1, _⟩ := pk_tup g' rv e4
    exact ⟨p, rfl, ⟨vs, SqT.of h1⟩, q _ G' ix' H' s g' (wlk_tup rv e4)⟩
  · rename_i xs e4
    cases e3
    refine .inl (sem1 ma r g e1 e2 fun v G' ix' H' s g' rv => ?_)
    have e5 : x.1.toD = .scr xs := by
      generalize x.1.toD = d at e4
      cases d with
      | obj n =>
        simp only [pk] at e4
        split at e4 <;> cases e4
      | _ => exact e4
    have rv2 := rv
    rw [e5] at rv2
    cases rv2 with
    | @scr p _ h1 => exact ⟨p, rfl, ⟨_, g'.le.sql h1⟩, q _ G' ix' H' s g' (wlk_scr h1)⟩
  · rename_i z e4
    cases e3
    refine .inr (.inr (sem1 ma r g e1 e2 fun v G' ix' H' s g' rv => ?_))
    cases pk_str rv e4
    exact ⟨toS z, rfl, q _ G' ix' H' s g' wlk_str⟩
  · cases e3
theorem small_ok {i : Int} (h : small i = true) : -(2 ^ 62) ≤ i ∧ i < 2 ^ 62 := by
  unfold small at h
  simp only [Bool.and_eq_true, decide_eq_true_eq] at h
  exact h
theorem snd_rng1 (C : Ctx nm gl cf X) {a : Expr} {ca cb : E} {p pos : Pos} (hg : Gl X "range") (oa : ord a = true) (ha : SndE gl cf X a ca) (hb : isNonE cb = true) : SndI gl cf X tg (.Call (.Name "range" p) [a] [] pos) .rng1 ca cb := by
  obtain ⟨ta, pa, _, ma, xa⟩ := ha
  cases isNon_eq hb
  refine ⟨_, pi_range1 hg (C.bi "range" (by decide)) (pa_cons pa pa_nil (ord_star oa [])) (ord_star oa []), fun σ H env G ix S x y ds R r g e1 e2 e3 q => ?_, fun σ H env G ix S k S' R r g e q => xi1 xa r g e q⟩
  have e3 : rng1Items (pk y.2 x.1.toD) = .ok ds := e3
  unfold rng1Items at e3
  split at e3
  · rename_i n e4
    obtain ⟨c, e3⟩ := guard_ok e3
    cases e3
    refine sem1 ma r g e1 e2 fun v G' ix' H' s g' rv => ?_
    cases pk_int rv e4
    exact ⟨n, rfl, (small_ok c).1, (small_ok c).2, q _ G' ix' H' s g' wlk_range⟩
  · cases e3
theorem snd_rng2 (C : Ctx nm gl cf X) {a b : Expr} {ca cb : E} {p pos : Pos} (hg : Gl X "range") (oa : ord a = true) (ob : ord b = true) (ha : SndE gl cf X a ca) (hb : SndE gl cf X b cb) : SndI gl cf X tg (.Call (.Name "range" p) [a, b] [] pos) .rng2 ca cb := by
  obtain ⟨ta, pa, _, ma, xa⟩ := ha
  obtain ⟨tb, pb, _, mb, xb⟩ := hb
  refine ⟨_, pi_range2 hg (C.bi "range" (by decide)) (pa_cons pa (pa_cons pb pa_nil (ord_star ob [])) (ord_star oa [b])) (by rw [ord_star oa, ord_star ob]; rfl) (by rw [ord_star ob]; rfl), fun σ H env G ix S x y ds R r g e1 e2 e3 q => ?_, fun σ H env G ix S k S' R r g e q => xi2 ma xa xb r g e q⟩
  have e3 : rng2Items (pk y.2 x.1.toD) (pk y.2 y.1.toD) = .ok ds := e3
  unfold rng2Items at e3
  split at e3
  · rename_i m n e4 e5
    obtain ⟨c, e3⟩ := guard_ok e3
    cases e3
    simp only [Bool.and_eq_true] at c
    refine sem2 ma mb r g e1 e2 fun v u G' ix' H' s g' rv ru => ?_
    cases pk_int rv e4
    cases pk_int ru e5
    exact ⟨m, n, rfl, ⟨(small_ok c.1).1, (small_ok c.1).2, (small_ok c.2).1, (small_ok c.2).2⟩, q _ G' ix' H' s g' wlk_range⟩
  · cases e3
theorem upV (a : Int) (K : PySem.W.Frag) (G : Hp) (ix : List Addr) : ∀ n : Nat, Rps K G ix ((List.range n).map fun i => V.int (a + (i : Nat))) (upFrom a n)
  | 0 => .nil
  | n + 1 => by
    rw [List.range_succ_eq_map, List.map_cons, List.map_map, upFrom]
    refine .cons (by simpa using Rp.int a) ?_
    have := upV (a + 1) K G ix n
    have e : ((fun i : Nat => V.int (a + (i : Nat))) ∘ Nat.succ) = fun i : Nat => V.int (a + 1 + (i : Nat)) := by
      funext i
      simp only [Function.comp]
      congr 1
      omega
    rw [e]
    exact this
theorem upFrom_length (a : Int) : ∀ n : Nat, (upFrom a n).length = n
  | 0 => rfl
  | n + 1 => by rw [upFrom, List.length_cons, upFrom_length (a + 1) n]
/-- a is True, xs[::-1] -/
theorem snd_isB (C : Ctx nm gl cf X) {neg b : Bool} {a : Expr} {ca : E} {j : Nat} {pos' pos : Pos} (ha : SndE gl cf X a ca) : SndE gl cf X (.Compare a [if neg then .IsNot else .Is] [.Constant (.bool b) j pos'] pos) (.isB neg b ca) ∧ SndT gl cf X (.Compare a [if neg then .IsNot else .Is] [.Constant (.bool b) j pos'] pos) (.isB neg b ca) := by
  obtain ⟨ta, pa, _, ma, xa⟩ := ha
  cases neg with
  | true =>
    have pe : PE X (.Compare a [.IsNot] [.Constant (.bool b) j pos'] pos) (tOp rNotB ta (tC (.bl b))) := pe_cmpR op_notBl pa pe_bl rfl
    refine ⟨⟨_, pe, asg_ord C.nd rfl rfl pe, fun σ H env G ix S w S' Q r g e q => ?_, fun σ H env G ix S k S' Q r g e q => by simp only [ev] at e; exact semX1 xa r g e (fun _ => by split <;> first | exact nx_ok | exact nx_err) q⟩, ⟨_, pt_cmpR op_notBl pa pe_bl rfl, fun σ H env G ix S w S' Q r g e q => ?_, fun σ H env G ix S k S' Q r g e q => by simp only [ev] at e; exact semX1 xa r g e (fun _ => by split <;> first | exact nx_ok | exact nx_err) q⟩⟩
    · simp only [ev] at e
      obtain ⟨x, e1, e⟩ := ok2 e
      refine ma.data r g (show ev gl cf ca env S = .ok (x.1, x.2) from e1) fun v G' ix' H' s g' rv => ?_
      split at e
      · rename_i c hc
        cases e
        rw [hc] at rv
        cases (show Rp X.K G' ix' v (.bl c) from rv)
        exact ⟨c, b, rfl, rfl, postE_bl q s g'⟩
      · cases e
    · simp only [ev] at e
      obtain ⟨x, e1, e⟩ := ok2 e
      refine ma.data r g (show ev gl cf ca env S = .ok (x.1, x.2) from e1) fun v G' ix' H' s g' rv => ?_
      split at e
      · rename_i c hc
        cases e
        rw [hc] at rv
        cases (show Rp X.K G' ix' v (.bl c) from rv)
        exact ⟨c, b, rfl, rfl, _, rfl, q G' ix' H' s g'⟩
      · cases e
  | false =>
    have pe : PE X (.Compare a [.Is] [.Constant (.bool b) j pos'] pos) (tOp rIsB ta (tC (.bl b))) := pe_cmpR op_isBl pa pe_bl rfl
    refine ⟨⟨_, pe, asg_ord C.nd rfl rfl pe, fun σ H env G ix S w S' Q r g e q => ?_, fun σ H env G ix S k S' Q r g e q => by simp only [ev] at e; exact semX1 xa r g e (fun _ => by split <;> first | exact nx_ok | exact nx_err) q⟩, ⟨_, pt_cmpR op_isBl pa pe_bl rfl, fun σ H env G ix S w S' Q r g e q => ?_, fun σ H env G ix S k S' Q r g e q => by simp only [ev] at e; exact semX1 xa r g e (fun _ => by split <;> first | exact nx_ok | exact nx_err) q⟩⟩
    · simp only [ev] at e
      obtain ⟨x, e1, e⟩ := ok2 e
      refine ma.data r g (show ev gl cf ca env S = .ok (x.1, x.2) from e1) fun v G' ix' H' s g' rv => ?_
      split at e
      · rename_i c hc
        cases e
        rw [hc] at rv
        cases (show Rp X.K G' ix' v (.bl c) from rv)
        exact ⟨c, b, rfl, rfl, postE_bl q s g'⟩
      · cases e
    · simp only [ev] at e
      obtain ⟨x, e1, e⟩ := ok2 e
      refine ma.data r g (show ev gl cf ca env S = .ok (x.1, x.2) from e1) fun v G' ix' H' s g' rv => ?_
      split at e
      · rename_i c hc
        cases e
        rw [hc] at rv
        cases (show Rp X.K G' ix' v (.bl c) from rv)
        exact ⟨c, b, rfl, rfl, _, rfl, q G' ix' H' s g'⟩
      · cases e
theorem snd_rev1 (C : Ctx nm gl cf X) {a : Expr} {ca : E} {k : Nat} {p1 p2 p3 pos : Pos} (ha : SndE gl cf X a ca) : SndE gl cf X (.Subscript a (.Slice none none (some (.UnaryOp .USub (.Constant (.int 1) k p1) p2)) p3) pos) (.rev1 ca) := by
  obtain ⟨ta, pa, _, ma, xa⟩ := ha
  have pe := pe_revA (X := X) (k := k) (p1 := p1) (p2 := p2) (p3 := p3) (pos := pos) pa
  refine ⟨_, pe, asg_ord C.nd rfl rfl pe, fun σ H env G ix S w S' Q r g e q => ?_, fun σ H env G ix S k S' Q r g e q => ?x⟩
  case x =>
    simp only [ev] at e
    exact semX1 xa r g e (fun _ => by split <;> first | exact nx_ok | exact nx_err) q
  simp only [ev] at e
  obtain ⟨x, e1, e⟩ := ok2 e
  refine ma.data r g (show ev gl cf ca env S = .ok (x.1, x.2) from e1) fun v G' ix' H' s g' rv => ?_
  split at e
  · rename_i xs hx
    cases e
    obtain ⟨b, vs, rfl, h1, r1⟩ := pk_lst g' rv hx
    exact .inl ⟨b, vs, rfl, SqL.of h1, fun p hp => (q.from s).newL g' hp rfl r1.reverse⟩
  · rename_i xs hx
    cases e
    obtain ⟨b, vs, rfl, h1, g1, r1, e1'⟩ := pk_tup g' rv hx
    exact .inr ⟨b, vs, rfl, SqT.of h1, fun p hp => (q.from s).newT g' hp rfl r1.reverse⟩
  · cases e
/-- list(range(..)) -/
theorem snd_lrng1 (C : Ctx nm gl cf X) {a : Expr} {ca cb : E} {p pos p2 pos2 : Pos} (hl : Gl X "list") (hg : Gl X "range") (oa : ord a = true) (ha : SndE gl cf X a ca) (hb : isNonE cb = true) : SndE gl cf X (.Call (.Name "list" p2) [.Call (.Name "range" p) [a] [] pos] [] pos2) (.lrng .rng1 ca cb) := by
  obtain ⟨ta, pa, _, ma, xa⟩ := ha
  cases isNon_eq hb
  have pe := pe_listRg (p := p2) (pos := pos2) C.calm hl (C.bi "list" (by decide)) (prg_1 (p := p) (pos := pos) hg (C.bi "range" (by decide)) pa (ord_star oa []))
  refine ⟨_, pe, asg_ord C.nd rfl rfl pe, fun σ H env G ix S w S' Q r g e q => ?_, fun σ H env G ix S k S' Q r g e q => ?x⟩
  case x =>
    simp only [ev] at e
    exact semX1 xa r g e (fun _ => by simp only [Res.bind_ok]; exact nx_rgItems.bind fun _ => nx_guard nx_ok) q
  simp only [ev] at e
  obtain ⟨x, e1, e⟩ := ok2 e
  obtain ⟨y, e2, e⟩ := ok2 e
  cases e2
  obtain ⟨ds, e3, e⟩ := ok2 e
  obtain ⟨cl, e⟩ := guard_ok e
  cases e
  have e3 : rng1Items (pk x.2 x.1.toD) = .ok ds := e3
  unfold rng1Items at e3
  split at e3
  · rename_i n e4
    obtain ⟨c, e3⟩ := guard_ok e3
    cases e3
    refine ma.data r g (show ev gl cf ca env S = .ok (x.1, x.2) from e1) fun v G' ix' H' s g' rv => ?_
    cases pk_int rv e4
    have cl' : n.toNat ≤ most := by simpa [upFrom_length] using cl
    refine ⟨n, rfl, ⟨by decide, by decide, (small_ok c).1, (small_ok c).2, by rw [Int.sub_zero]; exact cl'⟩, fun b hb => (q.from s).newL g' hb rfl ?_⟩
    have := upV 0 X.K G' ix' n.toNat
    unfold rgV
    rw [Int.sub_zero]
    exact this
  · cases e3
theorem snd_lrng2 (C : Ctx nm gl cf X) {a b : Expr} {ca cb : E} {p pos p2 pos2 : Pos} (hl : Gl X "list") (hg : Gl X "range") (oa : ord a = true) (ob : ord b = true) (ha : SndE gl cf X a ca) (hb : SndE gl cf X b cb) : SndE gl cf X (.Call (.Name "list" p2) [.Call (.Name "range" p) [a, b] [] pos] [] pos2) (.lrng .rng2 ca cb) := by
  obtain ⟨ta, pa, _, ma, xa⟩ := ha
  obtain ⟨tb, pb, _, mb, xb⟩ := hb
  have pe := pe_listRg (p := p2) (pos := pos2) C.calm hl (C.bi "list" (by decide)) (prg_2 (p := p) (pos := pos) hg (C.bi "range" (by decide)) pa pb (ord_star oa [b]) (ord_star ob []) (by rw [ord_star ob]; rfl))
  refine ⟨_, pe, asg_ord C.nd rfl rfl pe, fun σ H env G ix S w S' Q r g e q => ?_, fun σ H env G ix S k S' Q r g e q => ?x⟩
  case x =>
    simp only [ev] at e
    exact semX2 ma xa xb r g e (fun _ _ => nx_rgItems.bind fun _ => nx_guard nx_ok) q
  simp only [ev] at e
  obtain ⟨x, e1, e⟩ := ok2 e
  obtain ⟨y, e2, e⟩ := ok2 e
  obtain ⟨ds, e3, e⟩ := ok2 e
  obtain ⟨cl, e⟩ := guard_ok e
  cases e
  have e3 : rng2Items (pk y.2 x.1.toD) (pk y.2 y.1.toD) = .ok ds := e3
  unfold rng2Items at e3
  split at e3
  · rename_i m n e4 e5
    obtain ⟨c, e3⟩ := guard_ok e3
    cases e3
    simp only [Bool.and_eq_true] at c
    refine sem2 ma mb r g e1 e2 fun v u G' ix' H' s g' rv ru => ?_
    cases pk_int rv e4
    cases pk_int ru e5
    have cl' : (n - m).toNat ≤ most := by simpa [upFrom_length] using cl
    exact ⟨m, n, rfl, rfl, ⟨(small_ok c.1).1, (small_ok c.1).2, (small_ok c.2).1, (small_ok c.2).2, cl'⟩, fun b hb => (q.from s).newL g' hb rfl (upV m X.K G' ix' _)⟩
  · cases e3
theorem snd_enm (C : Ctx nm gl cf X) {a : Expr} {ca cb : E} {p pos : Pos} (hg : Gl X "enumerate") (ht : isTupX tg = true) (oa : ord a = true) (ha : SndE gl cf X a ca) (hb : isNonE cb = true) : SndI gl cf X tg (.Call (.Name "enumerate" p) [a] [] pos) .enm ca cb := by
  obtain ⟨ta, pa, _, ma, xa⟩ := ha
  cases isNon_eq hb
  cases tg with
  | Tuple elts kk tpos =>
    refine ⟨_, pi_enumA hg (C.bi "enumerate" (by decide)) (pa_cons pa pa_nil (ord_star oa [])) (ord_star oa []), fun σ H env G ix S x y ds R r g e1 e2 e3 q => ?_, fun σ H env G ix S k S' R r g e q => xi1 xa r g e q⟩
    have e3 : enmItems (pk y.2 x.1.toD) = .ok ds := e3
    unfold enmItems at e3
    split at e3
    · rename_i xs e4
      cases e3
      refine sem1 ma r g e1 e2 fun v G' ix' H' s g' rv => ?_
      obtain ⟨p, vs, rfl, h1, _⟩ := pk_lst g' rv e4
      exact ⟨p, vs, rfl, .inl ⟨SqL.of h1, q _ G' ix' H' s g' (wlk_enum rv e4)⟩⟩
    · rename_i xs e4
      cases e3
      refine sem1 ma r g e1 e2 fun v G' ix' H' s g' rv => ?_
      obtain ⟨p, vs, rfl, h1, _⟩ := pk_tup g' rv e4
      exact ⟨p, vs, rfl, .inr ⟨SqT.of h1, q _ G' ix' H' s g' (wlk_enumT rv e4)⟩⟩
    · cases e3
  | _ => cases ht
theorem snd_zp (C : Ctx nm gl cf X) {a b : Expr} {ca cb : E} {p pos : Pos} (hg : Gl X "zip") (ht : isTupX tg = true) (oa : ord a = true) (ob : ord b = true) (ha : SndE gl cf X a ca) (hb : SndE gl cf X b cb) : SndI gl cf X tg (.Call (.Name "zip" p) [a, b] [] pos) .zp ca cb := by
  obtain ⟨ta, pa, _, ma, xa⟩ := ha
  obtain ⟨tb, pb, _, mb, xb⟩ := hb
  cases tg with
  | Tuple elts kk tpos =>
    refine ⟨_, RZ.pi_zipA hg (C.bi "zip" (by decide)) (pa_cons pa (pa_cons pb pa_nil (ord_star ob [])) (ord_star oa [b])) (ord_star oa [b]) (by rw [ord_star ob]; rfl), fun σ H env G ix S x y ds R r g e1 e2 e3 q => ?_, fun σ H env G ix S k S' R r g e q => xi2 ma xa xb r g e q⟩
    have e3 : zpItems (pk y.2 x.1.toD) (pk y.2 y.1.toD) = .ok ds := e3
    unfold zpItems at e3
    split at e3
    · rename_i xs ys e4 e5
      cases e3
      refine sem2 ma mb r g e1 e2 fun v u G' ix' H' s g' rv ru => ?_
      obtain ⟨p, vs, rfl, h1, _⟩ := pk_lst g' rv e4
      obtain ⟨p', us, rfl, h1', _⟩ := pk_lst g' ru e5
      exact ⟨p, p', vs, us, rfl, .inl ⟨SqL.of h1, SqL.of h1', q _ G' ix' H' s g' (wlk_zip rv e4 ru e5)⟩⟩
    · rename_i xs ys e4 e5
      cases e3
      refine sem2 ma mb r g e1 e2 fun v u G' ix' H' s g' rv ru => ?_
      obtain ⟨p, vs, rfl, h1, _⟩ := pk_tup g' rv e4
      obtain ⟨p', us, rfl, h1', _⟩ := pk_tup g' ru e5
      exact ⟨p, p', vs, us, rfl, .inr ⟨SqT.of h1, SqT.of h1', q _ G' ix' H' s g' (wlk_zipT rv e4 ru e5)⟩⟩
    · cases e3
  | _ => cases ht
theorem snd_rev (C : Ctx nm gl cf X) {a : Expr} {ca cb : E} {p pos : Pos} (hg : Gl X "reversed") (oa : ord a = true) (ha : SndE gl cf X a ca) (hb : isNonE cb = true) : SndI gl cf X tg (.Call (.Name "reversed" p) [a] [] pos) .rev ca cb := by
  obtain ⟨ta, pa, _, ma, xa⟩ := ha
  cases isNon_eq hb
  refine ⟨_, RT.pi_revA hg (C.bi "reversed" (by decide)) pa (ord_star oa []), fun σ H env G ix S x y ds R r g e1 e2 e3 q => ?_, fun σ H env G ix S k S' R r g e q => xi1 xa r g e q⟩
  have e3 : revItems (pk y.2 x.1.toD) = .ok ds := e3
  unfold revItems at e3
  split at e3
  · rename_i xs e4
    cases e3
    refine sem1 ma r g e1 e2 fun v G' ix' H' s g' rv => ?_
    obtain ⟨p, vs, rfl, h1, h2⟩ := pk_lst g' rv e4
    exact ⟨p, vs, rfl, .inl ⟨SqL.of h1, by rw [h2.length]; exact q _ G' ix' H' s g' (wlk_rev rv e4)⟩⟩
  · rename_i xs e4
    cases e3
    refine sem1 ma r g e1 e2 fun v G' ix' H' s g' rv => ?_
    obtain ⟨p, vs, rfl, h1, _, h2, _⟩ := pk_tup g' rv e4
    exact ⟨p, vs, rfl, .inr ⟨SqT.of h1, by rw [h2.length]; exact q _ G' ix' H' s g' (wlk_revT rv e4)⟩⟩
  · cases e3
/-! ### targets -/
def SemG (K : PySem.W.Frag) (tg : Tg) (g : TG) : Prop := ∀ v d σ H env env' G ix S Q, EnvR K G ix σ env → Good K G ix S H → Rp K G ix v d → setTg tg d env = .ok env' → (∀ σ', EnvR K G ix σ' env' → (∀ own : List Nat, (∀ i ∈ (match tg with | .n i => [i] | .t is => is), i ∈ own) → L2.wipe σ' own = L2.wipe σ own) → Q σ' H) → g v σ H Q
theorem wipe_set {σ : L2.St} {o : Option V} {i : Nat} : ∀ {own : List Nat}, i ∈ own → L2.wipe (σ.set i o) own = L2.wipe σ own
  | [], h => by simp at h
  | v :: vs, h => by
    unfold L2.wipe
    by_cases e : v = i
    · subst e
      by_cases m : v ∈ vs
      · rw [wipe_set m]
      · have e2 : ∀ (vs : List Nat), v ∉ vs → L2.wipe (σ.set v o) vs = (L2.wipe σ vs).set v o := fun vs => by
          induction vs with
          | nil => intro _; rfl
          | cons w ws ih =>
            intro hw
            simp only [List.mem_cons, not_or] at hw
            unfold L2.wipe
            rw [ih hw.2, List.set_comm _ _ hw.1]
        rw [e2 vs m, List.set_set]
    · rcases List.mem_cons.mp h with z | z
      · exact absurd z.symm e
      · rw [wipe_set z]
theorem names_ok {sc0 : Scope} (hN : X.N.Nodup) (hf : ∀ x, loc sc0 x = true → Loc X.env.scope x ∧ (X.fn x = true ∨ X.env.scope.names.lookup x = some .local)) : ∀ (is : List Nat) (xs : List Expr), chkNames X.N sc0 is xs = true → ∃ t, PGs X xs t ∧ xs.length = is.length ∧
    (∀ vs ds σ H env G ix S Q, EnvR X.K G ix σ env → Good X.K G ix S H → Rps X.K G ix vs ds → ds.length = is.length → (∀ σ', EnvR X.K G ix σ' ((is.zip ds).foldl (fun e p => e.set p.1 (some p.2)) env) → (∀ own : List Nat, (∀ i ∈ is, i ∈ own) → L2.wipe σ' own = L2.wipe σ own) → Q σ' H) → t vs σ H Q) ∧
    ((assignEach xs X.env).length = is.length) ∧ ((assignEach xs X.env).findIdx? (·.1) = none)
  | [], [], _ => ⟨_, pgs_nil, rfl, fun vs ds σ H env G ix S Q r g rs hl q => by
      cases rs with
      | nil => exact ⟨rfl, q σ r fun _ _ => rfl⟩
      | cons _ _ => simp at hl, rfl, rfl⟩
  | [], _ :: _, h => by simp [chkNames] at h
  | i :: is, [], h => by simp [chkNames] at h
  | i :: is, x :: xs, h => by
    cases x with
    | Name x p =>
      simp only [chkNames, Bool.and_eq_true, decide_eq_true_eq] at h
      obtain ⟨h1, h2, h3⟩ := h
      obtain ⟨t, p1, p2, p3, p4, p5⟩ := names_ok hN hf is xs h3
      refine ⟨_, pgs_cons (pg_name hN h1 (hf x h2).1 (hf x h2).2) p1 rfl, by simp [p2], fun vs ds σ H env G ix S Q r g rs hlen q => ?_, by simp [assignEach, p4], ?_⟩
      · cases rs with
        | nil => simp at hlen
        | cons a rs =>
          refine ⟨_, _, rfl, ?_⟩
          refine p3 _ _ (σ.set i (some _)) H (env.set i (some _)) G ix S Q (r.set a i) g rs (by simpa using hlen) fun σ' r' hw => q σ' (by simpa using r') fun own ho => ?_
          rw [hw own (fun j hj => ho j (List.mem_cons_of_mem _ hj)), wipe_set (ho i List.mem_cons_self)]
      · show List.findIdx? _ ((false, assign (.Name x p) X.env) :: assignEach xs X.env) = none
        rw [List.findIdx?_cons]
        simp [p5]
    | _ => simp [chkNames] at h
theorem pg_or {X : Cx} {e : Expr} {t1 t2 : TG} (h : PG X e t1) (k : PG X e t2) : PG X e (fun v σ H Q => t1 v σ H Q ∨ t2 v σ H Q) := ⟨fun pins s σ H v u Q I r q => by
  rcases q with q | q
  · exact h.run pins s σ H v u Q I r q
  · exact k.run pins s σ H v u Q I r q⟩
/-- a or b, as a number -/
theorem snd_orv (C : Ctx nm gl cf X) {a b : Expr} {ca cb : E} {pos : Pos} (ha : SndE gl cf X a ca) (hb : SndE gl cf X b cb) : SndE gl cf X (.BoolOp .Or [a, b] pos) (.orv ca cb) := by
  obtain ⟨ta, pa, _, ma, xa⟩ := ha
  obtain ⟨tb, pb, _, mb, xb⟩ := hb
  have pe : PE X (.BoolOp .Or [a, b] pos) (tOrT X.K ta tb) := pe_orT pa (pe_one pb)
  refine ⟨_, pe, asg_ord C.nd rfl rfl pe, fun σ H env G ix S w S' Q r g e q => ?_, fun σ H env G ix S k S' Q r g e q => ?x⟩
  case x =>
    simp only [ev] at e
    rcases exc2 e with e1 | ⟨⟨x1, x2⟩, e1, e⟩
    · exact xa σ H env G ix S k S' _ r g e1 q
    refine ma.data r g (show ev gl cf ca env S = .ok (x1, x2) from e1) fun v G' ix' H' s g' rv => ?_
    have nx : ∀ y : W × Store, ((match y.1 with
      | .d (.int j) => Res.ok (W.d (.int j), y.2)
      | _ => .err)).NX := fun y => by split <;> first | exact nx_ok | exact nx_err
    dsimp only at e
    split at e
    · rename_i i
      cases (show Rp X.K G' ix' v (.int i) from rv)
      split at e
      · rename_i hi
        subst hi
        exact ⟨false, rfl, by rw [if_neg Bool.false_ne_true]; exact semX1 xb (r.stp s) g' e nx (q.from s)⟩
      · cases e
    · cases (show Rp X.K G' ix' v .non from rv)
      exact ⟨false, rfl, by rw [if_neg Bool.false_ne_true]; exact semX1 xb (r.stp s) g' e nx (q.from s)⟩
    · cases e
  have snd : ∀ {G1 : Hp} {ix1 : List Addr} {H1 : Hp} {T : Store}, Stp G ix H G1 ix1 H1 → Good X.K G1 ix1 T H1 → ((ev gl cf cb env T).bind fun y => (match y.1 with
      | .d (.int j) => Res.ok (W.d (.int j), y.2)
      | _ => .err)) = .ok (w, S') → tb σ H1 Q := fun {G1 ix1 H1 T} s1 g1 e => by
    obtain ⟨⟨y1, y2⟩, e2, e⟩ := ok2 e
    dsimp only at e
    split at e
    · rename_i j
      cases e
      exact mb σ H1 env G1 ix1 T _ _ Q (r.stp s1) g1 e2 (q.from s1)
    · cases e
  simp only [ev] at e
  obtain ⟨⟨x1, x2⟩, e1, e⟩ := ok2 e
  refine ma.data r g (show ev gl cf ca env S = .ok (x1, x2) from e1) fun v G' ix' H' s g' rv => ?_
  dsimp only at e
  split at e
  · rename_i i
    cases (show Rp X.K G' ix' v (.int i) from rv)
    split at e
    · rename_i hi
      subst hi
      exact ⟨false, rfl, by rw [if_neg Bool.false_ne_true]; exact snd s g' e⟩
    · rename_i hi
      cases e
      refine ⟨true, ?_, ?_⟩
      · show true = (i != 0)
        exact (bne_iff_ne.mpr hi).symm
      · rw [if_pos rfl]
        exact (q.from s).same g' (show RpW X.K ix' H' G' ix' _ H' (.int i) (.d (.int i)) from Rp.int i)
  · cases (show Rp X.K G' ix' v .non from rv)
    exact ⟨false, rfl, by rw [if_neg Bool.false_ne_true]; exact snd s g' e⟩
  · cases e
theorem snd_tg {sc0 : Scope} (C : Ctx nm gl cf X) (hf : ∀ x, loc sc0 x = true → Loc X.env.scope x ∧ (X.fn x = true ∨ X.env.scope.names.lookup x = some .local)) {t : Tg} {e : Expr} (h : chkTg X.N sc0 t e = true) : ∃ g, PG X e g ∧ SemG X.K t g := by
  unfold chkTg at h
  split at h
  · rename_i i x p
    simp only [Bool.and_eq_true, decide_eq_true_eq] at h
    refine ⟨_, pg_name C.nd h.1 (hf x h.2).1 (hf x h.2).2, fun v d σ H env env' G ix S Q r g rv e q => ?_⟩
    cases e
    exact q _ (r.set rv i) fun own ho => wipe_set (ho i (by simp))
  · rename_i is xs kk p
    obtain ⟨t, p1, p2, p3, p4, p5⟩ := names_ok C.nd hf is xs h
    refine ⟨_, pg_or (pg_tup C.calm p1 p4 p5) (pg_unl C.calm p1 p4 p5), fun v d σ H env env' G ix S Q r g rv e q => ?_⟩
    unfold setTg at e
    simp only at e
    split at e
    · rename_i ds
      obtain ⟨c, e⟩ := guard_ok e
      cases e
      cases rv with
      | @tup a vs _ ga rs => exact .inl ⟨a, vs, rfl, SqT.of (g.le _ _ ga), by rw [rs.length]; exact dec_of c, p3 vs ds σ H env G ix S Q r g rs (dec_of c) q⟩
    · rename_i ds
      obtain ⟨c, e⟩ := guard_ok e
      cases e
      cases rv with
      | @lst a vs _ ga rs => exact .inr ⟨a, vs, rfl, SqL.of (g.le _ _ ga), by rw [rs.length]; exact dec_of c, p3 vs ds σ H env G ix S Q r g rs (dec_of c) q⟩
    · cases e
  · cases h
end
end Nl

/-! Comprehensions, and all expressions. -/
namespace Nl
open PySem L2
/-- the readings by what comes of the texts: they do not lean on where the text runs -/
def tE (gl : Nat → Option D) (cf : Cf) (K : PySem.W.Frag) (c : E) : TE := fun σ H Q => ∃ env G ix S w S', EnvR K G ix σ env ∧ Good K G ix S H ∧ ev gl cf c env S = .ok (w, S') ∧ PostE K G ix H w S' Q
def tT (gl : Nat → Option D) (cf : Cf) (K : PySem.W.Frag) (c : E) : TT := fun σ H Q => ∃ env G ix S b S', EnvR K G ix σ env ∧ Good K G ix S H ∧ ev gl cf c env S = .ok (.d (.bl b), S') ∧ ∀ G' ix' H', Stp G ix H G' ix' H' → Good K G' ix' S' H' → Q b H'
def tG (K : PySem.W.Frag) (t : Tg) : TG := fun v σ H Q => ∃ d env env' G ix S, EnvR K G ix σ env ∧ Good K G ix S H ∧ Rp K G ix v d ∧ setTg t d env = .ok env' ∧
  ∀ σ', EnvR K G ix σ' env' → (∀ own : List Nat, (∀ i ∈ tgIs t, i ∈ own) → L2.wipe σ' own = L2.wipe σ own) → Q σ' H
section
variable {nm : Nms} {gl : Nat → Option D} {cf : Cf} {X : Cx}
theorem SndE.pe {e : Expr} {c : E} (h : SndE gl cf X e c) : PE X e (tE gl cf X.K c) := by
  obtain ⟨t, p, _, m, _⟩ := h
  exact ⟨fun pins s σ H Q I ⟨env, G, ix, S, w, S', h1, h2, h3, h4⟩ => p.run pins s σ H Q I (m σ H env G ix S w S' Q h1 h2 h3 h4)⟩
theorem SndT.pt {e : Expr} {c : E} (h : SndT gl cf X e c) : PT X e (tT gl cf X.K c) := by
  obtain ⟨t, p, m, _⟩ := h
  exact ⟨fun pins s σ H Q I ⟨env, G, ix, S, b, S', h1, h2, h3, h4⟩ => p.run pins s σ H Q I (m σ H env G ix S b S' Q h1 h2 h3 h4)⟩
theorem pg_all {t : Tg} {e : Expr} (h : ∃ g, PG X e g ∧ SemG X.K t g) : PG X e (tG X.K t) := by
  obtain ⟨g, p, m⟩ := h
  refine ⟨fun pins s σ H v u Q I r ⟨d, env, env', G, ix, S, h1, h2, h3, h4, h5⟩ => p.run pins s σ H v u Q I r (m v d σ H env env' G ix S Q h1 h2 h3 h4 fun σ' r' hw => h5 σ' r' fun own ho => hw own ?_)⟩
  cases t <;> exact ho
/-- an object that neither the store nor what is frozen has is changed -/
theorem Good.other {K : PySem.W.Frag} {G : Hp} {ix : List Addr} {S : Store} {H : Hp} (g : Good K G ix S H) {p : Addr} {o : HO} (h1 : G p = none) (h2 : p ∉ ix) : Good K G ix S (L2.upd H p o) where
  le := fun a u h => by rw [upd_ne (fun z => by subst z; rw [h1] at h; cases h)]; exact g.le a u h
  len := g.len
  there := fun a h => by
    have ne : a ≠ p := fun z => h2 (by rw [← z]; exact h)
    rw [upd_ne ne]; exact g.there a h
  cel := fun n c h hc => by
    obtain ⟨a, k1, k3, k4⟩ := g.cel n c h hc
    have ne : a ≠ p := fun z => h2 (by rw [← z]; exact ixs_mem k1)
    exact ⟨a, k1, k3, by rw [upd_ne ne]; exact k4⟩
  inj := g.inj
/-- the turns of a comprehension -/
structure LcInv (K : PySem.W.Frag) (G1 : Hp) (ix1 : List Addr) (H1 : Hp) (S0 : Store) (a b : D) (f : D → Store → Res (Option D × Store)) (ds : List D) (fin : List D) (S' : Store) (p : Addr) (i : Nat) (H : Hp) : Prop where
  ex : ∃ G ix S acc vacc rest, Stp G1 ix1 H1 G ix H ∧ Good K G ix S H ∧ H p = some (.lst vacc) ∧ G p = none ∧ p ∉ ix ∧ Rps K G ix vacc acc ∧ kept a S0 S = true ∧ kept b S0 S = true ∧
    compL (fun S' => kept a S0 S' && kept b S0 S') f (ds.drop i) S = .ok (rest, S') ∧ acc ++ rest = fin ∧ acc.length ≤ i
def LcQ (D : Addr) (Nx : Hp → Prop) : Option V → Hp → Prop
  | some y, H4 => ∃ acc, H4 D = some (.lst acc) ∧ acc.length < sizeLine ∧ Nx (upd H4 D (.lst (acc ++ [y])))
  | none, H4 => Nx H4
/-- what a turn gives -/
def RpO (K : PySem.W.Frag) (G : Hp) (ix : List Addr) : Option V → Option D → Prop
  | some v, some d => Rp K G ix v d
  | none, none => True
  | _, _ => False
theorem lc_sem {K : PySem.W.Frag} {k : Ik} {ca cb : E} {tg : Tg} {own : List Nat} {wi : TI} {tt : TT} {te : TE} (hi : SemI gl cf K k ca cb wi) {f : Env → D → Store → Res (Option D × Store)}
    (hf : ∀ (σ : L2.St) (H : Hp) (env : Env) (G : Hp) (ix : List Addr) (S : Store) (x : V) (d : D) (r : Option D × Store) (Q : Option V → Hp → Prop), EnvR K G ix σ env → Good K G ix S H → Rp K G ix x d → f env d S = .ok r →
      (∀ o G' ix' H', Stp G ix H G' ix' H' → Good K G' ix' r.2 H' → RpO K G' ix' o r.1 → Q o H') →
      tG K tg x (L2.wipe σ own) H fun σ2 H2 => L2.wipe σ2 own = L2.wipe σ own ∧ tt σ2 H2 fun b H3 => if b = true then te σ2 H3 fun y H4 => Q (some y) H4 else Q none H3)
    {σ : L2.St} {H : Hp} {env : Env} {G : Hp} {ix : List Addr} {S : Store} {x y : W × Store} {ds fin : List D} {S' : Store} {Q : VK} (r : EnvR K G ix σ env) (g : Good K G ix S H) (e1 : ev gl cf ca env S = .ok x) (e2 : ev gl cf cb env x.2 = .ok y) (e3 : items k (pk y.2 x.1.toD) (pk y.2 y.1.toD) = .ok ds)
    (e4 : compL (fun S' => kept x.1.toD y.2 S' && kept y.1.toD y.2 S') (f env) ds y.2 = .ok (fin, S')) (hn : ds.length ≤ most) (q : PostE K G ix H (.fl fin) S' Q) : tLc wi (tG K tg) tt te own σ H Q := by
  refine hi σ H env G ix S x y ds _ r g e1 e2 e3 fun J G1 ix1 H1 s1 g1 w1 => ?_
  intro p hp
  refine ⟨fun i m H' => m = ds.length - i ∧ i ≤ ds.length ∧ LcInv K G1 ix1 H1 y.2 x.1.toD y.1.toD (f env) ds fin S' p i H', ⟨ds.length, rfl, Nat.zero_le _, ⟨G1, ix1, y.2, [], [], fin, Stp.lay hp, g1.lay hp, upd_same, g1.notG hp, g1.notIx hp, .nil, kept_refl _ _, kept_refl _ _, e4, rfl, Nat.le_refl _⟩⟩, ?_⟩
  rintro i m H2 ⟨rfl, hi2, G2, ix2, S2, acc, vacc, rest, s2, g2, hp2, gp2, np2, r2, k1, k2, e5, e6, hl2⟩
  by_cases hlt : i < ds.length
  · refine .inr ⟨w1.go i G2 ix2 S2 H2 s2.g s2.i g2 k1 k2 hlt, LcInv K G1 ix1 H1 y.2 x.1.toD y.1.toD (f env) ds fin S' p (i + 1), fun H' h => ⟨ds.length - (i + 1), by omega, rfl, hlt, h⟩, fun v H3 hy => ?_⟩
    obtain ⟨G3, d, s3, g3, hd, rv⟩ := w1.yld i G2 ix2 S2 H2 v H3 s2.g s2.i g2 k1 k2 hlt hy
    have ed : ds.drop i = d :: ds.drop (i + 1) := by
      rw [List.drop_eq_getElem_cons hlt]
      congr 1
      exact (List.getElem?_eq_some_iff.mp hd).2
    rw [ed] at e5
    simp only [compL] at e5
    obtain ⟨t, f1, e5⟩ := ok2 e5
    obtain ⟨ck, e5⟩ := guard_ok e5
    obtain ⟨z, f2, e5⟩ := ok2 e5
    cases e5
    simp only [Bool.and_eq_true] at ck
    have r3 := (r.stp (s1.trans (s2.trans s3)))
    refine hf σ H3 env G3 ix2 S2 v d t (LcQ p (LcInv K G1 ix1 H1 y.2 x.1.toD y.1.toD (f env) ds fin z.2 p (i + 1))) r3 g3 rv f1 fun o G4 ix4 H4 s4 g4 ro => ?_
    have s34 := s3.trans s4
    have hp4 : H4 p = some (.lst vacc) := s34.keep p _ hp2 np2
    have np4 : p ∉ ix4 := fun z => (s34.fresh p z).elim np2 fun e => by rw [hp2] at e; cases e
    have gp4 : G4 p = none := by
      cases e : G4 p with
      | none => rfl
      | some u =>
        rcases s34.new p u e with h | h | h | ⟨_, h⟩
        · rw [gp2] at h; cases h
        · rw [hp2] at h; cases h
        · exact absurd h np2
        · rw [hp2] at h; cases h
    obtain ⟨t1, t2⟩ := t
    cases o with
    | none =>
      cases t1 with
      | some d' => exact ro.elim
      | none => exact ⟨G4, ix4, t2, acc, vacc, z.1, s2.trans s34, g4, hp4, gp4, np4, r2.mono s34.g s34.i, ck.1, ck.2, f2, e6, by omega⟩
    | some w =>
      cases t1 with
      | none => exact ro.elim
      | some d' =>
        refine ⟨vacc, hp4, ?_, G4, ix4, t2, acc ++ [d'], vacc ++ [w], z.1, ?_, g4.other gp4 np4, upd_same, gp4, np4, (r2.mono s34.g s34.i).append (.cons ro .nil), ck.1, ck.2, f2, ?_, ?_⟩
        · rw [r2.length]
          have : most = sizeLine := rfl
          omega
        · have s := s2.trans s34
          refine ⟨s.g, s.i, fun a o h hn => ?_, fun a h => ?_, s.new, s.fresh⟩
          · rw [upd_ne (fun e => by subst e; rw [hp] at h; cases h)]
            exact s.keep a o h hn
          · by_cases e : a = p
            · subst e; exact hp
            · rw [upd_ne e] at h; exact s.there a h
        · rw [← e6]
          simp
        · rw [List.length_append]
          have : [d'].length = 1 := rfl
          omega
  · have e : i = ds.length := by omega
    subst e
    rw [List.drop_length] at e5
    simp only [compL] at e5
    cases e5
    rw [List.append_nil] at e6
    subst e6
    refine .inl ⟨w1.stop G2 ix2 S' H2 s2.g s2.i g2 k1 k2, ?_⟩
    exact q _ G2 ix2 H2 (s1.trans s2) g2 ⟨p, vacc, rfl, hp2, gp2, fun n c h _ => absurd (ixs_mem h) np2, .inl (s1.there p hp), r2⟩
/-- a turn without a test -/
theorem turn_lc {K : PySem.W.Frag} {tg : Tg} {own : List Nat} {el : E} (htg : ∀ i ∈ tgIs tg, i ∈ own) (σ : L2.St) (H : Hp) (env : Env) (G : Hp) (ix : List Addr) (S : Store) (x : V) (d : D) (r : Option D × Store) (Q : Option V → Hp → Prop) (re : EnvR K G ix σ env) (g : Good K G ix S H) (rx : Rp K G ix x d)
    (e : ((setTg tg d (wipe env own)).bind fun env' => (ev gl cf el env' S).bind fun z => .ok (some z.1.toD, z.2)) = .ok r) (q : ∀ o G' ix' H', Stp G ix H G' ix' H' → Good K G' ix' r.2 H' → RpO K G' ix' o r.1 → Q o H') :
    tG K tg x (L2.wipe σ own) H fun σ2 H2 => L2.wipe σ2 own = L2.wipe σ own ∧ tYes σ2 H2 fun b H3 => if b = true then tE gl cf K el σ2 H3 fun y H4 => Q (some y) H4 else Q none H3 := by
  obtain ⟨env', f1, e⟩ := ok2 e
  obtain ⟨z, f2, e⟩ := ok2 e
  cases e
  have ww : L2.wipe (L2.wipe σ own) own = L2.wipe σ own := by
    have all : ∀ vs : List Nat, (∀ v ∈ vs, v ∈ own) → L2.wipe (L2.wipe σ vs) own = L2.wipe σ own := fun vs => by
      induction vs with
      | nil => intro _; rfl
      | cons v vs ih =>
        intro h
        show L2.wipe ((L2.wipe σ vs).set v none) own = _
        rw [wipe_set (h v List.mem_cons_self)]
        exact ih fun w hw => h w (List.mem_cons_of_mem _ hw)
    exact all own fun _ h => h
  refine ⟨d, wipe env own, env', G, ix, S, re.wipe own, g, rx, f1, fun σ' r' hw => ⟨(hw own htg).trans ww, ?_⟩⟩
  show if true = true then tE gl cf K el σ' H (fun y H4 => Q (some y) H4) else Q none H
  rw [if_pos rfl]
  refine ⟨env', G, ix, S, z.1, z.2, r', g, f2, fun v G' ix' H' s g' rw => ?_⟩
  obtain ⟨G2, s2, g2, r2⟩ := rw.data s g'
  exact q (some v) G2 ix' H' s2 g2 r2
theorem turn_lcIf {K : PySem.W.Frag} {tg : Tg} {own : List Nat} {el c : E} (htg : ∀ i ∈ tgIs tg, i ∈ own) (σ : L2.St) (H : Hp) (env : Env) (G : Hp) (ix : List Addr) (S : Store) (x : V) (d : D) (r : Option D × Store) (Q : Option V → Hp → Prop) (re : EnvR K G ix σ env) (g : Good K G ix S H) (rx : Rp K G ix x d)
    (e : ((setTg tg d (wipe env own)).bind fun env' => (ev gl cf c env' S).bind fun t => (toB t.1).bind fun b => if b then (ev gl cf el env' t.2).bind fun z => .ok (some z.1.toD, z.2) else .ok (none, t.2)) = .ok r) (q : ∀ o G' ix' H', Stp G ix H G' ix' H' → Good K G' ix' r.2 H' → RpO K G' ix' o r.1 → Q o H') :
    tG K tg x (L2.wipe σ own) H fun σ2 H2 => L2.wipe σ2 own = L2.wipe σ own ∧ tT gl cf K c σ2 H2 fun b H3 => if b = true then tE gl cf K el σ2 H3 fun y H4 => Q (some y) H4 else Q none H3 := by
  obtain ⟨env', f1, e⟩ := ok2 e
  obtain ⟨⟨t1, t2⟩, f2, e⟩ := ok2 e
  obtain ⟨b, f3, e⟩ := ok2 e
  cases toB_ok f3
  have ww : L2.wipe (L2.wipe σ own) own = L2.wipe σ own := by
    have all : ∀ vs : List Nat, (∀ v ∈ vs, v ∈ own) → L2.wipe (L2.wipe σ vs) own = L2.wipe σ own := fun vs => by
      induction vs with
      | nil => intro _; rfl
      | cons v vs ih =>
        intro h
        show L2.wipe ((L2.wipe σ vs).set v none) own = _
        rw [wipe_set (h v List.mem_cons_self)]
        exact ih fun w hw => h w (List.mem_cons_of_mem _ hw)
    exact all own fun _ h => h
  refine ⟨d, wipe env own, env', G, ix, S, re.wipe own, g, rx, f1, fun σ' r' hw => ⟨(hw own htg).trans ww, ?_⟩⟩
  refine ⟨env', G, ix, S, b, t2, r', g, f2, fun G' ix' H' s g' => ?_⟩
  cases b with
  | false =>
    simp only [Bool.false_eq_true, if_false] at e ⊢
    cases e
    exact q none G' ix' H' s g' trivial
  | true =>
    simp only [if_true] at e ⊢
    obtain ⟨z, f4, e⟩ := ok2 e
    cases e
    refine ⟨env', G', ix', t2, z.1, z.2, r'.stp s, g', f4, fun v G2 ix2 H2 s2 g2 rw => ?_⟩
    obtain ⟨G3, s3, g3, r3⟩ := rw.data s2 g2
    exact q (some v) G3 ix2 H2 (s.trans s3) g3 r3
/-- where a comprehension's parts run -/
abbrev Blk (X : Cx) (scope : Scope) (s : Shared) (H : Hp) (C : Addr) (cl : List (Str × Addr)) (fp : List Addr) : Cx := X.blk s H scope (compEnvC scope cl C X.env) fp
theorem snd_lc (C : Ctx nm gl cf X) {elt target iter : Expr} {scope : Scope} {pos : Pos} {el ca cb : E} {tg : Tg} {k : Ik} {own : List Nat} (hb : blkC X.N X.env.scope scope (ownOf X.N own) = true) (htg : ∀ i ∈ tgIs tg, i ∈ own) (oi : ord iter = true) (hi : SndI gl cf X target iter k ca cb)
    (ht : ∀ s H C cl fp, ∃ g, PG (Blk X scope s H C cl fp) target g ∧ SemG X.K tg g) (he : ∀ s H C cl fp, SndE gl cf (Blk X scope s H C cl fp) elt el) : SndE gl cf X (.ListComp elt [⟨target, iter, [], 0⟩] scope pos) (.lc el tg k ca cb own) := by
  obtain ⟨wi, pi, mi, xi⟩ := hi
  have e0 := ownOf_snd X.N own
  have pe : PE X (.ListComp elt [⟨target, iter, [], 0⟩] scope pos) (tLc wi (tG X.K tg) tYes (tE gl cf X.K el) ((ownOf X.N own).map (·.2))) :=
    pe_lc C.calm C.nd pi (blkOk_by hb) (fun s H C cl fp => pg_all (X := Blk X scope s H C cl fp) (ht s H C cl fp)) (fun s H C cl fp => pts_nil) (fun s H C cl fp => (he s H C cl fp).pe) (fun x => ord_fold oi x)
  refine ⟨_, pe, asg_lc C.nd pe fun i y py spos hi hy hs => ps_setLc C.calm C.nd hi hy hs pi (blkOk_by hb) (fun s H C cl fp => pg_all (X := Blk X scope s H C cl fp) (ht s H C cl fp)) (fun s H C cl fp => pts_nil) (fun s H C cl fp => (he s H C cl fp).pe) (fun x => ord_fold oi x), fun σ H env G ix S w S' Q r g e q => ?_, fun σ H env G ix S k S' Q r g e q => ?x⟩
  case x =>
    simp only [ev] at e
    rcases exc2 e with e1 | ⟨x, e1, e⟩
    · exact xi σ H env G ix S k S' _ r g (.inl e1) q
    rcases exc2 e with e2 | ⟨y, e2, e⟩
    · exact xi σ H env G ix S k S' _ r g (.inr ⟨x, e1, e2⟩) q
    exact absurd e ((nx_items.bind fun _ => Res.calm_nx.bind fun _ => nx_guard nx_ok) k S')
  rw [e0]
  simp only [ev] at e
  obtain ⟨x, e1, e⟩ := ok2 e
  obtain ⟨y, e2, e⟩ := ok2 e
  obtain ⟨ds, e3, e⟩ := ok2 e
  obtain ⟨z, e4, e⟩ := ok2 e
  replace e4 := Res.calm_ok.mp e4
  obtain ⟨c, e⟩ := guard_ok e
  cases e
  exact lc_sem mi (f := fun env d S' => (setTg tg d (wipe env own)).bind fun env' => (ev gl cf el env' S').bind fun z => .ok (some z.1.toD, z.2)) (fun σ H env G ix S x d r Q re g rx e q => turn_lc htg σ H env G ix S x d r Q re g rx e q) r g e1 e2 e3 e4 (dec_of c) q
theorem snd_lcIf (C : Ctx nm gl cf X) {elt target iter i : Expr} {scope : Scope} {pos : Pos} {el ca cb cc : E} {tg : Tg} {k : Ik} {own : List Nat} (hb : blkC X.N X.env.scope scope (ownOf X.N own) = true) (htg : ∀ i ∈ tgIs tg, i ∈ own) (oi : ord iter = true) (hi : SndI gl cf X target iter k ca cb)
    (ht : ∀ s H C cl fp, ∃ g, PG (Blk X scope s H C cl fp) target g ∧ SemG X.K tg g) (hc : ∀ s H C cl fp, SndT gl cf (Blk X scope s H C cl fp) i cc) (he : ∀ s H C cl fp, SndE gl cf (Blk X scope s H C cl fp) elt el) : SndE gl cf X (.ListComp elt [⟨target, iter, [i], 0⟩] scope pos) (.lcIf el tg k ca cb cc own) := by
  obtain ⟨wi, pi, mi, xi⟩ := hi
  have e0 := ownOf_snd X.N own
  have pe : PE X (.ListComp elt [⟨target, iter, [i], 0⟩] scope pos) (tLc wi (tG X.K tg) (tT gl cf X.K cc) (tE gl cf X.K el) ((ownOf X.N own).map (·.2))) :=
    pe_lc C.calm C.nd pi (blkOk_by hb) (fun s H C cl fp => pg_all (X := Blk X scope s H C cl fp) (ht s H C cl fp)) (fun s H C cl fp => pts_one (hc s H C cl fp).pt) (fun s H C cl fp => (he s H C cl fp).pe) (fun x => ord_fold oi x)
  refine ⟨_, pe, asg_lc C.nd pe fun i y py spos hi hy hs => ps_setLc C.calm C.nd hi hy hs pi (blkOk_by hb) (fun s H C cl fp => pg_all (X := Blk X scope s H C cl fp) (ht s H C cl fp)) (fun s H C cl fp => pts_one (hc s H C cl fp).pt) (fun s H C cl fp => (he s H C cl fp).pe) (fun x => ord_fold oi x), fun σ H env G ix S w S' Q r g e q => ?_, fun σ H env G ix S k S' Q r g e q => ?x⟩
  case x =>
    simp only [ev] at e
    rcases exc2 e with e1 | ⟨x, e1, e⟩
    · exact xi σ H env G ix S k S' _ r g (.inl e1) q
    rcases exc2 e with e2 | ⟨y, e2, e⟩
    · exact xi σ H env G ix S k S' _ r g (.inr ⟨x, e1, e2⟩) q
    exact absurd e ((nx_items.bind fun _ => Res.calm_nx.bind fun _ => nx_guard nx_ok) k S')
  rw [e0]
  simp only [ev] at e
  obtain ⟨x, e1, e⟩ := ok2 e
  obtain ⟨y, e2, e⟩ := ok2 e
  obtain ⟨ds, e3, e⟩ := ok2 e
  obtain ⟨z, e4, e⟩ := ok2 e
  replace e4 := Res.calm_ok.mp e4
  obtain ⟨c, e⟩ := guard_ok e
  cases e
  exact lc_sem mi (f := fun env d S' => (setTg tg d (wipe env own)).bind fun env' => (ev gl cf cc env' S').bind fun t => (toB t.1).bind fun b => if b then (ev gl cf el env' t.2).bind fun z => .ok (some z.1.toD, z.2) else .ok (none, t.2))
    (fun σ H env G ix S x d r Q re g rx e q => turn_lcIf htg σ H env G ix S x d r Q re g rx e q) r g e1 e2 e3 e4 (dec_of c) q
end
end Nl

/-! Dicts, fields, methods, new instances, isinstance of refusals, str of a number. -/
namespace Nl
open PySem L2
/-! ### keys -/
section
variable {K : PySem.W.Frag} {G : Hp} {ix : List Addr}
theorem ky_v {v : V} {d : D} {q : Ky} (r : Rp K G ix v d) (h : kyOf d = some q) : v = kV (kyK q) := by
  cases r <;> simp [kyOf] at h <;> subst h <;> rfl
theorem kys_v : ∀ {vs : List V} {ds : List D} {qs : List Ky}, Rps K G ix vs ds → kysOf ds = some qs → vs = (qs.map kyK).map kV
  | _, _, qs, .nil, h => by simp [kysOf] at h; subst h; rfl
  | _, _, qs, .cons (d := d) (ds := ds) a r, h => by
    simp only [kysOf, Option.bind_eq_some_iff, Option.map_eq_some_iff] at h
    obtain ⟨k, h1, ks, h2, rfl⟩ := h
    rw [ky_v a h1, kys_v r h2]
    rfl
theorem map_kyK_inj : ∀ {a b : List Ky}, a.map kyK = b.map kyK → a = b
  | [], [], _ => rfl
  | [], _ :: _, h => by simp at h
  | _ :: _, [], h => by simp at h
  | a :: as, b :: bs, h => by
    simp only [List.map_cons, List.cons.injEq] at h
    rw [kyK_inj h.1, map_kyK_inj h.2]
section
variable {α β : Type} [DecidableEq α] [DecidableEq β] {f : β → α}
theorem prs_val (inj : ∀ {a b}, f a = f b → a = b) {us : List (α × V)} {kvs : List (β × D)} (h : PRs (fun a b => a = f b) K G ix us kvs) (q : β) : (∀ d, valK kvs q = some d → ∃ v, valV us (f q) = some v ∧ Rp K G ix v d) ∧ (valK kvs q = none → valV us (f q) = none) := by
  induction h with
  | nil => exact ⟨fun d e => by simp [valK] at e, fun _ => rfl⟩
  | @cons u k us kvs r t ih =>
    by_cases e : k.1 = q
    · have e' : u.1 = f q := by rw [r.1, e]
      refine ⟨fun d hd => ⟨u.2, valV_pos e', ?_⟩, fun hd => ?_⟩
      · have : valK (k :: kvs) q = some k.2 := by simp [valK, List.find?_cons, e]
        rw [this] at hd
        cases hd
        exact r.2
      · have : valK (k :: kvs) q = some k.2 := by simp [valK, List.find?_cons, e]
        rw [this] at hd
        cases hd
    · have e' : ¬ u.1 = f q := fun z => e (inj (by rw [← r.1, z]))
      have e2 : valK (k :: kvs) q = valK kvs q := by simp [valK, List.find?_cons, e]
      rw [valV_neg e', e2]
      exact ih
theorem prs_any (inj : ∀ {a b}, f a = f b → a = b) {us : List (α × V)} {kvs : List (β × D)} (h : PRs (fun a b => a = f b) K G ix us kvs) (q : β) : (us.any fun kv => decide (kv.1 = f q)) = kvs.any fun kv => decide (kv.1 = q) := by
  induction h with
  | nil => rfl
  | @cons u k us kvs r t ih =>
    rw [List.any_cons, List.any_cons, ih, r.1]
    congr 1
    by_cases e : k.1 = q
    · simp [e]
    · rw [decide_eq_false e, decide_eq_false fun z => e (inj z)]
theorem prs_repl (inj : ∀ {a b}, f a = f b → a = b) (q : β) {v : V} {d : D} (r : Rp K G ix v d) {us : List (α × V)} {kvs : List (β × D)} (h : PRs (fun a b => a = f b) K G ix us kvs) : PRs (fun a b => a = f b) K G ix (us.map fun kv => if kv.1 = f q then (kv.1, v) else kv) (kvs.map fun kv => if kv.1 = q then (kv.1, d) else kv) := by
  induction h with
  | nil => exact .nil
  | @cons u k us kvs s t ih =>
    simp only [List.map_cons]
    refine .cons ?_ ih
    by_cases e : k.1 = q
    · have e' : u.1 = f q := by rw [s.1, e]
      rw [if_pos e', if_pos e]
      exact ⟨s.1, r⟩
    · have e' : ¬ u.1 = f q := fun z => e (inj (by rw [← s.1, z]))
      rw [if_neg e', if_neg e]
      exact s
theorem prs_snoc (q : β) {v : V} {d : D} (r : Rp K G ix v d) {us : List (α × V)} {kvs : List (β × D)} (h : PRs (fun a b => a = f b) K G ix us kvs) : PRs (fun a b => a = f b) K G ix (us ++ [(f q, v)]) (kvs ++ [(q, d)]) := by
  induction h with
  | nil => exact .cons ⟨rfl, r⟩ .nil
  | cons s t ih => exact .cons s ih
theorem prs_put (inj : ∀ {a b}, f a = f b → a = b) {us : List (α × V)} {kvs : List (β × D)} (h : PRs (fun a b => a = f b) K G ix us kvs) (q : β) {v : V} {d : D} (r : Rp K G ix v d) : PRs (fun a b => a = f b) K G ix (putK us (f q) v) (setK kvs q d) := by
  unfold putK setK
  rw [prs_any inj h q]
  split
  · exact prs_repl inj q r h
  · exact prs_snoc q r h
end
/-! ### what a dict has -/
theorem dGet_ok {S : Store} {H : Hp} (g : Good K G ix S H) {n : Nat} {a : Addr} {c : Cell} {y : V} {k : D} {o : Option D} (hn : ix[n]? = some a) (hs : S[n]? = some c) (r : Rp K G ix y k) (h : dGet c k = some o) :
    ∃ ov, DGet H a y ov ∧ ov.isSome = o.isSome ∧ ∀ d, o = some d → ∃ v, ov = some v ∧ Rp K G ix v d := by
  have fin : ∀ {ov : Option V}, ((∀ d, o = some d → ∃ v, ov = some v ∧ Rp K G ix v d) ∧ (o = none → ov = none)) → ov.isSome = o.isSome ∧ ∀ d, o = some d → ∃ v, ov = some v ∧ Rp K G ix v d := fun {ov} h => by
    refine ⟨?_, h.1⟩
    cases o with
    | none => rw [h.2 rfl]; rfl
    | some d =>
      obtain ⟨v, e, _⟩ := h.1 d rfl
      rw [e]; rfl
  unfold dGet at h
  split at h
  · rename_i kvs
    obtain ⟨a', e1, e2, us, e3, e4⟩ := g.cel n _ hs (by intro z; cases z)
    rw [hn] at e1; cases e1
    simp only [Option.map_eq_some_iff] at h
    obtain ⟨q, h1, rfl⟩ := h
    cases ky_v r h1
    exact ⟨_, DGet.k e3, fin (prs_val (f := kyK) kyK_inj e4 q)⟩
  · rename_i kvs
    obtain ⟨a', e1, e2, us, e3, e4⟩ := g.cel n _ hs (by intro z; cases z)
    rw [hn] at e1; cases e1
    split at h
    · rename_i ds
      simp only [Option.map_eq_some_iff] at h
      obtain ⟨q, h1, rfl⟩ := h
      cases r with
      | @tup b vs _ gb rs =>
        have hb := g.le _ _ gb
        rw [kys_v rs h1] at hb
        exact ⟨_, DGet.t e3 hb, fin (prs_val (f := List.map kyK) map_kyK_inj e4 q)⟩
    · cases h
  · cases h
theorem PRs.length {α β : Type} {R : α → β → Prop} {us : List (α × V)} {kvs : List (β × D)} (h : PRs R K G ix us kvs) : us.length = kvs.length := Paired.length h
theorem dPut_ok {S : Store} {H : Hp} (g : Good K G ix S H) {n : Nat} {a : Addr} {c c' : Cell} {y v : V} {k d : D} (hn : ix[n]? = some a) (hs : S[n]? = some c) (r : Rp K G ix y k) (rv : Rp K G ix v d) (h : dPut c k d = some c') :
    ∃ o', DPut H a y v (upd H a o') ∧ Good K G ix (S.set n c') (upd H a o') := by
  unfold dPut at h
  split at h
  · rename_i kvs
    obtain ⟨a', e1, e2, us, e3, e4⟩ := g.cel n _ hs (by intro z; cases z)
    rw [hn] at e1; cases e1
    split at h
    · rename_i hl
      simp only [Option.map_eq_some_iff] at h
      obtain ⟨q, h1, rfl⟩ := h
      cases ky_v r h1
      exact ⟨_, DPut.k e3 (by rw [e4.length]; exact hl), g.updC hn hs (by intro z; cases z) (by intro z; cases z) ⟨_, rfl, prs_put (f := kyK) kyK_inj e4 q rv⟩⟩
    · cases h
  · rename_i kvs
    obtain ⟨a', e1, e2, us, e3, e4⟩ := g.cel n _ hs (by intro z; cases z)
    rw [hn] at e1; cases e1
    split at h
    · rename_i ds
      split at h
      · rename_i hl
        simp only [Option.map_eq_some_iff] at h
        obtain ⟨q, h1, rfl⟩ := h
        cases r with
        | @tup b vs _ gb rs =>
          have hb := g.le _ _ gb
          rw [kys_v rs h1] at hb
          exact ⟨_, DPut.t e3 hb (by rw [e4.length]; exact hl), g.updC hn hs (by intro z; cases z) (by intro z; cases z) ⟨_, rfl, prs_put (f := List.map kyK) map_kyK_inj e4 q rv⟩⟩
      · cases h
    · cases h
  · cases h
theorem dKeys_is {S : Store} {H : Hp} (g : Good K G ix S H) {n : Nat} {a : Addr} {c : Cell} {ks : List D} (hn : ix[n]? = some a) (hs : S[n]? = some c) (h : dKeys c = some ks) : IsD H a := by
  unfold dKeys at h
  split at h
  · obtain ⟨a', e1, e2, us, e3, e4⟩ := g.cel n _ hs (by intro z; cases z)
    rw [hn] at e1; cases e1
    exact .inl ⟨us, .inl e3⟩
  · obtain ⟨a', e1, e2, us, e3, e4⟩ := g.cel n _ hs (by intro z; cases z)
    rw [hn] at e1; cases e1
    exact .inr ⟨us, .inl e3⟩
  · cases h
/-! ### fields -/
theorem str_of_inj {a b : String} (h : Str.ofString a = Str.ofString b) : a = b := by
  rw [Str.ofString_eq_toList, Str.ofString_eq_toList] at h
  have h2 : (a.toList.map Char.toNat) = b.toList.map Char.toNat := by
    have := congrArg (fun z : Str => z.cps.toList) h
    simpa using this
  have : ∀ {xs ys : List Char}, xs.map Char.toNat = ys.map Char.toNat → xs = ys := fun {xs} => by
    induction xs with
    | nil => intro ys h; cases ys with
      | nil => rfl
      | cons _ _ => simp at h
    | cons x xs ih =>
      intro ys h
      cases ys with
      | nil => simp at h
      | cons y ys =>
        simp only [List.map_cons, List.cons.injEq] at h
        rw [ih h.2, Char.toNat_inj.mp h.1]
  exact String.toList_inj.mp (this h2)
theorem fd_inj {a b : Nat} (ha : a < fdNames.length) (hb : b < fdNames.length) (h : Str.ofString (fdName a) = Str.ofString (fdName b)) : a = b := by
  have h2 := str_of_inj h
  have all : ∀ a < 14, ∀ b < 14, fdNames.getD a "" = fdNames.getD b "" → a = b := by decide
  exact all a ha b hb h2
theorem getF_ok : ∀ {us : List (Str × V)} {fs : List (Nat × D)} {f : Nat} {d : D}, PRs rF K G ix us fs → f < fdNames.length → getF f fs = some d → ∃ v, us.lookup (Str.ofString (fdName f)) = some v ∧ Rp K G ix v d
  | _, _, f, d, .nil, _, h => by simp [getF] at h
  | _, _, f, d, .cons (a := u) (b := k) r t, hf, h => by
    obtain ⟨u1, u2⟩ := u
    obtain ⟨k1, k2⟩ := k
    obtain ⟨⟨r1, r2⟩, r3⟩ := r
    simp only at r1 r2 r3
    simp only [getF] at h
    split at h
    · rename_i e
      cases h
      subst e
      exact ⟨u2, by rw [List.lookup_cons, r1]; simp, r3⟩
    · rename_i e
      obtain ⟨v, h1, h2⟩ := getF_ok t hf h
      refine ⟨v, ?_, h2⟩
      rw [List.lookup_cons, r1]
      have : (Str.ofString (fdName f) == Str.ofString (fdName k1)) = false := by
        rw [beq_eq_false_iff_ne]
        exact fun z => e (fd_inj hf r2 z).symm
      rw [this]
      exact h1
theorem putF_ok {f : Nat} (hf : f < fdNames.length) {v : V} {d : D} (rv : Rp K G ix v d) : ∀ {us : List (Str × V)} {fs : List (Nat × D)}, PRs rF K G ix us fs → PRs rF K G ix (L2.putF (Str.ofString (fdName f)) v us) (Nl.putF f d fs)
  | _, _, .nil => .cons ⟨⟨rfl, hf⟩, rv⟩ .nil
  | _, _, .cons (a := u) (b := k) r t => by
    obtain ⟨u1, u2⟩ := u
    obtain ⟨k1, k2⟩ := k
    obtain ⟨⟨r1, r2⟩, r3⟩ := r
    simp only at r1 r2 r3
    unfold L2.putF Nl.putF
    by_cases e : k1 = f
    · subst e
      rw [if_pos r1, if_pos rfl]
      exact .cons ⟨⟨r1, r2⟩, rv⟩ t
    · have e' : ¬ u1 = Str.ofString (fdName f) := fun z => e (fd_inj r2 hf (r1 ▸ z))
      rw [if_neg e', if_neg e]
      exact .cons ⟨⟨r1, r2⟩, r3⟩ (putF_ok hf rv t)
theorem noF_ok {m : Str} (hm : (fdNames.any fun g => Str.ofString g == m) = false) : ∀ {us : List (Str × V)} {fs : List (Nat × D)}, PRs rF K G ix us fs → us.lookup m = none
  | _, _, .nil => rfl
  | _, _, .cons (a := u) (b := k) r t => by
    obtain ⟨u1, u2⟩ := u
    obtain ⟨⟨r1, r2⟩, r3⟩ := r
    simp only at r1 r2
    rw [List.lookup_cons]
    have : (m == u1) = false := by
      rw [beq_eq_false_iff_ne]
      intro z
      have h1 : (fdNames.any fun g => Str.ofString g == m) = true := by
        rw [List.any_eq_true]
        refine ⟨fdName k.1, ?_, by rw [beq_iff_eq, z, r1]⟩
        unfold fdName
        rw [List.getD_eq_getElem?_getD, List.getElem?_eq_getElem r2]
        exact List.getElem_mem r2
      rw [hm] at h1
      cases h1
    rw [this]
    exact noF_ok hm t
end
end Nl

/-! What is shown of the texts with dicts, fields, methods, instances. -/
namespace Nl
open PySem L2
/-- a new thing of the store is laid -/
theorem newCell {K : PySem.W.Frag} {G : Hp} {ix : List Addr} {S : Store} {H : Hp} (g : Good K G ix S H) {p : Addr} {o : HO} {c : Cell} (hp : H p = none) (r : CellR K G (ix ++ [p]) p (some o) c) :
    Stp G ix H G (ix ++ [p]) (upd H p o) ∧ Good K G (ix ++ [p]) (S ++ [c]) (upd H p o) ∧ Rp K G (ix ++ [p]) (.ref p) (.obj S.length) := by
  have g1 := g.lay (o := o) hp
  have s1 : Stp G ix H G ix (upd H p o) := Stp.lay hp
  refine ⟨⟨s1.g, Ixs.app ix p, s1.keep, s1.there, s1.new, fun b hb => ?_⟩, g1.boxC upd_same (g.notG hp) (g.free hp) r, .obj (obj_last g.len)⟩
  rcases List.mem_append.mp hb with hb | hb
  · exact .inl hb
  · rw [List.mem_singleton.mp hb]; exact .inr hp
/-- the keys of a dict that are tuples are frozen -/
theorem keys_frozen {K : PySem.W.Frag} {ix : List Addr} {S : Store} {H : Hp} {G0 : Hp} {ix0 : List Addr} {H0 : Hp} : ∀ {us : List (List Key × V)} {bs : List Addr} {kvs : List (List Ky × D)} {G : Hp}, Stp G0 ix0 H0 G ix H → Good K G ix S H → IsKeys H us bs → PRs rT K G ix us kvs → (∀ b ∈ bs, ∀ vs, H b = some (.tup vs) → H0 b = some (.tup vs) ∨ H0 b = none ∨ b ∈ ix0) →
    ∃ G', Stp G0 ix0 H0 G' ix H ∧ Good K G' ix S H ∧ Le G G' ∧ Rps K G' ix (bs.map V.ref) (kvs.map fun kv => .tup (kv.1.map kyD))
  | _, _, _, G, s, g, .nil, .nil, _ => ⟨G, s, g, Le.refl _, .nil⟩
  | _, _, _, G, s, g, .cons (a := u) (b := b) h1 t1, .cons (b := kv) h2 t2, hb => by
    have one : ∃ G1, Stp G0 ix0 H0 G1 ix H ∧ Good K G1 ix S H ∧ Le G G1 ∧ G1 b = some (.tup (u.1.map kV)) := by
      cases e : G b with
      | some o =>
        have := g.le _ _ e
        rw [h1] at this
        cases this
        exact ⟨G, s, g, Le.refl _, e⟩
      | none =>
        refine ⟨L2.upd G b (.tup (u.1.map kV)), s.freeze e ?_, g.freeze h1 e fun n c e1 e2 => ?_, Le.upd e, upd_same⟩
        · rcases hb b List.mem_cons_self _ h1 with h | h | h
          · exact .inr (.inr ⟨_, h⟩)
          · exact .inl h
          · exact .inr (.inl h)
        · cases c with
          | dead => rfl
          | lst xs =>
            obtain ⟨a', f1, f2, vs, f3, f4⟩ := g.cel n _ e2 (by intro z; cases z)
            rw [e1] at f1; cases f1; rw [h1] at f3; cases f3
          | dK xs =>
            obtain ⟨a', f1, f2, vs, f3, f4⟩ := g.cel n _ e2 (by intro z; cases z)
            rw [e1] at f1; cases f1; rw [h1] at f3; cases f3
          | dT xs =>
            obtain ⟨a', f1, f2, vs, f3, f4⟩ := g.cel n _ e2 (by intro z; cases z)
            rw [e1] at f1; cases f1; rw [h1] at f3; cases f3
          | dN xs =>
            obtain ⟨a', f1, f2, vs, f3, f4⟩ := g.cel n _ e2 (by intro z; cases z)
            rw [e1] at f1; cases f1; rw [h1] at f3; cases f3
          | ins c xs =>
            obtain ⟨a', f1, f2, dx, vs, f3, f4⟩ := g.cel n _ e2 (by intro z; cases z)
            rw [e1] at f1; cases f1; rw [h1] at f3; cases f3
    obtain ⟨G1, s1, g1, l1, e1⟩ := one
    obtain ⟨G2, s2, g2, l2, r2⟩ := keys_frozen s1 g1 t1 (PRs.mono t2 l1 (Ixs.refl _)) fun b' hb' => hb b' (List.mem_cons_of_mem _ hb')
    refine ⟨G2, s2, g2, l1.trans l2, .cons (.tup (l2 _ _ e1) ?_) r2⟩
    rw [show u.1 = kv.1.map kyK from h2.1]
    have : ∀ ks : List Ky, Rps K G2 ix ((ks.map kyK).map kV) (ks.map kyD) := fun ks => by
      induction ks with
      | nil => exact .nil
      | cons k ks ih =>
        refine .cons ?_ ih
        cases k with
        | i n => exact .int n
        | s x => exact .str x
    exact this kv.1
section
variable {nm : Nms} {gl : Nat → Option D} {cf : Cf} {X : Cx}
theorem snd_dnew (C : Ctx nm gl cf X) {t : Bool} {pos : Pos} : SndE gl cf X (.Dict [] [] pos) (.dnew t) := by
  cases t with
  | true =>
    refine ⟨_, pe_dnewT, asg_ord C.nd rfl rfl pe_dnewT, fun σ H env G ix S w S' Q r g e q => ?_, semX0 fun env S => by simp only [ev]; exact nx_ok⟩
    simp only [ev] at e
    cases e
    intro p hp
    obtain ⟨s, g', r'⟩ := newCell (c := .dT []) (o := .dT []) g hp ⟨[], rfl, .nil⟩
    exact q _ G _ _ s g' r'
  | false =>
    refine ⟨_, pe_dnewK, asg_ord C.nd rfl rfl pe_dnewK, fun σ H env G ix S w S' Q r g e q => ?_, semX0 fun env S => by simp only [ev]; exact nx_ok⟩
    simp only [ev] at e
    cases e
    intro p hp
    obtain ⟨s, g', r'⟩ := newCell (c := .dK []) (o := .dK []) g hp ⟨[], rfl, .nil⟩
    exact q _ G _ _ s g' r'
theorem ev_din {neg : Bool} {k d : E} {env : Env} {S : Store} {w : W} {S' : Store} (e : ev gl cf (.din neg k d) env S = .ok (w, S')) : ∃ x n c o, ev gl cf k env S = .ok x ∧ ev gl cf d env x.2 = .ok (.d (.obj n), S') ∧ S'[n]? = some c ∧ dGet c x.1.toD = some o ∧ w = .d (.bl (if neg then !o.isSome else o.isSome)) := by
  simp only [ev] at e
  obtain ⟨x, e1, e⟩ := ok2 e
  obtain ⟨⟨y1, y2⟩, e2, e⟩ := ok2 e
  dsimp only at e
  split at e
  · rename_i n
    split at e
    · rename_i o ho
      cases e
      obtain ⟨c, h1, h2⟩ := Option.bind_eq_some_iff.mp ho
      exact ⟨x, n, c, o, e1, e2, h1, h2, rfl⟩
    · cases e
  · cases e
theorem nx_din {neg : Bool} (x y : W × Store) : ((match y.1 with
    | .d (.obj n) => (match (y.2[n]?).bind fun c => dGet c x.1.toD with
      | some o => Res.ok (W.d (.bl (if neg then !o.isSome else o.isSome)), y.2)
      | none => .err)
    | _ => .err) : Res (W × Store)).NX := by
  split
  · split <;> first | exact nx_ok | exact nx_err
  · exact nx_err
theorem snd_din (C : Ctx nm gl cf X) {neg : Bool} {a b : Expr} {ca cb : E} {pos : Pos} (ob : ord b = true) (ha : SndE gl cf X a ca) (hb : SndE gl cf X b cb) : SndE gl cf X (.Compare a [if neg then .NotIn else .In] [b] pos) (.din neg ca cb) ∧ SndT gl cf X (.Compare a [if neg then .NotIn else .In] [b] pos) (.din neg ca cb) := by
  obtain ⟨ta, pa, _, ma, xa⟩ := ha
  obtain ⟨tb, pb, _, mb, xb⟩ := hb
  have hu : X.A.units + 1 < cLine := by have := C.hu; omega
  have sem : ∀ {σ : L2.St} {H : Hp} {env : Env} {G : Hp} {ix : List Addr} {S : Store} {w : W} {S' : Store} {R : Bool → Hp → Prop}, EnvR X.K G ix σ env → Good X.K G ix S H → ev gl cf (.din neg ca cb) env S = .ok (w, S') → (∀ k, w = .d (.bl (if neg then !k else k)) → ∀ G' ix' H', Stp G ix H G' ix' H' → Good X.K G' ix' S' H' → R k H') →
      ta σ H fun y H1 => tb σ H1 fun x H2 => ∃ a o, x = .ref a ∧ DGet H2 a y o ∧ R o.isSome H2 := fun {σ H env G ix S w S' R} r g e q => by
    obtain ⟨x, n, c, o, e1, e2, h1, h2, hw⟩ := ev_din e
    refine ma.data r g (show ev gl cf ca env S = .ok (x.1, x.2) from e1) fun v G1 ix1 H1 s1 g1 r1 => mb σ H1 env G1 ix1 x.2 _ S' _ (r.stp s1) g1 e2 fun u G2 ix2 H2 s2 g2 r2 => ?_
    cases (show Rp X.K G2 ix2 u (.obj n) from r2) with
    | @obj a _ hn =>
      obtain ⟨ov, d1, d2, d3⟩ := dGet_ok g2 hn h1 (r1.mono s2.g s2.i _ _) h2
      exact ⟨a, ov, rfl, d1, by rw [d2]; exact q o.isSome hw G2 ix2 H2 (s1.trans s2) g2⟩
  have semx : ∀ {σ : L2.St} {H : Hp} {env : Env} {G : Hp} {ix : List Addr} {S : Store} {k : Nat} {S' : Store} {R : V → V → Hp → Prop}, EnvR X.K G ix σ env → Good X.K G ix S H → ev gl cf (.din neg ca cb) env S = .exc k S' → PostX X.K G ix H k S' (WE (Wof X) σ) → ta σ H fun y H1 => tb σ H1 fun x H2 => R y x H2 := fun {σ H env G ix S k S' R} r g e q => by
    simp only [ev] at e
    exact semX2 ma xa xb r g e nx_din q
  cases neg with
  | true =>
    have p : PE X (.Compare a [.NotIn] [b] pos) (tDNotIn ta tb) := pe_cmp (pc_dnotin hu pa pb) (ord_mark ob _)
    refine ⟨⟨_, p, asg_ord C.nd rfl rfl p, fun σ H env G ix S w S' Q r g e q => ?_, fun σ H env G ix S k S' Q r g e q => semx r g e q⟩, ⟨_, pt_cmp (pc_dnotin hu pa pb) (ord_mark ob _), fun σ H env G ix S w S' Q r g e q => ?_, fun σ H env G ix S k S' Q r g e q => semx r g e q⟩⟩
    · exact sem (R := fun k H' => Q (.bl (!k)) H') r g e fun k hw G' ix' H' s g' => by subst hw; exact postE_bl q s g'
    · exact sem (R := fun k H' => ∃ b, V.bl (!k) = .bl b ∧ Q b H') r g e fun k hw G' ix' H' s g' => by cases hw; exact ⟨_, rfl, q G' ix' H' s g'⟩
  | false =>
    have p : PE X (.Compare a [.In] [b] pos) (tDIn ta tb) := pe_cmp (pc_din hu pa pb) (ord_mark ob _)
    refine ⟨⟨_, p, asg_ord C.nd rfl rfl p, fun σ H env G ix S w S' Q r g e q => ?_, fun σ H env G ix S k S' Q r g e q => semx r g e q⟩, ⟨_, pt_cmp (pc_din hu pa pb) (ord_mark ob _), fun σ H env G ix S w S' Q r g e q => ?_, fun σ H env G ix S k S' Q r g e q => semx r g e q⟩⟩
    · exact sem (R := fun k H' => Q (.bl k) H') r g e fun k hw G' ix' H' s g' => by subst hw; exact postE_bl q s g'
    · exact sem (R := fun k H' => ∃ b, V.bl k = .bl b ∧ Q b H') r g e fun k hw G' ix' H' s g' => by cases hw; exact ⟨_, rfl, q G' ix' H' s g'⟩
theorem snd_dget (C : Ctx nm gl cf X) {a b : Expr} {ca cb : E} {pos : Pos} (ob : ord b = true) (ha : SndE gl cf X a ca) (hb : SndE gl cf X b cb) : SndE gl cf X (.Subscript a b pos) (.dget ca cb) := by
  obtain ⟨ta, pa, _, ma, xa⟩ := ha
  obtain ⟨tb, pb, _, mb, xb⟩ := hb
  have hu : X.A.units + 1 < cLine := by have := C.hu; omega
  have hs : NoSl b := fun ov iv => by cases b <;> first | rfl | cases ob
  have p : PE X (.Subscript a b pos) (tDGet ta tb) := pe_dget hu pa pb hs
  refine ⟨_, p, asg_ord C.nd rfl rfl p, fun σ H env G ix S w S' Q r g e q => ?_, fun σ H env G ix S k S' Q r g e q => ?x⟩
  case x =>
    simp only [ev] at e
    refine semX2 ma xa xb r g e (fun x y => ?_) q
    split
    · split <;> first | exact nx_ok | exact nx_err
    · exact nx_err
  simp only [ev] at e
  obtain ⟨⟨x1, x2⟩, e1, e'⟩ := ok2 e
  obtain ⟨y, e2, e3⟩ := ok2 e'
  dsimp only at e3 e2
  clear e e'
  split at e3
  · rename_i n
    split at e3
    · rename_i d ho
      cases e3
      obtain ⟨c, h1, h2⟩ := Option.bind_eq_some_iff.mp ho
      refine ma σ H env G ix S _ x2 _ r g e1 fun u G1 ix1 H1 s1 g1 r1 => mb.data (r.stp s1) g1 (show ev gl cf cb env x2 = .ok (y.1, y.2) from e2) fun v G2 ix2 H2 s2 g2 r2 => ?_
      cases (show Rp X.K G1 ix1 u (.obj n) from r1) with
      | @obj a _ hn =>
        obtain ⟨ov, d1, d2, d3⟩ := dGet_ok g2 (s2.i _ _ hn) h1 r2 h2
        obtain ⟨z, rfl, rz⟩ := d3 d rfl
        exact ⟨a, z, rfl, d1, q _ G2 ix2 H2 (s1.trans s2) g2 rz⟩
    · cases e3
  · cases e3
theorem snd_dgetD (C : Ctx nm gl cf X) {o a b : Expr} {co ca cb : E} {apos cpos : Pos} (ho : recv o = true) (hl : (apos.endLine == cpos.line) = true) (oa : ord a = true) (ob : ord b = true) (so : SndE gl cf X o co) (ha : SndE gl cf X a ca) (hb : SndE gl cf X b cb) : SndE gl cf X (.Call (.Attribute o "get" apos) [a, b] [] cpos) (.dgetD co ca cb) := by
  obtain ⟨to, po, _, mo, xo⟩ := so
  obtain ⟨ta, pa, _, ma, xa⟩ := ha
  obtain ⟨tb, pb, _, mb, xb⟩ := hb
  have hu : X.A.units + 1 < cLine := by have := C.hu; omega
  have m2 : M2 X o "get" apos a b cpos := ⟨recv_base ho _ _, by rw [ord_star oa, ord_star ob]; rfl, hl, by rw [ord_star oa, ord_star ob]; rfl⟩
  have p : PE X (.Call (.Attribute o "get" apos) [a, b] [] cpos) (tDGet2 to ta tb) := pe_dget2 hu po pa pb m2
  have fin : ∀ {env : Env} {S : Store} {res : Res (W × Store)}, ev gl cf (.dgetD co ca cb) env S = res → res ≠ .err → (∃ k T, res = .exc k T ∧ ev gl cf co env S = .exc k T) ∨ ∃ n x2 c ks, ev gl cf co env S = .ok (.d (.obj n), x2) ∧ x2[n]? = some c ∧ dKeys c = some ks ∧ ((ev gl cf ca env x2).bind fun y => (ev gl cf cb env y.2).bind fun u => (match (u.2[n]?).bind fun c => dGet c y.1.toD with
        | some o => .ok (.d (o.getD u.1.toD), u.2)
        | none => .err)) = res := fun {env S res} e hne => by
    simp only [ev] at e
    cases h1 : ev gl cf co env S with
    | err => rw [h1] at e; exact absurd e.symm hne
    | exc k T => rw [h1] at e; exact .inl ⟨k, T, e.symm, rfl⟩
    | ok x =>
      rw [h1] at e
      obtain ⟨x1, x2⟩ := x
      rw [Res.bind_ok] at e
      dsimp only at e
      split at e
      · rename_i n
        split at e
        · rename_i ks hk
          obtain ⟨c, k1, k2⟩ := Option.bind_eq_some_iff.mp hk
          exact .inr ⟨n, x2, c, ks, rfl, k1, k2, e⟩
        · exact absurd e.symm hne
      · exact absurd e.symm hne
  refine ⟨_, p, asg_ord C.nd rfl rfl p, fun σ H env G ix S w S' Q r g e q => ?_, fun σ H env G ix S k S' Q r g e q => ?x⟩
  case x =>
    rcases fin e (by intro z; cases z) with ⟨k', T, z, e1⟩ | ⟨n, x2, c, ks, e1, h1, h2, e⟩
    · cases z
      exact xo σ H env G ix S k S' _ r g e1 q
    · refine mo σ H env G ix S _ x2 _ r g e1 fun u G1 ix1 H1 s1 g1 r1 => ?_
      cases (show Rp X.K G1 ix1 u (.obj n) from r1) with
      | @obj a _ hn =>
        refine ⟨a, rfl, dKeys_is g1 hn h1 h2, semX2 ma xa xb (r.stp s1) g1 e (fun x y => ?_) (q.from s1)⟩
        split <;> first | exact nx_ok | exact nx_err
  rcases fin e (by intro z; cases z) with ⟨k', T, z, e1⟩ | ⟨n, x2, c, ks, e1, h1, h2, e⟩
  · cases z
  · obtain ⟨y, e2, e⟩ := ok2 e
    obtain ⟨u, e3, e⟩ := ok2 e
    split at e
    · rename_i od hod
      cases e
      obtain ⟨c', k1, k2⟩ := Option.bind_eq_some_iff.mp hod
      refine mo σ H env G ix S _ x2 _ r g e1 fun v G1 ix1 H1 s1 g1 r1 => ?_
      cases (show Rp X.K G1 ix1 v (.obj n) from r1) with
      | @obj a _ hn =>
        refine ⟨a, rfl, dKeys_is g1 hn h1 h2, ?_⟩
        refine sem2 ma mb (r.stp s1) g1 e2 e3 fun v1 v2 G2 ix2 H2 s2 g2 r2 r3 => ?_
        obtain ⟨ov, d1, d2, d3⟩ := dGet_ok g2 (s2.i _ _ hn) k1 r2 k2
        refine ⟨ov, d1, q _ G2 ix2 H2 (s1.trans s2) g2 ?_⟩
        show Rp X.K G2 ix2 (ov.getD v2) (od.getD u.1.toD)
        cases od with
        | none =>
          cases ov with
          | none => exact r3
          | some z => simp at d2
        | some d =>
          obtain ⟨z, rfl, rz⟩ := d3 d rfl
          exact rz
    · cases e
/-! ### dicts by tuples of ints and None -/
theorem nk_v {K : PySem.W.Frag} {G : Hp} {ix : List Addr} {v : V} {d : D} {q : Option Int} (r : Rp K G ix v d) (h : nkOf d = some q) : v = niV q := by
  cases r <;> simp [nkOf] at h <;> subst h <;> rfl
theorem nks_v {K : PySem.W.Frag} {G : Hp} {ix : List Addr} : ∀ {vs : List V} {ds : List D} {qs : List (Option Int)}, Rps K G ix vs ds → nksOf ds = some qs → vs = qs.map niV
  | _, _, qs, .nil, h => by simp [nksOf] at h; subst h; rfl
  | _, _, qs, .cons (d := d) (ds := ds) a r, h => by
    simp only [nksOf, Option.bind_eq_some_iff, Option.map_eq_some_iff] at h
    obtain ⟨k, h1, ks, h2, rfl⟩ := h
    rw [nk_v a h1, nks_v r h2]
    rfl
theorem nrs_keys {K : PySem.W.Frag} {G : Hp} {ix : List Addr} {H : Hp} (le : Le G H) : ∀ {xs : NX} {kvs : List (List (Option Int) × D)}, NRs K G ix xs kvs → NKs H xs
  | _, _, .nil => fun x hx => by cases hx
  | _, _, .cons r t => fun x hx => by
    rcases List.mem_cons.mp hx with rfl | hx
    · exact le _ _ r.2.1
    · exact nrs_keys le t x hx
theorem nrs_val {K : PySem.W.Frag} {G : Hp} {ix : List Addr} (q : List (Option Int)) : ∀ {xs : NX} {kvs : List (List (Option Int) × D)}, NRs K G ix xs kvs → (∀ d, valK kvs q = some d → ∃ p v, atKey xs q = some p ∧ RelV v p.2 ∧ Rp K G ix v d) ∧ (valK kvs q = none → atKey xs q = none)
  | _, _, .nil => ⟨fun d h => by simp [valK] at h, fun _ => rfl⟩
  | _, _, .cons (a := x) (b := k) (l₁ := xs) (l₂ := kvs) r t => by
    obtain ⟨i1, i2⟩ := nrs_val q t
    by_cases e : k.1 = q
    · have e' : x.1 = q := by rw [r.1, e]
      have e2 : valK (k :: kvs) q = some k.2 := by simp [valK, List.find?_cons, e]
      have e3 : atKey (x :: xs) q = some x.2 := by simp [atKey, List.find?_cons, e']
      rw [e2, e3]
      refine ⟨fun d h => ?_, fun h => by cases h⟩
      cases h
      obtain ⟨v, v1, v2⟩ := r.2.2
      exact ⟨_, v, rfl, v1, v2⟩
    · have e' : ¬ x.1 = q := fun z => e (by rw [← r.1, z])
      have e2 : valK (k :: kvs) q = valK kvs q := by simp [valK, List.find?_cons, e]
      have e3 : atKey (x :: xs) q = atKey xs q := by simp [atKey, List.find?_cons, e']
      rw [e2, e3]
      exact ⟨i1, i2⟩
theorem nrs_any {K : PySem.W.Frag} {G : Hp} {ix : List Addr} (q : List (Option Int)) {xs : NX} {kvs : List (List (Option Int) × D)} (h : NRs K G ix xs kvs) : (kvs.any fun kv => decide (kv.1 = q)) = (atKey xs q).isSome := by
  have hv : ∀ kvs : List (List (Option Int) × D), (kvs.any fun kv => decide (kv.1 = q)) = (valK kvs q).isSome := fun kvs => by
    induction kvs with
    | nil => rfl
    | cons k kvs ih =>
      by_cases e : k.1 = q
      · simp [valK, List.find?_cons, e]
      · rw [List.any_cons, ih]
        simp [valK, List.find?_cons, e]
  rw [hv]
  obtain ⟨i1, i2⟩ := nrs_val q h
  cases e : valK kvs q with
  | none => rw [i2 e]; rfl
  | some d =>
    obtain ⟨p, v, e1, _⟩ := i1 d e
    rw [e1]; rfl
theorem nrs_repl {K : PySem.W.Frag} {G : Hp} {ix : List Addr} (q : List (Option Int)) {v : V} {d : D} {r : Value} (rv : RelV v r) (rd : Rp K G ix v d) : ∀ {xs : NX} {kvs : List (List (Option Int) × D)}, NRs K G ix xs kvs → NRs K G ix (xs.map (putAt q r)) (kvs.map fun kv => if kv.1 = q then (kv.1, d) else kv)
  | _, _, .nil => .nil
  | _, _, .cons (a := x) (b := k) s t => by
    rw [List.map_cons, List.map_cons]
    refine .cons ?_ (nrs_repl q rv rd t)
    unfold putAt
    by_cases e : k.1 = q
    · have e' : x.1 = q := by rw [s.1, e]
      rw [if_pos e', if_pos e]
      exact ⟨s.1, s.2.1, v, rv, rd⟩
    · have e' : ¬ x.1 = q := fun z => e (by rw [← s.1, z])
      rw [if_neg e', if_neg e]
      exact s
theorem nrs_snoc {K : PySem.W.Frag} {G : Hp} {ix : List Addr} {q : List (Option Int)} {b : Addr} {v : V} {d : D} {r : Value} (hb : G b = some (.tup (q.map niV))) (rv : RelV v r) (rd : Rp K G ix v d) : ∀ {xs : NX} {kvs : List (List (Option Int) × D)}, NRs K G ix xs kvs → NRs K G ix (xs ++ [(q, b, r)]) (kvs ++ [(q, d)])
  | _, _, .nil => .cons ⟨rfl, hb, v, rv, rd⟩ .nil
  | _, _, .cons s t => .cons s (nrs_snoc hb rv rd t)
theorem nrs_put {K : PySem.W.Frag} {G : Hp} {ix : List Addr} {q : List (Option Int)} {b : Addr} {v : V} {d : D} {r : Value} (hb : G b = some (.tup (q.map niV))) (rv : RelV v r) (rd : Rp K G ix v d) {xs : NX} {kvs : List (List (Option Int) × D)} (h : NRs K G ix xs kvs) : NRs K G ix (storedH xs q b r) (setK kvs q d) := by
  unfold storedH setK
  rw [nrs_any q h]
  split
  · exact nrs_repl q rv rd h
  · exact nrs_snoc hb rv rd h
theorem nGet_ok {K : PySem.W.Frag} {G : Hp} {ix : List Addr} {S : Store} {H : Hp} (g : Good K G ix S H) {n : Nat} {a : Addr} {c : Cell} {y : V} {k : D} {o : Option D} (hn : ix[n]? = some a) (hs : S[n]? = some c) (r : Rp K G ix y k) (h : nGet c k = some o) :
    ∃ ov, NGet H a y ov ∧ ov.isSome = o.isSome ∧ ∀ d, o = some d → ∃ v, ov = some v ∧ Rp K G ix v d := by
  unfold nGet at h
  split at h
  · rename_i kvs
    obtain ⟨a', e1, e2, xs, e3, e4⟩ := g.cel n _ hs (by intro z; cases z)
    rw [hn] at e1; cases e1
    split at h
    · rename_i ds
      simp only [Option.map_eq_some_iff] at h
      obtain ⟨q, h1, rfl⟩ := h
      cases r with
      | @tup b vs _ gb rs =>
        have hb := g.le _ _ gb
        rw [nks_v rs h1] at hb
        obtain ⟨i1, i2⟩ := nrs_val q e4
        cases hv : valK kvs q with
        | none => exact ⟨none, ⟨xs, q, b, e3, nrs_keys g.le e4, rfl, hb, by rw [i2 hv]; exact True.intro⟩, rfl, fun d z => by cases z⟩
        | some d =>
          obtain ⟨p, v, j1, j2, j3⟩ := i1 d hv
          exact ⟨some v, ⟨xs, q, b, e3, nrs_keys g.le e4, rfl, hb, by rw [j1]; exact j2⟩, rfl, fun d' z => by cases z; exact ⟨v, rfl, j3⟩⟩
    · cases h
  · cases h
theorem isN_ok {K : PySem.W.Frag} {G : Hp} {ix : List Addr} {S : Store} {H : Hp} (g : Good K G ix S H) {n : Nat} {a : Addr} {c : Cell} (hn : ix[n]? = some a) (hs : S[n]? = some c) (h : isDN c = true) : IsN H a := by
  cases c with
  | dN kvs =>
    obtain ⟨a', e1, e2, xs, e3, e4⟩ := g.cel n _ hs (by intro z; cases z)
    rw [hn] at e1; cases e1
    exact ⟨xs, e3, nrs_keys g.le e4⟩
  | _ => cases h
theorem snd_nnew (C : Ctx nm gl cf X) {pos : Pos} : SndE gl cf X (.Dict [] [] pos) .nnew := by
  refine ⟨_, pe_nnew, asg_ord C.nd rfl rfl pe_nnew, fun σ H env G ix S w S' Q r g e q => ?_, semX0 fun env S => by simp only [ev]; exact nx_ok⟩
  simp only [ev] at e
  cases e
  intro p hp
  obtain ⟨s, g', r'⟩ := newCell (c := .dN []) (o := ndO p []) g hp ⟨[], rfl, .nil⟩
  exact q _ G _ _ s g' r'
theorem snd_ngetD (C : Ctx nm gl cf X) {o a b : Expr} {co ca cb : E} {apos cpos : Pos} (ho : recv o = true) (hl : (apos.endLine == cpos.line) = true) (oa : ord a = true) (ob : ord b = true) (so : SndE gl cf X o co) (ha : SndE gl cf X a ca) (hb : SndE gl cf X b cb) : SndE gl cf X (.Call (.Attribute o "get" apos) [a, b] [] cpos) (.ngetD co ca cb) := by
  obtain ⟨to, po, _, mo, xo⟩ := so
  obtain ⟨ta, pa, _, ma, xa⟩ := ha
  obtain ⟨tb, pb, _, mb, xb⟩ := hb
  have hu : X.A.units + 1 < cLine := by have := C.hu; omega
  have m2 : M2 X o "get" apos a b cpos := ⟨recv_base ho _ _, by rw [ord_star oa, ord_star ob]; rfl, hl, by rw [ord_star oa, ord_star ob]; rfl⟩
  have p : PE X (.Call (.Attribute o "get" apos) [a, b] [] cpos) (tNGet2 to ta tb) := pe_nget2 hu po pa pb m2
  have fin : ∀ {env : Env} {S : Store} {res : Res (W × Store)}, ev gl cf (.ngetD co ca cb) env S = res → res ≠ .err → (∃ k T, res = .exc k T ∧ ev gl cf co env S = .exc k T) ∨ ∃ n x2 c, ev gl cf co env S = .ok (.d (.obj n), x2) ∧ x2[n]? = some c ∧ isDN c = true ∧ ((ev gl cf ca env x2).bind fun y => (ev gl cf cb env y.2).bind fun u => (match (u.2[n]?).bind fun c => nGet c y.1.toD with
        | some o => .ok (.d (o.getD u.1.toD), u.2)
        | none => .err)) = res := fun {env S res} e hne => by
    simp only [ev] at e
    cases h1 : ev gl cf co env S with
    | err => rw [h1] at e; exact absurd e.symm hne
    | exc k T => rw [h1] at e; exact .inl ⟨k, T, e.symm, rfl⟩
    | ok x =>
      rw [h1] at e
      obtain ⟨x1, x2⟩ := x
      rw [Res.bind_ok] at e
      dsimp only at e
      split at e
      · rename_i n
        split at e
        · rename_i hk
          obtain ⟨c, k1, k2⟩ := Option.map_eq_some_iff.mp hk
          exact .inr ⟨n, x2, c, rfl, k1, k2, e⟩
        · exact absurd e.symm hne
      · exact absurd e.symm hne
  refine ⟨_, p, asg_ord C.nd rfl rfl p, fun σ H env G ix S w S' Q r g e q => ?_, fun σ H env G ix S k S' Q r g e q => ?x⟩
  case x =>
    rcases fin e (by intro z; cases z) with ⟨k', T, z, e1⟩ | ⟨n, x2, c, e1, h1, h2, e⟩
    · cases z
      exact xo σ H env G ix S k S' _ r g e1 q
    · refine mo σ H env G ix S _ x2 _ r g e1 fun u G1 ix1 H1 s1 g1 r1 => ?_
      cases (show Rp X.K G1 ix1 u (.obj n) from r1) with
      | @obj a _ hn =>
        refine ⟨a, rfl, isN_ok g1 hn h1 h2, semX2 ma xa xb (r.stp s1) g1 e (fun x y => ?_) (q.from s1)⟩
        split <;> first | exact nx_ok | exact nx_err
  rcases fin e (by intro z; cases z) with ⟨k', T, z, e1⟩ | ⟨n, x2, c, e1, h1, h2, e⟩
  · cases z
  · obtain ⟨y, e2, e⟩ := ok2 e
    obtain ⟨u, e3, e⟩ := ok2 e
    split at e
    · rename_i od hod
      cases e
      obtain ⟨c', k1, k2⟩ := Option.bind_eq_some_iff.mp hod
      refine mo σ H env G ix S _ x2 _ r g e1 fun v G1 ix1 H1 s1 g1 r1 => ?_
      cases (show Rp X.K G1 ix1 v (.obj n) from r1) with
      | @obj a _ hn =>
        refine ⟨a, rfl, isN_ok g1 hn h1 h2, ?_⟩
        refine sem2 ma mb (r.stp s1) g1 e2 e3 fun v1 v2 G2 ix2 H2 s2 g2 r2 r3 => ?_
        obtain ⟨ov, d1, d2, d3⟩ := nGet_ok g2 (s2.i _ _ hn) k1 r2 k2
        refine ⟨ov, d1, q _ G2 ix2 H2 (s1.trans s2) g2 ?_⟩
        show Rp X.K G2 ix2 (ov.getD v2) (od.getD u.1.toD)
        cases od with
        | none =>
          cases ov with
          | none => exact r3
          | some z => simp at d2
        | some d =>
          obtain ⟨z, rfl, rz⟩ := d3 d rfl
          exact rz
    · cases e
end
end Nl

/-! .. further: len and list of dicts, fields, methods, new instances, isinstance of refusals, str of a number. -/
namespace Nl
open PySem L2
section
variable {nm : Nms} {gl : Nat → Option D} {cf : Cf} {X : Cx}
/-- a CallR of either of two kinds -/
theorem callR_or {f : Value} {r1 r2 : List V → Hp → VK → Prop} (h1 : CallR X f r1) (h2 : CallR X f r2) : CallR X f (fun xs H Q => r1 xs H Q ∨ r2 xs H Q) := fun pins s σ H xs us Q I r h => h.elim (h1 pins s σ H xs us Q I r) (h2 pins s σ H xs us Q I r)
theorem nx_dkey {α : Type} {x : W × Store} {f : List D → Res α} (hf : ∀ ks, (f ks).NX) : ((match x.1 with
    | .d (.obj n) => (match (x.2[n]?).bind dKeys with
      | some ks => f ks
      | none => .err)
    | _ => .err) : Res α).NX := by
  split
  · split <;> first | exact hf _ | exact nx_err
  · exact nx_err
theorem ev_dkey {α : Type} {x : W × Store} {f : List D → Res α} {a : α} (h : (match x.1 with
    | .d (.obj n) => (match (x.2[n]?).bind dKeys with
      | some ks => f ks
      | none => .err)
    | _ => .err) = Res.ok a) : ∃ n c ks, x.1 = .d (.obj n) ∧ x.2[n]? = some c ∧ dKeys c = some ks ∧ f ks = .ok a := by
  split at h
  · rename_i n hn
    split at h
    · rename_i ks hk
      obtain ⟨c, h1, h2⟩ := Option.bind_eq_some_iff.mp hk
      exact ⟨n, c, ks, hn, h1, h2, h⟩
    · cases h
  · cases h
theorem snd_dlen (C : Ctx nm gl cf X) {a : Expr} {ca : E} {p pos : Pos} (hg : Gl X "len") (oa : ord a = true) (ha : SndE gl cf X a ca) : SndE gl cf X (.Call (.Name "len" p) [a] [] pos) (.dlen ca) := by
  obtain ⟨ta, pa, _, ma, xa⟩ := ha
  have pe := pe_callB (p := p) (pos := pos) (callR_or (X := X) call_lenD call_len_dT) hg (C.bi "len" (by decide)) (by decide +kernel) (pa_cons pa pa_nil (ord_star oa [])) (by decide +kernel) (by decide +kernel) (ord_star oa []) rfl
  refine ⟨_, pe, asg_ord C.nd rfl rfl pe, fun σ H env G ix S w S' Q r g e q => ?_, fun σ H env G ix S k S' Q r g e q => ?x⟩
  case x =>
    simp only [ev] at e
    exact semX1 xa r g e (fun x => nx_dkey (x := x) (f := fun ks => Res.ok (W.d (D.int ks.length), x.2)) fun _ => nx_ok) q
  simp only [ev] at e
  obtain ⟨⟨x1, x2⟩, e1, e⟩ := ok2 e
  obtain ⟨n, c, ks, hx, h1, h2, e⟩ := ev_dkey (x := (x1, x2)) (f := fun ks => Res.ok (W.d (D.int ks.length), x2)) e
  cases e
  cases (show x1 = .d (.obj n) from hx)
  refine ma σ H env G ix S _ _ _ r g e1 fun u G1 ix1 H1 s1 g1 r1 => ?_
  cases (show Rp X.K G1 ix1 u (.obj n) from r1) with
  | @obj b _ hn =>
    unfold dKeys at h2
    split at h2
    · cases h2
      obtain ⟨a', f1, f2, us, f3, f4⟩ := g1.cel n _ h1 (by intro z; cases z)
      rw [hn] at f1; cases f1
      refine .inl ⟨b, us, rfl, f3, ?_⟩
      have := q _ G1 ix1 H1 s1 g1 (.int _)
      simpa [f4.length] using this
    · cases h2
      obtain ⟨a', f1, f2, us, f3, f4⟩ := g1.cel n _ h1 (by intro z; cases z)
      rw [hn] at f1; cases f1
      refine .inr ⟨b, us, rfl, f3, ?_⟩
      have := q _ G1 ix1 H1 s1 g1 (.int _)
      simpa [f4.length] using this
    · cases h2
theorem keysK_rel {K : PySem.W.Frag} {G : Hp} {ix : List Addr} : ∀ {us : List (Key × V)} {kvs : List (Ky × D)}, PRs rK K G ix us kvs → Rps K G ix (us.map fun kv => kV kv.1) (kvs.map fun kv => kyD kv.1)
  | _, _, .nil => .nil
  | _, _, .cons (a := u) (b := k) r t => by
    refine .cons ?_ (keysK_rel t)
    show Rp K G ix (kV u.1) (kyD k.1)
    rw [show u.1 = kyK k.1 from r.1]
    cases k.1 with
    | i n => exact .int n
    | s x => exact .str x
theorem snd_dlist (C : Ctx nm gl cf X) {a : Expr} {ca : E} {p pos : Pos} (hg : Gl X "list") (oa : ord a = true) (ha : SndE gl cf X a ca) : SndE gl cf X (.Call (.Name "list" p) [a] [] pos) (.dlist ca) := by
  obtain ⟨ta, pa, _, ma, xa⟩ := ha
  have pe := pe_callTy (p := p) (pos := pos) (callR_or (X := X) (call_listD C.calm) (call_list_dT C.calm)) hg (C.bi "list" (by decide)) (by decide +kernel) (pa_cons pa pa_nil (ord_star oa [])) (by decide +kernel) (by decide +kernel) (ord_star oa []) rfl
  refine ⟨_, pe, asg_ord C.nd rfl rfl pe, fun σ H env G ix S w S' Q r g e q => ?_, fun σ H env G ix S k S' Q r g e q => ?x⟩
  case x =>
    simp only [ev] at e
    exact semX1 xa r g e (fun x => nx_dkey (x := x) (f := fun ks => Res.ok (W.fl ks, x.2)) fun _ => nx_ok) q
  simp only [ev] at e
  obtain ⟨⟨x1, x2⟩, e1, e⟩ := ok2 e
  obtain ⟨n, c, ks, hx, h1, h2, e⟩ := ev_dkey (x := (x1, x2)) (f := fun ks => Res.ok (W.fl ks, x2)) e
  cases e
  cases (show x1 = .d (.obj n) from hx)
  refine ma σ H env G ix S _ _ _ r g e1 fun u G1 ix1 H1 s1 g1 r1 => ?_
  cases (show Rp X.K G1 ix1 u (.obj n) from r1) with
  | @obj b _ hn =>
    unfold dKeys at h2
    split at h2
    · cases h2
      obtain ⟨a', f1, f2, us, f3, f4⟩ := g1.cel n _ h1 (by intro z; cases z)
      rw [hn] at f1; cases f1
      exact .inl ⟨b, us, rfl, .inl f3, fun p hp => (q.from s1).newL g1 hp rfl (keysK_rel f4)⟩
    · rename_i kvs
      cases h2
      obtain ⟨a', f1, f2, us, f3, f4⟩ := g1.cel n _ h1 (by intro z; cases z)
      rw [hn] at f1; cases f1
      refine .inr ⟨b, us, rfl, .inl f3, fun p bs hp hk => ?_⟩
      obtain ⟨G2, s2, g2, l2, r2⟩ := keys_frozen (G0 := G1) (ix0 := ix1) (H0 := H1) Stp.refl g1 hk f4 fun b' _ vs h => .inl h
      exact (q.from (s1.trans s2)).newL g2 hp rfl r2
    · cases h2
/-! ### fields, methods, new instances -/
theorem ev_fld {c : Nat} {a : E} {f : Nat} {env : Env} {S : Store} {w : W} {S' : Store} (e : ev gl cf (.fld c a f) env S = .ok (w, S')) : ∃ n fs d, ev gl cf a env S = .ok (.d (.obj n), S') ∧ S'[n]? = some (.ins c fs) ∧ getF f fs = some d ∧ w = .d d := by
  simp only [ev] at e
  obtain ⟨⟨x1, x2⟩, e1, e⟩ := ok2 e
  dsimp only at e
  split at e
  · rename_i n
    split at e
    · rename_i c' fs hc
      obtain ⟨k, e2⟩ := guard_ok e
      cases eq_of_beq k
      clear e
      split at e2
      · rename_i d hd
        cases e2
        exact ⟨n, fs, d, e1, hc, hd, rfl⟩
      · cases e2
    · cases e
  · cases e
theorem snd_fld (C : Ctx nm gl cf X) {c f : Nat} {a : Expr} {ca : E} {pos : Pos} (hc : c ∈ nm.cl) (hf : f < fdNames.length) (ho : recv a = true) (ha : SndE gl cf X a ca) : SndE gl cf X (.Attribute a (Str.ofString (fdName f)) pos) (.fld c ca f) := by
  obtain ⟨ta, pa, _, ma, xa⟩ := ha
  have pe : PE X (.Attribute a (Str.ofString (fdName f)) pos) _ := pe_fld pa (recv_base ho _ _)
  refine ⟨_, pe, asg_ord C.nd rfl rfl pe, fun σ H env G ix S w S' Q r g e q => ?_, fun σ H env G ix S k S' Q r g e q => ?x⟩
  case x =>
    simp only [ev] at e
    refine semX1 xa r g e (fun x => ?_) q
    split
    · split
      · refine nx_guard ?_
        split <;> first | exact nx_ok | exact nx_err
      · exact nx_err
    · exact nx_err
  obtain ⟨n, fs, d, e1, h1, h2, rfl⟩ := ev_fld e
  refine ma σ H env G ix S _ S' _ r g e1 fun u G1 ix1 H1 s1 g1 r1 => ?_
  cases (show Rp X.K G1 ix1 u (.obj n) from r1) with
  | @obj b _ hn =>
    obtain ⟨a', f1, f2, dx, us, f3, f4⟩ := g1.cel n _ h1 (by intro z; cases z)
    rw [hn] at f1; cases f1
    obtain ⟨v, k1, k2⟩ := getF_ok f4 hf h2
    obtain ⟨C1, C2⟩ := C.cl c hc
    exact ⟨b, _, dx, us, v, rfl, f3, C1, C2 f hf, k1, q _ G1 ix1 H1 s1 g1 k2⟩
/-- o.m(..), where what is raised is wished for at the caller's names -/
def tMethS (C : Addr) (m : Str) (sp : Sp) (E : L2.St → XK) (ta : TE) (t : TA) : TE := fun σ H Q => ta σ H fun x H1 => ∃ a dx fs, x = .ref a ∧ H1 a = some (.ins C dx fs) ∧ fs.lookup m = none ∧ t σ H1 fun vs H2 => sp (x :: vs) H2 Q (E σ)
theorem eval_meth {o : Expr} {m : Str} {apos pos : Pos} {args : List Expr} {env : PySem.Env} (hb : attributeBase o m env (eval o env) = eval o env) (hf : methodCallForm (args.length + ([] : List Keyword).length) (backTo pos (starEach args env)) (backToKw pos (keywordEach [] env)) = true) (hl : (apos.endLine == pos.line) = true) :
    eval (.Call (.Attribute o m apos) args [] pos) env = (do
      let ov ← eval o env
      standAt apos.atName
      let fx ← holding [ov] (getMethod ov m (do return (← importBound o env).getD true))
      callWith pos fx.1 fx.2 (backTo pos (starEach args env)) (backToKw pos (keywordEach [] env))) := by
  have h2 : methodCallPos true o env apos pos = pure pos := by
    unfold methodCallPos
    simp [hl]
  rw [arm_eval_Call, hb]
  unfold methodCall calleeOf
  simp only [hf, if_true, h2, pure_bind]
theorem pe_methS {CX : CXT} {k : Nat} {f C : Addr} {fd : FuncData} {ps : List Str} {sp : Sp} {E : L2.St → XK} {m : Str} {pos apos : Pos} {o : Expr} {args : List Expr} {ta : TE} {t : TA} (he : PE X o ta) (c : Cls X.K C) (hm : Meth X.K C m f) (F : FnG X.prog X.w X.K X.mg X.base CX k f fd ps sp) (gd : X.A.guards = some []) (hr : Room k X.A) (hb : Binds X.K fd ps [])
    (hx : ∀ σ, PassesAt CX X σ (E σ)) (hbase : attributeBase o m X.env (eval o X.env) = eval o X.env) (hform : methodCallForm (args.length + ([] : List Keyword).length) (backTo pos (starEach args X.env)) (backToKw pos (keywordEach [] X.env)) = true) (hline : (apos.endLine == pos.line) = true)
    (ha : (args = [] ∧ t = tNil) ∨ ∃ e es, args = e :: es ∧ PA X (e :: es) t ∧ starEach (e :: es) X.env = (false, eval e X.env) :: starEach es X.env ∧ (backTo pos (starEach es X.env)).any (·.1) = false) :
    PE X (.Call (.Attribute o m apos) args [] pos) (tMethS C m sp E ta t) := ⟨fun pins s σ H Q I h => by
  rw [eval_meth hbase hform hline]
  refine wpAny_bind (thn (he.run pins s σ H _ I h) fun u s1 z => wpAny_bind (wpAny_standAt (wpAny_bind (wpAny_holding ?_))))
  obtain ⟨x, H1, I1, rx, a, dx, fs, ex, ea, l, q⟩ := z
  subst ex
  cases (show u = Value.ref a from rx)
  refine getmeth_ok I1 ea c hm l ?_
  rcases ha with ⟨rfl, rfl⟩ | ⟨e, es, rfl, pa, k1, k2⟩
  · exact PySem.W.callWith_K0 (first := [.ref a]) I1.kIn hm.kp (run_fnG (us := [.ref a]) (vs := [.ref a]) F gd hr hb (hx σ) I1 (.cons rfl .nil) q)
  · exact PySem.W.callWith_K (first := [.ref a]) (h₀ := X.base) I.ok.mod.kin hm.kp (thn (pa.run pos pins s1 σ H1 _ I1 q) fun us s2 z2 => by
      obtain ⟨vs, H2, I2, r2, q2⟩ := z2
      exact ⟨I2.kIn, run_fnG (us := .ref a :: us) (vs := .ref a :: vs) F gd hr hb (hx σ) I2 (.cons rfl r2) q2⟩) k1 k2⟩
theorem ev_meth {f c : Nat} {a : E} {es : Es} {env : Env} {S : Store} {res : Res (W × Store)} (h : ev gl cf (.meth f c a es) env S = res) (hne : res ≠ .err) : (∃ k T, res = .exc k T ∧ ev gl cf a env S = .exc k T) ∨ ∃ n x2 fs, ev gl cf a env S = .ok (.d (.obj n), x2) ∧ x2[n]? = some (.ins c fs) ∧ ((evs gl cf es env x2).bind fun y => cf f (.obj n :: y.1) y.2) = res := by
  simp only [ev] at h
  cases h1 : ev gl cf a env S with
  | err => rw [h1] at h; exact absurd h.symm hne
  | exc k T => rw [h1] at h; exact .inl ⟨k, T, h.symm, rfl⟩
  | ok x =>
    rw [h1] at h
    obtain ⟨x1, x2⟩ := x
    rw [Res.bind_ok] at h
    dsimp only at h
    split at h
    · rename_i n
      split at h
      · rename_i c' fs hc
        unfold guard' at h
        split at h
        · rename_i k
          cases eq_of_beq k
          exact .inr ⟨n, x2, fs, rfl, hc, h⟩
        · exact absurd h.symm hne
      · exact absurd h.symm hne
    · exact absurd h.symm hne
theorem snd_meth (C : Ctx nm gl cf X) {f c : Nat} {m : Str} {o : Expr} {co : E} {args : List Expr} {cs : Es} {apos cpos : Pos} (hc : c ∈ nm.cl) (hf : nm.fn[f]? = some (clStr c, some m)) (hm : (fdNames.any fun g => Str.ofString g == m) = false) (ho : recv o = true) (hl : (apos.endLine == cpos.line) = true) (hn : args.length < 30) (so : SndE gl cf X o co) (hs : SndA gl cf X args cs)
    (h0 : (args = [] ∧ cs = .nil) ∨ ∃ e es, args = e :: es ∧ ord e = true ∧ (backTo cpos (starEach es X.env)).any (·.1) = false ∧ (backTo cpos (starEach args X.env)).all (fun x => !x.1) = true) :
    SndE gl cf X (.Call (.Attribute o m apos) args [] cpos) (.meth f c co cs) := by
  obtain ⟨to, po, _, mo, xo⟩ := so
  obtain ⟨t, pt, mt, xt⟩ := hs
  obtain ⟨C1, C2⟩ := C.cl c hc
  obtain ⟨fa, k, fd, ps, M, hr, hb, F⟩ := C.mt f _ m hf
  have hall : (backTo cpos (starEach args X.env)).all (fun x => !x.1) = true := by
    rcases h0 with ⟨rfl, rfl⟩ | ⟨e, es, rfl, oe, h1, h2⟩
    · rfl
    · exact h2
  have hform : methodCallForm (args.length + ([] : List Keyword).length) (backTo cpos (starEach args X.env)) (backToKw cpos (keywordEach [] X.env)) = true := by
    unfold methodCallForm
    rw [hall]
    simp only [keywordEach, backToKw, List.map_nil, List.all_nil, Bool.true_and, Bool.and_true, List.isEmpty_nil, if_true, decide_eq_true_eq, List.length_nil, Nat.add_zero]
    exact hn
  have fin : ∀ {σ : L2.St} {H : Hp} {env : Env} {G : Hp} {ix : List Addr} {S : Store} {res : Res (W × Store)} {tt : TA} {Q : VK}, SemA gl cf X.K cs tt → SemXA gl cf X cs tt → EnvR X.K G ix σ env → Good X.K G ix S H → ev gl cf (.meth f c co cs) env S = res → ((∃ w S', res = .ok (w, S') ∧ PostE X.K G ix H w S' Q) ∨ ∃ k S', res = .exc k S' ∧ PostX X.K G ix H k S' (WE (Wof X) σ)) →
      tMethS (clsA X.K (clName c)) m (spF X.K cf f) (WE (Wof X)) to tt σ H Q := fun {σ H env G ix S res tt Q} mt xt r g e q => by
    rcases ev_meth e (by rcases q with ⟨w, S', z, _⟩ | ⟨k, S', z, _⟩ <;> rw [z] <;> intro z <;> cases z) with ⟨k, T, rfl, e1⟩ | ⟨n, x2, fs, e1, h1, e2⟩
    · rcases q with ⟨w, S', z, _⟩ | ⟨k', S', z, q⟩
      · cases z
      · cases z
        exact xo σ H env G ix S k T _ r g e1 q
    · refine mo σ H env G ix S _ x2 _ r g e1 fun u G1 ix1 H1 s1 g1 r1 => ?_
      cases (show Rp X.K G1 ix1 u (.obj n) from r1) with
      | @obj b _ hn =>
        obtain ⟨a', f1, f2, dx, us, f3, f4⟩ := g1.cel n _ h1 (by intro z; cases z)
        rw [hn] at f1; cases f1
        refine ⟨b, dx, us, rfl, f3, noF_ok hm f4, ?_⟩
        rcases q with ⟨w, S', rfl, q⟩ | ⟨k, S', rfl, q⟩
        · obtain ⟨y, e3, e4⟩ := ok2 e2
          exact mt σ H1 env G1 ix1 x2 y.1 y.2 _ (r.stp s1) g1 e3 fun vs G2 ix2 H2 s2 g2 r2 => ⟨G2, ix2, y.2, _, g2, .cons (.obj (s2.i _ _ hn)) r2, .inl ⟨w, S', e4, q.from (s1.trans s2)⟩⟩
        · rcases exc2 e2 with e3 | ⟨y, e3, e4⟩
          · exact xt σ H1 env G1 ix1 x2 k S' _ (r.stp s1) g1 e3 (q.from s1)
          · exact mt σ H1 env G1 ix1 x2 y.1 y.2 _ (r.stp s1) g1 e3 fun vs G2 ix2 H2 s2 g2 r2 => ⟨G2, ix2, y.2, _, g2, .cons (.obj (s2.i _ _ hn)) r2, .inr ⟨k, S', e4, q.from (s1.trans s2)⟩⟩
  rcases h0 with ⟨rfl, rfl⟩ | ⟨e, es, rfl, oe, h1, h2⟩
  · have pe : PE X (.Call (.Attribute o m apos) [] [] cpos) _ := pe_methS po C1 M F C.gd hr hb (fun σ => passAt (wof_takes X) σ) (recv_base ho _ _) hform hl (t := tNil) (.inl ⟨rfl, rfl⟩)
    obtain ⟨t0, p0, m0, x0⟩ := snd_nil (gl := gl) (cf := cf) (X := X)
    have mn : SemA gl cf X.K .nil tNil := fun σ H env G ix S ds S' Q r g e q => by
      simp only [evs] at e
      cases e
      exact q [] G ix H Stp.refl g .nil
    have xn : SemXA gl cf X .nil tNil := fun σ H env G ix S k S' Q r g e q => by
      simp only [evs] at e
      cases e
    exact ⟨_, pe, asg_ord C.nd rfl rfl pe, fun σ H env G ix S w S' Q r g e q => fin mn xn r g e (.inl ⟨w, S', rfl, q⟩), fun σ H env G ix S k S' Q r g e q => fin mn xn r g e (.inr ⟨k, S', rfl, q⟩)⟩
  · have pe : PE X (.Call (.Attribute o m apos) (e :: es) [] cpos) _ := pe_methS po C1 M F C.gd hr hb (fun σ => passAt (wof_takes X) σ) (recv_base ho _ _) hform hl (t := t) (.inr ⟨e, es, rfl, pt, ord_star oe es, h1⟩)
    exact ⟨_, pe, asg_ord C.nd rfl rfl pe, fun σ H env G ix S w S' Q r g e q => fin mt xt r g e (.inl ⟨w, S', rfl, q⟩), fun σ H env G ix S k S' Q r g e q => fin mt xt r g e (.inr ⟨k, S', rfl, q⟩)⟩
end
end Nl

/-! .. new instances, isinstance of refusals, str of a number. -/
namespace Nl
open PySem L2
section
variable {nm : Nms} {gl : Nat → Option D} {cf : Cf} {X : Cx}
theorem snd_make (C : Ctx nm gl cf X) {f c : Nat} {p pos : Pos} {args : List Expr} {cs : Es} (hf : nm.fn[f]? = some (clStr c, some (Str.ofString "__init__"))) (hg : Gl X (clStr c)) (hn : okN (clStr c) = true) (hs : SndA gl cf X args cs)
    (h0 : (args = [] ∧ cs = .nil) ∨ ∃ e es, args = e :: es ∧ ord e = true ∧ (backTo pos (starEach es X.env)).any (·.1) = false) : SndE gl cf X (.Call (.Name (clStr c) p) args [] pos) (.make f c cs) := by
  obtain ⟨n1, _, _⟩ := okN_ok hn
  obtain ⟨fa, k, fd, ps, M, hm, hr, hb, F⟩ := C.mkr f _ hf
  obtain ⟨t, pt, mt, xt⟩ := hs
  have fin : ∀ {σ : L2.St} {H : Hp} {env : Env} {G : Hp} {ix : List Addr} {S : Store} {w : W} {S' : Store} {tt : TA} {Q : VK}, SemA gl cf X.K cs tt → EnvR X.K G ix σ env → Good X.K G ix S H → ev gl cf (.make f c cs) env S = .ok (w, S') → PostE X.K G ix H w S' Q → tMake (clsA X.K (clName c)) (spF X.K cf f) [] E0 tt σ H Q := fun {σ H env G ix S w S' tt Q} mt r g e q => by
    simp only [ev] at e
    obtain ⟨y, e1, e2⟩ := ok2 e
    obtain ⟨⟨z1, z2⟩, e3, e4⟩ := ok2 e2
    replace e3 := Res.calm_ok.mp e3
    clear e e2
    dsimp only at e4
    split at e4
    · cases e4
      refine mt σ H env G ix S y.1 y.2 _ r g e1 fun vs G1 ix1 H1 s1 g1 r1 x dx hx hdx ne => ?_
      rw [List.append_nil]
      have g2 := g1.lay (o := .own x) hdx
      have hx2 : L2.upd H1 dx (.own x) x = none := by rw [upd_ne (Ne.symm ne)]; exact hx
      obtain ⟨s3, g3, r3⟩ := newCell (c := .ins c []) (o := .ins (clsA X.K (clName c)) dx []) g2 hx2 ⟨dx, [], rfl, .nil⟩
      have s13 := s1.trans ((Stp.lay (o := .own x) hdx).trans s3)
      refine ⟨G1, ix1 ++ [x], _, _, g3, .cons r3 (r1.mono (Le.refl _) (Ixs.app _ _)), .inl ⟨_, _, e3, fun v G4 ix4 H4 s4 g4 r4 => ?_⟩⟩
      cases (show Rp X.K G4 ix4 v .non from r4)
      exact ⟨rfl, q _ G4 ix4 H4 (s13.trans s4) g4 (r3.mono s4.g s4.i _ _)⟩
    · cases e4
  have nx : ∀ (y : List D × Store), (((cf f (.obj y.2.length :: y.1) (y.2 ++ [.ins c []])).calm).bind fun r => (match r.1 with
    | .d .non => Res.ok (W.d (.obj y.2.length), r.2)
    | _ => .err)).NX := fun y => Res.calm_nx.bind fun r => by split <;> first | exact nx_ok | exact nx_err
  rcases h0 with ⟨rfl, rfl⟩ | ⟨e, es, rfl, oe, h1⟩
  · have pe : PE X (.Call (.Name (clStr c) p) [] [] pos) _ := pe_makeG0 M F C.gd hr hg hm hb passL n1
    have mn : SemA gl cf X.K .nil tNil := fun σ H env G ix S ds S' Q r g e q => by
      simp only [evs] at e
      cases e
      exact q [] G ix H Stp.refl g .nil
    have xn : SemXA gl cf X .nil tNil := fun σ H env G ix S k S' Q r g e q => by
      simp only [evs] at e
      cases e
    refine ⟨_, pe, asg_ord C.nd rfl rfl pe, fun σ H env G ix S w S' Q r g e q => fin mn r g e q, fun σ H env G ix S k S' Q r g e q => ?_⟩
    simp only [ev] at e
    exact semXA1 xn r g e nx q
  · have pe : PE X (.Call (.Name (clStr c) p) (e :: es) [] pos) _ := pe_makeG M F C.gd hr hg hm hb passL pt n1 (ord_star oe es) h1
    refine ⟨_, pe, asg_ord C.nd rfl rfl pe, fun σ H env G ix S w S' Q r g e q => fin mt r g e q, fun σ H env G ix S k S' Q r g e q => ?_⟩
    simp only [ev] at e
    exact semXA1 xt r g e nx q
/-! ### isinstance of a refusal that was caught -/
theorem evo_inst {pins : List (Addr × Obj)} {σ : L2.St} {H : Hp} {s : Shared} {a Dc : Addr} (I : Inv X pins σ H s) (h : H a = some (EvO (.ref Dc) a)) : ∃ oe, PySem.W.InstAt s.heap a oe Dc none := by
  obtain ⟨⟨oe, vs, h1, ⟨h2, h3⟩, h4⟩, _⟩ := (show ObjOk X.prog X.w H s.heap a (EvO (.ref Dc) a) from I.hok a _ h)
  obtain ⟨oc, od, oda, osl⟩ := oe
  dsimp only at h2 h3 h4
  subst h2 h3 h4
  exact ⟨_, h1, rfl, rfl, trivial⟩
/-- one class -/
def rIsV (K : PySem.W.Frag) : List V → Hp → VK → Prop := fun xs H Q => ∃ (a Dc : Addr) (c : V) (cv : Value) (b : Bool), xs = [.ref a, c] ∧ H a = some (EvO (.ref Dc) a) ∧ ExcC K Dc ∧ (∀ u, RelV c u → u = cv) ∧ PySem.W.kitOne K (.ref Dc) cv = some b ∧ Q (.bl b) H
theorem call_isV : CallR X (.builtin "isinstance") (rIsV X.K) := fun pins s σ H xs us Q I r h => by
  obtain ⟨a, Dc, c, cv, b, rfl, ha, C, hcv, e, q⟩ := h
  obtain ⟨u1, u2, rfl, r1, r2⟩ := vals2 r
  cases (show u1 = Value.ref a from r1)
  cases hcv _ r2
  obtain ⟨oe, J⟩ := evo_inst I ha
  exact PySem.W.kia_one (PySem.W.handS_kitx_exc C.hg C.hk C.hs C.hd C.ha C.hn C.ht C.hm) I.kIn J e (fun z => nomatch z) fun tk => ⟨.bl b, H, I.tok tk, rfl, q⟩
/-- classes in a tuple -/
def rIsVT (K : PySem.W.Frag) : List V → Hp → VK → Prop := fun xs H Q => ∃ (a Dc tp : Addr) (cs : List V) (ws : List Value) (b : Bool), xs = [.ref a, .ref tp] ∧ H a = some (EvO (.ref Dc) a) ∧ H tp = some (.tup cs) ∧ ExcC K Dc ∧ (∀ us, Vals cs us → us = ws) ∧ PySem.W.kitAny K (.ref Dc) ws = some b ∧ Q (.bl b) H
theorem call_isVT : CallR X (.builtin "isinstance") (rIsVT X.K) := fun pins s σ H xs us Q I r h => by
  obtain ⟨a, Dc, tp, cs, ws, b, rfl, ha, hT, C, hws, e, q⟩ := h
  obtain ⟨u1, u2, rfl, r1, r2⟩ := vals2 r
  cases (show u1 = Value.ref a from r1)
  cases (show u2 = Value.ref tp from r2)
  obtain ⟨oe, J⟩ := evo_inst I ha
  obtain ⟨_, its, rv, ot, k1, k2, n, k3⟩ := (show ObjOk X.prog X.w H s.heap tp (.tup cs) from I.hok tp _ hT)
  cases hws its rv
  obtain ⟨oc, od, dt, sl⟩ := ot
  dsimp only at k2 k3
  subst k2 k3
  exact PySem.W.kia_tup (PySem.W.handS_kitx_exc C.hg C.hk C.hs C.hd C.ha C.hn C.ht C.hm) I.kIn J k1 e (fun z => nomatch z) fun tk => ⟨.bl b, H, I.tok tk, rfl, q⟩
theorem boot_VE : bootBuiltins (Str.ofString "ValueError") = some (.type "ValueError") := by decide +kernel
/-- the class that a name stands for -/
theorem cls_pe (C : Ctx nm gl cf X) {k : Nat} {e : Expr} (h : chkX nm X.env.scope k e = true) : ∃ v, PE X e (tC v) ∧ (∀ u, RelV v u → u = exV X.K k) ∧ ord e = true ∧ (k ∈ nm.xc ∨ k = exVE) := by
  unfold chkX at h
  split at h
  · rename_i x p
    split at h
    · rename_i hk
      subst hk
      unfold isB at h
      simp only [Bool.and_eq_true, beq_iff_eq] at h
      obtain ⟨rfl, h2⟩ := h
      exact ⟨.ty "ValueError", pe_bltn (glb_ok h2) (C.bi "ValueError" (by decide)) boot_VE rfl (by decide +kernel) (by decide +kernel), fun u r => r, rfl, .inr rfl⟩
    · rename_i hk
      simp only [Bool.and_eq_true, decide_eq_true_eq, List.contains_iff_mem] at h
      obtain ⟨rfl, h2, h3, h4⟩ := h
      obtain ⟨n1, n2, _⟩ := okN_ok h4
      refine ⟨.ref (clsA X.K (exName k)), pe_glob (glb_ok h3) (C.xc.mg k h2) rfl n1, fun u r => ?_, rfl, .inl h2⟩
      unfold exV
      rw [if_neg hk]
      exact r
  · cases h
def tCs (vs : List V) : TA := fun _ H Q => Q vs H
theorem clss_pa (C : Ctx nm gl cf X) : ∀ {ks : List Nat} {es : List Expr}, chkXs nm X.env.scope ks es = true → ∃ vs, PA X es (tCs vs) ∧ (∀ us, Vals vs us → us = ks.map (exV X.K)) ∧ (∀ k ∈ ks, k ∈ nm.xc ∨ k = exVE) ∧ vs.length = ks.length ∧ ks.length = es.length
  | [], [], _ => ⟨[], pa_nil, fun us r => (by cases r; rfl), fun _ h => (by cases h), rfl, rfl⟩
  | [], _ :: _, h => by simp [chkXs] at h
  | _ :: _, [], h => by simp [chkXs] at h
  | k :: ks, e :: es, h => by
    simp only [chkXs, Bool.and_eq_true] at h
    obtain ⟨v, p, hv, oe, hk⟩ := cls_pe C h.1
    obtain ⟨vs, pa, hvs, hks, hl, hl2⟩ := clss_pa C h.2
    refine ⟨v :: vs, pa_cons p pa (ord_star oe es), fun us r => ?_, fun j hj => ?_, by simp [hl], by simp [hl2]⟩
    · cases r with
      | cons r1 r2 => rw [hv _ r1, hvs _ r2]; rfl
    · rcases List.mem_cons.mp hj with rfl | hj
      · exact hk
      · exact hks j hj
theorem kit_any {K : PySem.W.Frag} {mg : Str → Option Value} {xr xc : List Nat} (F : XFacts K mg xr xc) {k : Nat} (hk : k ∈ xr) : ∀ {cs : List Nat}, (∀ c ∈ cs, c ∈ xc ∨ c = exVE) → PySem.W.kitAny K (.ref (clsA K (exName k))) (cs.map (exV K)) = some (cs.any fun c => isSub k c)
  | [], _ => rfl
  | c :: cs, h => by
    rw [List.map_cons, List.any_cons]
    refine kitAny_cons (F.kit k hk c (h c List.mem_cons_self)) (fun hb => ?_) (fun hb => ?_)
    · rw [hb, Bool.false_or]
      exact kit_any F hk fun c' hc' => h c' (List.mem_cons_of_mem _ hc')
    · rw [hb, Bool.true_or]
theorem ev_isx {al : List Nat} {a : E} {ks : List Nat} {env : Env} {S : Store} {w : W} {S' : Store} (e : ev gl cf (.isx al a ks) env S = .ok (w, S')) : ∃ k, ev gl cf a env S = .ok (.d (.ex k), S') ∧ k ∈ al ∧ w = .d (.bl (ks.any fun c => isSub k c)) := by
  simp only [ev] at e
  obtain ⟨⟨x1, x2⟩, e1, e2⟩ := ok2 e
  clear e
  dsimp only at e2
  split at e2
  · rename_i k
    obtain ⟨h1, e3⟩ := guard_ok e2
    cases e3
    exact ⟨k, e1, by simpa using h1, rfl⟩
  · cases e2
theorem nx_isx {al ks : List Nat} (x : W × Store) : ((match x.1 with
    | .d (.ex k) => guard' (al.contains k) <| Res.ok (W.d (.bl (ks.any fun c => isSub k c)), x.2)
    | _ => .err) : Res (W × Store)).NX := by
  split
  · exact nx_guard nx_ok
  · exact nx_err
theorem snd_isx1 (C : Ctx nm gl cf X) {al : List Nat} {k : Nat} {a z : Expr} {ca : E} {p pos : Pos} (hi : Gl X (Str.ofString "isinstance")) (hal : ∀ j ∈ al, j ∈ nm.xr) (hz : chkX nm X.env.scope k z = true) (oa : ord a = true) (ha : SndE gl cf X a ca) :
    SndE gl cf X (.Call (.Name (Str.ofString "isinstance") p) [a, z] [] pos) (.isx al ca [k]) := by
  obtain ⟨ta, pa, _, ma, xa⟩ := ha
  obtain ⟨v, pz, hv, oz, hk⟩ := cls_pe C hz
  have pe : PE X (.Call (.Name (Str.ofString "isinstance") p) [a, z] [] pos) (tCB (rIsV X.K) (tCons ta (tCons (tC v) tNil))) :=
    pe_callB call_isV hi (C.bi _ (by decide)) boot_isi (pa_cons pa (pa_cons pz pa_nil (ord_star oz [])) (ord_star oa [z])) (by decide +kernel) (by decide +kernel) (ord_star oa [z]) (by rw [ord_star oz]; rfl)
  refine ⟨_, pe, asg_ord C.nd rfl rfl pe, fun σ H env G ix S w S' Q r g e q => ?_, fun σ H env G ix S j S' Q r g e q => ?x⟩
  case x =>
    simp only [ev] at e
    exact semX1 xa r g e nx_isx q
  obtain ⟨j, e1, hj, rfl⟩ := ev_isx e
  refine ma σ H env G ix S _ S' _ r g e1 fun u G1 ix1 H1 s1 g1 r1 => ?_
  cases (show Rp X.K G1 ix1 u (.ex j) from r1) with
  | @ex b _ hb =>
    refine ⟨b, _, v, exV X.K k, isSub j k, rfl, g1.le _ _ hb, C.xc.is j (hal j hj), hv, C.xc.kit j (hal j hj) k hk, ?_⟩
    have := postE_bl q s1 g1
    simpa using this
theorem snd_isxT (C : Ctx nm gl cf X) {al ks : List Nat} {a : Expr} {zs : List Expr} {kk : Nat} {ca : E} {p p2 pos : Pos} (hi : Gl X (Str.ofString "isinstance")) (hal : ∀ j ∈ al, j ∈ nm.xr) (hz : chkXs nm X.env.scope ks zs = true) (oa : ord a = true) (ha : SndE gl cf X a ca) (hlen : ks.length ≤ 100) :
    SndE gl cf X (.Call (.Name (Str.ofString "isinstance") p) [a, .Tuple zs kk p2] [] pos) (.isx al ca ks) := by
  obtain ⟨ta, pa, _, ma, xa⟩ := ha
  obtain ⟨vs, pz, hv, hk, hl, hl2⟩ := clss_pa C hz
  have pe : PE X (.Call (.Name (Str.ofString "isinstance") p) [a, .Tuple zs kk p2] [] pos) (tCB (rIsVT X.K) (tCons ta (tCons (tTup (tCs vs)) tNil))) :=
    pe_callB call_isVT hi (C.bi _ (by decide)) boot_isi (pa_cons pa (pa_cons (pe_tup pz) pa_nil rfl) (ord_star oa _)) (by decide +kernel) (by decide +kernel) (ord_star oa _) rfl
  refine ⟨_, pe, asg_ord C.nd rfl rfl pe, fun σ H env G ix S w S' Q r g e q => ?_, fun σ H env G ix S j S' Q r g e q => ?x⟩
  case x =>
    simp only [ev] at e
    exact semX1 xa r g e nx_isx q
  obtain ⟨j, e1, hj, rfl⟩ := ev_isx e
  refine ma σ H env G ix S _ S' _ r g e1 fun u G1 ix1 H1 s1 g1 r1 => ?_
  cases (show Rp X.K G1 ix1 u (.ex j) from r1) with
  | @ex b _ hb =>
    refine ⟨by rw [hl]; exact Nat.le_trans hlen (by decide), fun tp htp => ?_⟩
    have hb1 := g1.le _ _ hb
    refine ⟨b, _, tp, vs, ks.map (exV X.K), ks.any fun c => isSub j c, rfl, by rw [upd_ne (ne_of_none hb1 htp)]; exact hb1, upd_same, C.xc.is j (hal j hj), hv, kit_any C.xc (hal j hj) hk, ?_⟩
    exact postE_bl q (s1.trans (Stp.lay htp)) (g1.lay htp)
/-! ### str of a number -/
theorem figs_str (i : Int) : toS (figs i) = Str.ofString (toString i) := by
  rw [Str.ofString_eq_toList]
  rfl
theorem log2_lt {n : Nat} (h : n < 2 ^ 1920) : n.log2 < 1920 := by
  by_cases h0 : n = 0
  · subst h0; decide
  · exact (Nat.log2_lt h0).mpr h
theorem snd_strI (C : Ctx nm gl cf X) {a : Expr} {ca : E} {p pos : Pos} (hg : Gl X (Str.ofString "str")) (oa : ord a = true) (ha : SndE gl cf X a ca) : SndE gl cf X (.Call (.Name (Str.ofString "str") p) [a] [] pos) (.strI ca) := by
  obtain ⟨ta, pa, _, ma, xa⟩ := ha
  have pe := pe_callTy (p := p) (pos := pos) (call_str_int (X := X)) hg (C.bi "str" (by decide)) (by decide +kernel) (pa_cons pa pa_nil (ord_star oa [])) (by decide +kernel) (by decide +kernel) (ord_star oa []) rfl
  refine ⟨_, pe, asg_ord C.nd rfl rfl pe, fun σ H env G ix S w S' Q r g e q => ?_, fun σ H env G ix S k S' Q r g e q => ?x⟩
  case x =>
    simp only [ev] at e
    refine semX1 xa r g e (fun x => ?_) q
    split
    · exact nx_guard nx_ok
    · exact nx_err
  simp only [ev] at e
  obtain ⟨⟨x1, x2⟩, e1, e2⟩ := ok2 e
  clear e
  dsimp only at e2
  split at e2
  · rename_i i
    obtain ⟨h1, e3⟩ := guard_ok e2
    cases e3
    refine ma σ H env G ix S _ _ _ r g e1 fun u G1 ix1 H1 s1 g1 r1 => ?_
    cases (show Rp X.K G1 ix1 u (.int i) from r1)
    refine ⟨i, rfl, log2_lt (dec_of h1), ?_⟩
    show Q (.str (Str.ofString (toString i))) H1
    rw [← figs_str]
    exact q _ G1 ix1 H1 s1 g1 (.str _)
  · cases e2
end
end Nl

/-! t[:0:-1] of a tuple. -/
namespace Nl
open PySem PySem.Spec PyProof.Rows L2
section
variable {prog : Program} {w : World} {A : Around} {E : Value → Shared → Prop} {s : Shared}
theorem adj_rv0 (n j : Nat) (h : j < n) : Builtin.Slice.sliceAdjust none (some (j : Int)) (-1) (n : Int) = ((n : Int) - 1, (j : Int)) := by
  unfold Builtin.Slice.sliceAdjust
  have h2 : min (j : Int) ((n : Int) - 1) = (j : Int) := by omega
  have h3 : ¬ ((j : Int) < 0) := by omega
  simp [h2, h3]
theorem places_rv0 (n j : Nat) (h : j < n) : Builtin.Slice.slicePlaces ((n : Int) - 1) (j : Int) (-1) = n - 1 - j := by
  unfold Builtin.Slice.slicePlaces
  by_cases h1 : n = j + 1
  · subst h1
    simp
  · have h2 : (j : Int) < (n : Int) - 1 := by omega
    simp [h2]
theorem applied_rv0 {sl : Addr} {vu vs : Value} {n j : Nat} {Q : Int × Int × Nat → Shared → Prop} (hn : j < n) (hs : s.heap.IsSliceOf sl .none vu vs) (pu : IsPart vu (some (j : Int))) (ps : IsPart vs (some (-1)))
    (h : Q ((n : Int) - 1, -1, n - 1 - j) s) : wpAny (model prog w) A (Builtin.Slice.sliceApplied (.ref sl) (pure (n : Int))) Q E s := by
  obtain ⟨os, hos, hcs, hds⟩ := id hs
  unfold Builtin.Slice.sliceApplied Builtin.Slice.sliceFields
  refine wpAny_bind (wpAny_bind (wpAny_field hos hds (x := .none) rfl (wpAny_bind (wpAny_field hos hds (x := vu) rfl (wpAny_bind (wpAny_field hos hds (x := vs) rfl (wpAny_pure ?_)))))))
  refine wpAny_bind (HT.slicePart_ ps ?_)
  show wpAny _ _ (if ((-1 : Int) == 0) = true then _ else _) _ _ s
  rw [if_neg (by decide)]
  refine wpAny_bind (HT.slicePart_ IsPart.none (wpAny_bind (HT.slicePart_ pu (wpAny_bind (wpAny_pure ?_)))))
  show wpAny _ _ (match Builtin.Slice.sliceAdjust none (some (j : Int)) (-1) (n : Int) with | (lo, hi) => pure (lo, (-1 : Int), Builtin.Slice.slicePlaces lo hi (-1))) _ _ s
  rw [adj_rv0 n j hn]
  show wpAny _ _ (pure ((n : Int) - 1, (-1 : Int), Builtin.Slice.slicePlaces ((n : Int) - 1) (j : Int) (-1))) _ _ s
  rw [places_rv0 n j hn]
  exact wpAny_pure h
theorem pick_rvk (xs : Array Value) : ∀ k, k ≤ xs.size → ((List.range k).filterMap fun (m : Nat) => xs[((xs.size : Int) - 1 + (m : Int) * (-1)).toNat]?) = xs.toList.reverse.take k
  | 0, _ => by simp
  | k + 1, h => by
    rw [List.range_succ, List.filterMap_append, pick_rvk xs k (by omega)]
    have hk : k < xs.toList.reverse.length := by simp; omega
    have e1 : (((xs.size : Int) - 1 + (k : Int) * (-1)).toNat) = xs.size - 1 - k := by omega
    have e2 : xs[xs.size - 1 - k]? = some (xs.toList.reverse[k]) := by
      rw [List.getElem_reverse]
      rw [Array.getElem?_eq_getElem (by omega)]
      simp
    rw [List.take_add_one, List.getElem?_eq_getElem hk]
    congr 1
    simp only [List.filterMap_cons, List.filterMap_nil, e1, e2]
    rfl
theorem pick_rv0 (xs : Array Value) (j : Nat) (h : j < xs.size) : ((List.range (xs.size - 1 - j)).filterMap fun (m : Nat) => xs[((xs.size : Int) - 1 + (m : Int) * (-1)).toNat]?).toArray = (xs.toList.drop (j + 1)).reverse.toArray := by
  rw [pick_rvk xs _ (by omega), List.take_reverse]
  congr 3
  simp
  omega
theorem getItem_tuple_rv0 {t sl : Addr} {items : Array Value} {vu vs : Value} {j : Nat} {Q : Value → Shared → Prop} (hn : j < items.size) (ht : IsTup s.heap t items) (hs : s.heap.IsSliceOf sl .none vu vs) (pu : IsPart vu (some (j : Int))) (ps : IsPart vs (some (-1)))
    (h : Q (.ref s.heap.objs.size) { s with heap := s.heap.push { cls := .type "tuple", data := .seq (items.toList.drop (j + 1)).reverse.toArray } })
    (hsz : items.size ≤ sizeLine) : wpAny (model prog w) A (getItem (.ref t) (.ref sl)) Q E s := by
  have htake : sizeOk (.seq (items.toList.drop (j + 1)).reverse.toArray) := by
    show (items.toList.drop (j + 1)).reverse.toArray.size ≤ sizeLine
    rw [List.size_toArray, List.length_reverse, List.length_drop, Array.length_toList]
    omega
  obtain ⟨os, hos, hcs, hds⟩ := id hs
  have hTs : s.TypeIs (.ref sl) "slice" := ⟨os, hos, hcs⟩
  unfold getItem
  try with_reducible refine wpAny_holding ?_
  first | refine wpAny_bind (wpAny_pure ?_) | skip
  refine wpAny_bind (wpAny_sequenceKey ht.typeIs (by decide) ?_)
  refine wpAny_bind (wpAny_callSpecial?_slot (name := Str.ofString "__getitem__") ht.typeIs PyProof.Rows.slot_tuple_getitem
    (wpAny_call_entry PyProof.Rows.slot_tuple_getitem ht.typeIs entry_tuple_getitem ?_ (args_tuple_getitem _ _)))
  show wpAny _ _ (Builtin.Tuple.tupleItemsOf (.ref t) >>= _) _ _ s
  refine wpAny_bind (tupleItemsOf_ ht ?_)
  refine wpAny_bind (wpAny_typeOf hTs ?_)
  rw [if_pos (by decide)]
  refine wpAny_bind (applied_rv0 hn hs pu ps ?_)
  have hno : ¬ ((((items.size : Int) - 1) == 0 && (-1 : Int) == 1 && items.size - 1 - j == items.size) = true) := by
    intro q
    rw [Bool.and_eq_true, Bool.and_eq_true] at q
    have := eq_of_beq q.1.2
    omega
  show wpAny _ _ (if (((items.size : Int) - 1) == 0 && (-1 : Int) == 1 && items.size - 1 - j == items.size) = true then _ else _) _ _ s
  rw [if_neg hno, pick_rv0 _ j hn]
  first
    | exact wpAny_bind (m := Builtin.Tuple.tupleExact _) (wpAny_newObj_type (wpAny_pure ⟨_, rfl, wpAny_pure h⟩) htake)
    | exact wpAny_bind (m := Builtin.Tuple.tupleExact _) (wpAny_newObj_type (wpAny_bind (wpAny_pure (wpAny_pure ⟨_, rfl, wpAny_pure h⟩))) htake)
    | exact wpAny_bind (wpAny_bind (m := Builtin.Tuple.tupleExact _) (wpAny_newObj_type (wpAny_pure (wpAny_pure ⟨_, rfl, wpAny_pure h⟩)) htake))
    | exact wpAny_bind (wpAny_bind (m := Builtin.Tuple.tupleExact _) (wpAny_newObj_type (wpAny_pure ⟨_, rfl, wpAny_pure h⟩) htake))
end
section
variable {X : Cx}
def tRevC (j : Nat) (K : PySem.W.Frag) (te : TE) : TE := fun σ H Q => te σ H fun x H1 => ∃ a xs, x = .ref a ∧ SqT K H1 a xs ∧ j < xs.length ∧ ∀ p, H1 p = none → Q (.ref p) (L2.upd H1 p (.tup (xs.drop (j + 1)).reverse))
theorem vals_drop {xs : List V} {us : List Value} (j : Nat) (r : Vals xs us) : Vals (xs.drop j).reverse (us.drop j).reverse := (Vals.drop j r).reverse
theorem pe_revC {e : Expr} {te : TE} {k j q0 : Nat} {p0 p1 p2 p3 pos : Pos} (he : PE X e te) : PE X (.Subscript e (.Slice none (some (.Constant (.int (q0 : Int)) j p0)) (some (.UnaryOp .USub (.Constant (.int 1) k p1) p2)) p3) pos) (tRevC q0 X.K te) := by
  refine ⟨fun pins s σ H Q I h => ?_⟩
  refine Subscript_ (thn (he.run pins s σ H _ I h) fun v s1 ⟨x, H1, I1, r1, q1⟩ => ?_)
  have hup : PO X (some (.Constant (.int (q0 : Int)) j p0)) (tPart (tC (.int (q0 : Int)))) := po_some pe_int
  have hst : PO X (some (.UnaryOp .USub (.Constant (.int 1) k p1) p2)) (tPart (tUn (rU fun i => .int (-i)) (tC (.int 1)))) := po_some (pe_un un_neg pe_int)
  refine wpAny_Slice (thn (po_none.run pins s1 σ H1 (fun o H2 => o = none ∧ H2 = H1) I1 ⟨rfl, rfl⟩) fun vl s2 ⟨l, H2, I2, pl, el, e2⟩ => ?_)
  subst el e2
  refine thn (hup.run pins s2 σ H2 (fun o H3 => o = some (q0 : Int) ∧ H3 = H2) I2 ⟨_, rfl, rfl, rfl⟩) fun vu s3 ⟨u, H3, I3, pu, eu, e3⟩ => ?_
  subst eu e3
  refine thn (hst.run pins s3 σ H3 (fun o H4 => o = some (-1) ∧ H4 = H3) I3 ⟨1, rfl, -1, rfl, rfl, rfl⟩) fun vs s4 ⟨o, H4, I4, ps, eo, e4⟩ => ?_
  subst eo e4
  have I5 : Inv X pins σ H4 { s4 with heap := s4.heap.push { cls := .type "slice", data := .fields #[vl, vu, vs] } } := I4.kept (t' := s4.toks) fun b ob q => Heap.get?_push_of_some _ q
  obtain ⟨a, xs, ex, hx, hpos, q⟩ := q1
  subst ex
  cases r1
  obtain ⟨its, r, ht, hz⟩ := I5.tuple hx
  have hlen := r.length
  cases pl
  show wpAny (model X.prog X.w) X.A (subscriptTail e (.Slice none (some (.Constant (.int (q0 : Int)) j p0)) (some (.UnaryOp .USub (.Constant (.int 1) k p1) p2)) p3) (.ref a) (.ref s4.heap.objs.size)) (EP X pins σ Q) X.xe { s4 with heap := s4.heap.push { cls := .type "slice", data := .fields #[.none, vu, vs] } }
  refine tail_any (ops := [.ref a, .ref s4.heap.objs.size]) ht.typeIs (PyProof.Rows.slot_tuple_getitem.lookup) ?_ (by with_unfolding_all rfl)
  refine getItem_tuple_rv0 (by rw [List.size_toArray]; omega) ht (Heap.IsSliceOf.new _ .none vu vs) pu ps ?_ (by rw [List.size_toArray]; omega)
  refine ⟨.ref _, _, I5.laid (t' := s4.toks) (o := .tup (xs.drop (q0 + 1)).reverse) (fun b ob q => Heap.get?_push_of_some _ q) (Nat.le_refl _) ?_, rfl, q _ (I5.hok.fresh (Nat.le_refl _))⟩
  exact ⟨by rw [List.length_reverse, List.length_drop]; omega, _, vals_drop _ r, IsTup.new _ _⟩
end
section
variable {nm : Nms} {gl : Nat → Option D} {cf : Cf} {X : Cx}
theorem snd_revc (C : Ctx nm gl cf X) {a : Expr} {ca : E} {k j q0 : Nat} {p0 p1 p2 p3 pos : Pos} (ha : SndE gl cf X a ca) : SndE gl cf X (.Subscript a (.Slice none (some (.Constant (.int (q0 : Int)) j p0)) (some (.UnaryOp .USub (.Constant (.int 1) k p1) p2)) p3) pos) (.revc q0 ca) := by
  obtain ⟨ta, pa, _, ma, xa⟩ := ha
  have pe := pe_revC (X := X) (q0 := q0) (k := k) (j := j) (p0 := p0) (p1 := p1) (p2 := p2) (p3 := p3) (pos := pos) pa
  refine ⟨_, pe, asg_ord C.nd rfl rfl pe, fun σ H env G ix S w S' Q r g e q => ?_, fun σ H env G ix S k S' Q r g e q => ?x⟩
  case x =>
    simp only [ev] at e
    exact semX1 xa r g e (fun _ => by split <;> first | exact nx_guard nx_ok | exact nx_err) q
  simp only [ev] at e
  obtain ⟨x, e1, e2⟩ := ok2 e
  clear e
  refine ma.data r g (show ev gl cf ca env S = .ok (x.1, x.2) from e1) fun v G' ix' H' s g' rv => ?_
  split at e2
  · rename_i xs hx
    obtain ⟨h1, e3⟩ := guard_ok e2
    cases e3
    obtain ⟨b, vs, rfl, k1, g1, r1, e1'⟩ := pk_tup g' rv hx
    refine ⟨b, vs, rfl, SqT.of k1, ?_, fun p hp => (q.from s).newT g' hp rfl (r1.drop (q0 + 1)).reverse⟩
    rw [r1.length]
    exact of_decide_eq_true h1
  · cases e2
end
end Nl

/-! tuple(range(..)), reversed(range(..)), len(set(..)), xs.index(i). -/
namespace L2
open PySem PySem.Spec PyProof.Rows
section
variable {X : Cx}
/-- len(a set of ints) -/
def rLenSet (w : World) : List V → Hp → VK → Prop := fun xs H Q => ∃ (a : Addr) (S : Int → Bool) (n : Nat), xs = [V.ref a] ∧ H a = some (SetO w a S n) ∧ Q (.int (n : Nat)) H
theorem cr_lenSet : CallR X (.builtin "len") (rLenSet X.w) := by
  intro pins s σ H xs us Q I r h
  obtain ⟨a, S, n, rfl, hH, q⟩ := h
  obtain ⟨u, rfl, rx⟩ := vals1 r
  cases rx
  have R : SetR X.w s.heap a S n := setO_get I hH
  obtain ⟨o, es, ep, t, ho, hx, hd, g, nd, hm, hb, hf, hn, _⟩ := R
  refine call_len_set ho hx hd hf (by unfold scanBound at hb; omega) ⟨.int (n : Nat), H, I.tok _, ⟨s.toks + 1, ?_⟩, q⟩
  rw [hn]
end
end L2
namespace Nl
open PySem L2
section
variable {nm : Nms} {gl : Nat → Option D} {cf : Cf} {X : Cx} {tg : Expr}
theorem snd_trng1 (C : Ctx nm gl cf X) {a : Expr} {ca cb : E} {p pos p2 pos2 : Pos} (hl : Gl X "tuple") (hg : Gl X "range") (oa : ord a = true) (ha : SndE gl cf X a ca) (hb : isNonE cb = true) : SndE gl cf X (.Call (.Name "tuple" p2) [.Call (.Name "range" p) [a] [] pos] [] pos2) (.trng .rng1 ca cb) := by
  obtain ⟨ta, pa, _, ma, xa⟩ := ha
  cases isNon_eq hb
  have pe := pe_tupRg (p := p2) (pos := pos2) C.calm hl (C.bi "tuple" (by decide)) (prg_1 (p := p) (pos := pos) hg (C.bi "range" (by decide)) pa (ord_star oa []))
  refine ⟨_, pe, asg_ord C.nd rfl rfl pe, fun σ H env G ix S w S' Q r g e q => ?_, fun σ H env G ix S k S' Q r g e q => ?x⟩
  case x =>
    simp only [ev] at e
    exact semX1 xa r g e (fun _ => by simp only [Res.bind_ok]; exact nx_rgItems.bind fun _ => nx_guard nx_ok) q
  simp only [ev] at e
  obtain ⟨x, e1, e⟩ := ok2 e
  obtain ⟨y, e2, e⟩ := ok2 e
  cases e2
  obtain ⟨ds, e3, e⟩ := ok2 e
  obtain ⟨cl, e⟩ := guard_ok e
  cases e
  have e3 : rng1Items (pk x.2 x.1.toD) = .ok ds := e3
  unfold rng1Items at e3
  split at e3
  · rename_i n e4
    obtain ⟨c, e3⟩ := guard_ok e3
    cases e3
    refine ma.data r g (show ev gl cf ca env S = .ok (x.1, x.2) from e1) fun v G' ix' H' s g' rv => ?_
    cases pk_int rv e4
    have cl' : n.toNat ≤ most := by simpa [upFrom_length] using cl
    refine ⟨n, rfl, ⟨by decide, by decide, (small_ok c).1, (small_ok c).2, by rw [Int.sub_zero]; exact cl'⟩, fun b hb => (q.from s).newT g' hb rfl ?_⟩
    have := upV 0 X.K G' ix' n.toNat
    unfold rgV
    rw [Int.sub_zero]
    exact this
  · cases e3
theorem snd_trng2 (C : Ctx nm gl cf X) {a b : Expr} {ca cb : E} {p pos p2 pos2 : Pos} (hl : Gl X "tuple") (hg : Gl X "range") (oa : ord a = true) (ob : ord b = true) (ha : SndE gl cf X a ca) (hb : SndE gl cf X b cb) : SndE gl cf X (.Call (.Name "tuple" p2) [.Call (.Name "range" p) [a, b] [] pos] [] pos2) (.trng .rng2 ca cb) := by
  obtain ⟨ta, pa, _, ma, xa⟩ := ha
  obtain ⟨tb, pb, _, mb, xb⟩ := hb
  have pe := pe_tupRg (p := p2) (pos := pos2) C.calm hl (C.bi "tuple" (by decide)) (prg_2 (p := p) (pos := pos) hg (C.bi "range" (by decide)) pa pb (ord_star oa [b]) (ord_star ob []) (by rw [ord_star ob]; rfl))
  refine ⟨_, pe, asg_ord C.nd rfl rfl pe, fun σ H env G ix S w S' Q r g e q => ?_, fun σ H env G ix S k S' Q r g e q => ?x⟩
  case x =>
    simp only [ev] at e
    exact semX2 ma xa xb r g e (fun _ _ => nx_rgItems.bind fun _ => nx_guard nx_ok) q
  simp only [ev] at e
  obtain ⟨x, e1, e⟩ := ok2 e
  obtain ⟨y, e2, e⟩ := ok2 e
  obtain ⟨ds, e3, e⟩ := ok2 e
  obtain ⟨cl, e⟩ := guard_ok e
  cases e
  have e3 : rng2Items (pk y.2 x.1.toD) (pk y.2 y.1.toD) = .ok ds := e3
  unfold rng2Items at e3
  split at e3
  · rename_i m n e4 e5
    obtain ⟨c, e3⟩ := guard_ok e3
    cases e3
    simp only [Bool.and_eq_true] at c
    refine sem2 ma mb r g e1 e2 fun v u G' ix' H' s g' rv ru => ?_
    cases pk_int rv e4
    cases pk_int ru e5
    have cl' : (n - m).toNat ≤ most := by simpa [upFrom_length] using cl
    exact ⟨m, n, rfl, rfl, ⟨(small_ok c.1).1, (small_ok c.1).2, (small_ok c.2).1, (small_ok c.2).2, cl'⟩, fun b hb => (q.from s).newT g' hb rfl (upV m X.K G' ix' _)⟩
  · cases e3
theorem up_rev_get {lo : Int} {n i : Nat} (hi : i < n) : (upFrom lo n).reverse[i]? = some (.int (lo + (n : Nat) - 1 + (i : Nat) * (-1))) := by
  rw [List.getElem?_reverse (by rw [upFrom_length]; exact hi), upFrom_length, up_get n lo (n - 1 - i) (by omega)]
  congr 2
  omega
theorem wlk_revR {K : PySem.W.Frag} {G0 : Hp} {ix0 : List Addr} {S0 : Store} {a b : D} {lo : Int} {n : Nat} : Wlk K G0 ix0 S0 a b (Itc (lo + ((n : Nat) : Int) - 1) (-1) n) (upFrom lo n).reverse where
  go := fun i G ix S H l x g k _ hi => by rw [List.length_reverse, upFrom_length] at hi; exact hi
  stop := fun G ix S H l x g k _ => by rw [List.length_reverse, upFrom_length]; exact Nat.le_refl _
  yld := fun i G ix S H v H' l x g k _ hi y => by
    rw [List.length_reverse, upFrom_length] at hi
    obtain ⟨rfl, rfl⟩ := y
    exact ⟨G, _, Stp.refl, g, up_rev_get hi, .int _⟩
theorem snd_rr1 (C : Ctx nm gl cf X) {a : Expr} {ca cb : E} {p pos p2 pos2 : Pos} (hr : Gl X "reversed") (hg : Gl X "range") (oa : ord a = true) (ha : SndE gl cf X a ca) (hb : isNonE cb = true) : SndI gl cf X tg (.Call (.Name "reversed" p2) [.Call (.Name "range" p) [a] [] pos] [] pos2) .rr1 ca cb := by
  obtain ⟨ta, pa, _, ma, xa⟩ := ha
  cases isNon_eq hb
  refine ⟨_, pi_revR (p := p2) (pos := pos2) hr (C.bi "reversed" (by decide)) (prg_1 (p := p) (pos := pos) hg (C.bi "range" (by decide)) pa (ord_star oa [])), fun σ H env G ix S x y ds R r g e1 e2 e3 q => ?_, fun σ H env G ix S k S' R r g e q => xi1 xa r g e q⟩
  have e3 : ((rng1Items (pk y.2 x.1.toD)).bind fun ds => .ok ds.reverse) = .ok ds := e3
  obtain ⟨us, e5, e6⟩ := ok2 e3
  clear e3
  cases e6
  have e3 := e5
  clear e5
  unfold rng1Items at e3
  split at e3
  · rename_i n e4
    obtain ⟨c, e3⟩ := guard_ok e3
    cases e3
    refine sem1 ma r g e1 e2 fun v G' ix' H' s g' rv => ?_
    cases pk_int rv e4
    refine ⟨n, rfl, by decide, by decide, (small_ok c).1, (small_ok c).2, ?_⟩
    rw [Int.sub_zero]
    exact q _ G' ix' H' s g' wlk_revR
  · cases e3
theorem snd_rr2 (C : Ctx nm gl cf X) {a b : Expr} {ca cb : E} {p pos p2 pos2 : Pos} (hr : Gl X "reversed") (hg : Gl X "range") (oa : ord a = true) (ob : ord b = true) (ha : SndE gl cf X a ca) (hb : SndE gl cf X b cb) : SndI gl cf X tg (.Call (.Name "reversed" p2) [.Call (.Name "range" p) [a, b] [] pos] [] pos2) .rr2 ca cb := by
  obtain ⟨ta, pa, _, ma, xa⟩ := ha
  obtain ⟨tb, pb, _, mb, xb⟩ := hb
  refine ⟨_, pi_revR (p := p2) (pos := pos2) hr (C.bi "reversed" (by decide)) (prg_2 (p := p) (pos := pos) hg (C.bi "range" (by decide)) pa pb (ord_star oa [b]) (ord_star ob []) (by rw [ord_star ob]; rfl)), fun σ H env G ix S x y ds R r g e1 e2 e3 q => ?_, fun σ H env G ix S k S' R r g e q => xi2 ma xa xb r g e q⟩
  have e3 : ((rng2Items (pk y.2 x.1.toD) (pk y.2 y.1.toD)).bind fun ds => .ok ds.reverse) = .ok ds := e3
  obtain ⟨us, e5, e6⟩ := ok2 e3
  clear e3
  cases e6
  have e3 := e5
  clear e5
  unfold rng2Items at e3
  split at e3
  · rename_i m n e4 e5
    obtain ⟨c, e3⟩ := guard_ok e3
    cases e3
    simp only [Bool.and_eq_true] at c
    refine sem2 ma mb r g e1 e2 fun v u G' ix' H' s g' rv ru => ?_
    cases pk_int rv e4
    cases pk_int ru e5
    exact ⟨m, n, rfl, rfl, (small_ok c.1).1, (small_ok c.1).2, (small_ok c.2).1, (small_ok c.2).2, q _ G' ix' H' s g' wlk_revR⟩
  · cases e3
/-- len(set(xs)) -/
theorem snd_lsn (C : Ctx nm gl cf X) {p pos p2 pos2 : Pos} {e : Expr} {ca : E} (hg : Gl X (Str.ofString "len")) (hg2 : Gl X (Str.ofString "set")) (oe : ord e = true) (ha : SndE gl cf X e ca) :
    SndE gl cf X (.Call (.Name (Str.ofString "len") p) [.Call (.Name (Str.ofString "set") p2) [e] [] pos2] [] pos) (.lsn ca) := by
  obtain ⟨ta, pa, _, ma, xa⟩ := ha
  have pi : PE X (.Call (.Name (Str.ofString "set") p2) [e] [] pos2) (tCB (rSetI X.K X.w) (tCons ta tNil)) := pe_callTy (cr_setI C.calm) hg2 (C.bi _ (by decide)) (by decide +kernel) (pa_cons pa pa_nil (ord_star oe [])) (by decide +kernel) (by decide +kernel) (ord_star oe []) rfl
  have pe : PE X (.Call (.Name (Str.ofString "len") p) [.Call (.Name (Str.ofString "set") p2) [e] [] pos2] [] pos) (tCB (rLenSet X.w) (tCons (tCB (rSetI X.K X.w) (tCons ta tNil)) tNil)) := pe_callB cr_lenSet hg (C.bi _ (by decide)) (by decide +kernel) (pa_cons pi pa_nil rfl) (by decide +kernel) (by decide +kernel) rfl rfl
  refine ⟨_, pe, asg_ord C.nd rfl rfl pe, fun σ H env G ix S w S' Q r g e q => ?_, fun σ H env G ix S k S' Q r g e q => ?x⟩
  case x =>
    simp only [ev] at e
    refine semX1 xa r g e (fun x => ?_) q
    split
    · split
      · exact nx_guard nx_ok
      · exact nx_err
    · exact nx_err
  simp only [ev] at e
  obtain ⟨x, e1, e2⟩ := ok2 e
  clear e
  split at e2
  · rename_i xs ed
    split at e2
    · rename_i ns en
      obtain ⟨c, e2⟩ := guard_ok e2
      cases e2
      rw [decide_eq_true_eq] at c
      refine ma.data r g (show ev gl cf ca env S = .ok (x.1, x.2) from e1) fun v G1 ix1 H1 s1 g1 rv => ?_
      obtain ⟨a, us, rfl, h1, r2⟩ := pk_lst g1 rv ed
      have hu := r2.ints en
      subst hu
      refine ⟨a, ns, rfl, SqL.of h1, c, fun b k hb hk => ?_⟩
      have hk' := hk (sortU ns) (nodup_lt (sortU_lt ns)) fun z => sortU_mem z ns
      refine ⟨b, _, k, rfl, upd_same, ?_⟩
      rw [hk']
      exact (q.from (s1.trans (Stp.lay hb))).same (g1.lay hb) (.int _)
    · cases e2
  · cases e2
theorem idx_min : ∀ (ns : List Int) (i : Int) (m : Nat), ns[m]? = some i → ns.idxOf i ≤ m
  | [], i, m, h => by simp at h
  | n :: ns, i, 0, h => by
    simp at h
    subst h
    simp
  | n :: ns, i, m + 1, h => by
    rw [List.idxOf_cons]
    have := idx_min ns i m (by simpa using h)
    cases n == i <;> simp <;> omega
theorem eqV_int (i j : Int) : eqV (.int i) (.int j) = (i == j) := rfl
/-- xs.index(i) -/
theorem snd_lidx (C : Ctx nm gl cf X) {o a : Expr} {co ca : E} {apos cpos : Pos} (ho : recv o = true) (hl : (apos.endLine == cpos.line) = true) (oa : ord a = true) (so : SndE gl cf X o co) (sa : SndE gl cf X a ca) :
    SndE gl cf X (.Call (.Attribute o (Str.ofString "index") apos) [a] [] cpos) (.lidx co ca) := by
  obtain ⟨to, po, _, mo, xo⟩ := so
  obtain ⟨ta, pa, _, ma, xa⟩ := sa
  have pe : PE X (.Call (.Attribute o (Str.ofString "index") apos) [a] [] cpos) (tBM X.K "list" (rIndex X.K) to (tCons ta tNil)) := pe_bm PySem.F.plainAttrs_list PySem.F.slot_list_index PySem.F.type_list_index mt_index po (pa_cons pa pa_nil (ord_star oa [])) (recv_base ho _ _) (by
    rw [ord_star oa]
    rfl) hl (ord_star oa []) rfl
  refine ⟨_, pe, asg_ord C.nd rfl rfl pe, fun σ H env G ix S w S' Q r g e q => ?_, fun σ H env G ix S k S' Q r g e q => ?x⟩
  case x =>
    simp only [ev] at e
    rcases exc2 e with e1 | ⟨x, e1, e2⟩
    · exact xo σ H env G ix S k S' _ r g e1 q
    · split at e2
      · rename_i xs ed
        rcases exc2 e2 with e3 | ⟨y, e3, e4⟩
        · refine mo.data r g (show ev gl cf co env S = .ok (x.1, x.2) from e1) fun v G1 ix1 H1 s1 g1 rv => ?_
          obtain ⟨a', vs, rfl, h1, _⟩ := pk_lst g1 rv ed
          exact ⟨.inl ⟨rfl, vs, SqL.of h1⟩, xa σ H1 env G1 ix1 x.2 k S' _ (r.stp s1) g1 e3 (q.from s1)⟩
        · exact absurd e4 ((show Res.NX _ by
            split
            · split
              · exact nx_guard nx_ok
              · exact nx_err
            · exact nx_err) k S')
      · cases e2
  simp only [ev] at e
  obtain ⟨x, e1, e4⟩ := ok2 e
  clear e
  split at e4
  · rename_i xs0 ed0
    obtain ⟨y, e2, e3⟩ := ok2 e4
    clear e4
    split at e3
    · rename_i xs i ed ei
      split at e3
      · rename_i ns en
        obtain ⟨c, e3⟩ := guard_ok e3
        cases e3
        refine mo.data r g (show ev gl cf co env S = .ok (x.1, x.2) from e1) fun v G1 ix1 H1 s1 g1 rv => ?_
        obtain ⟨a', vs, rfl, h1, _⟩ := pk_lst g1 rv ed0
        refine ⟨.inl ⟨rfl, vs, SqL.of h1⟩, ma.data (r.stp s1) g1 (show ev gl cf ca env x.2 = .ok (y.1, y.2) from e2) fun u G2 ix2 H2 s2 g2 ru => ?_⟩
        rw [ei] at ru
        cases ru
        obtain ⟨a2, us, ea, h2, r2⟩ := pk_lst g2 (rv.mono s2.g s2.i _ _) ed
        cases ea
        have hu := r2.ints en
        subst hu
        have hc : i ∈ ns := by simpa using c
        have hlt : ns.idxOf i < ns.length := List.idxOf_lt_length_of_mem hc
        refine ⟨a', ns.map V.int, .int i, ns.idxOf i, .int i, rfl, rfl, SqL.of h2, rfl, by simp [flatV], by rw [List.getElem?_map, List.getElem?_eq_getElem hlt, List.getElem_idxOf]; rfl, by simp [eqV], fun m z hm hz => ?_, (q.from (s1.trans s2)).same g2 (.int _)⟩
        rw [List.getElem?_map] at hz
        obtain ⟨j, hj, rfl⟩ := Option.map_eq_some_iff.mp hz
        obtain ⟨hj1, hj2⟩ := List.getElem?_eq_some_iff.mp hj
        rw [eqV_int]
        refine Classical.byContradiction fun hh => ?_
        have hji : j = i := by simpa using hh
        have := idx_min ns i m (by rw [hj, hji])
        omega
      · cases e3
    · cases e3
  · cases e4
end
end Nl

/-! Displayed dicts, list(d.keys()), sorted(set(pairs)). -/
namespace Nl
open PySem PySem.Spec PyProof.Rows L2
section
variable {nm : Nms} {gl : Nat → Option D} {cf : Cf} {X : Cx}
/-! ### list(d.keys()) -/
def kvOb (d : Addr) : Obj := { cls := .type "dict_keys", data := .fields #[.ref d] }
/-- the keys' view of the dict at d, at p -/
def kvO (p d : Addr) : HO := .ext fun h => h.get? p = some (kvOb d)
def tKeysV (td : TE) : TE := fun σ H Q => td σ H fun x H1 => ∃ a kvs, x = .ref a ∧ H1 a = some (.dK kvs) ∧ ∀ p, H1 p = none → Q (.ref p) (L2.upd H1 p (kvO p a))
theorem kv_ok {P : Program} {w : World} {H : Hp} {h : Heap} {p a : Addr} (e : h.get? p = some (kvOb a)) : ObjOk P w H h p (kvO p a) :=
  ⟨e, ⟨_, e⟩, fun h1 h2 y k => k _ y⟩
theorem pe_keysV {e : Expr} {td : TE} {apos cpos : Pos} (he : PE X e td) (hb : attributeBase e (Str.ofString "keys") X.env (eval e X.env) = eval e X.env) (hl : (apos.endLine == cpos.line) = true) :
    PE X (.Call (.Attribute e (Str.ofString "keys") apos) [] [] cpos) (tKeysV td) := ⟨fun pins s σ H Q I h => by
  refine wpAny_Call_method hb rfl hl PySem.F.plainAttrs_dict PySem.F.slot_dict_keys PySem.F.type_dict_keys (thn (he.run pins s σ H _ I h) fun u s1 ⟨x, H1, I1, rx, a, kvs, ex, hd, q⟩ => ?_)
  subst ex
  obtain rfl : u = Value.ref a := rx
  obtain ⟨z, lo, vs, rel, dd⟩ := dk_rd I1.hok (.inl hd)
  refine ⟨dd.typeIs, Heap.MapOf.noDict dd.mapOf, ?_⟩
  refine method_meetsIn PySem.F.slot_dict_keys PySem.F.entry_dict_keys rfl (PySem.evalArgs_none ⟨rfl, dd.typeIs, PySem.F.args_dict_keys_1 _, _, PySem.W.kdl_meets_keys (mixKind X.prog X.w) a lo, ⟨vs, dd⟩, ?_⟩)
  exact ⟨.ref s1.heap.objs.size, _, I1.laid (a := s1.heap.objs.size) (o := kvO s1.heap.objs.size a) (t' := s1.toks) (fun _ _ q => Heap.get?_push_of_some _ q) (Nat.le_refl _) (kv_ok (Heap.get?_push_size _ rfl)), rfl, q _ (I1.hok.fresh (Nat.le_refl _))⟩⟩
def rListV : List V → Hp → VK → Prop := fun xs H Q => ∃ p a kvs, xs = [V.ref p] ∧ H p = some (kvO p a) ∧ H a = some (.dK kvs) ∧ ∀ q, H q = none → Q (.ref q) (L2.upd H q (.lst (kvs.map fun kv => kV kv.1)))
theorem call_listV (hc : X.calm = true) : CallR X (.type "list") rListV := by
  intro pins s σ H xs us Q I r h
  obtain ⟨p, a, kvs, rfl, hp, hd, q⟩ := h
  obtain ⟨u, rfl, rx⟩ := L2.vals1 r
  obtain rfl : u = Value.ref p := rx
  obtain ⟨z, lo, vs, rel, dd⟩ := dk_rd I.hok (.inl hd)
  obtain ⟨ep, hat⟩ := Heap.DictOf.dictAt dd
  have hv : s.heap.get? p = some (kvOb a) := (show ObjOk X.prog X.w H s.heap p (kvO p a) from I.hok p _ hp).1
  have ek : (kvs.map fun kv => kV kv.1) = vs.map fun kv => kV kv.1 := by
    have e := congrArg (List.map kV) (KV.keys rel)
    rw [List.map_map, List.map_map] at e
    exact e
  refine PySem.W.kdl_call PySem.W.kdl_keys (I.ok.hd hc) ⟨⟨_, hv, rfl, rfl⟩, hat⟩ (by rw [← KV.length rel]; exact z) fun h' tk acc c' hk hD hacc => ?_
  have hv2 := keys_at (vs := vs) (by rw [Array.length_toList]; exact hacc.1) fun j v e => hacc.2 j v (by rw [← Array.getElem?_toList]; exact e)
  refine ⟨.ref s.heap.objs.size, _, I.laid hk (Nat.le_refl _) ?_, rfl, q _ (I.hok.fresh (Nat.le_refl _))⟩
  exact ⟨by rw [List.length_map]; exact z, acc.toList, c', by rw [ek]; exact hv2, by rw [Array.toArray_toList]; exact hD⟩
theorem snd_dkl (C : Ctx nm gl cf X) {a : Expr} {ca : E} {p pos apos cpos : Pos} (hg : Gl X "list") (ho : recv a = true) (hl : (apos.endLine == cpos.line) = true) (ha : SndE gl cf X a ca) :
    SndE gl cf X (.Call (.Name "list" p) [.Call (.Attribute a (Str.ofString "keys") apos) [] [] cpos] [] pos) (.dkl ca) := by
  obtain ⟨ta, pa, _, ma, xa⟩ := ha
  have pk1 := pe_keysV (X := X) pa (recv_base ho _ _) hl
  have pe := pe_callTy (p := p) (pos := pos) (call_listV (X := X) C.calm) hg (C.bi "list" (by decide)) (by decide +kernel) (pa_cons pk1 pa_nil rfl) (by decide +kernel) (by decide +kernel) rfl rfl
  refine ⟨_, pe, asg_ord C.nd rfl rfl pe, fun σ H env G ix S w S' Q r g e q => ?_, fun σ H env G ix S k S' Q r g e q => ?x⟩
  case x =>
    simp only [ev] at e
    refine semX1 xa r g e (fun x => ?_) q
    split
    · split
      · exact nx_ok
      · exact nx_err
    · exact nx_err
  simp only [ev] at e
  obtain ⟨⟨x1, x2⟩, e1, e⟩ := ok2 e
  dsimp only at e
  split at e
  · rename_i n
    split at e
    · rename_i kvs hs
      cases e
      refine ma σ H env G ix S _ _ _ r g e1 fun u G1 ix1 H1 s1 g1 r1 => ?_
      cases (show Rp X.K G1 ix1 u (.obj n) from r1) with
      | @obj b _ hn =>
        obtain ⟨a', f1, f2, us, f3, f4⟩ := g1.cel n _ hs (by intro z; cases z)
        rw [hn] at f1; cases f1
        refine ⟨b, us, rfl, f3, fun v hv => ⟨v, b, us, rfl, upd_same, by rw [upd_ne (ne_of_none f3 hv)]; exact f3, fun p hp => ?_⟩⟩
        exact (q.from (s1.trans (Stp.lay hv))).newL (g1.lay hv) hp rfl (keysK_rel f4)
    · cases e
  · cases e
/-! ### {k: v, ..} -/
theorem kyV_map : ∀ (ks : List (List Nat)) (vs : List V), vs.length = ks.length → ((ks.map fun k => V.str (toS k)).zip vs) = ((ks.map fun k => (Sum.inr (toS k) : Key)).zip vs).map fun kv => (kV kv.1, kv.2)
  | [], _, _ => by simp
  | k :: ks, [], h => by simp at h
  | k :: ks, v :: vs, h => by
    simp only [List.map_cons, List.zip_cons_cons]
    rw [kyV_map ks vs (by simpa using h)]
    rfl
theorem putK_new {us : List (Key × V)} {k : Key} {v : V} (h : ∀ kv ∈ us, kv.1 ≠ k) : putK us k v = us ++ [(k, v)] := by
  unfold putK
  rw [if_neg]
  simp only [List.any_eq_true, decide_eq_true_eq, not_exists, not_and]
  exact fun kv hm e => h kv hm e
theorem merge_new : ∀ (kvs us : List (Key × V)), (∀ kv ∈ us, ∀ kw ∈ kvs, kv.1 ≠ kw.1) → (kvs.map (·.1)).Nodup → mergeK us kvs = us ++ kvs
  | [], us, _, _ => by simp [mergeK]
  | kv :: kvs, us, h, nd => by
    have nd' := List.nodup_cons.mp nd
    show mergeK (putK us kv.1 kv.2) kvs = _
    have side : ∀ kw ∈ us ++ [(kv.1, kv.2)], ∀ kx ∈ kvs, kw.1 ≠ kx.1 := fun kw hm kx hx => by
      rcases List.mem_append.mp hm with hm | hm
      · exact h kw hm kx (List.mem_cons_of_mem _ hx)
      · cases List.mem_singleton.mp hm
        intro e
        have e : kv.1 = kx.1 := e
        exact nd'.1 (List.mem_map.mpr ⟨kx, hx, e.symm⟩)
    rw [putK_new fun kw hm => h kw hm kv List.mem_cons_self, merge_new kvs _ side nd'.2]
    simp
theorem zip_fst {α β : Type} : ∀ (xs : List α) (ys : List β), ys.length = xs.length → (xs.zip ys).map (·.1) = xs
  | [], _, _ => by simp
  | x :: xs, [], h => by simp at h
  | x :: xs, y :: ys, h => by simp [zip_fst xs ys (by simpa using h)]
section
variable (gl : Nat → Option D) (cf : Cf)
def SemP (K : PySem.W.Frag) (ks : List (List Nat)) (c : Es) (trs : List (TE × TE)) : Prop := ∀ σ H env G ix S ds S' Q, EnvR K G ix σ env → Good K G ix S H → evs gl cf c env S = .ok (ds, S') → (∀ vs G' ix' H', Stp G ix H G' ix' H' → Good K G' ix' S' H' → Rps K G' ix' vs ds → Q ((ks.map fun k => V.str (toS k)).zip vs) H') → tPairs trs σ H Q
def SemXP (X : Cx) (c : Es) (trs : List (TE × TE)) : Prop := ∀ σ H env G ix S k S' Q, EnvR X.K G ix σ env → Good X.K G ix S H → evs gl cf c env S = .exc k S' → PostX X.K G ix H k S' (WE (Wof X) σ) → tPairs trs σ H Q
end
def SndP (gl : Nat → Option D) (cf : Cf) (X : Cx) (pos : Pos) (ks : List (List Nat)) (keys : List (Option Expr)) (values : List Expr) (c : Es) : Prop := ∃ trs, PPs X pos keys values trs ∧ SemP gl cf X.K ks c trs ∧ SemXP gl cf X c trs
theorem snd_pnil {pos : Pos} : SndP gl cf X pos [] [] [] .nil := ⟨[], pps_nil, fun σ H env G ix S ds S' Q r g e q => by
      simp only [evs] at e
      cases e
      exact q [] G ix H Stp.refl g .nil, fun σ H env G ix S k S' Q r g e q => by
      simp only [evs] at e
      cases e⟩
theorem snd_pcons {pos : Pos} {c : E} {cs : Es} {k : List Nat} {ks : List (List Nat)} {key : Option Expr} {keys : List (Option Expr)} {v : Expr} {values : List Expr} (hk : chkKey k key = true) (hE : SndE gl cf X v c) (hP : SndP gl cf X pos ks keys values cs) : SndP gl cf X pos (k :: ks) (key :: keys) (v :: values) (.cons c cs) := by
    obtain ⟨j, p, rfl⟩ := chkKey_ok hk
    obtain ⟨trs, p1, p2, p3⟩ := hP
    obtain ⟨t, q1, _, m, mx⟩ := hE
    refine ⟨(tC (V.str (toS k)), t) :: trs, pps_cons pe_str q1 p1, fun σ H env G ix S ds S' Q r g e q => ?_, fun σ H env G ix S kk S' Q r g e q => ?_⟩
    · simp only [evs] at e
      obtain ⟨x, e1, e⟩ := ok2 e
      obtain ⟨y, e2, e⟩ := ok2 e
      cases e
      exact m.data r g (show ev gl cf c env S = .ok (x.1, x.2) from e1) fun v G1 ix1 H1 s1 g1 r1 => p2 σ H1 env G1 ix1 x.2 y.1 y.2 _ (r.stp s1) g1 e2 fun vs G2 ix2 H2 s2 g2 r2 => q (v :: vs) G2 ix2 H2 (s1.trans s2) g2 (.cons (r1.mono s2.g s2.i _ _) r2)
    · simp only [evs] at e
      rcases exc2 e with e1 | ⟨x, e1, e⟩
      · exact mx σ H env G ix S kk S' _ r g e1 q
      · refine m.data r g (show ev gl cf c env S = .ok (x.1, x.2) from e1) fun v G1 ix1 H1 s1 g1 r1 => ?_
        rcases exc2 e with e2 | ⟨y, e2, e⟩
        · exact p3 σ H1 env G1 ix1 x.2 kk S' _ (r.stp s1) g1 e2 (q.from s1)
        · cases e
theorem chkK_all : ∀ (ks : List (List Nat)) (keys : List (Option Expr)), chkK ks keys = true → (keys.all fun x => x.isSome) = true ∧ keys.length = ks.length
  | [], [], _ => ⟨rfl, rfl⟩
  | [], _ :: _, h => by simp [chkK] at h
  | _ :: _, [], h => by simp [chkK] at h
  | k :: ks, e :: es, h => by
    simp only [chkK, Bool.and_eq_true] at h
    obtain ⟨j, p, rfl⟩ := chkKey_ok h.1
    obtain ⟨h1, h2⟩ := chkK_all _ _ h.2
    exact ⟨by simpa using h1, by simp [h2]⟩
theorem zip_prs {K : PySem.W.Frag} {G : Hp} {ix : List Addr} : ∀ (ks : List (List Nat)) {vs : List V} {ds : List D}, Rps K G ix vs ds → ds.length = ks.length → PRs rK K G ix ((ks.map fun k => (Sum.inr (toS k) : Key)).zip vs) ((ks.map Ky.s).zip ds)
  | [], _, _, _, _ => .nil
  | k :: ks, _, _, .nil, h => by simp at h
  | k :: ks, _, _, .cons a r, h => .cons ⟨rfl, a⟩ (zip_prs ks r (by simpa using h))
theorem snd_ddis (C : Ctx nm gl cf X) {ks : List (List Nat)} {c : Es} {keys : List (Option Expr)} {values : List Expr} {pos : Pos} (hP : SndP gl cf X pos ks keys values c) (h1 : chkK ks keys = true) (h2 : ks.Nodup) (h3 : ks ≠ []) (h4 : ks.length ≤ 15) (hlen : keys.length = values.length) :
    SndE gl cf X (.Dict keys values pos) (.ddis ks c) := by
  obtain ⟨trs, p1, p2, p3⟩ := hP
  obtain ⟨k1, k2⟩ := chkK_all ks keys h1
  have pe := pe_disp p1 k1 hlen (fun z => h3 (by rw [z] at k2; exact List.length_eq_zero_iff.mp k2.symm)) (by rw [k2]; exact h4)
  refine ⟨_, pe, asg_ord C.nd rfl rfl pe, fun σ H env G ix S w S' Q r g e q => ?_, fun σ H env G ix S k S' Q r g e q => ?x⟩
  case x =>
    simp only [ev] at e
    intro p hp
    have s0 : Stp G ix H G ix (L2.upd H p (.dK [])) := Stp.lay hp
    rcases exc2 e with e1 | ⟨x, e1, e⟩
    · exact p3 σ _ env G ix S k S' _ r (g.lay hp) e1 (q.from s0)
    · dsimp only [guard'] at e
      split at e <;> cases e
  simp only [ev] at e
  obtain ⟨⟨ds, S1⟩, e1, e⟩ := ok2 e
  obtain ⟨cl, e⟩ := guard_ok e
  cases e
  have cl : ds.length = ks.length := dec_of cl
  intro p hp
  have s0 : Stp G ix H G ix (L2.upd H p (.dK [])) := Stp.lay hp
  refine p2 σ _ env G ix S ds S1 _ r (g.lay hp) e1 fun vs G1 ix1 H1 s1 g1 r1 => ?_
  have hpi : p ∉ ix := g.notIx hp
  have hH1 : H1 p = some (.dK []) := s1.keep p _ upd_same hpi
  have hG1 : G1 p = none := by
    cases hh : G1 p with
    | none => rfl
    | some o =>
      rcases s1.new p o hh with h | h | h | ⟨vs', h⟩
      · have := g.le _ _ h
        rw [hp] at this
        cases this
      · rw [upd_same] at h; cases h
      · exact absurd h hpi
      · rw [upd_same] at h; cases h
  have hpi1 : p ∉ ix1 := fun z => by
    rcases s1.fresh p z with h | h
    · exact hpi h
    · rw [upd_same] at h; cases h
  have hvl : vs.length = ks.length := by rw [r1.length, cl]
  refine ⟨hH1, (ks.map fun k => (Sum.inr (toS k) : Key)).zip vs, kyV_map ks vs hvl, ?_, ?_⟩
  · rw [List.length_zip, List.length_map]
    omega
  · have hnd : (((ks.map fun k => (Sum.inr (toS k) : Key)).zip vs).map (·.1)).Nodup := by
      rw [zip_fst _ _ (by rw [List.length_map]; exact hvl)]
      exact List.pairwise_map.mpr (h2.imp fun h e => h (toS_inj (Sum.inr.inj e)))
    rw [merge_new _ [] (by simp) hnd, List.nil_append]
    have neG : ∀ {a : Addr} {o : HO}, G1 a = some o → a ≠ p := fun h z => by rw [z, hG1] at h; cases h
    have neI : ∀ {a : Addr}, a ∈ ix1 → a ≠ p := fun h z => hpi1 (z ▸ h)
    have neH : ∀ {a : Addr} {o : HO}, H a = some o → a ≠ p := fun h z => by rw [z, hp] at h; cases h
    have g2 : Good X.K G1 ix1 S1 (L2.upd H1 p (.dK ((ks.map fun k => (Sum.inr (toS k) : Key)).zip vs))) := ⟨fun a u h => by rw [upd_ne (neG h)]; exact g1.le a u h, g1.len, fun a h => by rw [upd_ne (neI h)]; exact g1.there a h, fun n c h hc => by
      obtain ⟨a, b1, b2, b3⟩ := g1.cel n c h hc
      exact ⟨a, b1, b2, by rw [upd_ne (neI (List.mem_of_getElem? b1))]; exact b3⟩, g1.inj⟩
    have free : Free ix1 S1 p := fun n c e _ => absurd (List.mem_of_getElem? e) hpi1
    have prs : PRs rK X.K G1 ix1 ((ks.map fun k => (Sum.inr (toS k) : Key)).zip vs) ((ks.map Ky.s).zip ds) := zip_prs ks r1 cl
    have g3 := g2.boxC (c := .dK ((ks.map Ky.s).zip ds)) upd_same hG1 free ⟨_, rfl, prs.mono (Le.refl _) (Ixs.app ix1 p)⟩
    refine q (.ref p) G1 (ix1 ++ [p]) _ ⟨s1.g, s1.i.trans (Ixs.app ix1 p), fun a o h hn => by rw [upd_ne (neH h)]; exact s1.keep a o (by rw [upd_ne (neH h)]; exact h) hn, fun a h => ?_, fun a o h => ?_, fun a h => ?_⟩ g3 (.obj (obj_last g1.len))
    · by_cases e : a = p
      · rw [e]; exact hp
      · rw [upd_ne e] at h
        have := s1.there a h
        rwa [upd_ne e] at this
    · rcases s1.new a o h with h' | h' | h' | ⟨vs', h'⟩
      · exact .inl h'
      · rw [upd_ne (neG h)] at h'; exact .inr (.inl h')
      · exact .inr (.inr (.inl h'))
      · rw [upd_ne (neG h)] at h'; exact .inr (.inr (.inr ⟨vs', h'⟩))
    · rcases List.mem_append.mp h with h | h
      · rcases s1.fresh a h with h' | h'
        · exact .inl h'
        · rw [upd_ne (neI h)] at h'; exact .inr h'
      · rw [List.mem_singleton.mp h]; exact .inr hp
end
end Nl

/-! sorted(set(pairs)). -/
namespace Nl
open PySem PySem.Spec PyProof.Rows L2
def ltP2 (p q : Int × Int) : Prop := p.1 < q.1 ∨ (p.1 = q.1 ∧ p.2 < q.2)
theorem insPU_mem (x k : Int × Int) : ∀ ys, k ∈ insPU x ys ↔ k = x ∨ k ∈ ys
  | [] => by simp [insPU]
  | y :: ys => by
    unfold insPU
    split
    · rename_i h
      subst h
      simp
    · split
      · simp
      · rw [List.mem_cons, insPU_mem x k ys, List.mem_cons]
        constructor
        · rintro (h | h | h) <;> simp [h]
        · rintro (h | h | h) <;> simp [h]
theorem sortPU_mem (k : Int × Int) : ∀ xs, k ∈ sortPU xs ↔ k ∈ xs
  | [] => Iff.rfl
  | x :: xs => by rw [sortPU, insPU_mem, sortPU_mem k xs, List.mem_cons]
theorem insPU_lt (x : Int × Int) : ∀ ys, ys.Pairwise ltP2 → (insPU x ys).Pairwise ltP2
  | [], _ => by simp [insPU]
  | y :: ys, h => by
    obtain ⟨h1, h2⟩ := List.pairwise_cons.mp h
    unfold insPU
    split
    · exact h
    · rename_i hne
      have hne' : ¬ (x.1 = y.1 ∧ x.2 = y.2) := fun z => hne (Prod.ext z.1 z.2)
      split
      · rename_i hle
        have hle := lePr_iff.mp hle
        unfold leP at hle
        have hxy : ltP2 x y := by unfold ltP2; omega
        refine List.pairwise_cons.mpr ⟨fun z hz => ?_, h⟩
        rcases List.mem_cons.mp hz with rfl | hz
        · exact hxy
        · have := h1 z hz
          unfold ltP2 at this hxy ⊢
          omega
      · rename_i hle
        have hle : ¬ leP x y := fun z => hle (lePr_iff.mpr z)
        unfold leP at hle
        refine List.pairwise_cons.mpr ⟨fun z hz => ?_, insPU_lt x ys h2⟩
        rcases (insPU_mem x z ys).mp hz with rfl | hz
        · unfold ltP2; omega
        · exact h1 z hz
theorem sortPU_lt : ∀ xs, (sortPU xs).Pairwise ltP2
  | [] => List.Pairwise.nil
  | x :: xs => insPU_lt x _ (sortPU_lt xs)
theorem rise_uniqP : ∀ {xs ys : List (Int × Int)}, xs.Pairwise ltP2 → ys.Pairwise ltP2 → (∀ k, k ∈ xs ↔ k ∈ ys) → xs = ys
  | [], [], _, _, _ => rfl
  | [], y :: ys, _, _, h => by have := (h y).mpr List.mem_cons_self; cases this
  | x :: xs, [], _, _, h => by have := (h x).mp List.mem_cons_self; cases this
  | x :: xs, y :: ys, h1, h2, h => by
    obtain ⟨a1, a2⟩ := List.pairwise_cons.mp h1
    obtain ⟨b1, b2⟩ := List.pairwise_cons.mp h2
    have e : x = y := by
      rcases List.mem_cons.mp ((h x).mp List.mem_cons_self) with e | e
      · exact e
      · rcases List.mem_cons.mp ((h y).mpr List.mem_cons_self) with e' | e'
        · exact e'.symm
        · have := b1 x e
          have := a1 y e'
          unfold ltP2 at *
          omega
    subst e
    rw [rise_uniqP a2 b2 fun k => ?_]
    have hk := h k
    simp only [List.mem_cons] at hk
    have irr : ¬ ltP2 x x := by unfold ltP2; omega
    constructor
    · intro hm
      rcases hk.mp (Or.inr hm) with e | e
      · subst e; exact absurd (a1 k hm) irr
      · exact e
    · intro hm
      rcases hk.mpr (Or.inr hm) with e | e
      · subst e; exact absurd (b1 k hm) irr
      · exact e
section
variable {nm : Nms} {gl : Nat → Option D} {cf : Cf} {X : Cx}
def prI (p : Int × Int) : List Int := [p.1, p.2]
theorem code_ltP {B : Int} {p q : Int × Int} (hp : TS.Bd B (prI p)) (hq : TS.Bd B (prI q)) (h : ltP2 p q) : TS.code B (prI p) < TS.code B (prI q) := by
  have bp : TS.Bd B [p.2] := fun m hm => hp m (List.mem_cons_of_mem _ hm)
  have bq : TS.Bd B [q.2] := fun m hm => hq m (List.mem_cons_of_mem _ hm)
  have n0 : TS.Bd B ([] : List Int) := fun m hm => by cases hm
  unfold prI
  rcases h with h | ⟨h1, h2⟩
  · exact TS.code_lt rfl bp bq h
  · rw [h1]
    exact (TS.code_same (B := B) (d := q.1) (r := [p.2]) (q := [q.2]) rfl).mpr (TS.code_lt (B := B) (d := p.2) (e := q.2) (r := []) (q := []) rfl n0 n0 h2)
theorem prI_inj {p q : Int × Int} (h : prI p = prI q) : p = q := by
  unfold prI at h
  injection h with h1 h2
  injection h2 with h3 _
  exact Prod.ext h1 h3
theorem bound_ex : ∀ ps : List (Int × Int), ∃ B : Int, ∀ q ∈ ps, q.1 < B ∧ q.2 < B
  | [] => ⟨0, fun q hq => by cases hq⟩
  | y :: ys => by
    obtain ⟨B, hB⟩ := bound_ex ys
    refine ⟨max B (max (y.1 + 1) (y.2 + 1)), fun q hq => ?_⟩
    rcases List.mem_cons.mp hq with rfl | hq
    · omega
    · have := hB q hq
      omega
def adK (x : V) : Addr := match x with
  | .ref a => a
  | _ => default
theorem snd_ssp (C : Ctx nm gl cf X) {p pos p2 pos2 : Pos} {e : Expr} {ca : E} (hg : Gl X (Str.ofString "sorted")) (hg2 : Gl X (Str.ofString "set")) (hu : X.A.units + 64 < cLine) (oe : ord e = true) (ha : SndE gl cf X e ca) :
    SndE gl cf X (.Call (.Name (Str.ofString "sorted") p) [.Call (.Name (Str.ofString "set") p2) [e] [] pos2] [] pos) (.ssp ca) := by
  obtain ⟨ta, pa, _, ma, xa⟩ := ha
  have pi : PE X (.Call (.Name (Str.ofString "set") p2) [e] [] pos2) (tCB (rSetOfT X.K X.prog X.w) (tCons ta tNil)) := pe_callTy (cr_setOfT C.calm hu) hg2 (C.bi _ (by decide)) (by decide +kernel) (pa_cons pa pa_nil (ord_star oe [])) (by decide +kernel) (by decide +kernel) (ord_star oe []) rfl
  have pe : PE X (.Call (.Name (Str.ofString "sorted") p) [.Call (.Name (Str.ofString "set") p2) [e] [] pos2] [] pos) (tCB (rSortedT X.K X.prog X.w) (tCons (tCB (rSetOfT X.K X.prog X.w) (tCons ta tNil)) tNil)) := pe_callB (cr_sortedT C.calm) hg (C.bi _ (by decide)) (by decide +kernel) (pa_cons pi pa_nil rfl) (by decide +kernel) (by decide +kernel) rfl rfl
  refine ⟨_, pe, asg_ord C.nd rfl rfl pe, fun σ H env G ix S w S' Q r g e q => ?_, fun σ H env G ix S k S' Q r g e q => ?x⟩
  case x =>
    simp only [ev] at e
    refine semX1 xa r g e (fun x => ?_) q
    split
    · split
      · exact nx_guard nx_ok
      · exact nx_err
    · exact nx_err
  simp only [ev] at e
  obtain ⟨x, e1, e2⟩ := ok2 e
  clear e
  split at e2
  · rename_i xs ed
    split at e2
    · rename_i ps en
      obtain ⟨c, e2⟩ := guard_ok e2
      cases e2
      rw [Bool.and_eq_true, decide_eq_true_eq, List.all_eq_true] at c
      refine ma.data r g (show ev gl cf ca env S = .ok (x.1, x.2) from e1) fun v G1 ix1 H1 s1 g1 rv => ?_
      obtain ⟨a, us, rfl, h1, r2⟩ := pk_lst g1 rv ed
      obtain ⟨w1, w2⟩ := prs_of g1 r2 en
      have hps : ∀ u ∈ us, prK H1 u ∈ ps := fun u hu => by rw [← w2]; exact List.mem_map_of_mem hu
      -- a bound
      have hB := bound_ex ps
      obtain ⟨B, hB⟩ := hB
      have hbd : ∀ q ∈ ps, TS.Bd B (prI q) := fun q hq m hm => by
        have h0 := c.2 q hq
        rw [Bool.and_eq_true, decide_eq_true_eq, decide_eq_true_eq] at h0
        have h9 := hB q hq
        simp only [prI, List.mem_cons, List.not_mem_nil, or_false] at hm
        rcases hm with rfl | rfl <;> omega
      have hks : us = (us.map fun u => (adK u, prI (prK H1 u))).map fun p => V.ref p.1 := by
        rw [List.map_map]
        refine (List.map_id us).symm.trans (List.map_congr_left fun u hu => ?_)
        obtain ⟨t, e0, _⟩ := (w1 u hu).1
        rw [e0]
        rfl
      have hT : ∀ p ∈ (us.map fun u => (adK u, prI (prK H1 u))), SqT X.K H1 p.1 (p.2.map V.int) := fun p hp => by
        obtain ⟨u, hu, rfl⟩ := List.mem_map.mp hp
        obtain ⟨t, e0, e1⟩ := (w1 u hu).1
        have ea : adK u = t := by rw [e0]; rfl
        show SqT X.K H1 (adK u) _
        rw [ea]
        exact SqT.of e1
      refine ⟨a, us.map fun u => (adK u, prI (prK H1 u)), rfl, by rw [← hks]; exact SqL.of h1, hT, ?_, fun b L hb hL1 hL2 => ?_⟩
      · rw [List.length_map, ← List.length_map (f := prK H1), w2]
        exact c.1
      have hT2 : ∀ p ∈ L, SqT X.K (L2.upd H1 b (SetTO X.prog X.w b L)) p.1 (p.2.map V.int) := fun p hp => by
        obtain ⟨u, hu, rfl⟩ := List.mem_map.mp (hL1 p hp)
        obtain ⟨t, e0, e1⟩ := (w1 u hu).1
        have ea : adK u = t := by rw [e0]; rfl
        show SqT X.K (L2.upd H1 b _) (adK u) _
        rw [ea]
        exact SqT.of (by rw [upd_ne (ne_of_none e1 hb)]; exact e1)
      refine ⟨b, L, 2, B, rfl, upd_same, hT2, by decide, fun p hp => ?_, fun L' p9 hL' nd hl64 hpw hq => ?_⟩
      · obtain ⟨u, hu, rfl⟩ := List.mem_map.mp (hL1 p hp)
        exact ⟨rfl, hbd _ (hps u hu)⟩
      · have hmem : ∀ z ∈ L', ∃ u ∈ us, z = (adK u, prI (prK H1 u)) := fun z hz => by
          obtain ⟨u, hu, e⟩ := List.mem_map.mp (hL1 z (hL'.mem_iff.mp hz))
          exact ⟨u, hu, e.symm⟩
        have hfst : ∀ z ∈ L', ∃ u ∈ us, V.ref z.1 = u ∧ z.2 = prI (prK H1 u) := fun z hz => by
          obtain ⟨u, hu, e⟩ := hmem z hz
          obtain ⟨t, e0, _⟩ := (w1 u hu).1
          refine ⟨u, hu, ?_, by rw [e]⟩
          rw [e, e0]
          rfl
        have key : L'.map (fun z => prK H1 (V.ref z.1)) = sortPU ps := by
          refine rise_uniqP ?_ (sortPU_lt ps) fun k => ?_
          · rw [List.pairwise_map]
            refine (hpw.and (List.pairwise_map.mp nd)).imp_of_mem fun {z1 z2} m1 m2 ⟨h1, h2⟩ => ?_
            obtain ⟨u1, k1, e1, f1⟩ := hfst z1 m1
            obtain ⟨u2, k2, e2, f2⟩ := hfst z2 m2
            rw [e1, e2]
            rw [f1, f2] at h1 h2
            have hne : prK H1 u1 ≠ prK H1 u2 := fun z => h2 (by rw [z])
            have b1 := hbd _ (hps u1 k1)
            have b2 := hbd _ (hps u2 k2)
            have hgt : ¬ ltP2 (prK H1 u2) (prK H1 u1) := fun z => by
              have := code_ltP b2 b1 z
              omega
            have hne' : ¬ ((prK H1 u1).1 = (prK H1 u2).1 ∧ (prK H1 u1).2 = (prK H1 u2).2) := fun z => hne (Prod.ext z.1 z.2)
            unfold ltP2 at *
            omega
          · rw [sortPU_mem, List.mem_map]
            constructor
            · rintro ⟨z, hz, rfl⟩
              obtain ⟨u, hu, e, _⟩ := hfst z hz
              rw [e]
              exact hps u hu
            · intro hk
              rw [← w2] at hk
              obtain ⟨u, hu, rfl⟩ := List.mem_map.mp hk
              have := hL2 _ (List.mem_map_of_mem hu)
              obtain ⟨z, hz, e⟩ := List.mem_map.mp this
              have hz' := hL'.mem_iff.mpr hz
              refine ⟨z, hz', ?_⟩
              obtain ⟨u', hu', e', e2⟩ := hfst z hz'
              rw [e']
              exact prI_inj (e2.symm.trans e)
        have s2 : Stp G1 ix1 H1 G1 ix1 (L2.upd H1 b (SetTO X.prog X.w b L)) := Stp.lay hb
        refine (q.from (s1.trans s2)).newL (g1.lay hb) hq rfl ?_
        rw [← key, List.map_map]
        have := prs_rps (K := X.K) (G := G1) (ix := ix1) (H := H1) (zs := L'.map fun z => V.ref z.1) fun z hz => by
          obtain ⟨y, hy, rfl⟩ := List.mem_map.mp hz
          obtain ⟨u, hu, e, _⟩ := hfst y hy
          rw [e]
          exact (w1 u hu).2
        rw [List.map_map] at this
        exact this
    · cases e2
  · cases e2
/-! ### several targets, each several names -/
def chkTts (N : List Str) (sc : Scope) : List (List Nat) → List Expr → Bool
  | [], xs => xs.isEmpty
  | _ :: _, [] => false
  | is :: iss, x :: xs => isTupX x && (chkTg N sc (.t is) x && chkTts N sc iss xs)
theorem tuples_ok {sc0 : Scope} (C : Ctx nm gl cf X) (hf : ∀ x, loc sc0 x = true → Loc X.env.scope x ∧ (X.fn x = true ∨ X.env.scope.names.lookup x = some .local)) : ∀ (iss : List (List Nat)) (xs : List Expr), chkTts X.N sc0 iss xs = true → ∃ t, PGs X xs t ∧
    (∀ vs ds σ H env env' G ix S Q, EnvR X.K G ix σ env → Good X.K G ix S H → Rps X.K G ix vs ds → setTs iss ds env = .ok env' → (∀ σ', EnvR X.K G ix σ' env' → Q σ' H) → t vs σ H Q) ∧
    ((assignEach xs X.env).length = iss.length) ∧ ((assignEach xs X.env).findIdx? (·.1) = none)
  | [], [], _ => ⟨_, pgs_nil, fun vs ds σ H env env' G ix S Q r g rs e q => by
      cases ds with
      | nil =>
        cases rs
        cases e
        exact ⟨rfl, q σ r⟩
      | cons _ _ => exact (nomatch e), rfl, rfl⟩
  | [], _ :: _, h => by simp [chkTts] at h
  | _ :: _, [], h => by simp [chkTts] at h
  | is :: iss, x :: xs, h => by
    simp only [chkTts, Bool.and_eq_true] at h
    obtain ⟨h1, h2, h3⟩ := h
    obtain ⟨t, p1, p3, p4, p5⟩ := tuples_ok C hf iss xs h3
    obtain ⟨g1, q1, q2⟩ := snd_tg (nm := nm) (gl := gl) (cf := cf) C hf h2
    have ex : (assignEach (x :: xs) X.env) = (false, assign x X.env) :: assignEach xs X.env := by
      cases x <;> first | rfl | cases h1
    refine ⟨_, pgs_cons q1 p1 (by rw [ex]; rfl), fun vs ds σ H env env' G ix S Q r g rs e q => ?_, by rw [ex, List.length_cons, p4]; rfl, by rw [ex, List.findIdx?_cons]; simp [p5]⟩
    cases rs with
    | nil => cases e
    | cons a rs =>
      obtain ⟨env1, e1, e2⟩ := ok2 (show (setTg (.t is) _ env).bind _ = _ from e)
      exact ⟨_, _, rfl, q2 _ _ σ H env env1 G ix S _ r g a e1 fun σ1 r1 _ => p3 _ _ σ1 H env1 env' G ix S Q r1 g rs e2 q⟩
theorem snd_tgT {sc0 : Scope} (C : Ctx nm gl cf X) (hf : ∀ x, loc sc0 x = true → Loc X.env.scope x ∧ (X.fn x = true ∨ X.env.scope.names.lookup x = some .local)) {iss : List (List Nat)} {xs : List Expr} {k : Nat} {p : Pos} (h : chkTts X.N sc0 iss xs = true) :
    ∃ g, PG X (.Tuple xs k p) g ∧ ∀ v d σ H env env' G ix S Q, EnvR X.K G ix σ env → Good X.K G ix S H → Rp X.K G ix v d → setTT iss d env = .ok env' → (∀ σ', EnvR X.K G ix σ' env' → Q σ' H) → g v σ H Q := by
  obtain ⟨t, p1, p3, p4, p5⟩ := tuples_ok (nm := nm) (gl := gl) (cf := cf) C hf iss xs h
  refine ⟨_, pg_or (pg_tup C.calm p1 p4 p5) (pg_unl C.calm p1 p4 p5), fun v d σ H env env' G ix S Q r g rv e q => ?_⟩
  have hlen : ∀ (iss : List (List Nat)) (ds : List D) (env env' : Env), setTs iss ds env = .ok env' → ds.length = iss.length := fun iss => by
    induction iss with
    | nil => intro ds env env' e; cases ds <;> first | rfl | cases e
    | cons is iss ih =>
      intro ds env env' e
      cases ds with
      | nil => cases e
      | cons d ds =>
        obtain ⟨env1, e1, e2⟩ := ok2 (show (setTg (.t is) d env).bind _ = _ from e)
        rw [List.length_cons, List.length_cons, ih _ _ _ e2]
  unfold setTT at e
  split at e
  · rename_i ds
    cases rv with
    | @tup a vs _ ga rs => exact .inl ⟨a, vs, rfl, SqT.of (g.le _ _ ga), by rw [rs.length]; exact hlen _ _ _ _ e, p3 vs ds σ H env env' G ix S Q r g rs e q⟩
  · rename_i ds
    cases rv with
    | @lst a vs _ ga rs => exact .inr ⟨a, vs, rfl, SqL.of (g.le _ _ ga), by rw [rs.length]; exact hlen _ _ _ _ e, p3 vs ds σ H env env' G ix S Q r g rs e q⟩
  · cases e
theorem nx_setTs : ∀ {iss : List (List Nat)} {ds : List D} {env : Env}, (setTs iss ds env).NX
  | [], [], _ => nx_ok
  | [], _ :: _, _ => nx_err
  | _ :: _, [], _ => nx_err
  | is :: iss, d :: ds, env => nx_setTg.bind fun _ => nx_setTs
theorem nx_setTT {iss : List (List Nat)} {d : D} {env : Env} : (setTT iss d env).NX := by
  unfold setTT
  split <;> first | exact nx_setTs | exact nx_err
end
end Nl

/-! max(xs, default=d) of ints. -/
namespace Nl
open PySem PySem.Spec PyProof.Rows L2
theorem depth_pints : ∀ ns : List Int, PyData.depthAll (ns.map PyData.int) = 0
  | [] => rfl
  | n :: ns => by
    show max (PyData.depth (.int n)) (PyData.depthAll (ns.map PyData.int)) = 0
    rw [depth_pints ns]
    rfl
theorem alike_pints (ns : List Int) : PySem.W.AlikeAll (ns.map PyData.int) := by
  refine ⟨fun x hx y hy => ?_, fun x hx => ?_⟩
  · obtain ⟨i, _, rfl⟩ := List.mem_map.mp hx
    obtain ⟨j, _, rfl⟩ := List.mem_map.mp hy
    unfold PySem.W.alike
    rfl
  · obtain ⟨i, _, rfl⟩ := List.mem_map.mp hx
    intro z
    cases z
theorem fold_maxI : ∀ (ns : List Int) (n : Int), n ≤ ns.foldl max n ∧ (∀ y ∈ ns, y ≤ ns.foldl max n) ∧ (ns.foldl max n = n ∨ ns.foldl max n ∈ ns)
  | [], n => ⟨Int.le_refl _, fun y hy => (by cases hy), Or.inl rfl⟩
  | m :: ns, n => by
    obtain ⟨h1, h2, h3⟩ := fold_maxI ns (max n m)
    rw [List.foldl_cons]
    refine ⟨by omega, fun y hy => ?_, ?_⟩
    · rcases List.mem_cons.mp hy with rfl | hy
      · omega
      · exact h2 y hy
    · rcases h3 with h3 | h3
      · rw [h3]
        by_cases c : n ≤ m
        · right
          rw [Int.max_eq_right c]
          exact List.mem_cons_self
        · left
          omega
      · exact .inr (List.mem_cons_of_mem _ h3)
theorem fold_maxOf (n : Int) (ns : List Int) : ns.foldl max n = maxOf (n :: ns) := by
  obtain ⟨h1, h2, h3⟩ := fold_maxI ns n
  obtain ⟨m1, m2⟩ := maxOf_ok (n :: ns) (by simp)
  have a : ns.foldl max n ≤ maxOf (n :: ns) := by
    rcases h3 with h3 | h3
    · rw [h3]; exact m2 n List.mem_cons_self
    · exact m2 _ (List.mem_cons_of_mem _ h3)
  have b : maxOf (n :: ns) ≤ ns.foldl max n := by
    rcases List.mem_cons.mp m1 with e | e
    · rw [e]; exact h1
    · exact h2 _ e
  omega
section
variable {nm : Nms} {gl : Nat → Option D} {cf : Cf} {X : Cx}
def tMaxD (K : PySem.W.Frag) (ta td : TE) : TE := fun σ H Q => ta σ H fun v H1 => td σ H1 fun u H2 => ∃ (a : Addr) (ns : List Int), v = .ref a ∧ SqL K H2 a (ns.map V.int) ∧ (ns = [] → Q u H2) ∧ (ns ≠ [] → Q (.int (maxOf ns)) H2)
theorem pe_maxD (C : Ctx nm gl cf X) {p pos kp : Pos} {e d : Expr} {ta td : TE} (hg : Gl X (Str.ofString "max")) (pa : PE X e ta) (pd : PE X d td) (oe : ord e = true) : PE X (.Call (.Name (Str.ofString "max") p) [e] [⟨some (Str.ofString "default"), d, kp⟩] pos) (tMaxD X.K ta td) := ⟨fun pins s σ H Q I h => by
  refine wpAny_Call_Name_kw (ld_blt (u := .builtin "max") I hg (C.bi _ (by decide)) (by decide +kernel) ?_ (by decide +kernel) (by decide +kernel))
  refine PyProof.Rows.callWith_kw (thn ((pa_cons pa pa_nil (ord_star oe [])).run pos pins s σ H (fun vs H1 => ∃ v, vs = [v] ∧ td σ H1 fun u H2 => ∃ (a : Addr) (ns : List Int), v = .ref a ∧ SqL X.K H2 a (ns.map V.int) ∧ (ns = [] → Q u H2) ∧ (ns ≠ [] → Q (.int (maxOf ns)) H2)) I ?_) fun us s1 z => ?_) (by rw [ord_star oe []]; rfl) (by rw [ord_star oe []]; rfl) rfl rfl
  · have h' : ta σ H fun v H1 => td σ H1 fun u H2 => ∃ (a : Addr) (ns : List Int), v = .ref a ∧ SqL X.K H2 a (ns.map V.int) ∧ (ns = [] → Q u H2) ∧ (ns ≠ [] → Q (.int (maxOf ns)) H2) := h
    show tCons ta tNil σ H _
    have e0 : (fun (x : V) (H1 : Hp) => tNil σ H1 fun xs H2 => ∃ v, x :: xs = [v] ∧ td σ H2 fun u H3 => ∃ (a : Addr) (ns : List Int), v = .ref a ∧ SqL X.K H3 a (ns.map V.int) ∧ (ns = [] → Q u H3) ∧ (ns ≠ [] → Q (.int (maxOf ns)) H3)) = fun x H1 => ∃ v, [x] = [v] ∧ td σ H1 fun u H3 => ∃ (a : Addr) (ns : List Int), v = .ref a ∧ SqL X.K H3 a (ns.map V.int) ∧ (ns = [] → Q u H3) ∧ (ns ≠ [] → Q (.int (maxOf ns)) H3) := rfl
    show ta σ H (fun (x : V) (H1 : Hp) => tNil σ H1 fun xs H2 => ∃ v, x :: xs = [v] ∧ td σ H2 fun u H3 => ∃ (a : Addr) (ns : List Int), v = .ref a ∧ SqL X.K H3 a (ns.map V.int) ∧ (ns = [] → Q u H3) ∧ (ns ≠ [] → Q (.int (maxOf ns)) H3))
    rw [e0]
    have e1 : (fun (v : V) (H1 : Hp) => td σ H1 fun u H2 => ∃ (a : Addr) (ns : List Int), v = .ref a ∧ SqL X.K H2 a (ns.map V.int) ∧ (ns = [] → Q u H2) ∧ (ns ≠ [] → Q (.int (maxOf ns)) H2)) = fun x H1 => ∃ v, [x] = [v] ∧ td σ H1 fun u H3 => ∃ (a : Addr) (ns : List Int), v = .ref a ∧ SqL X.K H3 a (ns.map V.int) ∧ (ns = [] → Q u H3) ∧ (ns ≠ [] → Q (.int (maxOf ns)) H3) := by
      funext x H1
      refine propext ⟨fun z => ⟨x, rfl, z⟩, fun ⟨v, e, z⟩ => ?_⟩
      cases e
      exact z
    rw [← e1]
    exact h'
  · obtain ⟨vs, H1, I1, r1, v, rfl, q1⟩ := z
    refine thn ((pk_cons (nm := some (Str.ofString "default")) (kpos := kp) pd pk_nil).run pos pins s1 σ H1 (fun us H2 => ∃ u, us = [u] ∧ ∃ (a : Addr) (ns : List Int), v = .ref a ∧ SqL X.K H2 a (ns.map V.int) ∧ (ns = [] → Q u H2) ∧ (ns ≠ [] → Q (.int (maxOf ns)) H2)) I1 ?_) fun ws s2 z2 => ?_
    · have e1 : (fun (u : V) (H2 : Hp) => ∃ (a : Addr) (ns : List Int), v = .ref a ∧ SqL X.K H2 a (ns.map V.int) ∧ (ns = [] → Q u H2) ∧ (ns ≠ [] → Q (.int (maxOf ns)) H2)) = fun x H2 => ∃ u, [x] = [u] ∧ ∃ (a : Addr) (ns : List Int), v = .ref a ∧ SqL X.K H2 a (ns.map V.int) ∧ (ns = [] → Q u H2) ∧ (ns ≠ [] → Q (.int (maxOf ns)) H2) := by
        funext x H2
        refine propext ⟨fun z => ⟨x, rfl, z⟩, fun ⟨u, e, z⟩ => ?_⟩
        cases e
        exact z
      rw [e1] at q1
      exact q1
    · obtain ⟨us2, H2, I2, r2, u, rfl, a, ns, rfl, hl, q0, q9⟩ := z2
      cases r1 with
      | cons ra rt =>
        cases rt
        cases r2 with
        | cons ru rt =>
          cases rt
          rename_i va vu
          cases (show va = Value.ref a from ra)
          obtain ⟨its, rv, ⟨ob, n0, ho, hc, hd, hs⟩, hz⟩ := I2.list hl
          have dp : DpAll X.K H2 (ns.map V.int) (ns.map PyData.int) := by
            clear hl rv hz q0 q9 ho hs
            induction ns with
            | nil => exact .nil
            | cons m ns ih => exact .cons (.int m) ih
          obtain ⟨as, rd⟩ := Dp.readsAll I2 _ _ _ dp rv
          refine PySem.W.max_list_default (vs := its.toArray) (xs := ns.map PyData.int) (as := as) (I2.ok.hd C.calm) ⟨ob, ho, hc, n0, hs⟩ rd (alike_pints ns) (by rw [depth_pints]; have := C.hu; omega) (fun e h' tk hk => ?_) fun y ys i v h' tk bs e hi r hk => ?_
          · exact ⟨u, H2, I2.kept hk, ru, q0 (List.map_eq_nil_iff.mp e)⟩
          · cases ns with
            | nil => cases e
            | cons m ms =>
              rw [List.map_cons] at e
              cases e
              rw [PySem.W.maxD_ints, fold_maxOf] at r
              cases r with
              | int i t => exact ⟨.int (maxOf (m :: ms)), H2, I2.kept hk, ⟨_, rfl⟩, q9 (by simp)⟩⟩
theorem maxdR_ok {x : D} {y w : W} (h : maxdR x y = .ok w) : ∃ xs ns v, x = .lst xs ∧ intsOf xs = some ns ∧ y = .d v ∧ w = .d (if ns.isEmpty then v else .int (maxOf ns)) := by
  unfold maxdR at h
  split at h
  · split at h
    · rename_i ns e
      cases h
      exact ⟨_, ns, _, rfl, e, rfl, rfl⟩
    · cases h
  · cases h
theorem nx_maxd (x : D) (y : W) (S : Store) : ((maxdR x y).bind fun w => Res.ok (w, S)).NX := by
  unfold maxdR
  split
  · split
    · exact nx_ok
    · exact nx_err
  · exact nx_err
theorem snd_maxd (C : Ctx nm gl cf X) {p pos kp : Pos} {e d : Expr} {ca cd : E} (hg : Gl X (Str.ofString "max")) (oe : ord e = true) (ha : SndE gl cf X e ca) (hd : SndE gl cf X d cd) :
    SndE gl cf X (.Call (.Name (Str.ofString "max") p) [e] [⟨some (Str.ofString "default"), d, kp⟩] pos) (.maxd ca cd) := by
  obtain ⟨ta, pa, _, ma, xa⟩ := ha
  obtain ⟨td, pd, _, md, xd⟩ := hd
  have pe := pe_maxD C (p := p) (pos := pos) (kp := kp) hg pa pd oe
  refine ⟨_, pe, asg_ord C.nd rfl rfl pe, fun σ H env G ix S w S' Q r g e q => ?_, fun σ H env G ix S k S' Q r g e q => ?_⟩
  · simp only [ev] at e
    obtain ⟨x, e1, e⟩ := ok2 e
    obtain ⟨y, e2, e⟩ := ok2 e
    obtain ⟨z, e3, e⟩ := ok2 e
    cases e
    obtain ⟨xs, ns, v, k1, k2, k3, k4⟩ := maxdR_ok e3
    subst k4
    refine sem2 ma md r g e1 e2 fun v1 u G' ix' H' s' g' r1 r2 => ?_
    obtain ⟨a, vs, rfl, h1, r3⟩ := pk_lst g' r1 k1
    cases r3.ints k2
    refine ⟨a, ns, rfl, SqL.of h1, fun z => ?_, fun z => ?_⟩
    · subst z
      refine q.from s' |>.same g' ?_
      rw [k3] at r2
      exact r2
    · have : ns.isEmpty = false := by cases ns with
        | nil => exact absurd rfl z
        | cons _ _ => rfl
      rw [this] at q
      exact q.from s' |>.same g' (.int _)
  · simp only [ev] at e
    exact semX2 ma xa xd r g e (fun x y => nx_maxd _ _ _) q
end
end Nl

/-! repr of a list, a tuple. -/
namespace Nl
open PySem PySem.Spec PyProof.Rows L2 Builtin.Str
theorem toS_ap (a b : List Nat) : toS (a ++ b) = toS a ++ toS b := (toS_app a b).symm
theorem char_plain : ∀ c : Nat, 97 ≤ c → c < 123 → reprChar 39 c = [c] := by
  have h : ∀ c, c < 123 → 97 ≤ c → reprChar 39 c = [c] := by decide +kernel
  exact fun c h1 h2 => h c h2 h1
theorem fold_plain : ∀ (l : List Nat) (acc : Array Nat), (∀ c ∈ l, 97 ≤ c ∧ c < 123) → l.foldl (fun out c => out ++ (reprChar 39 c).toArray) acc = acc ++ l.toArray
  | [], acc, _ => by simp
  | c :: l, acc, h => by
    have hc := h c List.mem_cons_self
    rw [List.foldl_cons, char_plain c hc.1 hc.2, fold_plain l _ fun d hd => h d (List.mem_cons_of_mem _ hd)]
    simp
theorem text_plain (s : List Nat) (h : ∀ c ∈ s, 97 ≤ c ∧ c < 123) : reprText (toS s) = toS (39 :: (s ++ [39])) := by
  have q : reprQuote (toS s) = 39 := by
    unfold reprQuote
    have : (toS s).cps.contains 39 = false := by
      show s.toArray.contains 39 = false
      rw [List.contains_toArray]
      simp only [List.contains_eq_mem, decide_eq_false_iff_not]
      intro z
      have := h 39 z
      omega
    rw [this]
    rfl
  unfold reprText
  rw [q, ← Array.foldl_toList]
  show (⟨(s.toArray.toList.foldl _ #[39]).push 39⟩ : Str) = ⟨(39 :: (s ++ [39])).toArray⟩
  rw [List.toList_toArray, fold_plain s _ h]
  simp
theorem join_shJ : ∀ ts : List (List Nat), Str.join ", " (ts.map toS) = toS (shJ ts)
  | [] => rfl
  | [x] => rfl
  | x :: y :: r => by
    show toS x ++ ", " ++ Str.join ", " ((y :: r).map toS) = toS (x ++ ([44, 32] ++ shJ (y :: r)))
    rw [join_shJ (y :: r), toS_ap, toS_ap, Str.append_assoc]
    rfl
theorem text_from : ∀ (ts : List (List Nat)) (k : Nat) (acc : List Nat), textFrom (k + 1) (toS acc) (ts.map toS) = toS (acc ++ (ts.flatMap fun t => [44, 32] ++ t))
  | [], k, acc => by simp [textFrom]
  | t :: ts, k, acc => by
    have e : (toS acc ++ (if k + 1 > 0 then ", " else "" : String) ++ toS t) = toS (acc ++ ([44, 32] ++ t)) := by
      rw [toS_ap, toS_ap, if_pos (Nat.succ_pos k), Str.append_assoc]
      rfl
    show textFrom (k + 1 + 1) (toS acc ++ (if k + 1 > 0 then ", " else "" : String) ++ toS t) (ts.map toS) = _
    rw [e, text_from ts (k + 1)]
    simp [List.append_assoc]
theorem shJ_cons : ∀ (ts : List (List Nat)) (t : List Nat), shJ (t :: ts) = t ++ (ts.flatMap fun t => [44, 32] ++ t)
  | [], t => by simp [shJ]
  | u :: ts, t => by
    show t ++ ([44, 32] ++ shJ (u :: ts)) = _
    rw [shJ_cons ts u]
    simp
theorem list_text (ts : List (List Nat)) : listText (ts.map toS) = toS (91 :: (shJ ts ++ [93])) := by
  unfold listText
  cases ts with
  | nil => rfl
  | cons t ts =>
    have e : (("[" : Str) ++ (if 0 > 0 then ", " else "" : String) ++ toS t) = toS (91 :: t) := by
      show ((toS [91] ++ toS []) ++ toS t) = toS (91 :: t)
      rw [← toS_ap, ← toS_ap]
      rfl
    show textFrom (0 + 1) ("[" ++ (if 0 > 0 then ", " else "" : String) ++ toS t) (ts.map toS) ++ "]" = _
    rw [e, text_from ts 0]
    show toS _ ++ toS [93] = _
    rw [← toS_ap, shJ_cons]
    simp
theorem shDs_len : ∀ xs : List D, (shDs xs).length = xs.length
  | [] => rfl
  | x :: xs => by rw [shDs, List.length_cons, List.length_cons, shDs_len xs]
theorem tuple_text (ts : List (List Nat)) : tupleText (ts.map toS) = toS (40 :: (shJ ts ++ (if ts.length = 1 then [44, 41] else [41]))) := by
  unfold tupleText
  rw [join_shJ, List.length_map]
  by_cases h : ts.length = 1
  · rw [if_pos (by simp [h]), if_pos h]
    show toS [40] ++ toS _ ++ toS [44, 41] = _
    rw [← toS_ap, ← toS_ap]
    simp
  · rw [if_neg (by simp [h]), if_neg h]
    show toS [40] ++ toS _ ++ toS [41] = _
    rw [← toS_ap, ← toS_ap]
    simp
theorem figs_toS (i : Int) : ((toString i : String) : Str) = toS (figs i) := (figs_strR i).symm
mutual
theorem shown_py : ∀ (n : Nat) (d : D), shOk n d = true → (toPy d).shown = toS (shD d) ∧ (toPy d).showable = true
  | _, .non, _ => by
    simp only [toPy, PyData.shown, PyData.showable, shD, and_true]
    rfl
  | _, .bl b, _ => by
    cases b <;> simp only [toPy, PyData.shown, PyData.showable, shD, and_true, if_true] <;> rfl
  | _, .int i, h => by
    simp only [shOk, decide_eq_true_eq] at h
    simp only [toPy, PyData.shown, PyData.showable, shD, decide_eq_true_eq]
    exact ⟨figs_toS i, log2_ltR h⟩
  | _, .str s, h => by
    simp only [shOk, List.all_eq_true, Bool.and_eq_true, decide_eq_true_eq] at h
    simp only [toPy, PyData.shown, PyData.showable, shD, and_true]
    exact text_plain s h
  | 0, .tup _, h => by simp [shOk] at h
  | 0, .lst _, h => by simp [shOk] at h
  | n + 1, .tup xs, h => by
    simp only [shOk] at h
    obtain ⟨h1, h2⟩ := shown_pys n xs h
    simp only [toPy, PyData.shown, PyData.showable, shD]
    rw [h1, tuple_text, shDs_len]
    exact ⟨rfl, h2⟩
  | n + 1, .lst xs, h => by
    simp only [shOk] at h
    obtain ⟨h1, h2⟩ := shown_pys n xs h
    simp only [toPy, PyData.shown, PyData.showable, shD]
    rw [h1, list_text]
    exact ⟨rfl, h2⟩
  | _, .scr _, h => by simp [shOk] at h
  | _, .obj _, h => by simp [shOk] at h
  | _, .ex _, h => by simp [shOk] at h
theorem shown_pys : ∀ (n : Nat) (xs : List D), shOks n xs = true → PyData.shownAll (toPys xs) = (shDs xs).map toS ∧ PyData.showableAll (toPys xs) = true
  | n, [], _ => by
    simp only [toPys, PyData.shownAll, PyData.showableAll, shDs, List.map_nil, and_self]
  | n, x :: xs, h => by
    simp only [shOks, Bool.and_eq_true] at h
    obtain ⟨h1, h2⟩ := shown_py n x h.1
    obtain ⟨h3, h4⟩ := shown_pys n xs h.2
    simp only [toPys, PyData.shownAll, PyData.showableAll, shDs, List.map_cons, h1, h2, h3, h4, Bool.and_self, and_self]
end
mutual
theorem shOk_ok : ∀ (n : Nat) (d : D), shOk n d = true → okD n d = true
  | _, .non, _ => by simp only [okD]
  | _, .bl _, _ => by simp only [okD]
  | _, .int _, _ => by simp only [okD]
  | _, .str s, h => by
    simp only [shOk, List.all_eq_true, Bool.and_eq_true, decide_eq_true_eq] at h
    simp only [okD, List.all_eq_true, decide_eq_true_eq]
    intro c hc
    have := h c hc
    omega
  | 0, .tup _, h => by simp [shOk] at h
  | 0, .lst _, h => by simp [shOk] at h
  | n + 1, .tup xs, h => by
    simp only [shOk] at h
    simp only [okD]
    exact shOks_ok n xs h
  | n + 1, .lst xs, h => by
    simp only [shOk] at h
    simp only [okD]
    exact shOks_ok n xs h
  | _, .scr _, h => by simp [shOk] at h
  | _, .obj _, h => by simp [shOk] at h
  | _, .ex _, h => by simp [shOk] at h
theorem shOks_ok : ∀ (n : Nat) (xs : List D), shOks n xs = true → okDs n xs = true
  | n, [], _ => by simp only [okDs]
  | n, x :: xs, h => by
    simp only [shOks, Bool.and_eq_true] at h
    simp only [okDs, shOk_ok n x h.1, shOks_ok n xs h.2, Bool.and_self]
end
section
variable {nm : Nms} {gl : Nat → Option D} {cf : Cf} {X : Cx}
def rShw (K : PySem.W.Frag) : List V → Hp → VK → Prop := fun xs H Q => ∃ a n d, xs = [.ref a] ∧ shOk n d = true ∧ n ≤ 40 ∧ (shD d).length ≤ most ∧ Dp K H (.ref a) (toPy d) ∧ Q (.str (toS (shD d))) H
theorem cr_shw (C : Ctx nm gl cf X) : CallR X (.builtin "repr") (rShw X.K) := fun pins s σ H xs us Q I r h => by
  obtain ⟨a, n, d, rfl, h1, h2, h3, h4, q⟩ := h
  cases r with
  | cons ra rt =>
    cases rt
    rename_i v
    cases (show v = Value.ref a from ra)
    obtain ⟨as, rd⟩ := Dp.reads I _ _ _ h4 ra
    obtain ⟨k1, k2⟩ := shown_py n d h1
    obtain ⟨k3, k4⟩ := lay_py n d (shOk_ok n d h1)
    refine repr_of_reads' rd k2 (PyData.noDict_hsm (PyData.hasDict_of_canLay _ k3)) C.gd (by have := C.hu; omega) (fun _ _ e => e) (fun h' u tk hk => ?_) ?_
    · rw [k1]
      exact ⟨.str _, H, I.kept hk, ⟨_, rfl⟩, q⟩
    · rw [k1, toS_len]
      exact h3
theorem shwR_ok {d : D} {w : W} (h : shwR d = .ok w) : shOk 40 d = true ∧ (shD d).length ≤ most ∧ w = .d (.str (shD d)) ∧ ((∃ xs, d = .lst xs) ∨ ∃ xs, d = .tup xs) := by
  unfold shwR at h
  split at h
  · obtain ⟨c, h⟩ := guard_ok h
    cases h
    simp only [Bool.and_eq_true, decide_eq_true_eq] at c
    exact ⟨by rw [shOk]; exact c.1, c.2, rfl, .inl ⟨_, rfl⟩⟩
  · obtain ⟨c, h⟩ := guard_ok h
    cases h
    simp only [Bool.and_eq_true, decide_eq_true_eq] at c
    exact ⟨by rw [shOk]; exact c.1, c.2, rfl, .inr ⟨_, rfl⟩⟩
  · cases h
theorem nx_shw (d : D) (S : Store) : ((shwR d).bind fun w => Res.ok (w, S)).NX := by
  unfold shwR
  split
  · exact Res.NX.bind (nx_guard nx_ok) fun _ => nx_ok
  · exact Res.NX.bind (nx_guard nx_ok) fun _ => nx_ok
  · exact nx_err
theorem snd_shw (C : Ctx nm gl cf X) {p pos : Pos} {e : Expr} {ca : E} (hg : Gl X (Str.ofString "repr")) (oe : ord e = true) (ha : SndE gl cf X e ca) :
    SndE gl cf X (.Call (.Name (Str.ofString "repr") p) [e] [] pos) (.shw ca) := by
  obtain ⟨ta, pa, _, ma, xa⟩ := ha
  have pe : PE X (.Call (.Name (Str.ofString "repr") p) [e] [] pos) (tCB (rShw X.K) (tCons ta tNil)) := pe_callB (cr_shw C) hg (C.bi _ (by decide)) (by decide +kernel) (pa_cons pa pa_nil (ord_star oe [])) (by decide +kernel) (by decide +kernel) (ord_star oe []) rfl
  refine ⟨_, pe, asg_ord C.nd rfl rfl pe, fun σ H env G ix S w S' Q r g e q => ?_, fun σ H env G ix S k S' Q r g e q => ?_⟩
  · simp only [ev] at e
    obtain ⟨x, e1, e⟩ := ok2 e
    obtain ⟨z, e3, e⟩ := ok2 e
    cases e
    obtain ⟨k1, k2, k3, k4⟩ := shwR_ok e3
    subst k3
    refine ma.data r g (show ev gl cf ca env S = .ok (x.1, x.2) from e1) fun v G1 ix1 H1 s1 g1 rv => ?_
    have dp := pk_dp g1 rv (shOk_ok 40 _ k1)
    have hv : ∃ a, v = .ref a := by
      rcases k4 with ⟨xs, k4⟩ | ⟨xs, k4⟩
      · obtain ⟨a, vs, rfl, _⟩ := pk_lst g1 rv k4
        exact ⟨a, rfl⟩
      · obtain ⟨a, vs, rfl, _⟩ := pk_tup g1 rv k4
        exact ⟨a, rfl⟩
    obtain ⟨a, rfl⟩ := hv
    exact ⟨a, 40, _, rfl, k1, Nat.le_refl _, k2, dp, (q.from s1).same g1 (.str _)⟩
  · simp only [ev] at e
    exact semX1 xa r g e (fun x => nx_shw _ _) q
end
end Nl

/-! All expressions that are looked at. -/
namespace Nl
open PySem L2
section
variable {nm : Nms} {gl : Nat → Option D} {cf : Cf}
/-- what is shown of an expression -/
structure Al (gl : Nat → Option D) (cf : Cf) (X : Cx) (e : Expr) (c : E) : Prop where
  v : SndE gl cf X e c
  t : okT c e = true → SndT gl cf X e c
  w : tstE c = true → ∀ op vs p, e = .BoolOp op vs p → SndW gl cf X e c
theorem isB_ok {sc : Scope} {s : String} {x : Str} (h : isB sc s x = true) : x = Str.ofString s ∧ sc.names.lookup (Str.ofString s) = some .globalImplicit := by
  unfold isB at h
  simp only [Bool.and_eq_true, beq_iff_eq] at h
  obtain ⟨rfl, h2⟩ := h
  exact ⟨rfl, glb_ok h2⟩
theorem al_val {X : Cx} {e : Expr} {c : E} (v : SndE gl cf X e c) (he : ∀ whole, isTrue e X.env whole = (do let v ← whole; standAt e.pos; holding [v] (truthy v))) (hb : ∀ op vs p, e ≠ .BoolOp op vs p) : Al gl cf X e c := ⟨v, fun _ => snd_t_val v he, fun _ op vs p h => absurd h (hb op vs p)⟩
theorem al_of {X : Cx} {e : Expr} {c : E} (h : SndE gl cf X e c ∧ SndT gl cf X e c) (hb : ∀ op vs p, e ≠ .BoolOp op vs p) : Al gl cf X e c := ⟨h.1, fun _ => h.2, fun _ op vs p h => absurd h (hb op vs p)⟩
/-- one operand at the end of and, or -/
theorem one_and {X : Cx} {e : Expr} {c : E} {p : Pos} (v : SndE gl cf X e c) (t : SndT gl cf X e c) : (∃ t, PE X (.BoolOp .And [e] p) t ∧ SemE gl cf X.K c t ∧ SemX gl cf X c t) ∧ SndW gl cf X (.BoolOp .And [e] p) c := by
  obtain ⟨t1, p1, _, m1, x1⟩ := v
  obtain ⟨t2, p2, m2, x2⟩ := t
  exact ⟨⟨_, pe_one p1, m1, x1⟩, ⟨_, pw_and1 p2, m2, x2⟩⟩
theorem one_or {X : Cx} {e : Expr} {c : E} {p : Pos} (v : SndE gl cf X e c) (t : SndT gl cf X e c) : (∃ t, PE X (.BoolOp .Or [e] p) t ∧ SemE gl cf X.K c t ∧ SemX gl cf X c t) ∧ SndW gl cf X (.BoolOp .Or [e] p) c := by
  obtain ⟨t1, p1, _, m1, x1⟩ := v
  obtain ⟨t2, p2, m2, x2⟩ := t
  exact ⟨⟨_, pe_one p1, m1, x1⟩, ⟨_, pw_or1 p2, m2, x2⟩⟩
theorem SndW.t {X : Cx} {e : Expr} {c : E} (h : SndW gl cf X e c) : SndT gl cf X e c := by
  obtain ⟨t, p, m, x⟩ := h
  exact ⟨t, p.pt, m, x⟩
theorem SndE.ex {X : Cx} {e : Expr} {c : E} (h : SndE gl cf X e c) : ∃ t, PE X e t ∧ SemE gl cf X.K c t ∧ SemX gl cf X c t := by
  obtain ⟨t, p, _, m, x⟩ := h
  exact ⟨t, p, m, x⟩
theorem blk_loc {X : Cx} {scope : Scope} {s : Shared} {H : Hp} {C : Addr} {cl : List (Str × Addr)} {fp : List Addr} (x : Str) (h : loc scope x = true) : Loc (Blk X scope s H C cl fp).env.scope x ∧ ((Blk X scope s H C cl fp).fn x = true ∨ (Blk X scope s H C cl fp).env.scope.names.lookup x = some .local) := by
  rcases loc_ok h with k | k
  · have e : (relS scope X.env.scope).names.lookup x = some .local := lookup_relS_keep (by decide) k
    exact ⟨.inl e, .inr e⟩
  · have e : (relS scope X.env.scope).names.lookup x = some .cell := lookup_relS_keep (by decide) k
    refine ⟨.inr e, .inl ?_⟩
    show (scope.names.lookup x == some .cell) = true
    rw [k]
    rfl
theorem po_of {X : Cx} {l : Option Expr} {c : E} (ih : ∀ e, chk nm X.N c X.env.scope e = true → Al gl cf X e c) (h : (match l with
        | none => isNonE c
        | some y => !isNonE c && chk nm X.N c X.env.scope y) = true) : ∃ t, PO X l t ∧ SemO gl cf X.K c t ∧ SemXO gl cf X c t := by
  cases l with
  | none => exact snd_po (.inl ⟨rfl, isNon_eq h⟩)
  | some y =>
    simp only [Bool.and_eq_true, Bool.not_eq_true'] at h
    exact snd_po (.inr ⟨y, rfl, h.1, (ih y h.2).v⟩)
theorem ord_it {nm : Nms} {N : List Str} {k : Ik} {a b : E} {sc : Scope} {target iter : Expr} (h : (match k, iter with
        | .seq, it => chk nm N a sc it && isNonE b
        | .rng1, .Call (.Name x _) [y] [] _ => isB sc "range" x && (chk nm N a sc y && isNonE b)
        | .rng2, .Call (.Name x _) [y, z] [] _ => isB sc "range" x && (chk nm N a sc y && chk nm N b sc z)
        | .enm, .Call (.Name x _) [y] [] _ => isB sc "enumerate" x && (isTupX target && (chk nm N a sc y && isNonE b))
        | .zp, .Call (.Name x _) [y, z] [] _ => isB sc "zip" x && (isTupX target && (chk nm N a sc y && chk nm N b sc z))
        | .rev, .Call (.Name x _) [y] [] _ => isB sc "reversed" x && (chk nm N a sc y && isNonE b)
        | .rr1, .Call (.Name x _) [.Call (.Name y _) [z] [] _] [] _ => isB sc "reversed" x && (isB sc "range" y && (chk nm N a sc z && isNonE b))
        | .rr2, .Call (.Name x _) [.Call (.Name y _) [z, u] [] _] [] _ => isB sc "reversed" x && (isB sc "range" y && (chk nm N a sc z && chk nm N b sc u))
        | _, _ => false) = true) : ord iter = true := by
  split at h <;> first | rfl | skip
  · simp only [Bool.and_eq_true] at h
    exact chk_ord _ _ _ h.1
  · cases h
theorem snd_it {X : Cx} (C : Ctx nm gl cf X) {k : Ik} {a b : E} {target iter : Expr} (iha : ∀ e, chk nm X.N a X.env.scope e = true → Al gl cf X e a) (ihb : ∀ e, chk nm X.N b X.env.scope e = true → Al gl cf X e b) (h : (match k, iter with
        | .seq, it => chk nm X.N a X.env.scope it && isNonE b
        | .rng1, .Call (.Name x _) [y] [] _ => isB X.env.scope "range" x && (chk nm X.N a X.env.scope y && isNonE b)
        | .rng2, .Call (.Name x _) [y, z] [] _ => isB X.env.scope "range" x && (chk nm X.N a X.env.scope y && chk nm X.N b X.env.scope z)
        | .enm, .Call (.Name x _) [y] [] _ => isB X.env.scope "enumerate" x && (isTupX target && (chk nm X.N a X.env.scope y && isNonE b))
        | .zp, .Call (.Name x _) [y, z] [] _ => isB X.env.scope "zip" x && (isTupX target && (chk nm X.N a X.env.scope y && chk nm X.N b X.env.scope z))
        | .rev, .Call (.Name x _) [y] [] _ => isB X.env.scope "reversed" x && (chk nm X.N a X.env.scope y && isNonE b)
        | .rr1, .Call (.Name x _) [.Call (.Name y _) [z] [] _] [] _ => isB X.env.scope "reversed" x && (isB X.env.scope "range" y && (chk nm X.N a X.env.scope z && isNonE b))
        | .rr2, .Call (.Name x _) [.Call (.Name y _) [z, u] [] _] [] _ => isB X.env.scope "reversed" x && (isB X.env.scope "range" y && (chk nm X.N a X.env.scope z && chk nm X.N b X.env.scope u))
        | _, _ => false) = true) : SndI gl cf X target iter k a b := by
  split at h
  · simp only [Bool.and_eq_true] at h
    exact snd_seq (iha _ h.1).v h.2
  · simp only [Bool.and_eq_true] at h
    obtain ⟨rfl, h1⟩ := isB_ok h.1
    exact snd_rng1 C h1 (chk_ord _ _ _ h.2.1) (iha _ h.2.1).v h.2.2
  · simp only [Bool.and_eq_true] at h
    obtain ⟨rfl, h1⟩ := isB_ok h.1
    exact snd_rng2 C h1 (chk_ord _ _ _ h.2.1) (chk_ord _ _ _ h.2.2) (iha _ h.2.1).v (ihb _ h.2.2).v
  · simp only [Bool.and_eq_true] at h
    obtain ⟨rfl, h1⟩ := isB_ok h.1
    exact snd_enm C h1 h.2.1 (chk_ord _ _ _ h.2.2.1) (iha _ h.2.2.1).v h.2.2.2
  · simp only [Bool.and_eq_true] at h
    obtain ⟨rfl, h1⟩ := isB_ok h.1
    exact snd_zp C h1 h.2.1 (chk_ord _ _ _ h.2.2.1) (chk_ord _ _ _ h.2.2.2) (iha _ h.2.2.1).v (ihb _ h.2.2.2).v
  · simp only [Bool.and_eq_true] at h
    obtain ⟨rfl, h1⟩ := isB_ok h.1
    exact snd_rev C h1 (chk_ord _ _ _ h.2.1) (iha _ h.2.1).v h.2.2
  · simp only [Bool.and_eq_true] at h
    obtain ⟨rfl, h1⟩ := isB_ok h.1
    obtain ⟨rfl, h2⟩ := isB_ok h.2.1
    exact snd_rr1 C h1 h2 (chk_ord _ _ _ h.2.2.1) (iha _ h.2.2.1).v h.2.2.2
  · simp only [Bool.and_eq_true] at h
    obtain ⟨rfl, h1⟩ := isB_ok h.1
    obtain ⟨rfl, h2⟩ := isB_ok h.2.1
    exact snd_rr2 C h1 h2 (chk_ord _ _ _ h.2.2.1) (chk_ord _ _ _ h.2.2.2) (iha _ h.2.2.1).v (ihb _ h.2.2.2).v
  · cases h
theorem call_args {N : List Str} {sc : Scope} {pos : Pos} {env : PySem.Env} {cs : Es} {args : List Expr} (h : chks nm N cs sc args = true) : (args = [] ∧ cs = .nil) ∨ ∃ e es, args = e :: es ∧ ord e = true ∧ (backTo pos (starEach es env)).any (·.1) = false := by
  cases args with
  | nil =>
    cases cs with
    | nil => exact .inl ⟨rfl, rfl⟩
    | cons c cs => simp [chks] at h
  | cons e es =>
    cases cs with
    | nil => simp [chks] at h
    | cons c cs =>
      simp only [chks, Bool.and_eq_true] at h
      exact .inr ⟨e, es, rfl, chk_ord _ _ _ h.1, chks_star cs es h.2 pos⟩
mutual
theorem all_E : ∀ (c : E) (X : Cx) (e : Expr), Ctx nm gl cf X → chk nm X.N c X.env.scope e = true → Al gl cf X e c
  | .var i, X, e, C, h => by
    unfold chk at h
    split at h
    · simp only [Bool.and_eq_true, decide_eq_true_eq] at h
      exact al_val (snd_var C h.1 (vis_ok h.2.1) h.2.2) (fun _ => rfl) (fun _ _ _ z => by cases z)
    · cases h
  | .non, X, e, C, h => by
    unfold chk at h
    split at h
    · exact al_val (snd_const C pe_non (fun _ _ => .non) (fun _ _ => rfl)) (fun _ => rfl) (fun _ _ _ z => by cases z)
    · cases h
  | .bl b, X, e, C, h => by
    unfold chk at h
    split at h
    · cases beq_iff_eq.mp h
      exact al_val (snd_const C pe_bl (fun _ _ => .bl _) (fun _ _ => rfl)) (fun _ => rfl) (fun _ _ _ z => by cases z)
    · cases h
  | .int i, X, e, C, h => by
    unfold chk at h
    split at h
    · cases of_decide_eq_true h
      exact al_val (snd_const C pe_int (fun _ _ => .int _) (fun _ _ => rfl)) (fun _ => rfl) (fun _ _ _ z => by cases z)
    · cases h
  | .str s, X, e, C, h => by
    unfold chk at h
    split at h
    · cases of_decide_eq_true h
      exact al_val (snd_const C pe_str (fun _ _ => .str s) (fun _ _ => rfl)) (fun _ => rfl) (fun _ _ _ z => by cases z)
    · cases h
  | .glob g, X, e, C, h => by
    unfold chk at h
    split at h
    · simp only [Bool.and_eq_true, decide_eq_true_eq] at h
      exact al_val (snd_glob C h.1 (glb_ok h.2.1) h.2.2) (fun _ => rfl) (fun _ _ _ z => by cases z)
    · cases h
  | .bin o a b, X, e, C, h => by
    unfold chk at h
    split at h
    · simp only [Bool.and_eq_true, decide_eq_true_eq] at h
      obtain ⟨rfl, h1, h2⟩ := h
      exact al_val (snd_bin C (all_E a X _ C h1).v (all_E b X _ C h2).v) (fun _ => rfl) (fun _ _ _ z => by cases z)
    · cases h
  | .neg a, X, e, C, h => by
    unfold chk at h
    split at h
    · exact al_val (snd_neg C (all_E a X _ C h).v) (fun _ => rfl) (fun _ _ _ z => by cases z)
    · cases h
  | .cmp o a b, X, e, C, h => by
    unfold chk at h
    split at h
    · simp only [Bool.and_eq_true, decide_eq_true_eq] at h
      obtain ⟨rfl, h1, h2⟩ := h
      exact al_of (snd_cmp C (chk_ord _ _ _ h2) (all_E a X _ C h1).v (all_E b X _ C h2).v) (fun _ _ _ z => by cases z)
    · cases h
  | .chain o o' a b c, X, e, C, h => by
    unfold chk at h
    split at h
    · simp only [Bool.and_eq_true, decide_eq_true_eq] at h
      obtain ⟨rfl, rfl, h1, h2, h3⟩ := h
      exact al_of (snd_chain C (chk_ord _ _ _ h2) (chk_ord _ _ _ h3) (all_E a X _ C h1).v (all_E b X _ C h2).v (all_E c X _ C h3).v) (fun _ _ _ z => by cases z)
    · cases h
  | .isN a, X, e, C, h => by
    unfold chk at h
    split at h
    · exact al_of (snd_isN C (all_E a X _ C h).v) (fun _ _ _ z => by cases z)
    · cases h
  | .notN a, X, e, C, h => by
    unfold chk at h
    split at h
    · exact al_of (snd_notN C (all_E a X _ C h).v) (fun _ _ _ z => by cases z)
    · cases h
  | .and a b, X, e, C, h => by
    unfold chk at h
    split at h
    · simp only [Bool.and_eq_true] at h
      obtain ⟨h0, h1, h2, h3⟩ := h
      have A := all_E a X _ C h2
      have B := all_E b X _ C h3
      obtain ⟨k1, k2⟩ := one_and B.v (B.t h1)
      obtain ⟨q1, q2⟩ := snd_and C A.v (A.t h0) k1 k2
      exact ⟨q1, fun _ => q2.t, fun _ _ _ _ _ => q2⟩
    · simp only [Bool.and_eq_true] at h
      obtain ⟨⟨h0, h1⟩, h2, h3⟩ := h
      have A := all_E a X _ C h2
      have B := all_E b X _ C h3
      obtain ⟨q1, q2⟩ := snd_and C A.v (A.t h0) B.v.ex (B.w h1 _ _ _ rfl)
      exact ⟨q1, fun _ => q2.t, fun _ _ _ _ _ => q2⟩
    · cases h
  | .or a b, X, e, C, h => by
    unfold chk at h
    split at h
    · simp only [Bool.and_eq_true] at h
      obtain ⟨h0, h1, h2, h3⟩ := h
      have A := all_E a X _ C h2
      have B := all_E b X _ C h3
      obtain ⟨k1, k2⟩ := one_or B.v (B.t h1)
      obtain ⟨q1, q2⟩ := snd_or C A.v (A.t h0) k1 k2
      exact ⟨q1, fun _ => q2.t, fun _ _ _ _ _ => q2⟩
    · simp only [Bool.and_eq_true] at h
      obtain ⟨⟨h0, h1⟩, h2, h3⟩ := h
      have A := all_E a X _ C h2
      have B := all_E b X _ C h3
      obtain ⟨q1, q2⟩ := snd_or C A.v (A.t h0) B.v.ex (B.w h1 _ _ _ rfl)
      exact ⟨q1, fun _ => q2.t, fun _ _ _ _ _ => q2⟩
    · cases h
  | .not a, X, e, C, h => by
    unfold chk at h
    split at h
    · simp only [Bool.and_eq_true] at h
      have A := all_E a X _ C h.2
      exact al_of (snd_not C A.v (A.t h.1)) (fun _ _ _ z => by cases z)
    · cases h
  | .ife c a b, X, e, C, h => by
    unfold chk at h
    split at h
    · simp only [Bool.and_eq_true] at h
      obtain ⟨h0, h1, h2, h3⟩ := h
      exact ⟨snd_ife C ((all_E c X _ C h1).t h0) (all_E a X _ C h2).v (all_E b X _ C h3).v, fun z => absurd (okT_ok z).1 (by simp [isIfX]), fun _ _ _ _ z => (by cases z)⟩
    · cases h
  | .tup es, X, e, C, h => by
    unfold chk at h
    split at h
    · exact al_val (snd_tup C (all_Es es X _ C h)) (fun _ => rfl) (fun _ _ _ z => by cases z)
    · cases h
  | .lst es, X, e, C, h => by
    unfold chk at h
    split at h
    · exact al_val (snd_lst C (all_Es es X _ C h)) (fun _ => rfl) (fun _ _ _ z => by cases z)
    · cases h
  | .ix a b, X, e, C, h => by
    unfold chk at h
    split at h
    · simp only [Bool.and_eq_true] at h
      exact al_val (snd_ix C (chk_ord _ _ _ h.2) (all_E a X _ C h.1).v (all_E b X _ C h.2).v) (fun _ => rfl) (fun _ _ _ z => by cases z)
    · cases h
  | .sl a lo hi, X, e, C, h => by
    unfold chk at h
    split at h
    · rw [Bool.and_eq_true, Bool.and_eq_true] at h
      obtain ⟨h1, h2, h3⟩ := h
      exact al_val (snd_sl C (all_E a X _ C h1).v (po_of (fun e he => all_E lo X e C he) h2) (po_of (fun e he => all_E hi X e C he) h3)) (fun _ => rfl) (fun _ _ _ z => by cases z)
    · cases h
  | .call f es, X, e, C, h => by
    unfold chk at h
    split at h
    · simp only [Bool.and_eq_true, decide_eq_true_eq] at h
      obtain ⟨h1, h2, h3, h4⟩ := h
      refine al_val (snd_call C h1 (glb_ok h2) h3 (all_Es es X _ C h4) (call_args h4)) (fun _ => rfl) (fun _ _ _ z => by cases z)
    · cases h
  | .bi b es, X, e, C, h => by
    unfold chk at h
    split at h
    · split at h
      · rw [Bool.and_eq_true] at h
        obtain ⟨h0, h⟩ := h
        obtain ⟨rfl, h1⟩ := isB_ok h0
        split at h
        · rename_i y _ c cs _ 
          simp only [Bool.and_eq_true, List.isEmpty_iff] at h
          obtain ⟨h2, rfl, h3⟩ := h
          obtain ⟨rfl, h4⟩ := isB_ok h2
          rcases call_args (pos := ⟨0, 0, 0, 0⟩) (env := X.env) h3 with ⟨z, _⟩ | ⟨e', es', z, o1, o2⟩
          · cases z
          · cases z
            exact al_val (snd_sset C h1 h4 o1 (all_Es es X _ C h3)) (fun _ => rfl) (fun _ _ _ z => by cases z)
        · cases h
      · rename_i hb
        simp only [Bool.and_eq_true] at h
        obtain ⟨rfl, h1⟩ := isB_ok h.1
        rcases call_args (pos := _) (env := X.env) h.2 with ⟨z, _⟩ | ⟨e', es', z, o1, o2⟩
        · cases z
        · cases z
          exact al_val (snd_bi C (fun z => hb z) h1 o1 o2 (all_Es es X _ C h.2)) (fun _ => rfl) (fun _ _ _ z => by cases z)
    · cases h
  | .isB neg b a, X, e, C, h => by
    unfold chk at h
    split at h
    · simp only [Bool.and_eq_true, decide_eq_true_eq, beq_iff_eq] at h
      obtain ⟨rfl, rfl, h3⟩ := h
      exact al_of (snd_isB C (all_E a X _ C h3).v) (fun _ _ _ z => by cases z)
    · cases h
  | .orv a b, X, e, C, h => by
    unfold chk at h
    split at h
    · simp only [Bool.and_eq_true] at h
      exact ⟨snd_orv C (all_E a X _ C h.1).v (all_E b X _ C h.2).v, fun z => absurd (okT_ok z).2 (by simp [tstE]), fun z => absurd z (by simp [tstE])⟩
    · cases h
  | .dnew t, X, e, C, h => by
    unfold chk at h
    split at h
    · exact al_val (snd_dnew C) (fun _ => rfl) (fun _ _ _ z => by cases z)
    · cases h
  | .din neg k d, X, e, C, h => by
    unfold chk at h
    split at h
    · simp only [Bool.and_eq_true, decide_eq_true_eq] at h
      obtain ⟨rfl, h1, h2⟩ := h
      exact al_of (snd_din C (chk_ord _ _ _ h2) (all_E k X _ C h1).v (all_E d X _ C h2).v) (fun _ _ _ z => by cases z)
    · cases h
  | .dget d k, X, e, C, h => by
    unfold chk at h
    split at h
    · simp only [Bool.and_eq_true] at h
      exact al_val (snd_dget C (chk_ord _ _ _ h.2) (all_E d X _ C h.1).v (all_E k X _ C h.2).v) (fun _ => rfl) (fun _ _ _ z => by cases z)
    · cases h
  | .dgetD d k z, X, e, C, h => by
    unfold chk at h
    split at h
    · simp only [Bool.and_eq_true, decide_eq_true_eq] at h
      obtain ⟨rfl, ⟨h1, h2⟩, h3, h4, h5⟩ := h
      exact al_val (snd_dgetD C h1 h2 (chk_ord _ _ _ h4) (chk_ord _ _ _ h5) (all_E d X _ C h3).v (all_E k X _ C h4).v (all_E z X _ C h5).v) (fun _ => rfl) (fun _ _ _ z => by cases z)
    · cases h
  | .dlen d, X, e, C, h => by
    unfold chk at h
    split at h
    · simp only [Bool.and_eq_true] at h
      obtain ⟨rfl, h1⟩ := isB_ok h.1
      exact al_val (snd_dlen C h1 (chk_ord _ _ _ h.2) (all_E d X _ C h.2).v) (fun _ => rfl) (fun _ _ _ z => by cases z)
    · cases h
  | .dlist d, X, e, C, h => by
    unfold chk at h
    split at h
    · simp only [Bool.and_eq_true] at h
      obtain ⟨rfl, h1⟩ := isB_ok h.1
      exact al_val (snd_dlist C h1 (chk_ord _ _ _ h.2) (all_E d X _ C h.2).v) (fun _ => rfl) (fun _ _ _ z => by cases z)
    · cases h
  | .fld c a f, X, e, C, h => by
    unfold chk at h
    split at h
    · simp only [Bool.and_eq_true, decide_eq_true_eq, List.contains_iff_mem] at h
      obtain ⟨⟨h0, rfl⟩, h1, h2, h3⟩ := h
      exact al_val (snd_fld C h0 h1 h2 (all_E a X _ C h3).v) (fun _ => rfl) (fun _ _ _ z => by cases z)
    · cases h
  | .meth f c a es, X, e, C, h => by
    unfold chk at h
    split at h
    · simp only [Bool.and_eq_true, decide_eq_true_eq, List.contains_iff_mem, Bool.not_eq_true'] at h
      obtain ⟨⟨h0, h1⟩, h2, ⟨h3, h4⟩, h5, h6, h7⟩ := h
      refine al_val (snd_meth C h0 h1 h2 h3 h4 h5 (all_E a X _ C h6).v (all_Es es X _ C h7) ?_) (fun _ => rfl) (fun _ _ _ z => by cases z)
      rcases call_args (pos := _) (env := X.env) h7 with z | ⟨e', es', z, o1, o2⟩
      · exact .inl z
      · exact .inr ⟨e', es', z, o1, o2, chks_few es _ h7 _⟩
    · cases h
  | .make f c es, X, e, C, h => by
    unfold chk at h
    split at h
    · simp only [Bool.and_eq_true, decide_eq_true_eq] at h
      obtain ⟨rfl, h1, h2, h3, h4⟩ := h
      exact al_val (snd_make C h1 (glb_ok h2) h3 (all_Es es X _ C h4) (call_args h4)) (fun _ => rfl) (fun _ _ _ z => by cases z)
    · cases h
  | .isx al a ks, X, e, C, h => by
    unfold chk at h
    split at h
    · rename_i x _ y z _
      simp only [Bool.and_eq_true] at h
      obtain ⟨⟨h1, h2⟩, h3, h4⟩ := h
      obtain ⟨rfl, h5⟩ := isB_ok h1
      have hal : ∀ j ∈ al, j ∈ nm.xr := fun j hj => by simpa using List.all_eq_true.mp h2 j hj
      split at h4
      · rw [Bool.and_eq_true, decide_eq_true_eq] at h4
        exact al_val (snd_isxT C h5 hal h4.2 (chk_ord _ _ _ h3) (all_E a X _ C h3).v h4.1) (fun _ => rfl) (fun _ _ _ z => by cases z)
      · split at h4
        · exact al_val (snd_isx1 C h5 hal h4 (chk_ord _ _ _ h3) (all_E a X _ C h3).v) (fun _ => rfl) (fun _ _ _ z => by cases z)
        · cases h4
    · cases h
  | .strI a, X, e, C, h => by
    unfold chk at h
    split at h
    · simp only [Bool.and_eq_true] at h
      obtain ⟨rfl, h1⟩ := isB_ok h.1
      exact al_val (snd_strI C h1 (chk_ord _ _ _ h.2) (all_E a X _ C h.2).v) (fun _ => rfl) (fun _ _ _ z => by cases z)
    · cases h
  | .maxd a d, X, e, C, h => by
    unfold chk at h
    split at h
    · simp only [Bool.and_eq_true, decide_eq_true_eq] at h
      obtain ⟨h1, rfl, h3, h4⟩ := h
      obtain ⟨rfl, h5⟩ := isB_ok h1
      exact al_val (snd_maxd C h5 (chk_ord _ _ _ h3) (all_E a X _ C h3).v (all_E d X _ C h4).v) (fun _ => rfl) (fun _ _ _ z => by cases z)
    · cases h
  | .shw a, X, e, C, h => by
    unfold chk at h
    split at h
    · simp only [Bool.and_eq_true] at h
      obtain ⟨rfl, h1⟩ := isB_ok h.1
      exact al_val (snd_shw C h1 (chk_ord _ _ _ h.2) (all_E a X _ C h.2).v) (fun _ => rfl) (fun _ _ _ z => by cases z)
    · cases h
  | .revc q a, X, e, C, h => by
    unfold chk at h
    split at h
    · simp only [Bool.and_eq_true, decide_eq_true_eq] at h
      obtain ⟨rfl, rfl, h3⟩ := h
      exact al_val (snd_revc C (all_E a X _ C h3).v) (fun _ => rfl) (fun _ _ _ z => by cases z)
    · cases h
  | .nnew, X, e, C, h => by
    unfold chk at h
    split at h
    · exact al_val (snd_nnew C) (fun _ => rfl) (fun _ _ _ z => by cases z)
    · cases h
  | .ngetD d k z, X, e, C, h => by
    unfold chk at h
    split at h
    · simp only [Bool.and_eq_true, decide_eq_true_eq] at h
      obtain ⟨rfl, ⟨h1, h2⟩, h3, h4, h5⟩ := h
      exact al_val (snd_ngetD C h1 h2 (chk_ord _ _ _ h4) (chk_ord _ _ _ h5) (all_E d X _ C h3).v (all_E k X _ C h4).v (all_E z X _ C h5).v) (fun _ => rfl) (fun _ _ _ z => by cases z)
    · cases h
  | .ddis ks es, X, e, C, h => by
    unfold chk at h
    split at h
    · simp only [Bool.and_eq_true, decide_eq_true_eq, Bool.not_eq_true', List.isEmpty_eq_false_iff] at h
      obtain ⟨h1, h2, h3, h4, h5, h6⟩ := h
      exact al_val (snd_ddis C (all_Ps es X _ _ _ _ C h1 h6 h5) h1 h2 h3 h4 h5) (fun _ => rfl) (fun _ _ _ z => by cases z)
    · cases h
  | .dkl d, X, e, C, h => by
    unfold chk at h
    split at h
    · simp only [Bool.and_eq_true, decide_eq_true_eq] at h
      obtain ⟨h0, rfl, ⟨h1, h2⟩, h3⟩ := h
      obtain ⟨rfl, h4⟩ := isB_ok h0
      exact al_val (snd_dkl C h4 h1 h2 (all_E d X _ C h3).v) (fun _ => rfl) (fun _ _ _ z => by cases z)
    · cases h
  | .ssp a, X, e, C, h => by
    unfold chk at h
    split at h
    · simp only [Bool.and_eq_true] at h
      obtain ⟨h1, h2, h3⟩ := h
      obtain ⟨rfl, h4⟩ := isB_ok h1
      obtain ⟨rfl, h5⟩ := isB_ok h2
      exact al_val (snd_ssp C h4 h5 (by have := C.hu; omega) (chk_ord _ _ _ h3) (all_E a X _ C h3).v) (fun _ => rfl) (fun _ _ _ z => by cases z)
    · cases h
  | .rev1 a, X, e, C, h => by
    unfold chk at h
    split at h
    · simp only [Bool.and_eq_true, decide_eq_true_eq] at h
      obtain ⟨rfl, h3⟩ := h
      exact al_val (snd_rev1 C (all_E a X _ C h3).v) (fun _ => rfl) (fun _ _ _ z => by cases z)
    · cases h
  | .lrng k a b, X, e, C, h => by
    unfold chk at h
    split at h
    · simp only [Bool.and_eq_true] at h
      obtain ⟨h1, h2, h3⟩ := h
      obtain ⟨rfl, h4⟩ := isB_ok h1
      obtain ⟨rfl, h5⟩ := isB_ok h2
      split at h3
      · rw [Bool.and_eq_true] at h3
        exact al_val (snd_lrng1 C h4 h5 (chk_ord _ _ _ h3.1) (all_E a X _ C h3.1).v h3.2) (fun _ => rfl) (fun _ _ _ z => by cases z)
      · rw [Bool.and_eq_true] at h3
        exact al_val (snd_lrng2 C h4 h5 (chk_ord _ _ _ h3.1) (chk_ord _ _ _ h3.2) (all_E a X _ C h3.1).v (all_E b X _ C h3.2).v) (fun _ => rfl) (fun _ _ _ z => by cases z)
      · cases h3
    · cases h
  | .trng k a b, X, e, C, h => by
    unfold chk at h
    split at h
    · simp only [Bool.and_eq_true] at h
      obtain ⟨h1, h2, h3⟩ := h
      obtain ⟨rfl, h4⟩ := isB_ok h1
      obtain ⟨rfl, h5⟩ := isB_ok h2
      split at h3
      · rw [Bool.and_eq_true] at h3
        exact al_val (snd_trng1 C h4 h5 (chk_ord _ _ _ h3.1) (all_E a X _ C h3.1).v h3.2) (fun _ => rfl) (fun _ _ _ z => by cases z)
      · rw [Bool.and_eq_true] at h3
        exact al_val (snd_trng2 C h4 h5 (chk_ord _ _ _ h3.1) (chk_ord _ _ _ h3.2) (all_E a X _ C h3.1).v (all_E b X _ C h3.2).v) (fun _ => rfl) (fun _ _ _ z => by cases z)
      · cases h3
    · cases h
  | .lsn a, X, e, C, h => by
    unfold chk at h
    split at h
    · simp only [Bool.and_eq_true] at h
      obtain ⟨h1, h2, h3⟩ := h
      obtain ⟨rfl, h4⟩ := isB_ok h1
      obtain ⟨rfl, h5⟩ := isB_ok h2
      exact al_val (snd_lsn C h4 h5 (chk_ord _ _ _ h3) (all_E a X _ C h3).v) (fun _ => rfl) (fun _ _ _ z => by cases z)
    · cases h
  | .lidx a b, X, e, C, h => by
    unfold chk at h
    split at h
    · simp only [Bool.and_eq_true, decide_eq_true_eq] at h
      obtain ⟨rfl, ⟨h1, h2⟩, h3, h4⟩ := h
      exact al_val (snd_lidx C h1 h2 (chk_ord _ _ _ h4) (all_E a X _ C h3).v (all_E b X _ C h4).v) (fun _ => rfl) (fun _ _ _ z => by cases z)
    · cases h
  | .isi a t, X, e, C, h => by
    unfold chk at h
    split at h
    · rename_i x _ y z _
      simp only [Bool.and_eq_true] at h
      obtain ⟨h1, h2, h3⟩ := h
      obtain ⟨rfl, h4⟩ := isB_ok h1
      cases z with
      | Name z p =>
        obtain ⟨rfl, h5⟩ := isB_ok (show isB X.env.scope (tyName t) z = true from h3)
        exact al_val (snd_isi C h4 h5 (chk_ord _ _ _ h2) (all_E a X _ C h2).v) (fun _ => rfl) (fun _ _ _ z => by cases z)
      | _ => cases h3
    · cases h
  | .isis a ts, X, e, C, h => by
    unfold chk at h
    split at h
    · rename_i x _ y z u _ _ _
      simp only [Bool.and_eq_true] at h
      obtain ⟨h1, h2, h3⟩ := h
      obtain ⟨rfl, h4⟩ := isB_ok h1
      split at h3
      · rename_i t t'
        simp only [Bool.and_eq_true] at h3
        obtain ⟨h5, h6⟩ := h3
        cases z with
        | Name z p =>
          cases u with
          | Name u p' =>
            obtain ⟨rfl, h7⟩ := isB_ok (show isB X.env.scope (tyName t) z = true from h5)
            obtain ⟨rfl, h8⟩ := isB_ok (show isB X.env.scope (tyName t') u = true from h6)
            exact al_val (snd_isis C h4 h7 h8 (chk_ord _ _ _ h2) (all_E a X _ C h2).v) (fun _ => rfl) (fun _ _ _ z => by cases z)
          | _ => cases h6
        | _ => cases h5
      · cases h3
    · cases h
  | .me m a es, X, e, C, h => by
    unfold chk at h
    split at h
    · simp only [Bool.and_eq_true, decide_eq_true_eq] at h
      obtain ⟨rfl, ⟨h1, h2⟩, h3, h4, h5⟩ := h
      refine al_val (snd_me C h1 h2 h3 (all_E a X _ C h4).v (all_Es es X _ C h5) ?_) (fun _ => rfl) (fun _ _ _ z => by cases z)
      rcases call_args (pos := _) (env := X.env) h5 with z | ⟨e', es', z, o1, o2⟩
      · exact .inl z
      · exact .inr ⟨e', es', z, o1, o2, chks_few es _ h5 _⟩
    · cases h
  | .lc el tg k a b own, X, e, C, h => by
    unfold chk at h
    split at h
    · rw [Bool.and_eq_true, Bool.and_eq_true, Bool.and_eq_true, Bool.and_eq_true] at h
      obtain ⟨h1, ⟨h2, h3⟩, h4, h5⟩ := h
      refine al_val (snd_lc C h1 (fun i hi => by simpa using List.all_eq_true.mp h2 i hi) (ord_it h4) (snd_it C (fun e he => all_E a X e C he) (fun e he => all_E b X e C he) h4)
        (fun s H D cl fp => snd_tg (nm := nm) (gl := gl) (cf := cf) (X := Blk X _ s H D cl fp) (C.blk s H _ _ fp) (fun x hx => blk_loc x hx) h3) (fun s H D cl fp => (all_E el (Blk X _ s H D cl fp) _ (C.blk s H _ _ fp) h5).v)) (fun _ => rfl) (fun _ _ _ z => by cases z)
    · cases h
  | .lcIf el tg k a b c own, X, e, C, h => by
    unfold chk at h
    split at h
    · rw [Bool.and_eq_true, Bool.and_eq_true, Bool.and_eq_true, Bool.and_eq_true, Bool.and_eq_true, Bool.and_eq_true] at h
      obtain ⟨h1, ⟨h2, h3⟩, h4, ⟨h6, h7⟩, h5⟩ := h
      refine al_val (snd_lcIf C h1 (fun i hi => by simpa using List.all_eq_true.mp h2 i hi) (ord_it h4) (snd_it C (fun e he => all_E a X e C he) (fun e he => all_E b X e C he) h4)
        (fun s H D cl fp => snd_tg (nm := nm) (gl := gl) (cf := cf) (X := Blk X _ s H D cl fp) (C.blk s H _ _ fp) (fun x hx => blk_loc x hx) h3) (fun s H D cl fp => (all_E c (Blk X _ s H D cl fp) _ (C.blk s H _ _ fp) h7).t h6) (fun s H D cl fp => (all_E el (Blk X _ s H D cl fp) _ (C.blk s H _ _ fp) h5).v)) (fun _ => rfl) (fun _ _ _ z => by cases z)
    · cases h
  | .box a, X, e, C, h => by
    have A := all_E a X e C (by simpa [chk] using h)
    exact ⟨snd_box A.v, fun z => absurd (okT_ok z).2 (by simp [tstE]), fun z => absurd z (by simp [tstE])⟩
  | .unbox a, X, e, C, h => by
    have A := all_E a X e C (by simpa [chk] using h)
    exact ⟨snd_unbox A.v, fun z => absurd (okT_ok z).2 (by simp [tstE]), fun z => absurd z (by simp [tstE])⟩
theorem all_Ps : ∀ (c : Es) (X : Cx) (pos : Pos) (ks : List (List Nat)) (keys : List (Option Expr)) (values : List Expr), Ctx nm gl cf X → chkK ks keys = true → chks nm X.N c X.env.scope values = true → keys.length = values.length → SndP gl cf X pos ks keys values c
  | .nil, X, pos, [], [], [], C, _, _, _ => snd_pnil
  | .cons c cs, X, pos, k :: ks, key :: keys, v :: values, C, h1, h2, h3 => by
    simp only [chks, Bool.and_eq_true] at h2
    simp only [chkK, Bool.and_eq_true] at h1
    exact snd_pcons h1.1 (all_E c X v C h2.1).v (all_Ps cs X pos ks keys values C h1.2 h2.2 (by simpa using h3))
  | .nil, _, _, _, _, _ :: _, _, _, h, _ => by simp [chks] at h
  | .nil, _, _, _ :: _, [], [], _, h, _, _ => by simp [chkK] at h
  | .nil, _, _, _, _ :: _, [], _, _, _, h => by simp at h
  | .cons _ _, _, _, _, _, [], _, _, h, _ => by simp [chks] at h
  | .cons _ _, _, _, _, [], _ :: _, _, _, _, h => by simp at h
  | .cons _ _, _, _, [], _ :: _, _ :: _, _, h, _, _ => by simp [chkK] at h
theorem all_Es : ∀ (c : Es) (X : Cx) (es : List Expr), Ctx nm gl cf X → chks nm X.N c X.env.scope es = true → SndA gl cf X es c
  | .nil, X, [], C, h => snd_nil
  | .nil, X, _ :: _, C, h => by simp [chks] at h
  | .cons c cs, X, [], C, h => by simp [chks] at h
  | .cons c cs, X, e :: es, C, h => by
    simp only [chks, Bool.and_eq_true] at h
    exact snd_cons (chk_ord _ _ _ h.1) (all_E c X e C h.1).v (all_Es cs X es C h.2)
end
end
end Nl

/-! try .. except .. as e: x = e, where x is looked at behind it: the exception's object is kept track of. -/
namespace Nl
open PySem PySem.Spec PyProof.Rows L2
section
variable {X : Cx} {pins : List (Addr × Obj)} {σ : L2.St} {H : Hp} {s : Shared}
/-- a pinned object that was not there at the entry is tracked from now on -/
theorem Inv.track {a : Addr} {oe : Obj} {o : HO} (J : Inv X ((a, oe) :: pins) σ H s) (new : ∀ b u, X.s_0.heap.get? b = some u → b ≠ a) (apart : ∀ p ∈ X.pn ++ pins, p.1 ≠ a) (ok : ObjOk X.prog X.w (L2.upd H a o) s.heap a o) : Inv X pins σ (L2.upd H a o) s := by
  obtain ⟨p1, p2, p3, p4, p5⟩ := J.pin (a, oe) (List.mem_append_right _ List.mem_cons_self)
  have neS : ∀ {b : Addr} {u : HO}, H b = some u → b ≠ a := fun e => ne_of_none e p2
  refine ⟨J.ok, J.os, J.bare, ⟨J.base.keep, J.base.slot, fun b u e n hx => ?_, J.base.there, fun b xs e => ?_, fun b u v e => ?_, fun b ps e => ?_⟩, J.loc, J.cell, ?_, fun x c e => ?_, fun p hp => ?_, fun b u e => ?_, J.len⟩
  · rw [upd_ne (new b u e)]
    exact J.base.free b u e n hx
  · have k := J.base.tups b xs e
    rw [upd_ne (neS k)]
    exact k
  · have k := J.base.frzs b u v e
    rw [upd_ne (neS k)]
    exact k
  · obtain ⟨m, k⟩ := J.base.tbls b ps e
    exact ⟨m, by rw [upd_ne (neS k)]; exact k⟩
  · rw [upd_ne (Ne.symm p3)]
    exact J.free
  · have ne : c ≠ a := fun z => by
      obtain ⟨v, ob, k1, k2⟩ := J.cell x c e
      rw [z] at k1
      rw [p1] at k1
      cases k1
      exact p5 _ k2
    rw [upd_ne ne]
    exact J.freeC x c e
  · obtain ⟨q1, q2, q3⟩ := J.pin p (by
      rcases List.mem_append.mp hp with h | h
      · exact List.mem_append_left _ h
      · exact List.mem_append_right _ (List.mem_cons_of_mem _ h))
    exact ⟨q1, by rw [upd_ne (apart p hp)]; exact q2, q3⟩
  · by_cases eb : b = a
    · subst eb
      rw [upd_same] at e
      cases e
      exact ok
    · rw [upd_ne eb] at e
      exact (J.hok b u e).stay (fun c v _ k => k) (fun c k => by rw [upd_ne (neS k)]; exact k) fun c xs k => by rw [upd_ne (neS k)]; exact k
/-- out of the suite, the exception's object still pinned -/
theorem Inv.unsuiteK {a : Addr} {oe : Obj} {pn' : List (Addr × Obj)} (J : Inv (X.suite a ((a, oe) :: (X.pn ++ pins))) pn' σ H s) (ok : X.Ok) : Inv X ((a, oe) :: pins) σ H s :=
  ⟨ok, J.os, J.bare, J.base, J.loc, J.cell, J.free, J.freeC, fun p hp => J.pin p (List.mem_append_left _ (by
    rcases List.mem_append.mp hp with h | h
    · exact List.mem_cons_of_mem _ (List.mem_append_left _ h)
    · rcases List.mem_cons.mp h with h | h
      · rw [h]; exact List.mem_cons_self
      · exact List.mem_cons_of_mem _ (List.mem_append_right _ h))), J.hok, J.len⟩
end
/-- what the clause wishes: the class fits, and what follows holds with the exception kept in j -/
def wKeep (K : PySem.W.Frag) (c : Value) (i j : Nat) (Wout : WX) (D : Ends) : WX := fun cls d σ H =>
  ∃ b, PySem.W.exmOne K cls c = some b ∧ (b = true → d = none ∧ ∀ a, H a = none → D.nx (((σ.set i (some (.ref a))).set j (some (.ref a))).set i none) (L2.upd H a (EvO cls a))) ∧ (b = false → Wout cls d σ H)
theorem evo_ok {P : Program} {w : World} {H : Hp} {h : Heap} {a : Addr} {cls : Value} {oe : Obj} {vs : Array Value} (e : h.get? a = some oe) (z : Zc cls none oe) (d : oe.data = .fields vs) : ObjOk P w H h a (EvO cls a) :=
  ⟨⟨oe, vs, e, z, d⟩, ⟨oe, e⟩, fun _ _ ⟨o, v, q, r⟩ k => ⟨o, v, k o q, r⟩⟩
section
variable {X : Cx} {x n y : Str} {c : Value} {i j : Nat} {body : List Stmt} {np py pz pa pos pos' : Pos} {tb : WX → TS} {Wout : WX}
theorem ps_try_keep (hs : X.stack = X.env :: X.outer) (hf : X.env.frame = some X.env.locals) (hex : X.ex = []) (hN : X.N.Nodup) (hi : X.N[i]? = some n) (hj : X.N[j]? = some y) (hln : X.env.kindOf n = some .local) (hly : Loc X.env.scope y) (hfn : ∀ z, X.fn z = true) (hn1 : (n == ("__debug__" : Str)) = false) (hn2 : (n == ("__classdict__" : Str)) = false) (hil : i < X.N.length) (hc : Names X x c) (tk : Takes X Wout)
    (hb : ∀ (W : WX) (pn : List (Addr × Obj)) (xe : Value → Shared → Prop), Takes (X.tr pn xe) W → PassesOwn (model X.prog X.w) X.A X.env xe → PSs (X.tr pn xe) body (tb W)) :
    PS X (.Try body [.ExceptHandler (some (.Name x np)) (some n) [.Assign [.Name y py] (.Name n pz) pa] pos'] [] [] pos) (fun D σ H => tb (wKeep X.K c i j Wout D) D σ H) := ⟨fun pins s σ H D I h => by
  have okX := I.ok
  have frX : X.A.frames = some (X.env :: X.outer) := by
    rw [okX.frames]
    exact congrArg some hs
  refine wpAny_Try_except (wpAny_mono ((hb (wKeep X.K c i j Wout D) (X.pn ++ pins) _ (fun u s' xx => ?cat) PassesOwn.looking).run [] s σ H D (I.toTry _) h) (fun fl s1 hsp => ?done) fun _ _ he => he)
  case done =>
    cases fl with
    | next => obtain ⟨a1, a2, a3, a4⟩ := hsp; exact wpAny_execs_nil ⟨a1, a2, a3.ofTry okX, a4⟩
    | brk => obtain ⟨a1, a2, a3, a4⟩ := hsp; exact ⟨a1, a2, a3.ofTry okX, a4⟩
    | cont => obtain ⟨a1, a2, a3, a4⟩ := hsp; exact ⟨a1, a2, a3.ofTry okX, a4⟩
    | ret u => obtain ⟨a0, a1, a2, a3, a4, a5⟩ := hsp; exact ⟨a0, a1, a2, a3.ofTry okX, a4, a5⟩
  case cat =>
    obtain ⟨a, B, sI, pq, σ1, H1, cls, d, eu, J1, nb, up, sky, na, os, ag, b, hb1, yes, no⟩ := xx
    subst eu
    have J : Inv X pins σ1 H1 sI := J1.ofTry okX
    rw [show (X.tr (X.pn ++ pins) _).stack = X.env :: X.outer from hs] at sky
    show wpAny (model X.prog X.w) X.A (noteFrame (.ref a) X.env) _ _ s'
    refine Sky.land (L := X.env.locals) Zc.steady frX hf sky fun h3 fl3 up3 => ?_
    have J3 : Inv X pins σ1 H1 { s' with heap := h3 } := J.landed nb fl3.1 (up.trans up3) os ag
    obtain ⟨o3, v3, e3, z3, d3⟩ := fl3.there
    have aFr : ∀ {hh : Heap} {ob : Obj} {vv : Array Value}, hh.FunFrames B (X.env :: X.outer) → hh.get? a = some ob → ob.data = .fields vv → a ∉ frs (X.env :: X.outer) := fun ff k1 k2 km => by
      obtain ⟨_, ob', k3, k4⟩ := ff.mem km
      rw [k1] at k3
      cases k3
      exact k4 _ k2
    have aN := aFr fl3.2.2.1 e3 d3
    have aL : a ≠ X.env.locals := fun z => aN (List.mem_filterMap.mpr ⟨X.env, List.mem_cons_self, hf.trans (congrArg some z.symm)⟩)
    have aF : a ∉ X.fs := fun km => by
      obtain ⟨q, k1, k2⟩ := List.mem_filterMap.mp km
      exact aN (List.mem_filterMap.mpr ⟨q, List.mem_cons_of_mem _ k1, k2⟩)
    have aI : sI.heap.get? a = none := by
      cases k : sI.heap.get? a with
      | none => rfl
      | some ob =>
        have k2 := nb a ob k (by rw [hs]; exact aN)
        rw [fl3.2.1] at k2
        cases k2
    have a0 : ∀ b u, X.s_0.heap.get? b = some u → b ≠ a := fun b u k z => by
      obtain ⟨ob, k2⟩ := J.base.there b u k (by rw [hex]; exact fun z => nomatch z)
      rw [z, aI] at k2
      cases k2
    have aP : ∀ p ∈ X.pn ++ pins, p.1 ≠ a := fun p hp z => by
      have k := (J.pin p hp).1
      rw [z, aI] at k
      cases k
    have S3 := J3.suite e3 d3 na aL aF
    have LT : PySem.W.Looks (model X.prog X.w) h3 (typeOf (.ref a)) cls := fun A Q E s k q => wpAny_typeOf_ref (k _ _ e3) (by rw [show o3.cls = cls from z3.1]; exact q)
    have LM := PySem.W.exm_one (M := model X.prog X.w) J3.kIn LT hb1
    have tst : ∀ {Q : Value → Shared → Prop} {E : Value → Shared → Prop}, Q c { s' with heap := h3 } → wpAny (model X.prog X.w) (X.A.mark (some (.ref a))) (eval (.Name x np) X.env) Q E { s' with heap := h3 } := fun {Q E} q => by
      obtain ⟨hg, hdb, hm⟩ := hc
      rcases hm with hm | ⟨hm, hv, hq⟩
      · exact ld_glob (X := X.suite a ((a, o3) :: (X.pn ++ pins))) S3 hg hm q hdb
      · exact ld_blt (X := X.suite a ((a, o3) :: (X.pn ++ pins))) S3 hg hm hv q hq hdb
    refine wpAny_handleBy_cons (codeAny_handlers_test (tst (LM.here ?_))) (fun z => nomatch z)
    cases b with
    | true =>
      obtain ⟨rfl, go⟩ := yes rfl
      refine codeAny_handlers_suite_as (HandSPX.lands_againZ fl3 fun h4 fl4 up4 => ?_)
      have J4 : Inv X pins σ1 H1 { s' with heap := h4 } := J.landed nb fl4.1 ((up.trans up3).trans up4) os ag
      obtain ⟨o4, v4, e4, z4, d4⟩ := fl4.there
      refine store_ok (X := X.suite a ((a, o4) :: (X.pn ++ pins))) (v := .ref a) (J4.suite e4 d4 na aL aF) hN hi (.inl hln) rfl (fun s5 S5 => ?_) (.inr hln)
      have one : PSs (X.suite a ((a, o4) :: (X.pn ++ pins))) [.Assign [.Name y py] (.Name n pz) pa] _ := pss_one (ps_set (i := j) hN hj hly (pe_var hi (.inl hln) hn1 hn2) rfl (.inl (hfn y)))
      have hlen : i < σ1.length := by rw [J.len]; exact hil
      refine wpAny_mono (one.run [] s5 _ H1 { nx := fun σ' H' => σ' = ((σ1.set i (some (.ref a))).set j (some (.ref a))) ∧ H' = H1, rt := fun _ _ => False, bk := fun _ _ => False, ct := fun _ _ => False } S5 ⟨.ref a, List.getElem?_set_self hlen, rfl, rfl⟩) (fun fl s6 hsp => ?_) (fun _ _ z => False.elim z)
      cases fl with
      | next =>
        obtain ⟨σ6, H6, S6, eσ, eH⟩ := hsp
        subst eσ eH
        have K6 := Inv.unsuiteK S6 okX
        refine gone_ok K6 hN hi hln fun s7 K7 => ⟨_, _, Inv.track K7 a0 aP ?_, go a na⟩
        obtain ⟨p1, _⟩ := K7.pin (a, o4) (List.mem_append_right _ List.mem_cons_self)
        exact evo_ok p1 z4 d4
      | brk => obtain ⟨_, _, _, z⟩ := hsp; exact z.elim
      | cont => obtain ⟨_, _, _, z⟩ := hsp; exact z.elim
      | ret u => obtain ⟨_, _, _, _, _, z⟩ := hsp; exact z.elim
    | false =>
      refine wpAny_handleBy_nil ?_
      obtain ⟨_, _, _, oe, vv, T, oT, tt, k1, _, k2, k3, _⟩ := id fl3
      have fin : wpAny (model X.prog X.w) X.A (setFlight (.ref a) X.env.frame) (fun _ s4 => wpAny (model X.prog X.w) X.A (throw (.ref a) : Sem Flow) (SP X pins D) X.xe s4) X.xe { s' with heap := h3 } := by
        rw [hf]
        exact HandSPX.setFlight_upZ fl3 fun h4 hh4 up4 => wpAny_throw (tk _ _ ⟨a, B, sI, pins, σ1, H1, cls, d, rfl, J, nb, (up.trans up3).trans up4, .inr (.inr (by rw [hs]; exact hh4)), na, os, ag, no rfl⟩)
      unfold PySem.passOn
      refine wpAny_bind (wpAny_field k1 k2 k3 ?_)
      rw [if_neg (show ¬ ((Value.ref T == Value.none) = true) from by simp)]
      first
        | exact wpAny_bind (wpAny_pure (wpAny_bind fin))
        | exact wpAny_bind fin⟩
end
end Nl

/-! try .. except .. as n: y = isinstance(n, (..)); if isinstance(n, U) and isinstance(n, ValueError) and not y: return w. -/
namespace Nl
open PySem PySem.Spec PyProof.Rows L2
section
variable {X : Cx}
/-- isinstance of the exception in an except suite: one class -/
def rIsVP (K : PySem.W.Frag) (a : Addr) (cls : Value) (d : Option Addr) : List V → Hp → VK → Prop := fun xs H Q => ∃ (Dc : Addr) (c : V) (cv : Value) (b : Bool), xs = [.ref a, c] ∧ cls = .ref Dc ∧ d = none ∧ ExcC K Dc ∧ (∀ u, RelV c u → u = cv) ∧ PySem.W.kitOne K (.ref Dc) cv = some b ∧ Q (.bl b) H
theorem pin_inst {pins : List (Addr × Obj)} {σ : L2.St} {H : Hp} {s : Shared} {a Dc : Addr} {oe : Obj} (I : Inv X pins σ H s) (hm : (a, oe) ∈ X.pn) (z : Zc (.ref Dc) none oe) (hd : ∃ vs, oe.data = .fields vs) : PySem.W.InstAt s.heap a oe Dc none := by
  obtain ⟨p1, _⟩ := I.pin (a, oe) (List.mem_append_left _ hm)
  obtain ⟨h2, h3⟩ := z
  obtain ⟨vs, h4⟩ := hd
  obtain ⟨oc, od, oda, osl⟩ := oe
  dsimp only at h2 h3 h4
  subst h2 h3 h4
  exact ⟨p1, rfl, rfl, trivial⟩
theorem call_isVP {a : Addr} {oe : Obj} {cls : Value} {d : Option Addr} (hm : (a, oe) ∈ X.pn) (z : Zc cls d oe) (hd : ∃ vs, oe.data = .fields vs) : CallR X (.builtin "isinstance") (rIsVP X.K a cls d) := fun pins s σ H xs us Q I r h => by
  obtain ⟨Dc, c, cv, b, rfl, rfl, rfl, C, hcv, e, q⟩ := h
  obtain ⟨u1, u2, rfl, r1, r2⟩ := vals2 r
  cases (show u1 = Value.ref a from r1)
  cases hcv _ r2
  have J := pin_inst I hm z hd
  exact PySem.W.kia_one (PySem.W.handS_kitx_exc C.hg C.hk C.hs C.hd C.ha C.hn C.ht C.hm) I.kIn J e (fun z => nomatch z) fun tk => ⟨.bl b, H, I.tok tk, rfl, q⟩
/-- classes in a tuple -/
def rIsVTP (K : PySem.W.Frag) (a : Addr) (cls : Value) (d : Option Addr) : List V → Hp → VK → Prop := fun xs H Q => ∃ (Dc tp : Addr) (cs : List V) (ws : List Value) (b : Bool), xs = [.ref a, .ref tp] ∧ cls = .ref Dc ∧ d = none ∧ H tp = some (.tup cs) ∧ ExcC K Dc ∧ (∀ us, Vals cs us → us = ws) ∧ PySem.W.kitAny K (.ref Dc) ws = some b ∧ Q (.bl b) H
theorem call_isVTP {a : Addr} {oe : Obj} {cls : Value} {d : Option Addr} (hm : (a, oe) ∈ X.pn) (z : Zc cls d oe) (hd : ∃ vs, oe.data = .fields vs) : CallR X (.builtin "isinstance") (rIsVTP X.K a cls d) := fun pins s σ H xs us Q I r h => by
  obtain ⟨Dc, tp, cs, ws, b, rfl, rfl, rfl, hT, C, hws, e, q⟩ := h
  obtain ⟨u1, u2, rfl, r1, r2⟩ := vals2 r
  cases (show u1 = Value.ref a from r1)
  cases (show u2 = Value.ref tp from r2)
  have J := pin_inst I hm z hd
  obtain ⟨_, its, rv, ot, k1, k2, n, k3⟩ := (show ObjOk X.prog X.w H s.heap tp (.tup cs) from I.hok tp _ hT)
  cases hws its rv
  obtain ⟨oc, od, dt, sl⟩ := ot
  dsimp only at k2 k3
  subst k2 k3
  exact PySem.W.kia_tup (PySem.W.handS_kitx_exc C.hg C.hk C.hs C.hd C.ha C.hn C.ht C.hm) I.kIn J k1 e (fun z => nomatch z) fun tk => ⟨.bl b, H, I.tok tk, rfl, q⟩
end
section
variable {nm : Nms} {gl : Nat → Option D} {cf : Cf} {X : Cx}
/-- the class that a name stands for, in an except suite -/
theorem cls_peS (C : Ctx nm gl cf X) {k : Nat} {e : Expr} (h : chkX nm X.env.scope k e = true) : ∃ v, (∀ (a : Addr) (pn : List (Addr × Obj)), PE (X.suite a pn) e (tC v)) ∧ (∀ u, RelV v u → u = exV X.K k) ∧ ord e = true ∧ (k ∈ nm.xc ∨ k = exVE) := by
  unfold chkX at h
  split at h
  · rename_i x p
    split at h
    · rename_i hk
      subst hk
      unfold isB at h
      simp only [Bool.and_eq_true, beq_iff_eq] at h
      obtain ⟨rfl, h2⟩ := h
      exact ⟨.ty "ValueError", fun a pn => pe_bltn (X := X.suite a pn) (glb_ok h2) (C.bi "ValueError" (by decide)) boot_VE rfl (by decide +kernel) (by decide +kernel), fun u r => r, rfl, .inr rfl⟩
    · rename_i hk
      simp only [Bool.and_eq_true, decide_eq_true_eq, List.contains_iff_mem] at h
      obtain ⟨rfl, h2, h3, h4⟩ := h
      obtain ⟨n1, n2, _⟩ := okN_ok h4
      refine ⟨.ref (clsA X.K (exName k)), fun a pn => pe_glob (X := X.suite a pn) (glb_ok h3) (C.xc.mg k h2) rfl n1, fun u r => ?_, rfl, .inl h2⟩
      unfold exV
      rw [if_neg hk]
      exact r
  · cases h
theorem clss_paS (C : Ctx nm gl cf X) : ∀ {ks : List Nat} {es : List Expr}, chkXs nm X.env.scope ks es = true → ∃ vs, (∀ (a : Addr) (pn : List (Addr × Obj)), PA (X.suite a pn) es (tCs vs)) ∧ (∀ us, Vals vs us → us = ks.map (exV X.K)) ∧ (∀ k ∈ ks, k ∈ nm.xc ∨ k = exVE) ∧ vs.length = ks.length
  | [], [], _ => ⟨[], fun _ _ => pa_nil, fun us r => (by cases r; rfl), fun _ h => (by cases h), rfl⟩
  | [], _ :: _, h => by simp [chkXs] at h
  | _ :: _, [], h => by simp [chkXs] at h
  | k :: ks, e :: es, h => by
    simp only [chkXs, Bool.and_eq_true] at h
    obtain ⟨v, p, hv, oe, hk⟩ := cls_peS C h.1
    obtain ⟨vs, pa, hvs, hks, hl⟩ := clss_paS C h.2
    refine ⟨v :: vs, fun a pn => pa_cons (p a pn) (pa a pn) (ord_star oe es), fun us r => ?_, fun j hj => ?_, by simp [hl]⟩
    · cases r with
      | cons r1 r2 => rw [hv _ r1, hvs _ r2]; rfl
    · rcases List.mem_cons.mp hj with rfl | hj
      · exact hk
      · exact hks j hj
/-- what the suite of the clause does -/
def tsB (K : PySem.W.Frag) (i j : Nat) (vs : List V) (v0 v1 w : V) : Addr → Value → Option Addr → TS := fun a cls d =>
  tSeq (tAsg (tCB (rIsVTP K a cls d) (tCons (tVar i) (tCons (tTup (tCs vs)) tNil))) (gName j))
    (tIfS (tAnd (tB (tCB (rIsVP K a cls d) (tCons (tVar i) (tCons (tC v0) tNil)))) (tAnd (tB (tCB (rIsVP K a cls d) (tCons (tVar i) (tCons (tC v1) tNil)))) (tNot (tB (tVar j))))) (tRet (tC w)) tNext)
end
end Nl

/-! Statements, defs, a whole text. -/
namespace Nl
open PySem L2
theorem zip_lookup : ∀ {ps : List Str} {us : List Value} {x : Str}, x ∈ ps → us.length = ps.length → ((ps.zip us).lookup x).isSome = true
  | [], _, _, h, _ => by simp at h
  | p :: ps, [], _, _, hl => by simp at hl
  | p :: ps, u :: us, x, h, hl => by
    rw [List.zip_cons_cons, List.lookup_cons]
    cases e : x == p with
    | true => rfl
    | false =>
      simp only
      rcases List.mem_cons.mp h with rfl | h
      · simp at e
      · exact zip_lookup h (by simpa using hl)
theorem zip_back : ∀ {ps : List Str} {us : List Value} (pre : List (Str × Value)), ps.Nodup → us.length = ps.length → (∀ p ∈ ps, ∀ q ∈ pre, q.1 ≠ p) → ps.filterMap (fun n => ((pre ++ ps.zip us).lookup n).map fun v => (n, v)) = ps.zip us
  | [], _, _, _, _, _ => by simp
  | p :: ps, [], _, _, hl, _ => by simp at hl
  | p :: ps, u :: us, pre, nd, hl, hp => by
    obtain ⟨n1, n2⟩ := List.nodup_cons.mp nd
    have e1 : (pre ++ (p, u) :: ps.zip us).lookup p = some u := by
      have : ∀ (pre : List (Str × Value)), (∀ q ∈ pre, q.1 ≠ p) → (pre ++ (p, u) :: ps.zip us).lookup p = some u := fun pre => by
        induction pre with
        | nil => intro _; simp
        | cons q pre ih =>
          intro h
          obtain ⟨q1, q2⟩ := q
          rw [List.cons_append, List.lookup_cons]
          have : (p == q1) = false := by
            have := h (q1, q2) List.mem_cons_self
            simpa using fun e => this e.symm
          rw [this]
          exact ih fun q hq => h q (List.mem_cons_of_mem _ hq)
      exact this pre (hp p List.mem_cons_self)
    rw [List.zip_cons_cons, List.filterMap_cons, e1]
    simp only [Option.map_some]
    congr 1
    have e2 := zip_back (ps := ps) (us := us) (pre ++ [(p, u)]) n2 (by simpa using hl) (fun p' hp' q hq => by
      rcases List.mem_append.mp hq with hq | hq
      · exact hp p' (List.mem_cons_of_mem _ hp') q hq
      · cases List.mem_singleton.mp hq
        exact fun e => n1 (by have e : p = p' := e; rw [e]; exact hp'))
    rw [List.append_assoc] at e2
    exact e2
theorem bind_plain {x qual : Str} {args : List Arg} {body : List Stmt} {scope : Scope} (nd : (args.map (·.arg)).Nodup) (kV doc pm : Value) (an : Option Addr) (cdv ct : Value) (us : List Value) (hl : us.length = (args.map (·.arg)).length) :
    bindArgs (PySem.W.fnOf x qual ⟨[], args, none, [], [], none, []⟩ body scope .none kV doc pm an cdv ct) ⟨us, []⟩ = pure ((args.map (·.arg)).zip us) := by
  have hm : ((args.map (·.arg)).filter fun n => (((args.map (·.arg)).zip us).lookup n).isNone) = [] := by
    rw [List.filter_eq_nil_iff]
    intro n hn
    have := zip_lookup (us := us) hn hl
    cases e : ((args.map (·.arg)).zip us).lookup n with
    | none => rw [e] at this; cases this
    | some v => simp
  have hz := zip_back (us := us) [] nd hl (fun _ _ _ h => by cases h)
  rw [List.nil_append] at hz
  have hg : ¬ us.length > (args.map (·.arg)).length := by omega
  unfold bindArgs PySem.W.fnOf
  simp only [List.map_nil, List.nil_append, List.forIn_nil, pure_bind, List.append_nil]
  have e0 : seqItems? Value.none = pure none := rfl
  rw [e0, pure_bind, if_neg (by simp; simpa using Nat.le_of_eq hl)]
  simp only [Option.getD_none, List.drop_nil, List.length_nil, Nat.sub_zero, List.take_length]
  rw [hm]
  rw [if_neg (by simp), List.zip_nil_right, List.forIn_nil, pure_bind, if_neg (by simp), hz]

/-! ### which statement of the model a statement stands for -/
section
variable (nm : Nms) (N : List Str) (sc : Scope)
def chkI (k : Ik) (a b : E) (target iter : Expr) : Bool := match k, iter with
  | .seq, it => chk nm N a sc it && isNonE b
  | .rng1, .Call (.Name x _) [y] [] _ => isB sc "range" x && (chk nm N a sc y && isNonE b)
  | .rng2, .Call (.Name x _) [y, z] [] _ => isB sc "range" x && (chk nm N a sc y && chk nm N b sc z)
  | .enm, .Call (.Name x _) [y] [] _ => isB sc "enumerate" x && (isTupX target && (chk nm N a sc y && isNonE b))
  | .zp, .Call (.Name x _) [y, z] [] _ => isB sc "zip" x && (isTupX target && (chk nm N a sc y && chk nm N b sc z))
  | .rev, .Call (.Name x _) [y] [] _ => isB sc "reversed" x && (chk nm N a sc y && isNonE b)
  | .rr1, .Call (.Name x _) [.Call (.Name y _) [z] [] _] [] _ => isB sc "reversed" x && (isB sc "range" y && (chk nm N a sc z && isNonE b))
  | .rr2, .Call (.Name x _) [.Call (.Name y _) [z, u] [] _] [] _ => isB sc "reversed" x && (isB sc "range" y && (chk nm N a sc z && chk nm N b sc u))
  | _, _ => false
/-- what leaves all names as they were, if it raises -/
def simpS : S → Bool
  | .asg (.n _) _ => true
  | .ex _ => true
  | .ret _ => true
  | _ => false
def cstE : E → Bool
  | .bl _ => true
  | .str _ => true
  | .non => true
  | .int _ => true
  | _ => false
mutual
def chkS : S → Stmt → Bool
  | .asg tg e, st => (match st with
    | .Assign [t] v _ => (match tg, t with
      | .n i, .Name x _ => decide (N[i]? = some x) && (loc sc x && chk nm N e sc v)
      | .t is, t => chkTg N sc (.t is) t && (!isTupX v && chk nm N e sc v)
      | _, _ => false)
    | _ => false)
  | .asgTT iss e, st => (match st with
    | .Assign [.Tuple ts _ _] v _ => chkTts N sc iss ts && (!isTupX v && chk nm N e sc v)
    | _ => false)
  | .setix o i e, st => (match st with
    | .Assign [.Subscript ox ix _] v _ => chk nm N o sc ox && (chk nm N i sc ix && (!isLc v && chk nm N e sc v))
    | _ => false)
  | .ex e, st => (match st with
    | .Expr v _ => !isLc v && chk nm N e sc v
    | _ => false)
  | .ret e, st => (match st with
    | .Return (some v) _ => chk nm N e sc v
    | _ => false)
  | .retN, st => (match st with
    | .Return none _ => true
    | _ => false)
  | .ife c a b, st => (match st with
    | .If t xs ys _ => okT c t && (chk nm N c sc t && (chkSs a xs && chkSs b ys))
    | _ => false)
  | .forr tg k a b body, st => (match st with
    | .For target iter xs [] _ => chkTg N sc tg target && (chkI nm N sc k a b target iter && chkSs body xs)
    | _ => false)
  | .whl _ c body, st => (match st with
    | .While t xs [] _ => okT c t && (chk nm N c sc t && chkSs body xs)
    | _ => false)
  | .pass, st => (match st with
    | .Pass _ => true
    | _ => false)
  | .brk, st => (match st with
    | .Break _ => true
    | _ => false)
  | .cnt, st => (match st with
    | .Continue _ => true
    | _ => false)
  | .raise k, st => (match st with
    | .Raise (some (.Call (.Name x _) [] [] _)) none _ => decide (x = Str.ofString (exName k)) && (nm.xr.contains k && (glb sc x && okN x))
    | _ => false)
  | .setfld c o f e, st => (match st with
    | .Assign [.Attribute ox name _] v _ => decide (name = Str.ofString (fdName f)) && (nm.cl.contains c && (chk nm N o sc ox && (!isLc v && chk nm N e sc v)))
    | _ => false)
  | .dput d k e, st => (match st with
    | .Assign [.Subscript ox ix _] v _ => chk nm N d sc ox && (chk nm N k sc ix && (!isLc v && chk nm N e sc v))
    | _ => false)
  | .nput d k e, st => (match st with
    | .Assign [.Subscript ox ix _] v _ => chk nm N d sc ox && (chk nm N k sc ix && (!isLc v && chk nm N e sc v))
    | _ => false)
  | .triA al s c i j, st => (match st with
    | .Try [b] [.ExceptHandler (some (.Name x _)) (some n) [.Assign [.Name y _] (.Name z _) _] _] [] [] _ => (al.all fun k => nm.xr.contains k) && (decide (x = Str.ofString (exName c)) && (nm.xc.contains c && (glb sc x && (okN x && (decide (N[i]? = some n) && (decide (N[j]? = some y) && (decide (z = n) && (decide (i ≠ j) && (decide (sc.names.lookup n = some .local) && (loc sc y && (okN n && (simpS s && chkS s b))))))))))))
    | _ => false)
  | .triC al s c e, st => (match st with
    | .Try [b] [.ExceptHandler (some (.Name x _)) none [.Return (some v) _] _] [] [] _ => (al.all fun k => nm.xr.contains k) && (decide (x = Str.ofString (exName c)) && (nm.xc.contains c && (glb sc x && (okN x && (cstE e && (chk nm N e sc v && (simpS s && chkS s b)))))))
    | _ => false)
  | .triB al s c i j ks k0 w, st => (match st with
    | .Try [b] [.ExceptHandler (some (.Name x _)) (some n) [.Assign [.Name y _] (.Call (.Name x1 _) [.Name z1 _, .Tuple zs _ _] [] _) _, .If (.BoolOp .And [.Call (.Name x2 _) [.Name z2 _, e0] [] _, .Call (.Name x3 _) [.Name z3 _, e1] [] _, .UnaryOp .Not (.Name y2 _) _] _) [.Return (some v) _] [] _] _] [] [] _ => (al.all fun k => nm.xr.contains k && (!isSub k k0 || isSub k exVE)) && (decide (x = Str.ofString (exName c)) && (nm.xc.contains c && (glb sc x && (okN x && (decide (N[i]? = some n) && (decide (N[j]? = some y) && (decide (z1 = n) && (decide (z2 = n) && (decide (z3 = n) && (decide (y2 = y) && (decide (i ≠ j) && (decide (sc.names.lookup n = some .local) && (loc sc y && (okN n && (okN y && (isB sc "isinstance" x1 && (isB sc "isinstance" x2 && (isB sc "isinstance" x3 && (decide (ks.length ≤ 100) && (chkXs nm sc ks zs && (chkX nm sc k0 e0 && (chkX nm sc exVE e1 && (chk nm N (.str w) sc v && (simpS s && chkS s b))))))))))))))))))))))))
    | _ => false)
def chkSs : Ss → List Stmt → Bool
  | .nil, xs => xs.isEmpty
  | .cons s ss, xs => (match xs with
    | x :: xs => chkS s x && chkSs ss xs
    | [] => false)
end
end
/-! ### what comes of statements -/
def PostS (K : PySem.W.Frag) (G : Hp) (ix : List Addr) (H : Hp) (r : Fl) (S' : Store) (D : Ends) : Prop := match r with
  | .nx env' => ∀ σ' G' ix' H', Stp G ix H G' ix' H' → Good K G' ix' S' H' → EnvR K G' ix' σ' env' → D.nx σ' H'
  | .brk env' => ∀ σ' G' ix' H', Stp G ix H G' ix' H' → Good K G' ix' S' H' → EnvR K G' ix' σ' env' → D.bk σ' H'
  | .cnt env' => ∀ σ' G' ix' H', Stp G ix H G' ix' H' → Good K G' ix' S' H' → EnvR K G' ix' σ' env' → D.ct σ' H'
  | .ret w => PostE K G ix H w S' D.rt
theorem PostS.from {K : PySem.W.Frag} {G : Hp} {ix : List Addr} {H : Hp} {r : Fl} {S' : Store} {D : Ends} (q : PostS K G ix H r S' D) {G1 : Hp} {ix1 : List Addr} {H1 : Hp} (s : Stp G ix H G1 ix1 H1) : PostS K G1 ix1 H1 r S' D := by
  cases r with
  | nx env => exact fun σ' G' ix' H' s' => q σ' G' ix' H' (s.trans s')
  | brk env => exact fun σ' G' ix' H' s' => q σ' G' ix' H' (s.trans s')
  | cnt env => exact fun σ' G' ix' H' s' => q σ' G' ix' H' (s.trans s')
  | ret w => exact PostE.from q s
def SemS (gl : Nat → Option D) (cf : Cf) (K : PySem.W.Frag) (c : S) (t : TS) : Prop := ∀ σ H env G ix S r S' D, EnvR K G ix σ env → Good K G ix S H → ex gl cf c env S = .ok (r, S') → PostS K G ix H r S' D → t D σ H
/-- what a raise of a statement makes true: wherever its names stand, or as they stood -/
def SemXS (gl : Nat → Option D) (cf : Cf) (X : Cx) (c : S) (t : TS) : Prop := ∀ σ H env G ix S k S' D, EnvR X.K G ix σ env → Good X.K G ix S H → ex gl cf c env S = .exc k S' → (∀ σ', PostX X.K G ix H k S' (WE (Wof X) σ')) → t D σ H
def SemX1 (gl : Nat → Option D) (cf : Cf) (X : Cx) (c : S) (t : TS) : Prop := ∀ σ H env G ix S k S' D, EnvR X.K G ix σ env → Good X.K G ix S H → ex gl cf c env S = .exc k S' → PostX X.K G ix H k S' (WE (Wof X) σ) → t D σ H
def SndS (gl : Nat → Option D) (cf : Cf) (X : Cx) (st : Stmt) (c : S) : Prop := ∃ t, PS X st t ∧ SemS gl cf X.K c t ∧ SemXS gl cf X c t ∧ (simpS c = true → SemX1 gl cf X c t)
theorem sndS_of {gl : Nat → Option D} {cf : Cf} {X : Cx} {st : Stmt} {c : S} {t : TS} (p : PS X st t) (m : SemS gl cf X.K c t) (x : SemX1 gl cf X c t) : SndS gl cf X st c := ⟨t, p, m, fun σ H env G ix S k S' D r g e q => x σ H env G ix S k S' D r g e (q σ), fun _ => x⟩
def SemSs (gl : Nat → Option D) (cf : Cf) (K : PySem.W.Frag) (c : Ss) (t : TS) : Prop := ∀ σ H env G ix S r S' D, EnvR K G ix σ env → Good K G ix S H → exs gl cf c env S = .ok (r, S') → PostS K G ix H r S' D → t D σ H
def SemXSs (gl : Nat → Option D) (cf : Cf) (X : Cx) (c : Ss) (t : TS) : Prop := ∀ σ H env G ix S k S' D, EnvR X.K G ix σ env → Good X.K G ix S H → exs gl cf c env S = .exc k S' → (∀ σ', PostX X.K G ix H k S' (WE (Wof X) σ')) → t D σ H
def SndSs (gl : Nat → Option D) (cf : Cf) (X : Cx) (st : List Stmt) (c : Ss) : Prop := ∃ t, PSs X st t ∧ SemSs gl cf X.K c t ∧ SemXSs gl cf X c t
section
variable {nm : Nms} {gl : Nat → Option D} {cf : Cf} {X : Cx}
theorem snd_seqs {st : Stmt} {sts : List Stmt} {c : S} {cs : Ss} (h1 : SndS gl cf X st c) (h2 : SndSs gl cf X sts cs) : SndSs gl cf X (st :: sts) (.cons c cs) := by
  obtain ⟨t, p, m, x, _⟩ := h1
  obtain ⟨u, p2, m2, x2⟩ := h2
  refine ⟨_, pss_cons p p2, fun σ H env G ix S r S' D re g e q => ?_, fun σ H env G ix S k S' D re g e q => ?x⟩
  case x =>
    simp only [exs] at e
    rcases exc2 e with e1 | ⟨⟨r1, r2⟩, e1, e2⟩
    · exact x σ H env G ix S k S' _ re g e1 q
    · cases r1 with
      | nx env' => exact m σ H env G ix S _ r2 _ re g e1 fun σ' G' ix' H' s g' r' => x2 σ' H' env' G' ix' r2 k S' D r' g' e2 fun σ'' => (q σ'').from s
      | brk env' => cases e2
      | cnt env' => cases e2
      | ret w => cases e2
  simp only [exs] at e
  obtain ⟨⟨r1, r2⟩, e1, e⟩ := ok2 e
  show t { D with nx := u D } σ H
  refine m σ H env G ix S r1 r2 _ re g e1 ?_
  cases r1 with
  | nx env' => exact fun σ' G' ix' H' s g' r' => m2 σ' H' env' G' ix' r2 r S' D r' g' e (q.from s)
  | brk env' => cases e; exact q
  | cnt env' => cases e; exact q
  | ret w => cases e; exact q
theorem snd_asgN (C : Ctx nm gl cf X) (hf : ∀ x, X.fn x = true) {i : Nat} {x : Str} {v : Expr} {c : E} {p pos : Pos} (hN : X.N[i]? = some x) (hx : Loc X.env.scope x) (hv : SndE gl cf X v c) : SndS gl cf X (.Assign [.Name x p] v pos) (.asg (.n i) c) := by
  obtain ⟨t, pe, a, m, mx⟩ := hv
  refine sndS_of (a i x p pos hN hx (hf x)) (fun σ H env G ix S r S' D re g e q => ?_) fun σ H env G ix S k S' D re g e q => by
    simp only [ex] at e
    exact semX1 mx re g e (fun _ => nx_setTg.bind fun _ => nx_ok) q
  simp only [ex] at e
  obtain ⟨y, e1, e⟩ := ok2 e
  obtain ⟨env', e2, e⟩ := ok2 e
  cases e2
  cases e
  exact m.data re g (show ev gl cf c env S = .ok (y.1, y.2) from e1) fun v G' ix' H' s g' rv => q _ G' ix' H' s g' ((re.stp s).set rv i)
theorem snd_asgT (C : Ctx nm gl cf X) {is : List Nat} {t v : Expr} {c : E} {pos : Pos} (ht : ∃ g, PG X t g ∧ SemG X.K (.t is) g) (hT : isTupX t = true) (ov : ord v = true) (nv : isTupX v = false) (hv : SndE gl cf X v c) : SndS gl cf X (.Assign [t] v pos) (.asg (.t is) c) := by
  obtain ⟨te, pe, a, m, mx⟩ := hv
  obtain ⟨gt, pg, mg⟩ := ht
  have hs : swapsWithSole [t] v pos.line X.env = pure false := by
    show swapsWith v (some t) pos.line X.env = pure false
    cases t with
    | Tuple _ _ _ => cases v <;> first | rfl | (cases ov; done)
    | _ => cases hT
  have hw : swappedStores [t] v X.env = pure none := by
    cases v <;> first | cases nv; done | (cases t <;> rfl)
  have h1 : (assignEach [t] X.env).map (·.2) = [assign t X.env] := by
    cases t <;> first | rfl | cases hT
  refine sndS_of (ps_asg pe pg hs hw h1) (fun σ H env G ix S r S' D re g e q => ?_) fun σ H env G ix S k S' D re g e q => by
    simp only [ex] at e
    exact semX1 mx re g e (fun _ => nx_setTg.bind fun _ => nx_ok) q
  simp only [ex] at e
  obtain ⟨y, e1, e⟩ := ok2 e
  obtain ⟨env', e2, e⟩ := ok2 e
  cases e
  exact m.data re g (show ev gl cf c env S = .ok (y.1, y.2) from e1) fun v G' ix' H' s g' rv => mg v _ σ H' env env' G' ix' _ _ (re.stp s) g' rv e2 fun σ' r' _ => q σ' G' ix' H' s g' r'
/-- three operands -/
theorem snd_asgTT (C : Ctx nm gl cf X) {iss : List (List Nat)} {t v : Expr} {c : E} {pos : Pos} (ht : ∃ g, PG X t g ∧ ∀ v d σ H env env' G ix S Q, EnvR X.K G ix σ env → Good X.K G ix S H → Rp X.K G ix v d → setTT iss d env = .ok env' → (∀ σ', EnvR X.K G ix σ' env' → Q σ' H) → g v σ H Q) (hT : isTupX t = true) (ov : ord v = true) (nv : isTupX v = false) (hv : SndE gl cf X v c) : SndS gl cf X (.Assign [t] v pos) (.asgTT iss c) := by
  obtain ⟨te, pe, a, m, mx⟩ := hv
  obtain ⟨gt, pg, mg⟩ := ht
  have hs : swapsWithSole [t] v pos.line X.env = pure false := by
    show swapsWith v (some t) pos.line X.env = pure false
    cases t with
    | Tuple _ _ _ => cases v <;> first | rfl | (cases ov; done)
    | _ => cases hT
  have hw : swappedStores [t] v X.env = pure none := by
    cases v <;> first | cases nv; done | (cases t <;> rfl)
  have h1 : (assignEach [t] X.env).map (·.2) = [assign t X.env] := by
    cases t <;> first | rfl | cases hT
  refine sndS_of (ps_asg pe pg hs hw h1) (fun σ H env G ix S r S' D re g e q => ?_) fun σ H env G ix S k S' D re g e q => by
    simp only [ex] at e
    exact semX1 mx re g e (fun _ => nx_setTT.bind fun _ => nx_ok) q
  simp only [ex] at e
  obtain ⟨y, e1, e⟩ := ok2 e
  obtain ⟨env', e2, e⟩ := ok2 e
  cases e
  exact m.data re g (show ev gl cf c env S = .ok (y.1, y.2) from e1) fun v G' ix' H' s g' rv => mg v _ σ H' env env' G' ix' _ _ (re.stp s) g' rv e2 fun σ' r' => q σ' G' ix' H' s g' r'
/-- three operands -/
theorem semX3 {a b c : E} {ta tb tc : TE} (ma : SemE gl cf X.K a ta) (mb : SemE gl cf X.K b tb) (xa : SemX gl cf X a ta) (xb : SemX gl cf X b tb) (xc : SemX gl cf X c tc) {σ : L2.St} {H : Hp} {env : Env} {G : Hp} {ix : List Addr} {S : Store} {k : Nat} {S' : Store} {α : Type} {f : W × Store → W × Store → W × Store → Res α} {R : V → V → V → Hp → Prop} (r : EnvR X.K G ix σ env) (g : Good X.K G ix S H)
    (e : ((ev gl cf a env S).bind fun x => (ev gl cf b env x.2).bind fun y => (ev gl cf c env y.2).bind (f x y)) = .exc k S') (hf : ∀ x y z, (f x y z).NX) (q : PostX X.K G ix H k S' (WE (Wof X) σ)) : ta σ H fun v H1 => tb σ H1 fun u H2 => tc σ H2 fun w H3 => R v u w H3 := by
  rcases exc2 e with e1 | ⟨x, e1, e2⟩
  · exact xa σ H env G ix S k S' _ r g e1 q
  · exact ma.data r g (show ev gl cf a env S = .ok (x.1, x.2) from e1) fun v G1 ix1 H1 s1 g1 r1 => semX2 mb xb xc (r.stp s1) g1 e2 (hf x) (q.from s1)
theorem snd_setix (C : Ctx nm gl cf X) {o i v : Expr} {co ci c : E} {p pos : Pos} (oi : ord i = true) (ov : ord v = true) (nl : isLc v = false) (ho : SndE gl cf X o co) (hi : SndE gl cf X i ci) (hv : SndE gl cf X v c) : SndS gl cf X (.Assign [.Subscript o i p] v pos) (.setix co ci c) := by
  obtain ⟨tv, pv, _, mv, xv⟩ := hv
  obtain ⟨to, po, _, mo, xo⟩ := ho
  obtain ⟨ti, pi, _, mi, xi⟩ := hi
  have ha : ∀ u, assign (.Subscript o i p) X.env u = (do
      let ov ← holding [u] (eval o X.env)
      let iv ← holding [u, ov] (eval i X.env)
      standAt p
      holding [u, ov, iv] (setItem ov iv u)
      release [u, ov, iv] []) := fun u => by
    cases i <;> first | rfl | cases oi
  have hs : swapsWithSole [.Subscript o i p] v pos.line X.env = pure false := by
    show swapsWith v (some (.Subscript o i p)) pos.line X.env = pure false
    exact ord_swap ov nl _ _
  have hw : swappedStores [.Subscript o i p] v X.env = pure none := by
    cases v <;> rfl
  refine sndS_of (ps_asg pv (pg_sub po pi set_list ha) hs hw rfl) (fun σ H env G ix S r S' D re g e q => ?_) fun σ H env G ix S k S' D re g e q => by
    simp only [ex] at e
    exact semX3 mv mo xv xo xi re g e (fun x y z => by
      split
      · split
        · split <;> first | exact nx_ok | exact nx_err
        · exact nx_err
      · exact nx_err) q
  simp only [ex] at e
  obtain ⟨x, e1, e⟩ := ok2 e
  obtain ⟨⟨y1, y2⟩, e2, e⟩ := ok2 e
  obtain ⟨⟨z1, z2⟩, e3, e⟩ := ok2 e
  simp only at e
  split at e
  · rename_i n k _he
    split at e
    · rename_i xs ex'
      split at e
      · rename_i j ej
        cases e
        refine mv.data re g (show ev gl cf c env S = .ok (x.1, x.2) from e1) fun v G1 ix1 H1 s1 g1 r1 => ?_
        refine mo σ H1 env G1 ix1 x.2 _ y2 _ (re.stp s1) g1 e2 fun u G2 ix2 H2 s2 g2 r2 => ?_
        refine mi σ H2 env G2 ix2 y2 _ z2 _ (re.stp (s1.trans s2)) g2 e3 fun u' G3 ix3 H3 s3 g3 r3 => ?_
        cases (show Rp X.K G3 ix3 u' (.int k) from r3)
        cases (show Rp X.K G2 ix2 u (.obj n) from r2) with
        | @obj a _ hn =>
          have hn3 := s3.i _ _ hn
          obtain ⟨a', vs, f1, f2, f3, f4⟩ := g3.cell n xs ex'
          rw [hn3] at f1; cases f1
          refine ⟨a, vs, k, j, rfl, rfl, f2, by rw [f4.length]; exact ej, ?_⟩
          have s := s1.trans (s2.trans s3)
          exact q σ G3 ix3 _ (s.trans (Stp.upd g3 hn3)) (g3.upd hn3 ex' (f4.set (r1.mono (s2.trans s3).g (s2.trans s3).i _ _) j)) (re.stp s)
      · cases e
    · cases e
  · cases e
theorem snd_ex {v : Expr} {c : E} {pos : Pos} (ov : ord v = true) (nl : isLc v = false) (hv : SndE gl cf X v c) : SndS gl cf X (.Expr v pos) (.ex c) := by
  obtain ⟨t, pe, _, m, mx⟩ := hv
  refine sndS_of (ps_expr pe (ord_swap ov nl _ _)) (fun σ H env G ix S r S' D re g e q => ?_) fun σ H env G ix S k S' D re g e q => by
    simp only [ex] at e
    exact semX1 mx re g e (fun _ => nx_ok) q
  simp only [ex] at e
  obtain ⟨y, e1, e⟩ := ok2 e
  cases e
  exact m.data re g (show ev gl cf c env S = .ok (y.1, y.2) from e1) fun v G' ix' H' s g' rv => q σ G' ix' H' s g' (re.stp s)
theorem snd_ret {v : Expr} {c : E} {pos : Pos} (hv : SndE gl cf X v c) : SndS gl cf X (.Return (some v) pos) (.ret c) := by
  obtain ⟨t, pe, _, m, mx⟩ := hv
  refine sndS_of (ps_ret pe) (fun σ H env G ix S r S' D re g e q => ?_) fun σ H env G ix S k S' D re g e q => by
    simp only [ex] at e
    exact semX1 mx re g e (fun _ => nx_ok) q
  simp only [ex] at e
  obtain ⟨y, e1, e⟩ := ok2 e
  cases e
  exact m σ H env G ix S y.1 y.2 _ re g e1 q
theorem snd_ifs {t : Expr} {a b : List Stmt} {c : E} {ca cb : Ss} {pos : Pos} (ht : SndT gl cf X t c) (ha : SndSs gl cf X a ca) (hb : SndSs gl cf X b cb) : SndS gl cf X (.If t a b pos) (.ife c ca cb) := by
  obtain ⟨tt, pt, mt, yt⟩ := ht
  obtain ⟨ta, pa, ma, xa⟩ := ha
  obtain ⟨tb, pb, mb, xb⟩ := hb
  refine ⟨_, ps_if pt pa pb, fun σ H env G ix S r S' D re g e q => ?_, fun σ H env G ix S k S' D re g e q => ?x, fun z => by cases z⟩
  case x =>
    simp only [ex] at e
    rcases exc2 e with e1 | ⟨⟨x1, x2⟩, e1, e2⟩
    · exact yt σ H env G ix S k S' _ re g e1 (q σ)
    rcases exc2 e2 with e3 | ⟨b, e3, e4⟩
    · exact absurd e3 (nx_toB k S')
    cases toB_ok e3
    refine mt σ H env G ix S b x2 _ re g e1 fun G1 ix1 H1 s1 g1 => ?_
    cases b with
    | true =>
      simp only [if_true] at e4 ⊢
      exact xa σ H1 env G1 ix1 x2 k S' D (re.stp s1) g1 e4 fun σ' => (q σ').from s1
    | false =>
      simp only [Bool.false_eq_true, if_false] at e4 ⊢
      exact xb σ H1 env G1 ix1 x2 k S' D (re.stp s1) g1 e4 fun σ' => (q σ').from s1
  simp only [ex] at e
  obtain ⟨⟨x1, x2⟩, e1, e⟩ := ok2 e
  obtain ⟨k, e2, e⟩ := ok2 e
  cases toB_ok e2
  refine mt σ H env G ix S k x2 _ re g e1 fun G1 ix1 H1 s1 g1 => ?_
  cases k with
  | true =>
    simp only [if_true] at e ⊢
    exact ma σ H1 env G1 ix1 x2 r S' D (re.stp s1) g1 e (q.from s1)
  | false =>
    simp only [Bool.false_eq_true, if_false] at e ⊢
    exact mb σ H1 env G1 ix1 x2 r S' D (re.stp s1) g1 e (q.from s1)
/-- either way out of a statement -/
def PostR (X : Cx) (G : Hp) (ix : List Addr) (H : Hp) (res : Res (Fl × Store)) (D : Ends) : Prop := match res with
  | .ok r => PostS X.K G ix H r.1 r.2 D
  | .exc k S' => ∀ σ', PostX X.K G ix H k S' (WE (Wof X) σ')
  | .err => False
theorem PostR.from {G : Hp} {ix : List Addr} {H : Hp} {res : Res (Fl × Store)} {D : Ends} (q : PostR X G ix H res D) {G1 : Hp} {ix1 : List Addr} {H1 : Hp} (s : Stp G ix H G1 ix1 H1) : PostR X G1 ix1 H1 res D := by
  cases res with
  | ok r => exact PostS.from q s
  | exc k S' => exact fun σ' => (q σ').from s
  | err => exact q
theorem semR {c : Ss} {t : TS} (m : SemSs gl cf X.K c t) (x : SemXSs gl cf X c t) {σ : L2.St} {H : Hp} {env : Env} {G : Hp} {ix : List Addr} {S : Store} {D : Ends} (r : EnvR X.K G ix σ env) (g : Good X.K G ix S H) (q : PostR X G ix H (exs gl cf c env S) D) : t D σ H := by
  cases e : exs gl cf c env S with
  | ok z => rw [e] at q; exact m σ H env G ix S z.1 z.2 D r g e q
  | exc k S' => rw [e] at q; exact x σ H env G ix S k S' D r g e q
  | err => rw [e] at q; exact q.elim
theorem for_sem {tg : Tg} {body : Ss} {gt : TG} {tb : TS} (mg : SemG X.K tg gt) (mb : SemSs gl cf X.K body tb) (xb : SemXSs gl cf X body tb) {J : It} {ds : List D} {a b : D} {S0 : Store} {G1 : Hp} {ix1 : List Addr} {H1 : Hp} (w1 : Wlk X.K G1 ix1 S0 a b J ds) {res : Res (Fl × Store)} {D : Ends} (q : PostR X G1 ix1 H1 res D)
    {i : Nat} {σ2 : L2.St} {H2 : Hp} {G2 : Hp} {ix2 : List Addr} {S2 : Store} {env2 : Env} (hi2 : i ≤ ds.length) (s2 : Stp G1 ix1 H1 G2 ix2 H2) (g2 : Good X.K G2 ix2 S2 H2) (r2 : EnvR X.K G2 ix2 σ2 env2) (k1 : kept a S0 S2 = true) (k2 : kept b S0 S2 = true)
    (e4 : loopF (fun S' => kept a S0 S' && kept b S0 S') (fun d env' S' => (setTg tg d env').bind fun env2 => exs gl cf body env2 S') (ds.drop i) env2 S2 = res) {P : L2.St → Hp → Prop}
    (hP : ∀ σ3 H3 G3 ix3 S3 env3, i < ds.length → Stp G1 ix1 H1 G3 ix3 H3 → Good X.K G3 ix3 S3 H3 → EnvR X.K G3 ix3 σ3 env3 → kept a S0 S3 = true → kept b S0 S3 = true → loopF (fun S' => kept a S0 S' && kept b S0 S') (fun d env' S' => (setTg tg d env').bind fun env2 => exs gl cf body env2 S') (ds.drop (i + 1)) env3 S3 = res → P σ3 H3) :
    (J.stop i H2 ∧ D.nx σ2 H2) ∨ (J.go i H2 ∧ ∀ v H3, J.yld i H2 v H3 → gt v σ2 H3 fun σ3 H3 => tb { nx := P, rt := D.rt, bk := D.nx, ct := P } σ3 H3) := by
  by_cases hlt : i < ds.length
  · refine .inr ⟨w1.go i G2 ix2 S2 H2 s2.g s2.i g2 k1 k2 hlt, fun v H3 hy => ?_⟩
    obtain ⟨G3, d, s3, g3, hd, rv⟩ := w1.yld i G2 ix2 S2 H2 v H3 s2.g s2.i g2 k1 k2 hlt hy
    have ed : ds.drop i = d :: ds.drop (i + 1) := by
      rw [List.drop_eq_getElem_cons hlt]
      congr 1
      exact (List.getElem?_eq_some_iff.mp hd).2
    rw [ed] at e4
    simp only [loopF] at e4
    cases f2 : setTg tg d env2 with
    | err =>
      rw [f2] at e4
      subst e4
      exact q.elim
    | exc k S' => exact absurd f2 (nx_setTg k S')
    | ok env3 =>
      rw [f2] at e4
      simp only [Res.bind_ok] at e4
      refine mg v d σ2 H3 env2 env3 G3 ix2 S2 _ (r2.stp s3) g3 rv f2 fun σ3 r3 _ => ?_
      refine semR mb xb r3 g3 ?_
      cases f3 : exs gl cf body env3 S2 with
      | err =>
        rw [f3] at e4
        subst e4
        exact q.elim
      | exc k S' =>
        rw [f3] at e4
        subst e4
        exact fun σ' => (q σ').from (s2.trans s3)
      | ok t =>
        obtain ⟨t1, t2⟩ := t
        rw [f3] at e4
        simp only [Res.bind_ok] at e4
        cases t1 with
        | nx env4 =>
          dsimp only [guard'] at e4
          split at e4
          · rename_i ck
            simp only [Bool.and_eq_true] at ck
            exact fun σ4 G4 ix4 H4 s4 g4 r4 => hP σ4 H4 G4 ix4 t2 env4 hlt (s2.trans (s3.trans s4)) g4 r4 ck.1 ck.2 e4
          · subst e4
            exact q.elim
        | cnt env4 =>
          dsimp only [guard'] at e4
          split at e4
          · rename_i ck
            simp only [Bool.and_eq_true] at ck
            exact fun σ4 G4 ix4 H4 s4 g4 r4 => hP σ4 H4 G4 ix4 t2 env4 hlt (s2.trans (s3.trans s4)) g4 r4 ck.1 ck.2 e4
          · subst e4
            exact q.elim
        | brk env4 =>
          subst e4
          exact fun σ4 G4 ix4 H4 s4 g4 r4 => q σ4 G4 ix4 H4 (s2.trans (s3.trans s4)) g4 r4
        | ret w =>
          subst e4
          exact PostE.from q (s2.trans s3)
  · have e' : i = ds.length := by omega
    subst e'
    rw [List.drop_length] at e4
    simp only [loopF] at e4
    subst e4
    exact .inl ⟨w1.stop G2 ix2 S2 H2 s2.g s2.i g2 k1 k2, q σ2 G2 ix2 H2 s2 g2 r2⟩
theorem snd_for (C : Ctx nm gl cf X) (hp : PassesOwn (model X.prog X.w) X.A X.env X.xe) {target iter : Expr} {xs : List Stmt} {tg : Tg} {k : Ik} {a b : E} {body : Ss} {pos : Pos} (ht : ∃ g, PG X target g ∧ SemG X.K tg g) (oi : ord iter = true) (hi : SndI gl cf X target iter k a b) (hb : SndSs gl cf X xs body) :
    SndS gl cf X (.For target iter xs [] pos) (.forr tg k a b body) := by
  obtain ⟨gt, pg, mg⟩ := ht
  obtain ⟨wi, pi, mi, xi⟩ := hi
  obtain ⟨tb, pb, mb, xb⟩ := hb
  have go : ∀ {σ : L2.St} {H : Hp} {env : Env} {G : Hp} {ix : List Addr} {S : Store} {D : Ends} {x y : W × Store} {ds : List Nl.D} {res : Res (Fl × Store)}, EnvR X.K G ix σ env → Good X.K G ix S H → ev gl cf a env S = .ok x → ev gl cf b env x.2 = .ok y → items k (pk y.2 x.1.toD) (pk y.2 y.1.toD) = .ok ds →
      loopF (fun S' => kept x.1.toD y.2 S' && kept y.1.toD y.2 S') (fun d env' S' => (setTg tg d env').bind fun env2 => exs gl cf body env2 S') ds env y.2 = res → PostR X G ix H res D → tFor wi gt tb D σ H := fun {σ H env G ix S D x y ds res} re g e1 e2 e3 e q => by
    refine mi σ H env G ix S x y ds _ re g e1 e2 e3 fun J G1 ix1 H1 s1 g1 w1 => ?_
    refine ⟨fun i m σ2 H2 => m = ds.length - i ∧ i ≤ ds.length ∧ ∃ G2 ix2 S2 env2, Stp G1 ix1 H1 G2 ix2 H2 ∧ Good X.K G2 ix2 S2 H2 ∧ EnvR X.K G2 ix2 σ2 env2 ∧ kept x.1.toD y.2 S2 = true ∧ kept y.1.toD y.2 S2 = true ∧
        loopF (fun S' => kept x.1.toD y.2 S' && kept y.1.toD y.2 S') (fun d env' S' => (setTg tg d env').bind fun env2 => exs gl cf body env2 S') (ds.drop i) env2 S2 = res,
      ⟨ds.length, rfl, Nat.zero_le _, G1, ix1, y.2, env, Stp.refl, g1, re.stp s1, kept_refl _ _, kept_refl _ _, e⟩, ?_⟩
    rintro i m σ2 H2 ⟨rfl, hi2, G2, ix2, S2, env2, s2, g2, r2, k1, k2, e4⟩
    rcases for_sem (P := fun σ3 H3 => i < ds.length ∧ ∃ G3 ix3 S3 env3, Stp G1 ix1 H1 G3 ix3 H3 ∧ Good X.K G3 ix3 S3 H3 ∧ EnvR X.K G3 ix3 σ3 env3 ∧ kept x.1.toD y.2 S3 = true ∧ kept y.1.toD y.2 S3 = true ∧
        loopF (fun S' => kept x.1.toD y.2 S' && kept y.1.toD y.2 S') (fun d env' S' => (setTg tg d env').bind fun env2 => exs gl cf body env2 S') (ds.drop (i + 1)) env3 S3 = res) mg mb xb w1 (q.from s1) hi2 s2 g2 r2 k1 k2 e4 (fun σ3 H3 G3 ix3 S3 env3 h1 h2 h3 h4 h5 h6 h7 => ⟨h1, G3, ix3, S3, env3, h2, h3, h4, h5, h6, h7⟩) with h | ⟨h1, h2⟩
    · exact .inl h
    · exact .inr ⟨h1, _, fun σ' H' h => ⟨ds.length - (i + 1), by have := h.1; omega, rfl, h.1, h.2⟩, h2⟩
  refine ⟨_, ps_for hp C.calm pi pg pb (fun x => ord_fold oi x), fun σ H env G ix S r S' D re g e q => ?_, fun σ H env G ix S k' S' D re g e q => ?_, fun z => by cases z⟩
  · simp only [ex] at e
    obtain ⟨x, e1, e⟩ := ok2 e
    obtain ⟨y, e2, e⟩ := ok2 e
    obtain ⟨ds, e3, e⟩ := ok2 e
    exact go re g e1 e2 e3 e q
  · simp only [ex] at e
    rcases exc2 e with e1 | ⟨x, e1, ea⟩
    · exact xi σ H env G ix S k' S' _ re g (.inl e1) (q σ)
    rcases exc2 ea with e2 | ⟨y, e2, eb⟩
    · exact xi σ H env G ix S k' S' _ re g (.inr ⟨x, e1, e2⟩) (q σ)
    rcases exc2 eb with e3 | ⟨ds, e3, ec⟩
    · exact absurd e3 (nx_items k' S')
    exact go re g e1 e2 e3 ec q
theorem snd_while (hp : PassesOwn (model X.prog X.w) X.A X.env X.xe) {t : Expr} {xs : List Stmt} {c : E} {body : Ss} {fuel : Nat} {pos : Pos} (ht : SndT gl cf X t c) (hb : SndSs gl cf X xs body) : SndS gl cf X (.While t xs [] pos) (.whl fuel c body) := by
  obtain ⟨tt, pt, mt, yt⟩ := ht
  obtain ⟨tb, pb, mb, xb⟩ := hb
  have go : ∀ {σ : L2.St} {H : Hp} {env : Env} {G : Hp} {ix : List Addr} {S : Store} {D : Ends} {res : Res (Fl × Store)}, EnvR X.K G ix σ env → Good X.K G ix S H → loopW (fun env' S' => (ev gl cf c env' S').bind fun x => (toB x.1).bind fun r => .ok (r, x.2)) (fun env' S' => exs gl cf body env' S') fuel env S = res → PostR X G ix H res D → tWhile tt tb D σ H := fun {σ H env G ix S D res} re g e q => by
    refine ⟨fun m σ2 H2 => ∃ G2 ix2 S2 env2, Stp G ix H G2 ix2 H2 ∧ Good X.K G2 ix2 S2 H2 ∧ EnvR X.K G2 ix2 σ2 env2 ∧
      loopW (fun env' S' => (ev gl cf c env' S').bind fun x => (toB x.1).bind fun r => .ok (r, x.2)) (fun env' S' => exs gl cf body env' S') m env2 S2 = res, ⟨fuel, G, ix, S, env, Stp.refl, g, re, e⟩, ?_⟩
    rintro m σ2 H2 ⟨G2, ix2, S2, env2, s2, g2, r2, e2⟩
    cases m with
    | zero =>
      simp only [loopW] at e2
      subst e2
      exact q.elim
    | succ n =>
      simp only [loopW] at e2
      cases f1 : ev gl cf c env2 S2 with
      | err =>
        rw [f1] at e2
        subst e2
        exact q.elim
      | exc k S' =>
        rw [f1] at e2
        simp only [Res.bind_exc] at e2
        subst e2
        exact yt σ2 H2 env2 G2 ix2 S2 k S' _ r2 g2 f1 ((q σ2).from s2)
      | ok y =>
        obtain ⟨y1, y2⟩ := y
        rw [f1] at e2
        simp only [Res.bind_ok] at e2
        cases f4 : toB y1 with
        | err =>
          rw [f4] at e2
          subst e2
          exact q.elim
        | exc k S' => exact absurd f4 (nx_toB k S')
        | ok b =>
          rw [f4] at e2
          simp only [Res.bind_ok] at e2
          cases toB_ok f4
          refine mt σ2 H2 env2 G2 ix2 S2 b y2 _ r2 g2 f1 fun G3 ix3 H3 s3 g3 => ?_
          cases b with
          | false =>
            simp only [Bool.false_eq_true, if_false] at e2 ⊢
            subst e2
            exact q σ2 G3 ix3 H3 (s2.trans s3) g3 (r2.stp s3)
          | true =>
            simp only [if_true] at e2 ⊢
            refine ⟨fun σ4 H4 => ∃ G2 ix2 S2 env2, Stp G ix H G2 ix2 H4 ∧ Good X.K G2 ix2 S2 H4 ∧ EnvR X.K G2 ix2 σ4 env2 ∧
              loopW (fun env' S' => (ev gl cf c env' S').bind fun x => (toB x.1).bind fun r => .ok (r, x.2)) (fun env' S' => exs gl cf body env' S') n env2 S2 = res, fun σ' H' h => ⟨n, Nat.lt_succ_self _, h⟩, ?_⟩
            refine semR mb xb (r2.stp s3) g3 ?_
            cases f6 : exs gl cf body env2 y2 with
            | err =>
              rw [f6] at e2
              subst e2
              exact q.elim
            | exc k S' =>
              rw [f6] at e2
              subst e2
              exact fun σ' => (q σ').from (s2.trans s3)
            | ok t =>
              obtain ⟨t1, t2⟩ := t
              rw [f6] at e2
              simp only [Res.bind_ok] at e2
              cases t1 with
              | nx env4 => exact fun σ4 G4 ix4 H4 s4 g4 r4 => ⟨G4, ix4, t2, env4, s2.trans (s3.trans s4), g4, r4, e2⟩
              | cnt env4 => exact fun σ4 G4 ix4 H4 s4 g4 r4 => ⟨G4, ix4, t2, env4, s2.trans (s3.trans s4), g4, r4, e2⟩
              | brk env4 =>
                subst e2
                exact fun σ4 G4 ix4 H4 s4 g4 r4 => q σ4 G4 ix4 H4 (s2.trans (s3.trans s4)) g4 r4
              | ret w =>
                subst e2
                exact PostE.from q (s2.trans s3)
  refine ⟨_, ps_while hp pt pb, fun σ H env G ix S r S' D re g e q => ?_, fun σ H env G ix S k S' D re g e q => ?_, fun z => by cases z⟩
  · simp only [ex] at e
    exact go re g e q
  · simp only [ex] at e
    exact go re g e q
end
end Nl

/-! Raising, catching, storing into fields and dicts; all statements. -/
namespace Nl
open PySem L2
section
variable {nm : Nms} {gl : Nat → Option D} {cf : Cf} {X : Cx}
/-- X() of a refusal's class -/
theorem pmk_none {C : Addr} {x : Str} {p pos : Pos} (q : PySem.W.excIn X.K C He.veBase "ValueError.__new__" = true) (gC : X.mg x = some (.ref C)) (kC : PySem.W.keepIn X.K (.ref C) = true) (r : Raises X (.ref C)) (hg : Gl X x) (hdb : (x == ("__debug__" : Str)) = false) : PMk X (.Call (.Name x p) [] [] pos) (fun _ H Q => Q (.ref C) none H) := fun pins s σ H Q I h =>
  wpAny_Call_Name_kw (ld_glob I hg gC (PySem.W.callWith_K0 I.kIn kC (by
    obtain ⟨bm, N, nm, qn, bs, hdct, sn, sub, ab, col, dd, k0, k1, k2, k3, k5, mN, hC, hN, hni, T⟩ := exc_obj I.kIn q
    exact wpAny_call_exc_subT PySem.F.excBase_ValueError T hC hN hni (fun h' e hm => mk_of I hm r h (I.hok.gone hm.new)) (by show 0 ≤ sizeLine; omega))) hdb)
theorem snd_raise (C : Ctx nm gl cf X) {k : Nat} {p p2 pos : Pos} (hk : k ∈ nm.xr) (hg : Gl X (Str.ofString (exName k))) (hn : okN (Str.ofString (exName k)) = true) : SndS gl cf X (.Raise (some (.Call (.Name (Str.ofString (exName k)) p) [] [] p2)) none pos) (.raise k) := by
  obtain ⟨n1, _, _⟩ := okN_ok hn
  obtain ⟨e1, e2, e3, e4⟩ := C.xc.exc k hk
  refine ⟨_, ps_raise C.calm (wof_takes X) (pmk_none e1 (C.xc.mgr k hk) e2 (raises_own e3 e4) hg n1), fun σ H env G ix S r S' D re g e q => ?_, fun σ H env G ix S k' S' D re g e q => ?_, fun z => by cases z⟩
  · simp only [ex] at e
    cases e
  · simp only [ex] at e
    cases e
    exact q σ G ix H Stp.refl g
theorem snd_setfld (C : Ctx nm gl cf X) {c f : Nat} {o v : Expr} {co e : E} {p pos : Pos} (hc : c ∈ nm.cl) (ov : ord v = true) (nl : isLc v = false) (ho : SndE gl cf X o co) (hv : SndE gl cf X v e) : SndS gl cf X (.Assign [.Attribute o (Str.ofString (fdName f)) p] v pos) (.setfld c co f e) := by
  obtain ⟨to, po, _, mo, xo⟩ := ho
  obtain ⟨tv, pv, _, mv, xv⟩ := hv
  refine sndS_of (ps_fld po pv (ord_swap ov nl _ _)) (fun σ H env G ix S r S' D re g he q => ?_) fun σ H env G ix S k S' D re g he q => by
    simp only [ex] at he
    exact semX2 mv xv xo re g he (fun x y => by
      split
      · split
        · exact nx_guard nx_ok
        · exact nx_err
      · exact nx_err) q
  simp only [ex] at he
  obtain ⟨x, e1, e2⟩ := ok2 he
  obtain ⟨⟨y1, y2⟩, e3, e4⟩ := ok2 e2
  clear he e2
  dsimp only at e4
  split at e4
  · rename_i n
    split at e4
    · rename_i c' fs hcell
      obtain ⟨hk, e5⟩ := guard_ok e4
      cases e5
      simp only [Bool.and_eq_true, decide_eq_true_eq, beq_iff_eq] at hk
      obtain ⟨rfl, hf, hl⟩ := hk
      refine mv.data re g (show ev gl cf e env S = .ok (x.1, x.2) from e1) fun v1 G1 ix1 H1 s1 g1 r1 => mo σ H1 env G1 ix1 x.2 _ _ _ (re.stp s1) g1 e3 fun u G2 ix2 H2 s2 g2 r2 => ?_
      cases (show Rp X.K G2 ix2 u (.obj n) from r2) with
      | @obj a _ hn =>
        obtain ⟨a', f1, f2, dx, us, f3, f4⟩ := g2.cel n _ hcell (by intro z; cases z)
        rw [hn] at f1; cases f1
        obtain ⟨C1, C2⟩ := C.cl c' hc
        have s := s1.trans s2
        refine ⟨a, _, dx, us, rfl, f3, C1, C2 f hf, by rw [f4.length]; omega, ?_⟩
        exact q σ G2 ix2 _ (s.trans (Stp.upd g2 hn)) (g2.updC hn hcell (by intro z; cases z) (by intro z; cases z) ⟨dx, _, rfl, putF_ok hf (r1.mono s2.g s2.i _ _) f4⟩) (re.stp s)
    · cases e4
  · cases e4
theorem snd_dput (C : Ctx nm gl cf X) {o i v : Expr} {co ci e : E} {p pos : Pos} (oi : ord i = true) (ov : ord v = true) (nl : isLc v = false) (ho : SndE gl cf X o co) (hi : SndE gl cf X i ci) (hv : SndE gl cf X v e) : SndS gl cf X (.Assign [.Subscript o i p] v pos) (.dput co ci e) := by
  obtain ⟨to, po, _, mo, xo⟩ := ho
  obtain ⟨ti, pi, _, mi, xi⟩ := hi
  obtain ⟨tv, pv, _, mv, xv⟩ := hv
  have hu : X.A.units + 1 < cLine := by have := C.hu; omega
  refine sndS_of (ps_dput hu po pi pv (ord_swap ov nl _ _)) (fun σ H env G ix S r S' D re g he q => ?_) fun σ H env G ix S k S' D re g he q => by
    simp only [ex] at he
    exact semX3 mv mo xv xo xi re g he (fun x y z => by
      split
      · split <;> first | exact nx_ok | exact nx_err
      · exact nx_err) q
  simp only [ex] at he
  obtain ⟨x, e1, e2⟩ := ok2 he
  obtain ⟨⟨y1, y2⟩, e3, e4⟩ := ok2 e2
  obtain ⟨z, e5, e6⟩ := ok2 e4
  clear he e2 e4
  dsimp only at e6 e5
  split at e6
  · rename_i n
    split at e6
    · rename_i c' hcell
      cases e6
      obtain ⟨c, h1, h2⟩ := Option.bind_eq_some_iff.mp hcell
      refine mv.data re g (show ev gl cf e env S = .ok (x.1, x.2) from e1) fun v1 G1 ix1 H1 s1 g1 r1 => mo σ H1 env G1 ix1 x.2 _ _ _ (re.stp s1) g1 e3 fun u G2 ix2 H2 s2 g2 r2 => mi.data (re.stp (s1.trans s2)) g2 (show ev gl cf ci env y2 = .ok (z.1, z.2) from e5) fun w G3 ix3 H3 s3 g3 r3 => ?_
      cases (show Rp X.K G2 ix2 u (.obj n) from r2) with
      | @obj a _ hn =>
        have hn3 := s3.i _ _ hn
        have s := s1.trans (s2.trans s3)
        obtain ⟨o', d1, d2⟩ := dPut_ok g3 hn3 h1 r3 (r1.mono (s2.trans s3).g (s2.trans s3).i _ _) h2
        exact ⟨a, _, rfl, d1, q σ G3 ix3 _ (s.trans (Stp.upd g3 hn3)) d2 (re.stp s)⟩
    · cases e6
  · cases e6
theorem snd_nput (C : Ctx nm gl cf X) {o i v : Expr} {co ci e : E} {p pos : Pos} (oi : ord i = true) (ov : ord v = true) (nl : isLc v = false) (ho : SndE gl cf X o co) (hi : SndE gl cf X i ci) (hv : SndE gl cf X v e) : SndS gl cf X (.Assign [.Subscript o i p] v pos) (.nput co ci e) := by
  obtain ⟨to, po, _, mo, xo⟩ := ho
  obtain ⟨ti, pi, _, mi, xi⟩ := hi
  obtain ⟨tv, pv, _, mv, xv⟩ := hv
  have hu : X.A.units + 1 < cLine := by have := C.hu; omega
  refine sndS_of (ps_nput hu po pi pv (ord_swap ov nl _ _)) (fun σ H env G ix S r S' D re g he q => ?_) fun σ H env G ix S k S' D re g he q => by
    simp only [ex] at he
    exact semX3 mv mo xv xo xi re g he (fun x y z => by
      split
      · split <;> first | exact nx_ok | exact nx_err
      · exact nx_err) q
  simp only [ex] at he
  obtain ⟨x, e1, e2⟩ := ok2 he
  obtain ⟨⟨y1, y2⟩, e3, e4⟩ := ok2 e2
  obtain ⟨z, e5, e6⟩ := ok2 e4
  clear he e2 e4
  dsimp only at e6 e5
  split at e6
  · rename_i n
    split at e6
    · rename_i c' hcell
      cases e6
      obtain ⟨c, h1, h2⟩ := Option.bind_eq_some_iff.mp hcell
      refine mv.data re g (show ev gl cf e env S = .ok (x.1, x.2) from e1) fun v1 G1 ix1 H1 s1 g1 r1 => mo σ H1 env G1 ix1 x.2 _ _ _ (re.stp s1) g1 e3 fun u G2 ix2 H2 s2 g2 r2 => mi.data (re.stp (s1.trans s2)) g2 (show ev gl cf ci env y2 = .ok (z.1, z.2) from e5) fun w G3 ix3 H3 s3 g3 r3 => ?_
      cases (show Rp X.K G2 ix2 u (.obj n) from r2) with
      | @obj a _ hn =>
        have hn3 := s3.i _ _ hn
        have s := s1.trans (s2.trans s3)
        have rv := r1.mono (s2.trans s3).g (s2.trans s3).i _ _
        unfold nPut at h2
        split at h2
        · rename_i kvs
          obtain ⟨a', f1, f2, xs, f3, f4⟩ := g3.cel n _ h1 (by intro z; cases z)
          rw [hn3] at f1; cases f1
          split at h2
          · rename_i ds hds
            split at h2
            · rename_i hlen
              simp only [Option.map_eq_some_iff] at h2
              obtain ⟨qk, k1, rfl⟩ := h2
              rw [hds] at r3
              cases r3 with
              | @tup b vs _ gb rs =>
                have vsq := nks_v rs k1
                rw [vsq] at gb
                have hxl : xs.length = kvs.length := Paired.length f4
                refine ⟨a, b, xs, qk, rfl, rfl, f3, nrs_keys g3.le f4, g3.le _ _ gb, by rw [hxl]; exact Nat.le_of_lt hlen, fun r hr => ?_⟩
                exact q σ G3 ix3 _ (s.trans (Stp.upd g3 hn3)) (g3.updC hn3 h1 (by intro z; cases z) (by intro z; cases z) ⟨_, rfl, nrs_put gb hr rv f4⟩) (re.stp s)
            · cases h2
          · cases h2
        · cases h2
    · cases e6
  · cases e6
/-- where a def's statements run -/
structure CtxS (nm : Nms) (gl : Nat → Option D) (cf : Cf) (X : Cx) : Prop extends Ctx nm gl cf X where
  fnT : ∀ x, X.fn x = true
  pass : PassesOwn (model X.prog X.w) X.A X.env X.xe
  stk : X.stack = X.env :: X.outer
  frm : X.env.frame = some X.env.locals
  exn : X.ex = []
theorem CtxS.loc (C : CtxS nm gl cf X) : ∀ x, Nl.loc X.env.scope x = true → Loc X.env.scope x ∧ (X.fn x = true ∨ X.env.scope.names.lookup x = some .local) := fun x h => ⟨loc_ok h, .inl (C.fnT x)⟩
theorem CtxS.tr (C : CtxS nm gl cf X) {pn : List (Addr × Obj)} {xe : Value → Shared → Prop} (hp : PassesOwn (model X.prog X.w) X.A X.env xe) : CtxS nm gl cf (X.tr pn xe) := ⟨⟨C.nd, C.calm, C.hu, C.bi, C.fn, C.mt, C.mkr, C.cl, C.xc, C.gl, C.gd⟩, C.fnT, hp, C.stk, C.frm, C.exn⟩
/-- the reading of a try's body, whatever the wish -/
def tSx (gl : Nat → Option D) (cf : Cf) (K : PySem.W.Frag) (s : S) (W : WX) : TS := fun D σ H => ∃ env G ix S, EnvR K G ix σ env ∧ Good K G ix S H ∧ ((∃ r S', ex gl cf s env S = .ok (r, S') ∧ PostS K G ix H r S' D) ∨ ∃ k S', ex gl cf s env S = .exc k S' ∧ PostX K G ix H k S' (WE W σ))
theorem pss_body {s : S} {st : Stmt} (hs : simpS s = true) {W : WX} (tk : Takes X W) (h : SndS gl cf X st s) : PSs X [st] (tSx gl cf X.K s W) := by
  obtain ⟨t, p, m, x, x1⟩ := h
  exact ⟨fun pins z σ H D I hh => (pss_one p).run pins z σ H D I (by
    obtain ⟨env, G, ix, S, r, g, ⟨r1, S', e, q⟩ | ⟨k, S', e, q⟩⟩ := hh
    · exact m σ H env G ix S r1 S' D r g e q
    · exact x1 hs σ H env G ix S k S' D r g e fun G' ix' H' s' g' => wof_of tk (q G' ix' H' s' g'))⟩
theorem names_of (C : Ctx nm gl cf X) {c : Nat} (hc : c ∈ nm.xc) (hg : Gl X (Str.ofString (exName c))) (hn : okN (Str.ofString (exName c)) = true) : Names X (Str.ofString (exName c)) (.ref (clsA X.K (exName c))) := ⟨hg, (okN_ok hn).1, .inl (C.xc.mg c hc)⟩
theorem env_keep {α : Type} (env : List α) (i j : Nat) (x y z : α) (h : i ≠ j) : ((env.set i x).set j y).set i z = (env.set i z).set j y := by
  rw [List.set_comm _ _ h, List.set_set, List.set_comm _ _ (Ne.symm h)]
theorem snd_triA (C : CtxS nm gl cf X) {al : List Nat} {s : S} {c i j : Nat} {b : Stmt} {n y : Str} {np py pz pa pos pos' : Pos} (hal : ∀ k ∈ al, k ∈ nm.xr) (hc : c ∈ nm.xc) (hg : Gl X (Str.ofString (exName c))) (hn : okN (Str.ofString (exName c)) = true) (hi : X.N[i]? = some n) (hj : X.N[j]? = some y) (hij : i ≠ j) (hln : X.env.scope.names.lookup n = some .local) (hly : Nl.loc X.env.scope y = true) (hn2 : okN n = true) (hs : simpS s = true)
    (hb : ∀ (pn : List (Addr × Obj)) (xe : Value → Shared → Prop), PassesOwn (model X.prog X.w) X.A X.env xe → SndS gl cf (X.tr pn xe) b s) : SndS gl cf X (.Try [b] [.ExceptHandler (some (.Name (Str.ofString (exName c)) np)) (some n) [.Assign [.Name y py] (.Name n pz) pa] pos'] [] [] pos) (.triA al s c i j) := by
  obtain ⟨m1, m2, _⟩ := okN_ok hn2
  have p := ps_try_keep (X := X) (i := i) (j := j) (np := np) (py := py) (pz := pz) (pa := pa) (pos := pos) (pos' := pos') (body := [b]) (tb := tSx gl cf X.K s) (Wout := Wof X) C.stk C.frm C.exn C.nd hi hj hln (loc_ok hly) C.fnT m1 m2 (List.getElem?_eq_some_iff.mp hi).1 (names_of C.toCtx hc hg hn) (wof_takes X) (fun W pn xe tk hp => pss_body hs tk (hb pn xe hp))
  refine ⟨_, p, fun σ H env G ix S r S' D re g e q => ?_, fun σ H env G ix S k S' D re g e q => ?_, fun z => by cases z⟩
  · simp only [ex] at e
    refine ⟨env, G, ix, S, re, g, ?_⟩
    cases e1 : ex gl cf s env S with
    | ok z => rw [e1] at e; cases e; exact .inl ⟨r, S', rfl, q⟩
    | err => rw [e1] at e; cases e
    | exc k S1 =>
      rw [e1] at e
      obtain ⟨hk, e2⟩ := guard_ok e
      have hk : k ∈ nm.xr := hal k (by simpa using hk)
      split at e2
      · rename_i hsub
        cases e2
        refine .inr ⟨k, _, rfl, fun G' ix' H' s' g' => ⟨true, by rw [C.xc.exm k hk c hc, hsub], fun _ => ⟨rfl, fun a na => ?_⟩, fun z => by cases z⟩⟩
        have r1 : EnvR X.K (L2.upd G' a (EvO (.ref (clsA X.K (exName k))) a)) ix' σ env := (re.stp s').mono (Le.upd (g'.notG na)) (Ixs.refl _)
        have rp : Rp X.K (L2.upd G' a (EvO (.ref (clsA X.K (exName k))) a)) ix' (.ref a) (.ex k) := .ex upd_same
        have r2 := ((r1.set rp i).set rp j).none i
        rw [env_keep env i j _ _ _ hij] at r2
        exact q _ _ ix' _ (s'.trans (Stp.newG g' na)) (g'.newG na) r2
      · cases e2
  · simp only [ex] at e
    refine ⟨env, G, ix, S, re, g, ?_⟩
    cases e1 : ex gl cf s env S with
    | ok z => rw [e1] at e; cases e
    | err => rw [e1] at e; cases e
    | exc k1 S1 =>
      rw [e1] at e
      dsimp only [guard'] at e
      split at e
      · rename_i hk
        have hk : k1 ∈ nm.xr := hal k1 (by simpa using hk)
        split at e
        · cases e
        · rename_i hsub
          cases e
          refine .inr ⟨k, S', rfl, fun G' ix' H' s' g' => ⟨false, by rw [C.xc.exm k hk c hc]; simpa using hsub, fun z => (by cases z), fun _ => q σ G' ix' H' s' g'⟩⟩
      · cases e
theorem cst_pe {e : E} {v : Expr} {N : List Str} {sc : Scope} (h : cstE e = true) (hv : chk nm N e sc v = true) : ∃ w d, (∀ X : Cx, PE X v (tC w)) ∧ (∀ env S, ev gl cf e env S = .ok (.d d, S)) ∧ ∀ (K : PySem.W.Frag) (G : Hp) (ix : List Addr), Rp K G ix w d := by
  cases e <;> simp only [cstE] at h <;> first | (cases h; done) | skip
  · unfold chk at hv
    split at hv
    · exact ⟨.non, .non, fun X => pe_non, fun _ _ => rfl, fun _ _ _ => .non⟩
    · cases hv
  · rename_i b
    unfold chk at hv
    split at hv
    · cases beq_iff_eq.mp hv
      exact ⟨.bl b, .bl b, fun X => pe_bl, fun _ _ => rfl, fun _ _ _ => .bl b⟩
    · cases hv
  · rename_i i
    unfold chk at hv
    split at hv
    · cases of_decide_eq_true hv
      exact ⟨.int i, .int i, fun X => pe_int, fun _ _ => rfl, fun _ _ _ => .int i⟩
    · cases hv
  · rename_i s
    unfold chk at hv
    split at hv
    · cases of_decide_eq_true hv
      exact ⟨.str (toS s), .str s, fun X => pe_str, fun _ _ => rfl, fun _ _ _ => .str s⟩
    · cases hv
theorem snd_triC (C : CtxS nm gl cf X) {al : List Nat} {s : S} {c : Nat} {e : E} {b : Stmt} {v : Expr} {np pa pos pos' : Pos} (hal : ∀ k ∈ al, k ∈ nm.xr) (hc : c ∈ nm.xc) (hg : Gl X (Str.ofString (exName c))) (hn : okN (Str.ofString (exName c)) = true) (hs : simpS s = true) (he : cstE e = true) (hv : chk nm X.N e X.env.scope v = true)
    (hb : ∀ (pn : List (Addr × Obj)) (xe : Value → Shared → Prop), PassesOwn (model X.prog X.w) X.A X.env xe → SndS gl cf (X.tr pn xe) b s) : SndS gl cf X (.Try [b] [.ExceptHandler (some (.Name (Str.ofString (exName c)) np)) none [.Return (some v) pa] pos'] [] [] pos) (.triC al s c e) := by
  obtain ⟨w, d, pw, ew, rw'⟩ := cst_pe (gl := gl) (cf := cf) he hv
  have p := ps_try_only (X := X) (np := np) (pos := pos) (pos' := pos') (body := [b]) (b₀ := .Return (some v) pa) (suite := []) (tb := tSx gl cf X.K s) (ts := fun _ _ _ D σ H => tC w σ H D.rt) (Wout := Wof X) C.stk C.frm (names_of C.toCtx hc hg hn) (wof_takes X) (fun W pn xe tk hp => pss_body hs tk (hb pn xe hp)) (fun a oe cls d pn _ _ => pss_one (ps_ret (pw _)))
  refine ⟨_, p, fun σ H env G ix S r S' D re g e q => ?_, fun σ H env G ix S k S' D re g e q => ?_, fun z => by cases z⟩
  · simp only [ex] at e
    refine ⟨env, G, ix, S, re, g, ?_⟩
    cases e1 : ex gl cf s env S with
    | ok z => rw [e1] at e; cases e; exact .inl ⟨r, S', rfl, q⟩
    | err => rw [e1] at e; cases e
    | exc k S1 =>
      rw [e1] at e
      obtain ⟨hk, e2⟩ := guard_ok e
      have hk : k ∈ nm.xr := hal k (by simpa using hk)
      split at e2
      · rename_i hsub
        rw [ew] at e2
        cases e2
        refine .inr ⟨k, _, rfl, fun G' ix' H' s' g' => ⟨true, by rw [C.xc.exm k hk c hc, hsub], fun _ a na => ?_, fun z => by cases z⟩⟩
        exact q w G' ix' H' s' g' (rw' _ _ _)
      · cases e2
  · simp only [ex] at e
    refine ⟨env, G, ix, S, re, g, ?_⟩
    cases e1 : ex gl cf s env S with
    | ok z => rw [e1] at e; cases e
    | err => rw [e1] at e; cases e
    | exc k1 S1 =>
      rw [e1] at e
      dsimp only [guard'] at e
      split at e
      · rename_i hk
        have hk : k1 ∈ nm.xr := hal k1 (by simpa using hk)
        split at e
        · rw [ew] at e
          cases e
        · rename_i hsub
          cases e
          refine .inr ⟨k, S', rfl, fun G' ix' H' s' g' => ⟨false, by rw [C.xc.exm k hk c hc]; simpa using hsub, fun z => (by cases z), fun _ => q σ G' ix' H' s' g'⟩⟩
      · cases e
theorem tup_of {N : List Str} {sc : Scope} {is : List Nat} {t : Expr} (h : chkTg N sc (.t is) t = true) : isTupX t = true := by
  cases t <;> first | rfl | (simp [chkTg] at h)
theorem snd_triB (C : CtxS nm gl cf X) {al : List Nat} {s : S} {c i j : Nat} {ks : List Nat} {k0 : Nat} {w : List Nat} {b : Stmt} {x1 x2 x3 n y : Str} {zs : List Expr} {e0 e1 v : Expr} {kk : Nat} {np py q1 q2 q3 q4 q5 q6 q7 q8 q9 r1 r2 r3 r4 r5 pa pos pos' : Pos}
    (hal : ∀ k ∈ al, k ∈ nm.xr ∧ (isSub k k0 = true → isSub k exVE = true)) (hc : c ∈ nm.xc) (hg : Gl X (Str.ofString (exName c))) (hn : okN (Str.ofString (exName c)) = true) (hi : X.N[i]? = some n) (hj : X.N[j]? = some y) (hij : i ≠ j) (hln : X.env.scope.names.lookup n = some .local) (hly : Nl.loc X.env.scope y = true) (hn2 : okN n = true) (hy2 : okN y = true)
    (g1 : x1 = Str.ofString "isinstance" ∧ X.env.scope.names.lookup (Str.ofString "isinstance") = some .globalImplicit) (g2 : x2 = Str.ofString "isinstance" ∧ X.env.scope.names.lookup (Str.ofString "isinstance") = some .globalImplicit) (g3 : x3 = Str.ofString "isinstance" ∧ X.env.scope.names.lookup (Str.ofString "isinstance") = some .globalImplicit)
    (hkl : ks.length ≤ 100) (hzs : chkXs nm X.env.scope ks zs = true) (h0 : chkX nm X.env.scope k0 e0 = true) (h1 : chkX nm X.env.scope exVE e1 = true) (hv : chk nm X.N (.str w) X.env.scope v = true) (hs : simpS s = true)
    (hb : ∀ (pn : List (Addr × Obj)) (xe : Value → Shared → Prop), PassesOwn (model X.prog X.w) X.A X.env xe → SndS gl cf (X.tr pn xe) b s) :
    SndS gl cf X (.Try [b] [.ExceptHandler (some (.Name (Str.ofString (exName c)) np)) (some n) [.Assign [.Name y py] (.Call (.Name x1 q1) [.Name n q2, .Tuple zs kk q3] [] q4) pa, .If (.BoolOp .And [.Call (.Name x2 q5) [.Name n q6, e0] [] q7, .Call (.Name x3 q8) [.Name n q9, e1] [] r1, .UnaryOp .Not (.Name y r2) r3] r4) [.Return (some v) r5] [] pa2] pos'] [] [] pos) (.triB al s c i j ks k0 w) := by
  obtain ⟨m1, m2, _⟩ := okN_ok hn2
  obtain ⟨m3, m4, _⟩ := okN_ok hy2
  obtain ⟨rfl, g1⟩ := g1
  obtain ⟨rfl, _⟩ := g2
  obtain ⟨rfl, _⟩ := g3
  obtain ⟨wv, d, pw, ew, rw'⟩ := cst_pe (gl := gl) (cf := cf) (e := .str w) rfl hv
  obtain ⟨vs, pvs, hvs, hks, hl⟩ := clss_paS C.toCtx hzs
  obtain ⟨v0, p0, hv0, o0, hk0⟩ := cls_peS C.toCtx h0
  obtain ⟨v1, p1, hv1, o1, hk1⟩ := cls_peS C.toCtx h1
  have hvis : Loc X.env.scope n := .inl hln
  have hsu : ∀ (a : Addr) (oe : Obj) (cls : Value) (d : Option Addr) (pn : List (Addr × Obj)), Zc cls d oe → (∃ vs, oe.data = .fields vs) → PSs (X.suite a ((a, oe) :: pn)) [.Assign [.Name y py] (.Call (.Name (Str.ofString "isinstance") q1) [.Name n q2, .Tuple zs kk q3] [] q4) pa, .If (.BoolOp .And [.Call (.Name (Str.ofString "isinstance") q5) [.Name n q6, e0] [] q7, .Call (.Name (Str.ofString "isinstance") q8) [.Name n q9, e1] [] r1, .UnaryOp .Not (.Name y r2) r3] r4) [.Return (some v) r5] [] pa2] (tsB X.K i j vs v0 v1 wv a cls d) := fun a oe cls d pn z hd => by
    have hm : (a, oe) ∈ (X.suite a ((a, oe) :: pn)).pn := List.mem_cons_self
    have pn_ : ∀ q, PE (X.suite a ((a, oe) :: pn)) (.Name n q) (tVar i) := fun q => pe_var hi (.inl hln) m1 m2
    have py_ : ∀ q, PE (X.suite a ((a, oe) :: pn)) (.Name y q) (tVar j) := fun q => pe_var hj ((loc_ok hly).elim .inl fun z => .inr (.inl z)) m3 m4
    have pT : PE (X.suite a ((a, oe) :: pn)) (.Call (.Name (Str.ofString "isinstance") q1) [.Name n q2, .Tuple zs kk q3] [] q4) (tCB (rIsVTP X.K a cls d) (tCons (tVar i) (tCons (tTup (tCs vs)) tNil))) :=
      pe_callB (call_isVTP (X := X.suite a ((a, oe) :: pn)) hm z hd) g1 (C.bi _ (by decide)) boot_isi (pa_cons (pn_ q2) (pa_cons (pe_tup (pvs a _)) pa_nil rfl) rfl) (by decide +kernel) (by decide +kernel) rfl rfl
    have pU : PE (X.suite a ((a, oe) :: pn)) (.Call (.Name (Str.ofString "isinstance") q5) [.Name n q6, e0] [] q7) (tCB (rIsVP X.K a cls d) (tCons (tVar i) (tCons (tC v0) tNil))) :=
      pe_callB (call_isVP (X := X.suite a ((a, oe) :: pn)) hm z hd) g1 (C.bi _ (by decide)) boot_isi (pa_cons (pn_ q6) (pa_cons (p0 a _) pa_nil (ord_star o0 [])) rfl) (by decide +kernel) (by decide +kernel) rfl (by rw [ord_star o0]; rfl)
    have pV : PE (X.suite a ((a, oe) :: pn)) (.Call (.Name (Str.ofString "isinstance") q8) [.Name n q9, e1] [] r1) (tCB (rIsVP X.K a cls d) (tCons (tVar i) (tCons (tC v1) tNil))) :=
      pe_callB (call_isVP (X := X.suite a ((a, oe) :: pn)) hm z hd) g1 (C.bi _ (by decide)) boot_isi (pa_cons (pn_ q9) (pa_cons (p1 a _) pa_nil (ord_star o1 [])) rfl) (by decide +kernel) (by decide +kernel) rfl (by rw [ord_star o1]; rfl)
    refine pss_cons (ps_set C.nd hj (loc_ok hly) pT rfl (.inl (C.fnT y))) (pss_one (ps_if ?_ (pss_one (ps_ret (pw _))) pss_nil))
    exact (pw_and (pt_val pU) (pw_and (pt_val pV) (pw_and1 (pt_not (pt_val (py_ r2)))))).pt
  have p := ps_try_as (X := X) (i := i) (np := np) (pos := pos) (pos' := pos') (body := [b]) (tb := tSx gl cf X.K s) (ts := tsB X.K i j vs v0 v1 wv) (Wout := Wof X) C.stk C.frm C.nd hi hln (names_of C.toCtx hc hg hn) (wof_takes X) (fun W pn xe tk hp => pss_body hs tk (hb pn xe hp)) hsu
  have ev0 : ∀ env S, ev gl cf (.str w) env S = .ok (.d (.str w), S) := fun _ _ => rfl
  have hd : d = .str w := by
    have := ew [] []
    rw [ev0] at this
    cases this
    rfl
  subst hd
  refine ⟨_, p, fun σ H env G ix S r S' D re g e q => ?_, fun σ H env G ix S k S' D re g e q => ?_, fun z => by cases z⟩
  · simp only [ex] at e
    refine ⟨env, G, ix, S, re, g, ?_⟩
    cases e1 : ex gl cf s env S with
    | ok z => rw [e1] at e; cases e; exact .inl ⟨r, S', rfl, q⟩
    | err => rw [e1] at e; cases e
    | exc k S1 =>
      rw [e1] at e
      obtain ⟨hk, e2⟩ := guard_ok e
      rw [Bool.and_eq_true, Bool.and_eq_true, decide_eq_true_eq, decide_eq_true_eq] at hk
      obtain ⟨hka, hil, hjl⟩ := hk
      have hka : k ∈ al := by simpa using hka
      obtain ⟨hk, hve⟩ := hal k hka
      split at e2
      · rename_i hsub
        refine .inr ⟨k, S1, rfl, fun G' ix' H' s' g' => ⟨true, by rw [C.xc.exm k hk c hc, hsub], fun _ a na => ?_, fun z => by cases z⟩⟩
        have hli : i < σ.length := by have := re.len; omega
        have hlj : j < σ.length := by have := re.len; omega
        have l1 : ((σ.set i (some (.ref a)))[i]?) = some (some (.ref a)) := List.getElem?_set_self hli
        have kT := kit_any C.xc hk hks
        have kU := C.xc.kit k hk k0 hk0
        have kV := C.xc.kit k hk exVE hk1
        have l2 : ∀ z : V, (((σ.set i (some (.ref a))).set j (some z))[i]?) = some (some (.ref a)) := fun z => by rw [List.getElem?_set_ne (Ne.symm hij)]; exact l1
        have hljj : ∀ z : V, (((σ.set i (some (.ref a))).set j (some z))[j]?) = some (some z) := fun z => List.getElem?_set_self (by rw [List.length_set]; exact hlj)
        show ∃ v, _ ∧ _
        refine ⟨.ref a, l1, ?_⟩
        refine ⟨by rw [hl]; exact Nat.le_trans hkl (by decide), fun tp htp => ?_⟩
        refine ⟨clsA X.K (exName k), tp, vs, ks.map (exV X.K), ks.any fun c => isSub k c, rfl, rfl, rfl, upd_same, C.xc.is k hk, hvs, kT, ?_⟩
        have s2 := s'.trans (Stp.lay (o := .tup vs) htp)
        have g2 := g'.lay (o := .tup vs) htp
        show ∃ v, _ ∧ _
        refine ⟨.ref a, l2 _, clsA X.K (exName k), v0, exV X.K k0, isSub k k0, rfl, rfl, rfl, C.xc.is k hk, hv0, kU, isSub k k0, rfl, ?_⟩
        generalize (ks.any fun c => isSub k c) = y at e2
        have ry : Rp X.K G' ix' (.bl y) (.bl y) := .bl y
        have eσ : (((σ.set i (some (.ref a))).set j (some (.bl y))).set i none) = (σ.set j (some (.bl y))).set i none := by
          rw [List.set_comm _ _ hij, List.set_set]
        have nxt : (isSub k k0 && !y) = false → D.nx (((σ.set i (some (.ref a))).set j (some (.bl y))).set i none) (L2.upd H' tp (.tup vs)) := fun hf => by
          rw [hf] at e2
          cases e2
          rw [eσ]
          have r1 := ((re.stp s2).set ry j).none i
          have eE : (env.set i none).set j (some (Nl.D.bl y)) = (env.set j (some (Nl.D.bl y))).set i none := List.set_comm _ _ hij
          rw [← eE] at r1
          exact q _ G' ix' _ s2 g2 r1
        have ret : (isSub k k0 && !y) = true → D.rt wv (L2.upd H' tp (.tup vs)) := fun ht => by
          rw [ht] at e2
          cases e2
          exact q wv G' ix' _ s2 g2 (rw' _ _ _)
        cases hb0 : isSub k k0 with
        | false => exact nxt (by rw [hb0]; rfl)
        | true =>
          show ∃ v, _ ∧ _
          refine ⟨.ref a, l2 _, clsA X.K (exName k), v1, exV X.K exVE, isSub k exVE, rfl, rfl, rfl, C.xc.is k hk, hv1, kV, isSub k exVE, rfl, ?_⟩
          rw [hve hb0]
          show ∃ v, _ ∧ _
          refine ⟨.bl y, hljj _, y, rfl, ?_⟩
          cases y with
          | true => exact nxt (by rw [hb0]; rfl)
          | false => exact ret (by rw [hb0]; rfl)
      · cases e2
  · simp only [ex] at e
    refine ⟨env, G, ix, S, re, g, ?_⟩
    cases e1 : ex gl cf s env S with
    | ok z => rw [e1] at e; cases e
    | err => rw [e1] at e; cases e
    | exc k1 S1 =>
      rw [e1] at e
      dsimp only [guard'] at e
      split at e
      · rename_i hk
        rw [Bool.and_eq_true] at hk
        have hk : k1 ∈ nm.xr := (hal k1 (by simpa using hk.1)).1
        split at e
        · split at e <;> cases e
        · rename_i hsub
          cases e
          refine .inr ⟨k, S', rfl, fun G' ix' H' s' g' => ⟨false, by rw [C.xc.exm k hk c hc]; simpa using hsub, fun z => (by cases z), fun _ => q σ G' ix' H' s' g'⟩⟩
      · cases e
mutual
theorem all_S : ∀ (c : S) (X : Cx), CtxS nm gl cf X → ∀ (st : Stmt), chkS nm X.N X.env.scope c st = true → SndS gl cf X st c
  | .asg tg e, X, C, st, h => by
    unfold chkS at h
    split at h
    · split at h
      · simp only [Bool.and_eq_true, decide_eq_true_eq] at h
        exact snd_asgN C.toCtx C.fnT h.1 (loc_ok h.2.1) (all_E e X _ C.toCtx h.2.2).v
      · simp only [Bool.and_eq_true, Bool.not_eq_true'] at h
        obtain ⟨h1, h2, h4⟩ := h
        exact snd_asgT C.toCtx (snd_tg (nm := nm) (gl := gl) (cf := cf) C.toCtx C.loc h1) (tup_of h1) (chk_ord _ _ _ h4) h2 (all_E e X _ C.toCtx h4).v
      · cases h
    · cases h
  | .asgTT iss e, X, C, st, h => by
    unfold chkS at h
    split at h
    · simp only [Bool.and_eq_true, Bool.not_eq_true'] at h
      obtain ⟨h1, h2, h4⟩ := h
      exact snd_asgTT C.toCtx (snd_tgT (nm := nm) (gl := gl) (cf := cf) C.toCtx C.loc h1) rfl (chk_ord _ _ _ h4) h2 (all_E e X _ C.toCtx h4).v
    · cases h
  | .setix o i e, X, C, st, h => by
    unfold chkS at h
    split at h
    · simp only [Bool.and_eq_true, Bool.not_eq_true'] at h
      obtain ⟨h1, h2, h3, h4⟩ := h
      exact snd_setix C.toCtx (chk_ord _ _ _ h2) (chk_ord _ _ _ h4) h3 (all_E o X _ C.toCtx h1).v (all_E i X _ C.toCtx h2).v (all_E e X _ C.toCtx h4).v
    · cases h
  | .ex e, X, C, st, h => by
    unfold chkS at h
    split at h
    · simp only [Bool.and_eq_true, Bool.not_eq_true'] at h
      exact snd_ex (chk_ord _ _ _ h.2) h.1 (all_E e X _ C.toCtx h.2).v
    · cases h
  | .ret e, X, C, st, h => by
    unfold chkS at h
    split at h
    · exact snd_ret (all_E e X _ C.toCtx h).v
    · cases h
  | .retN, X, C, st, h => by
    unfold chkS at h
    split at h
    · exact sndS_of ps_retN (fun σ H env G ix S r S' D re g e q => by
        simp only [ex] at e
        cases e
        exact q.same g .non) fun σ H env G ix S k S' D re g e q => by
        simp only [ex] at e
        cases e
    · cases h
  | .ife c a b, X, C, st, h => by
    unfold chkS at h
    split at h
    · simp only [Bool.and_eq_true] at h
      obtain ⟨h1, h2, h3, h4⟩ := h
      exact snd_ifs ((all_E c X _ C.toCtx h2).t h1) (all_Ss a X C _ h3) (all_Ss b X C _ h4)
    · cases h
  | .forr tg k a b body, X, C, st, h => by
    unfold chkS at h
    split at h
    · rw [Bool.and_eq_true, Bool.and_eq_true] at h
      obtain ⟨h1, h2, h3⟩ := h
      exact snd_for C.toCtx C.pass (snd_tg (nm := nm) (gl := gl) (cf := cf) C.toCtx C.loc h1) (ord_it h2) (snd_it C.toCtx (fun e he => all_E a X e C.toCtx he) (fun e he => all_E b X e C.toCtx he) h2) (all_Ss body X C _ h3)
    · cases h
  | .whl fuel c body, X, C, st, h => by
    unfold chkS at h
    split at h
    · simp only [Bool.and_eq_true] at h
      obtain ⟨h1, h2, h3⟩ := h
      exact snd_while C.pass ((all_E c X _ C.toCtx h2).t h1) (all_Ss body X C _ h3)
    · cases h
  | .pass, X, C, st, h => by
    unfold chkS at h
    split at h
    · exact sndS_of ps_pass (fun σ H env G ix S r S' D re g e q => by
        simp only [ex] at e
        cases e
        exact q σ G ix H Stp.refl g re) fun σ H env G ix S k S' D re g e q => by
        simp only [ex] at e
        cases e
    · cases h
  | .brk, X, C, st, h => by
    unfold chkS at h
    split at h
    · exact sndS_of ps_break (fun σ H env G ix S r S' D re g e q => by
        simp only [ex] at e
        cases e
        exact q σ G ix H Stp.refl g re) fun σ H env G ix S k S' D re g e q => by
        simp only [ex] at e
        cases e
    · cases h
  | .cnt, X, C, st, h => by
    unfold chkS at h
    split at h
    · exact sndS_of ps_continue (fun σ H env G ix S r S' D re g e q => by
        simp only [ex] at e
        cases e
        exact q σ G ix H Stp.refl g re) fun σ H env G ix S k S' D re g e q => by
        simp only [ex] at e
        cases e
    · cases h
  | .raise k, X, C, st, h => by
    unfold chkS at h
    split at h
    · simp only [Bool.and_eq_true, decide_eq_true_eq, List.contains_iff_mem] at h
      obtain ⟨rfl, h1, h2, h3⟩ := h
      exact snd_raise C.toCtx h1 (glb_ok h2) h3
    · cases h
  | .setfld c o f e, X, C, st, h => by
    unfold chkS at h
    split at h
    · simp only [Bool.and_eq_true, decide_eq_true_eq, List.contains_iff_mem, Bool.not_eq_true'] at h
      obtain ⟨rfl, h1, h2, h3, h4⟩ := h
      exact snd_setfld C.toCtx h1 (chk_ord _ _ _ h4) h3 (all_E o X _ C.toCtx h2).v (all_E e X _ C.toCtx h4).v
    · cases h
  | .dput d k e, X, C, st, h => by
    unfold chkS at h
    split at h
    · simp only [Bool.and_eq_true, Bool.not_eq_true'] at h
      obtain ⟨h1, h2, h3, h4⟩ := h
      exact snd_dput C.toCtx (chk_ord _ _ _ h2) (chk_ord _ _ _ h4) h3 (all_E d X _ C.toCtx h1).v (all_E k X _ C.toCtx h2).v (all_E e X _ C.toCtx h4).v
    · cases h
  | .nput d k e, X, C, st, h => by
    unfold chkS at h
    split at h
    · simp only [Bool.and_eq_true, Bool.not_eq_true'] at h
      obtain ⟨h1, h2, h3, h4⟩ := h
      exact snd_nput C.toCtx (chk_ord _ _ _ h2) (chk_ord _ _ _ h4) h3 (all_E d X _ C.toCtx h1).v (all_E k X _ C.toCtx h2).v (all_E e X _ C.toCtx h4).v
    · cases h
  | .triA al s c i j, X, C, st, h => by
    unfold chkS at h
    split at h
    · simp only [Bool.and_eq_true, decide_eq_true_eq, List.contains_iff_mem] at h
      obtain ⟨h0, rfl, h1, h2, h3, h4, h5, rfl, h6, h7, h8, h9, h10, h11⟩ := h
      exact snd_triA C (fun k hk => by simpa using List.all_eq_true.mp h0 k hk) h1 (glb_ok h2) h3 h4 h5 h6 h7 h8 h9 h10 (fun pn xe hp => all_S s (X.tr pn xe) (C.tr hp) _ h11)
    · cases h
  | .triC al s c e, X, C, st, h => by
    unfold chkS at h
    split at h
    · simp only [Bool.and_eq_true, decide_eq_true_eq, List.contains_iff_mem] at h
      obtain ⟨h0, rfl, h1, h2, h3, h4, h5, h6, h7⟩ := h
      exact snd_triC C (fun k hk => by simpa using List.all_eq_true.mp h0 k hk) h1 (glb_ok h2) h3 h6 h4 h5 (fun pn xe hp => all_S s (X.tr pn xe) (C.tr hp) _ h7)
    · cases h
  | .triB al s c i j ks k0 w, X, C, st, h => by
    unfold chkS at h
    split at h
    · simp only [Bool.and_eq_true, decide_eq_true_eq, List.contains_iff_mem] at h
      obtain ⟨h0, rfl, h1, h2, h3, h4, h5, rfl, rfl, rfl, rfl, h6, h7, h8, h9, h10, g1, g2, g3, g4, g5, g6, g7, g8, h11, h12⟩ := h
      rw [List.all_eq_true] at h0
      have h0' : ∀ k ∈ al, k ∈ nm.xr ∧ (isSub k k0 = true → isSub k exVE = true) := fun k hk => by
        have := h0 k hk
        simp only [Bool.and_eq_true, List.contains_iff_mem, Bool.or_eq_true, Bool.not_eq_true'] at this
        refine ⟨this.1, fun hh => ?_⟩
        rcases this.2 with z | z
        · rw [hh] at z; cases z
        · exact z
      exact snd_triB C h0' h1 (glb_ok h2) h3 h4 h5 h6 h7 h8 h9 h10 (isB_ok g1) (isB_ok g2) (isB_ok g3) g4 g5 g6 g7 g8 h11 (fun pn xe hp => all_S s (X.tr pn xe) (C.tr hp) _ h12)
    · cases h
theorem all_Ss : ∀ (c : Ss) (X : Cx), CtxS nm gl cf X → ∀ (sts : List Stmt), chkSs nm X.N X.env.scope c sts = true → SndSs gl cf X sts c
  | .nil, X, C, [], h => ⟨_, pss_nil, fun σ H env G ix S r S' D re g e q => (by
        simp only [exs] at e
        cases e
        exact q σ G ix H Stp.refl g re), fun σ H env G ix S k S' D re g e q => (by
        simp only [exs] at e
        cases e)⟩
  | .nil, X, C, _ :: _, h => by simp [chkSs] at h
  | .cons c cs, X, C, [], h => by simp [chkSs] at h
  | .cons c cs, X, C, st :: sts, h => by
    simp only [chkSs, Bool.and_eq_true] at h
    exact snd_seqs (all_S c X C st h.1) (all_Ss cs X C sts h.2)
end
end
end Nl

/-! Defs, a whole law. -/
namespace Nl
open PySem L2
/-- a def of the text, or a method of one of its classes -/
structure Df where
  at_ : Str × Option Str
  name : Str
  qual : Str
  params : Arguments
  body : List Stmt
  scope : Scope
def Df.dd (d : Df) : He.DefD := ⟨d.at_, d.name, d.qual, d.params, d.body, d.scope, [], []⟩
def dfsOf (s : Stmt) : List Df := match s with
  | .FunctionDef n a b _ _ _ sc _ _ _ => [⟨(n, none), n, n, a, b, sc⟩]
  | .ClassDef x _ _ b _ _ _ _ _ _ _ => b.filterMap fun t => match t with
    | .FunctionDef n a b _ _ _ sc _ _ _ => some ⟨(x, some n), n, x ++ ("." : Str) ++ n, a, b, sc⟩
    | _ => none
  | _ => []
def Fn.N (f : Fn) : List Str := f.names.map Str.ofString
def plainArgs (a : Arguments) : Bool := a.posonlyargs.isEmpty && (a.vararg.isNone && (a.kwonlyargs.isEmpty && (a.kw_defaults.isEmpty && (a.kwarg.isNone && a.defaults.isEmpty))))
theorem plainArgs_ok {a : Arguments} (h : plainArgs a = true) : a = ⟨[], a.args, none, [], [], none, []⟩ := by
  obtain ⟨p, ar, v, k, kd, kw, d⟩ := a
  simp only [plainArgs, Bool.and_eq_true, List.isEmpty_iff, Option.isNone_iff_eq_none] at h
  obtain ⟨rfl, rfl, rfl, rfl, rfl, rfl⟩ := h
  rfl
/-- this def is that text -/
def chkFn (nm : Nms) (f : Fn) (d : Df) : Bool := plainArgs d.params && (decide (d.params.args.map (·.arg) = f.N.take f.arity) && (decide (f.arity ≤ f.names.length) && (decide (d.scope.kind = .function) && (!d.scope.isCoroutine && (!d.scope.isGenerator && (decide f.N.Nodup &&
  (((f.N.take f.arity).all fun x => loc d.scope x) && ((d.scope.names.all fun y => decide (y.2 ≠ .free)) && (decide (f.init = decide (d.at_.2 = some (Str.ofString "__init__"))) && chkSs nm f.N d.scope f.body d.body)))))))))
def chkFns (nm : Nms) : List Fn → List Df → Bool
  | [], [] => true
  | f :: fs, d :: ds => chkFn nm f d && chkFns nm fs ds
  | _, _ => false
theorem chkFns_get {nm : Nms} : ∀ {fs : List Fn} {ds : List Df}, chkFns nm fs ds = true → ∀ (i : Nat) (d : Df), ds[i]? = some d → ∃ f, fs[i]? = some f ∧ chkFn nm f d = true
  | [], [], _, i, d, h => by simp at h
  | f :: fs, d0 :: ds, h, i, d, e => by
    simp only [chkFns, Bool.and_eq_true] at h
    cases i with
    | zero => simp at e; subst e; exact ⟨f, rfl, h.1⟩
    | succ i =>
      obtain ⟨g, h1, h2⟩ := chkFns_get h.2 i d (by simpa using e)
      exact ⟨g, by simpa using h1, h2⟩
  | [], _ :: _, h, _, _, _ => by simp [chkFns] at h
  | _ :: _, [], h, _, _, _ => by simp [chkFns] at h
/-- the frame of a def that touches nothing of the store -/
theorem plain_good {K : PySem.W.Frag} {G : Hp} {ix : List Addr} {S : Store} {H : Hp} (g : Good K G ix S H) : Good K G [] [] H := ⟨g.le, rfl, fun a h => by simp at h, fun n c h => by simp at h, fun n m a c d h => by simp at h⟩
theorem CellR.notup {K : PySem.W.Frag} {G : Hp} {ix : List Addr} {a : Addr} {vs : List V} : ∀ {c : Cell}, c ≠ .dead → ¬ CellR K G ix a (some (.tup vs)) c
  | .lst _, _, ⟨_, h, _⟩ => by cases h
  | .dK _, _, ⟨_, h, _⟩ => by cases h
  | .dT _, _, ⟨_, h, _⟩ => by cases h
  | .dN _, _, ⟨_, h, _⟩ => by cases h
  | .ins _ _, _, ⟨_, _, h, _⟩ => by cases h
  | .dead, h, _ => h rfl
theorem plain_back {K : PySem.W.Frag} {G : Hp} {ix : List Addr} {S : Store} {H : Hp} {G' : Hp} {ix' : List Addr} {S1 : Store} {H' : Hp} (g : Good K G ix S H) (s : Stp G [] H G' ix' H') (g' : Good K G' ix' S1 H') : Stp G ix H G' ix H' ∧ Good K G' ix S H' := by
  have kp : ∀ a o, H a = some o → H' a = some o := fun a o h => s.keep a o h (by simp)
  have nw : ∀ a o, G' a = some o → G a = some o ∨ H a = none ∨ ∃ vs, H a = some (.tup vs) := fun a o h => by
    rcases s.new a o h with h | h | h | h
    · exact .inl h
    · exact .inr (.inl h)
    · simp at h
    · exact .inr (.inr h)
  refine ⟨⟨s.g, Ixs.refl _, fun a o h _ => kp a o h, s.there, fun a o h => ?_, fun a h => .inl h⟩, g'.le, g.len, fun a h => ?_, fun n c h hc => ?_, g.inj⟩
  · rcases nw a o h with h | h | h
    · exact .inl h
    · exact .inr (.inl h)
    · exact .inr (.inr (.inr h))
  · obtain ⟨o, e⟩ := g.there a h
    exact ⟨o, kp a o e⟩
  · obtain ⟨a, h1, h3, h4⟩ := g.cel n c h hc
    obtain ⟨u, eu⟩ := h4.some_ hc
    refine ⟨a, h1, ?_, by rw [kp a u eu, ← eu]; exact h4.mono s.g (Ixs.refl _)⟩
    cases e : G' a with
    | none => rfl
    | some o =>
      rcases nw a o e with h | h | ⟨vs, h⟩
      · rw [h3] at h; cases h
      · rw [eu] at h; cases h
      · rw [h] at h4
        exact absurd h4 (CellR.notup hc)
theorem plain_post {K : PySem.W.Frag} {G : Hp} {ix : List Addr} {S : Store} {H : Hp} {w : W} {S1 : Store} {Q : VK} (g : Good K G ix S H) (c : D.closed w.toD = true) (q : PostE K G ix H w S Q) : PostE K G [] H w S1 Q := fun v G' ix' H' s g' r => by
  obtain ⟨s2, g2⟩ := plain_back g s g'
  refine q v G' ix H' s2 g2 ?_
  cases w with
  | d x => exact Rp.closed x v c r
  | fl xs =>
    obtain ⟨p, vs, h1, h2, h3, h4, h5, h6⟩ := r
    have h5 : H p = none := h5.elim id fun z => by simp at z
    refine ⟨p, vs, h1, h2, h3, fun n d e1 e2 => ?_, .inl h5, Rps.closed xs vs (by simpa [W.toD, D.closed] using c) h6⟩
    by_cases hd : d = .dead
    · exact hd
    · obtain ⟨a, f1, f2, f3⟩ := g.cel n d e2 hd
      rw [e1] at f1; cases f1
      obtain ⟨u, eu⟩ := f3.some_ hd
      rw [h5] at eu; cases eu
theorem plain_postX {K : PySem.W.Frag} {G : Hp} {ix : List Addr} {S : Store} {H : Hp} {k : Nat} {S1 : Store} {E : XK} (g : Good K G ix S H) (q : PostX K G ix H k S E) : PostX K G [] H k S1 E := fun G' ix' H' s g' => by
  obtain ⟨s2, g2⟩ := plain_back g s g'
  exact q G' ix H' s2 g2
theorem env_start {K : PySem.W.Frag} {G : Hp} {ix : List Addr} {vs : List V} {ds : List D} {f : Fn} (r : Rps K G ix vs ds) : EnvR K G ix (L2.start f.N vs) (Nl.start f ds) := by
  have hl := r.length
  refine ⟨?_, fun i d h => ?_⟩
  · simp only [Nl.start, L2.start, Fn.N, List.length_append, List.length_map, List.length_replicate, hl]
  · unfold Nl.start at h
    unfold L2.start
    by_cases hi : i < ds.length
    · rw [List.getElem?_append_left (by simpa using hi), List.getElem?_map] at h
      rw [List.getElem?_append_left (by simpa [hl] using hi), List.getElem?_map]
      cases e : ds[i]? with
      | none => rw [e] at h; cases h
      | some d' =>
        rw [e] at h
        cases h
        obtain ⟨v, h1, h2⟩ := r.get e
        exact ⟨v, by rw [h1]; rfl, h2⟩
    · rw [List.getElem?_append_right (by simpa using Nat.le_of_not_lt hi)] at h
      rw [List.getElem?_replicate] at h
      split at h
      · simp at h
      · cases h
/-! ### what a call's coming to something says of its body -/
theorem call_S {gl : Nat → Option D} {fs : List Fn} {n i : Nat} {f : Fn} (hf : fs[i]? = some f) (ds : List D) (S : Store) (res : Res (W × Store)) (h : call gl fs (n + 1) i ds S = res) (hne : res ≠ .err) : ds.length = f.arity ∧
    ((f.init = true ∧ ∃ m, n = m + 1 ∧ (exs gl (call gl fs m) f.body (Nl.start f ds) S).bind endW = res) ∨
     (f.init = false ∧ f.plain = true ∧ D.closeds ds = true ∧ plainEnd S ((exs gl (call gl fs n) f.body (Nl.start f ds) []).bind endW) = res) ∨
     (f.init = false ∧ f.plain = false ∧ (exs gl (call gl fs n) f.body (Nl.start f ds) S).bind endW = res)) := by
  simp only [call, hf] at h
  unfold guard' at h
  split at h
  · rename_i hl
    refine ⟨by simpa using hl, ?_⟩
    cases hi : f.init with
    | true =>
      rw [hi] at h
      simp only [if_true] at h
      cases n with
      | zero => exact absurd h.symm hne
      | succ m => exact .inl ⟨rfl, m, rfl, h⟩
    | false =>
      rw [hi] at h
      simp only [Bool.false_eq_true, if_false] at h
      cases hp : f.plain with
      | true =>
        rw [hp] at h
        simp only [if_true] at h
        split at h
        · rename_i hc
          exact .inr (.inl ⟨rfl, rfl, hc, h⟩)
        · exact absurd h.symm hne
      | false =>
        rw [hp] at h
        simp only [Bool.false_eq_true, if_false] at h
        exact .inr (.inr ⟨rfl, rfl, h⟩)
  · exact absurd h.symm hne
theorem endW_ok {r : Fl × Store} {q : W × Store} (h : endW r = .ok q) : q.2 = r.2 := by
  obtain ⟨r1, r2⟩ := r
  cases r1 <;> simp [endW] at h <;> rw [← h]
theorem nx_endW {r : Fl × Store} : (endW r).NX := by
  unfold endW
  split <;> first | exact nx_ok | exact nx_err
section
variable {P : Program} {w : World} {K : PySem.W.Frag} {mg : Str → Option Value} {base : Heap} {nm : Nms} {gl : Nat → Option D} {fs : List Fn} {ds : List Df}
/-- what the head says -/
structure Head (K : PySem.W.Frag) (mg : Str → Option Value) (nm : Nms) (gl : Nat → Option D) (ds : List Df) : Prop where
  nmf : nm.fn = ds.map Df.at_
  bi : ∀ s ∈ bNames, mg (Str.ofString s) = none
  fn : ∀ (f : Nat) (d : Df), ds[f]? = some d → ∃ fd, FunD K d.name d.qual d.params d.body d.scope [] [] (He.fAd K d.at_) fd
  at_ : ∀ (f : Nat) (d : Df), ds[f]? = some d → mg d.at_.1 = some (.ref (He.ga K d.at_.1))
  mt : ∀ (f : Nat) (d : Df) (x m : Str), ds[f]? = some d → d.at_ = (x, some m) → Meth K (He.ga K x) m (He.ma K (He.ga K x) m)
  mkr : ∀ (f : Nat) (d : Df) (x : Str), ds[f]? = some d → d.at_ = (x, some (Str.ofString "__init__")) → Mk K (He.ga K x) (He.ma K (He.ga K x) (Str.ofString "__init__"))
  cl : ∀ c, c ∈ nm.cl → Cls K (clsA K (clName c)) ∧ ∀ g, g < fdNames.length → NoAttr K (clsA K (clName c)) (Str.ofString (fdName g))
  xc : XFacts K mg nm.xr nm.xc
  gl : ∀ (g : Nat) (x : Str) (d : D), nm.gl[g]? = some x → gl g = some d → ∃ v u, mg x = some u ∧ RelV v u ∧ ∀ G ix, Rp K G ix v d
def lev (f : Fn) (n : Nat) : Nat := if f.init then n else n + 1
theorem head_fn {d : Df} {a : Addr} {fd : FuncData} {f : Fn} (c : chkFn nm f d = true) (F : FunD K d.name d.qual d.params d.body d.scope [] [] a fd) : Binds K fd (f.N.take f.arity) [] := by
  simp only [chkFn, Bool.and_eq_true, decide_eq_true_eq] at c
  obtain ⟨c1, c2, c3, c4, c5, c6, c7, c8⟩ := c
  refine F.bindsN fun kV doc pm an cdv ct us hl => ?_
  rw [plainArgs_ok c1, ← c2]
  refine bind_plain ?_ kV doc pm an cdv ct us (by rw [hl, c2])
  rw [c2]
  exact c7.sublist (List.take_sublist _ _)
theorem all_fn (hd : Head K mg nm gl ds) (hc : chkFns nm fs ds = true) : ∀ (n i : Nat) (d : Df), ds[i]? = some d → ∀ (fd : FuncData) (f : Fn), fs[i]? = some f → chkFn nm f d = true → FunD K d.name d.qual d.params d.body d.scope [] [] (He.fAd K d.at_) fd → FnG P w K mg base (L2.CX P w) (lev f n) (He.fAd K d.at_) fd (f.N.take f.arity) (spF K (call gl fs n) i) := by
  intro n
  induction n using Nat.strongRecOn with
  | ind n ih =>
    intro i d hi fd f hf c F
    have none_ : (∀ ds' S, call gl fs n i ds' S = .err) → FnG P w K mg base (L2.CX P w) (lev f n) (He.fAd K d.at_) fd (f.N.take f.arity) (spF K (call gl fs n) i) := fun h0 =>
      have no : ∀ {vs H Q E}, ¬ spF K (call gl fs n) i vs H Q E := fun {vs H Q E} h => by
        obtain ⟨G, ix, S, ds, _, _, ⟨w, S', e, _⟩ | ⟨k, S', e, _⟩⟩ := h
        · rw [h0] at e; cases e
        · rw [h0] at e; cases e
      ⟨fun vs H Q E h => (no h).elim, fun A gd outer s H args us vs Q E hr _ _ _ h => (no h).elim⟩
    cases n with
    | zero => exact none_ fun _ _ => rfl
    | succ n =>
      have c' := c
      simp only [chkFn, Bool.and_eq_true, decide_eq_true_eq, Bool.not_eq_true'] at c'
      obtain ⟨c1, c2, c3, c4, c5, c6, c7, c8, c9, c11, c10⟩ := c'
      have hpl : (f.N.take f.arity).length = f.arity := by
        rw [List.length_take]
        simp only [Fn.N, List.length_map]
        omega
      have sc : FnScope f.N (f.N.take f.arity) d.scope := ⟨c4, c5, c6, c7, by rw [hpl], fun x hx => (loc_ok (List.all_eq_true.mp c8 x hx)), fun y hy => by simpa using List.all_eq_true.mp c9 y hy⟩
      have ctx : ∀ (m : Nat), m < n + 1 → ∀ (cdv : Value) (A : Around), A.guards = some [] → ∀ (outer : List PySem.Env) (s : Shared) (H : Hp) (E : XK), Room (m + 1) (A.deeper (PyProof.Rows.envOfC d.qual d.scope s.heap.objs.size (He.fAd K d.at_) cdv)) → CtxS nm gl (call gl fs m) (cxOf (L2.CX P w) P w K mg base f.N d.qual d.scope (He.fAd K d.at_) cdv A outer s H E) := fun m hm cdv A gd outer s H E hr => by
        refine ⟨⟨c7, rfl, ?_, hd.bi, fun f' x hx => ?_, fun f' x mm hx => ?_, fun f' x hx => ?_, hd.cl, hd.xc, hd.gl, gd⟩, fun _ => rfl, passes_of rfl, rfl, rfl, rfl⟩
        · have := hr.un
          show (A.deeper (PyProof.Rows.envOfC d.qual d.scope s.heap.objs.size (He.fAd K d.at_) cdv)).units + 65 < cLine
          omega
        · rw [hd.nmf, List.getElem?_map] at hx
          cases e : ds[f']? with
          | none => rw [e] at hx; cases hx
          | some d' =>
            rw [e] at hx
            have hx' : d'.at_ = (x, none) := by simpa using hx
            obtain ⟨fd', F'⟩ := hd.fn f' d' e
            obtain ⟨g, g1, g2⟩ := chkFns_get hc f' d' e
            have A1 := ih m hm f' d' e fd' g g1 g2 F'
            have a1 : He.fAd K d'.at_ = He.ga K x := by rw [hx']; rfl
            have a2 := hd.at_ f' d' e
            rw [hx'] at a2
            refine ⟨He.ga K x, lev g m, fd', _, ?_, a2, by rw [← a1]; exact F'.kp, head_fn g2 F', by rw [← a1]; exact A1⟩
            unfold lev
            split
            · exact hr.mono (by omega)
            · exact hr
        · rw [hd.nmf, List.getElem?_map] at hx
          cases e : ds[f']? with
          | none => rw [e] at hx; cases hx
          | some d' =>
            rw [e] at hx
            have hx' : d'.at_ = (x, some mm) := by simpa using hx
            obtain ⟨fd', F'⟩ := hd.fn f' d' e
            obtain ⟨g, g1, g2⟩ := chkFns_get hc f' d' e
            have A1 := ih m hm f' d' e fd' g g1 g2 F'
            have a1 : He.fAd K d'.at_ = He.ma K (He.ga K x) mm := by rw [hx']; rfl
            refine ⟨He.ma K (He.ga K x) mm, lev g m, fd', _, hd.mt f' d' x mm e hx', ?_, head_fn g2 F', by rw [← a1]; exact A1⟩
            unfold lev
            split
            · exact hr.mono (by omega)
            · exact hr
        · rw [hd.nmf, List.getElem?_map] at hx
          cases e : ds[f']? with
          | none => rw [e] at hx; cases hx
          | some d' =>
            rw [e] at hx
            have hx' : d'.at_ = (x, some (Str.ofString "__init__")) := by simpa using hx
            obtain ⟨fd', F'⟩ := hd.fn f' d' e
            obtain ⟨g, g1, g2⟩ := chkFns_get hc f' d' e
            have A1 := ih m hm f' d' e fd' g g1 g2 F'
            have a1 : He.fAd K d'.at_ = He.ma K (He.ga K x) (Str.ofString "__init__") := by rw [hx']; rfl
            have a2 := hd.at_ f' d' e
            rw [hx'] at a2
            have gi : g.init = true := by
              simp only [chkFn, Bool.and_eq_true, decide_eq_true_eq] at g2
              obtain ⟨_, _, _, _, _, _, _, _, _, z, _⟩ := g2
              rw [z, hx']
              simp
            have lv : lev g m = m := by unfold lev; rw [gi]; rfl
            rw [lv] at A1
            exact ⟨He.ma K (He.ga K x) (Str.ofString "__init__"), m, fd', _, hd.mkr f' d' x e hx', a2, hr, head_fn g2 F', by rw [← a1]; exact A1⟩
      have body : ∀ (m : Nat), m < n + 1 → ∀ (cdv : Value) (A : Around), A.guards = some [] → ∀ (outer : List PySem.Env) (s : Shared) (H : Hp) (vs : List V) (Q : VK) (E : XK) (G : Hp) (ix : List Addr) (S0 : Store) (ds' : List D), Room (m + 1) (A.deeper (PyProof.Rows.envOfC d.qual d.scope s.heap.objs.size (He.fAd K d.at_) cdv)) → Good K G ix S0 H → Rps K G ix vs ds' →
          ((∃ w' S1, (exs gl (call gl fs m) f.body (Nl.start f ds') S0).bind endW = .ok (w', S1) ∧ PostE K G ix H w' S1 Q) ∨ ∃ k S1, (exs gl (call gl fs m) f.body (Nl.start f ds') S0).bind endW = .exc k S1 ∧ PostX K G ix H k S1 E) →
          ∃ t, PSs (cxOf (L2.CX P w) P w K mg base f.N d.qual d.scope (He.fAd K d.at_) cdv A outer s H E) d.body t ∧ t { nx := fun _ H' => Q .non H', rt := Q } (L2.start f.N vs) H := fun m hm cdv A gd outer s H vs Q E G ix S0 ds' hr g r h => by
        have C := ctx m hm cdv A gd outer s H E hr
        obtain ⟨t, p, mm, xx⟩ := all_Ss f.body _ C d.body c10
        refine ⟨t, p, ?_⟩
        rcases h with ⟨w', S1, e, q⟩ | ⟨k, S1, e, q⟩
        · obtain ⟨⟨fl, S2⟩, e2, e3⟩ := ok2 e
          cases (endW_ok e3 : S1 = S2)
          refine mm _ H _ G ix S0 fl S1 _ (env_start r) g e2 ?_
          cases fl with
          | ret w2 => simp [endW] at e3; subst e3; exact q
          | nx env => simp [endW] at e3; subst e3; exact fun σ' G' ix' H' s g' r => q .non G' ix' H' s g' .non
          | brk env => simp [endW] at e3
          | cnt env => simp [endW] at e3
        · rcases exc2 e with e2 | ⟨a, _, e2⟩
          · refine xx _ H _ G ix S0 k S1 _ (env_start r) g e2 fun σ' G' ix' H' s' g' => ?_
            exact wof_of (W := fun cls d _ H => E cls d H) (takes_of rfl rfl rfl rfl) (q G' ix' H' s' g')
          · exact absurd e2 (nx_endW k S1)
      have lenOk : ∀ vs H Q E, spF K (call gl fs (n + 1)) i vs H Q E → vs.length = (f.N.take f.arity).length := fun vs H Q E h => by
        obtain ⟨G, ix, S, ds', g, r, h⟩ := h
        rw [r.length, hpl]
        rcases h with ⟨w', S', e, q⟩ | ⟨k, S', e, q⟩
        · exact (call_S hf ds' S _ e (by intro z; cases z)).1
        · exact (call_S hf ds' S _ e (by intro z; cases z)).1
      cases hin : f.init with
      | true =>
        cases n with
        | zero =>
          refine none_ fun ds' S => ?_
          simp only [call, hf, hin, if_true, guard']
          split <;> rfl
        | succ m =>
          have lv : lev f (m + 1 + 1) = (m + 1) + 1 := by unfold lev; rw [hin]; rfl
          rw [lv]
          refine funG F sc lenOk fun cdv A gd outer s H vs Q E hr h => ?_
          obtain ⟨G, ix, S, ds', g, r, h⟩ := h
          refine body m (by omega) cdv A gd outer s H vs Q E G ix S ds' hr g r ?_
          rcases h with ⟨w', S', e, q⟩ | ⟨k, S', e, q⟩
          · obtain ⟨_, ⟨_, m', hm', e2⟩ | ⟨z, _⟩ | ⟨z, _⟩⟩ := call_S hf ds' S _ e (by intro z; cases z)
            · cases hm'; exact .inl ⟨w', S', e2, q⟩
            · rw [hin] at z; cases z
            · rw [hin] at z; cases z
          · obtain ⟨_, ⟨_, m', hm', e2⟩ | ⟨z, _⟩ | ⟨z, _⟩⟩ := call_S hf ds' S _ e (by intro z; cases z)
            · cases hm'; exact .inr ⟨k, S', e2, q⟩
            · rw [hin] at z; cases z
            · rw [hin] at z; cases z
      | false =>
        have lv : lev f (n + 1) = (n + 1) + 1 := by unfold lev; rw [hin]; rfl
        rw [lv]
        refine funG F sc lenOk fun cdv A gd outer s H vs Q E hr h => ?_
        obtain ⟨G, ix, S, ds', g, r, h⟩ := h
        have split : ∀ {res : Res (W × Store)}, call gl fs (n + 1) i ds' S = res → res ≠ .err → (f.plain = true ∧ D.closeds ds' = true ∧ plainEnd S ((exs gl (call gl fs n) f.body (Nl.start f ds') []).bind endW) = res) ∨ (f.plain = false ∧ (exs gl (call gl fs n) f.body (Nl.start f ds') S).bind endW = res) := fun {res} e hne => by
          obtain ⟨_, ⟨z, _⟩ | ⟨_, h⟩ | ⟨_, h⟩⟩ := call_S hf ds' S _ e hne
          · rw [hin] at z; cases z
          · exact .inl h
          · exact .inr h
        rcases h with ⟨w', S', e, q⟩ | ⟨k, S', e, q⟩
        · rcases split e (by intro z; cases z) with ⟨_, hcl, e2⟩ | ⟨_, e2⟩
          · cases e3 : (exs gl (call gl fs n) f.body (Nl.start f ds') []).bind endW with
            | err => rw [e3] at e2; cases e2
            | exc k S1 => rw [e3] at e2; cases e2
            | ok z =>
              obtain ⟨z1, z2⟩ := z
              rw [e3] at e2
              obtain ⟨hw, e4⟩ := guard_ok e2
              cases e4
              exact body n (by omega) cdv A gd outer s H vs Q E G [] [] ds' hr (plain_good g) (Rps.closed _ _ hcl r) (.inl ⟨_, z2, e3, plain_post g hw q⟩)
          · exact body n (by omega) cdv A gd outer s H vs Q E G ix S ds' hr g r (.inl ⟨w', S', e2, q⟩)
        · rcases split e (by intro z; cases z) with ⟨_, hcl, e2⟩ | ⟨_, e2⟩
          · cases e3 : (exs gl (call gl fs n) f.body (Nl.start f ds') []).bind endW with
            | err => rw [e3] at e2; cases e2
            | ok z =>
              rw [e3] at e2
              exact absurd e2 ((nx_guard nx_ok) k S')
            | exc k1 S1 =>
              rw [e3] at e2
              cases e2
              exact body n (by omega) cdv A gd outer s H vs Q E G [] [] ds' hr (plain_good g) (Rps.closed _ _ hcl r) (.inr ⟨k, S1, e3, plain_postX g q⟩)
          · exact body n (by omega) cdv A gd outer s H vs Q E G ix S ds' hr g r (.inr ⟨k, S', e2, q⟩)
end
/-! ### a law -/
/-- a constant of the module -/
inductive Kn where
  | int (x : String) (i : Int)
  | str (x : String) (s : List Nat)
def Kn.name : Kn → Str
  | .int x _ => Str.ofString x
  | .str x _ => Str.ofString x
def Kn.d : Kn → D
  | .int _ i => .int i
  | .str _ s => .str s
def Kn.fa : Kn → He.Fa
  | .int x i => .int (Str.ofString x) i
  | .str x s => .str (Str.ofString x) (toS s)
/-- the module's names beside its defs: constants, classes of instances, refusals that may be raised, refusals that are named -/
structure Mn where
  ks : List Kn
  cl : List Nat
  xr : List Nat
  xc : List Nat
def glOf (M : Mn) (g : Nat) : Option D := (M.ks[g]?).map Kn.d
def exStr (k : Nat) : Str := Str.ofString (exName k)
def dfFa (d : Df) : List He.Fa := .glo d.at_.1 :: (match d.at_.2 with
  | none => []
  | some m => .meth d.at_.1 m :: (if m = Str.ofString "__init__" then [.mkr d.at_.1] else []))
def clFa (c : Nat) : List He.Fa := .cls (clStr c) :: fdNames.map fun f => .noat (clStr c) (Str.ofString f)
def faOf (ds : List Df) (M : Mn) : List He.Fa := ds.flatMap dfFa ++ (bNames.map (fun x => He.Fa.free (Str.ofString x)) ++ (M.ks.map Kn.fa ++ (M.cl.flatMap clFa ++ ((M.xr ++ M.xc).map (fun k => He.Fa.glo (exStr k)) ++ (M.xr.map (fun k => He.Fa.exc (exStr k)) ++ M.xr.flatMap fun k => M.xc.map fun c => He.Fa.exm (exStr k) (exStr c) (isSub k c))))))
def fnOf (ds : List Df) : List He.DefD := ds.map Df.dd
def nmOf (ds : List Df) (M : Mn) : Nms := ⟨ds.map Df.at_, M.ks.map Kn.name, M.cl, M.xr, M.xc⟩
/-- what is asked of the refusals' classes beside the library's facts -/
def excB (K : PySem.W.Frag) (C : Addr) : Bool := He.eqO (PySem.W.findIn K (.ref C) "__getattribute__") (some (some (.builtin "BaseException.__getattribute__"))) && (He.eqO (PySem.W.findIn K (.ref C) "__getattr__") (some none) && (PySem.W.hasDictIn K C && (He.eqO (PySem.W.findIn K (.ref C) "__class__") (some (some (.builtin "object.__class__"))) &&
  (He.eqO (PySem.W.specialIn K (.builtin "object.__class__") "__get__") (some (some (.builtin "getset_descriptor.__get__"))) && (decide (PySem.W.takesIn K (.builtin "object.__class__") = some true) && decide (PySem.W.mroIn K C (.type "object") = some true))))))
def exB (M : Mn) (K : PySem.W.Frag) : Bool := M.xr.all fun k => excB K (clsA K (exName k)) && (M.xc ++ [exVE]).all fun c => decide (PySem.W.kitOne K (.ref (clsA K (exName k))) (exV K c) = some (isSub k c))
abbrev AlN : Type := He.AlD × Bool
def obsN (ds : List Df) (M : Mn) (K : PySem.W.Frag) : AlN := (He.obsD (faOf ds M) (fnOf ds) K, exB M K)
def SaysN (ds : List Df) (M : Mn) (K : PySem.W.Frag) : Prop := He.SaysD (faOf ds M) (fnOf ds) K ∧ exB M K = true
theorem head_of {K : PySem.W.Frag} {mg : Str → Option Value} {h : Heap} {ds : List Df} {M : Mn} (X : K.In h) (G : h.Ns mainGlobals mg) (cc : SaysN ds M K) : Head K mg (nmOf ds M) (glOf M) ds := by
  obtain ⟨c, cx⟩ := cc
  have fact : ∀ f ∈ faOf ds M, f.ok K = true := fun f hf => by
    obtain ⟨i, hi⟩ := List.getElem?_of_mem hf
    exact c.fact i hi
  have fdf : ∀ (f : Nat) (d : Df), ds[f]? = some d → ∀ z ∈ dfFa d, z.ok K = true := fun f d hd z hz => fact z (List.mem_append_left _ (List.mem_flatMap.mpr ⟨d, List.mem_of_getElem? hd, hz⟩))
  have fglo : ∀ k, k ∈ M.xr ++ M.xc → (He.Fa.glo (exStr k)).ok K = true := fun k hk => fact _ (List.mem_append_right _ (List.mem_append_right _ (List.mem_append_right _ (List.mem_append_right _ (List.mem_append_left _ (List.mem_map_of_mem hk))))))
  refine ⟨rfl, fun s hs => He.free_ok X G (fact _ (List.mem_append_right _ (List.mem_append_left _ (List.mem_map_of_mem hs)))), fun f d hd => ?_, fun f d hd => ?_, fun f d x m hd hx => ?_, fun f d x hd hx => ?_, fun cl hc => ?_, ?_, fun g x d hx hd => ?_⟩
  · exact c.def_ f (d := d.dd) (by unfold fnOf; rw [List.getElem?_map, hd]; rfl)
  · exact He.glo_ok X G (fdf f d hd _ List.mem_cons_self)
  · refine He.meth_ok (x := x) (m := m) (fdf f d hd _ ?_)
    unfold dfFa
    rw [hx]
    exact List.mem_cons_of_mem _ List.mem_cons_self
  · refine He.mkr_ok (x := x) (fdf f d hd _ ?_)
    unfold dfFa
    rw [hx]
    simp
  · have fcl : ∀ z ∈ clFa cl, z.ok K = true := fun z hz => fact z (List.mem_append_right _ (List.mem_append_right _ (List.mem_append_right _ (List.mem_append_left _ (List.mem_flatMap.mpr ⟨cl, hc, hz⟩)))))
    refine ⟨He.cls_ok (fcl _ List.mem_cons_self), fun g hg => He.noat_ok (x := clStr cl) (fcl _ (List.mem_cons_of_mem _ (List.mem_map.mpr ⟨fdName g, ?_, rfl⟩)))⟩
    unfold fdName
    rw [List.getD_eq_getElem?_getD, List.getElem?_eq_getElem hg]
    exact List.getElem_mem hg
  · have ex1 : ∀ k ∈ M.xr, (He.Fa.exc (exStr k)).ok K = true := fun k hk => fact _ (List.mem_append_right _ (List.mem_append_right _ (List.mem_append_right _ (List.mem_append_right _ (List.mem_append_right _ (List.mem_append_left _ (List.mem_map_of_mem hk)))))))
    have all : ∀ k ∈ M.xr, (excB K (clsA K (exName k)) && (M.xc ++ [exVE]).all fun c => decide (PySem.W.kitOne K (.ref (clsA K (exName k))) (exV K c) = some (isSub k c))) = true := fun k hk => List.all_eq_true.mp cx k hk
    refine ⟨fun k hk => He.glo_ok X G (fglo k (List.mem_append_left _ hk)), fun k hk => He.glo_ok X G (fglo k (List.mem_append_right _ hk)), fun k hk => He.exc_ok (ex1 k hk), fun k hk => ?_, fun k hk j hj => ?_, fun k hk j hj => ?_⟩
    · obtain ⟨h1, _⟩ := He.ba (all k hk)
      unfold excB at h1
      obtain ⟨a1, h1⟩ := He.ba h1
      obtain ⟨a2, h1⟩ := He.ba h1
      obtain ⟨a3, h1⟩ := He.ba h1
      obtain ⟨a4, h1⟩ := He.ba h1
      obtain ⟨a5, h1⟩ := He.ba h1
      obtain ⟨a6, a7⟩ := He.ba h1
      exact ⟨He.eqO_ok a1, He.eqO_ok a2, (He.exc_ok (ex1 k hk)).2.2.1, a3, He.eqO_ok a4, He.eqO_ok a5, of_decide_eq_true a6, of_decide_eq_true a7⟩
    · exact He.exm_ok (fact _ (List.mem_append_right _ (List.mem_append_right _ (List.mem_append_right _ (List.mem_append_right _ (List.mem_append_right _ (List.mem_append_right _ (List.mem_flatMap.mpr ⟨k, hk, List.mem_map_of_mem hj⟩))))))))
    · obtain ⟨_, h1⟩ := He.ba (all k hk)
      refine of_decide_eq_true (List.all_eq_true.mp h1 j ?_)
      rcases hj with hj | rfl
      · exact List.mem_append_left _ hj
      · exact List.mem_append_right _ (List.mem_singleton.mpr rfl)
  · simp only [nmOf, List.getElem?_map] at hx
    simp only [glOf] at hd
    cases e : M.ks[g]? with
    | none => rw [e] at hx; cases hx
    | some k =>
      rw [e] at hx hd
      cases hx
      cases hd
      have hf := fact k.fa (List.mem_append_right _ (List.mem_append_right _ (List.mem_append_left _ (List.mem_map_of_mem (List.mem_of_getElem? e)))))
      cases k with
      | int y i =>
        obtain ⟨t, ht⟩ := He.int_ok X G hf
        exact ⟨.int i, _, ht, ⟨_, rfl⟩, fun _ _ => .int i⟩
      | str y s =>
        obtain ⟨t, ht⟩ := He.str_ok X G hf
        exact ⟨.str (toS s), _, ht, ⟨_, rfl⟩, fun _ _ => .str s⟩
/-- .. in some world -/
def CXe (P : Program) : CXT := fun outer H s E u s' => ∃ w, L2.CX P w outer H s E u s'
theorem fnOk_e {P : Program} {w : World} {K : PySem.W.Frag} {mg : Str → Option Value} {base : Heap} {k : Nat} {f : Addr} {fd : FuncData} {ps : List Str} {sp : Sp} (F : FnG P w K mg base (L2.CX P w) k f fd ps sp) : FnG P w K mg base (CXe P) k f fd ps sp :=
  ⟨F.len, fun A gd outer s H args us vs Q E hr e0 hb hv hs => codeAny_mono (F.run A gd outer s H args us vs Q E hr e0 hb hv hs) fun r s' hq => by
    cases r with
    | error e => exact ⟨w, hq⟩
    | ok fl => cases fl <;> exact hq⟩
def spL (K : PySem.W.Frag) (gl : Nat → Option D) (fs : List Fn) (k i : Nat) : Sp := spF K (call gl fs k) i
/-- a law's def, with what the small language says of it -/
theorem law_of {P : Program} {w : World} {K : PySem.W.Frag} {mg : Str → Option Value} {h : Heap} {ds : List Df} {M : Mn} {fs : List Fn} {x : Str} {i k : Nat} {f : Fn} {d : Df} {a : Addr} (X : K.In h) (G : h.Ns mainGlobals mg) (c : SaysN ds M K)
    (hc : chkFns (nmOf ds M) fs ds = true) (hf : fs[i]? = some f) (hp : f.N.take f.arity = [x]) (hfi : f.init = false) (hd : ds[i]? = some d) (hat : d.at_.2 = none) (hn : mg d.at_.1 = some (.ref a)) :
    ∃ fd : FuncData, (∀ (s : Shared) (v : Value), BindsTo s fd ⟨[v], []⟩ [(x, v)]) ∧ ∀ base : Heap, K.In base → base.Ns mainGlobals mg → FnG P w K mg base (CXe P) (k + 1) a fd [x] (spL K (glOf M) fs k i) := by
  have H := head_of X G c
  obtain ⟨fd, F⟩ := H.fn i d hd
  have m := H.at_ i d hd
  rw [hn] at m
  have ea : a = He.ga K d.at_.1 := by simpa using m
  have ef : He.fAd K d.at_ = a := by
    rw [ea]
    unfold He.fAd
    rw [hat]
  obtain ⟨f', g1, g2⟩ := chkFns_get hc i d hd
  rw [hf] at g1
  cases g1
  have g3 := g2
  simp only [chkFn, Bool.and_eq_true, decide_eq_true_eq] at g3
  obtain ⟨c1, c2, c3, c4, c5, c6, c7, c8⟩ := g3
  refine ⟨fd, fun s v => ?_, fun base _ _ => ?_⟩
  · refine FunD.bindsA (ps := [x]) F (fun kV doc pm an cdv ct us hl => ?_) s [v] rfl
    rw [plainArgs_ok c1]
    rw [hp] at c2
    rw [← c2]
    exact bind_plain (by rw [c2]; simp) kV doc pm an cdv ct us (by rw [hl, c2])
  · have := all_fn (P := P) (w := w) (base := base) H hc k i d hd fd f hf g2 F
    have lv : lev f k = k + 1 := by unfold lev; rw [hfi]; rfl
    rw [hp, lv, ef] at this
    exact fnOk_e this
theorem law_sp {K : PySem.W.Frag} {gl : Nat → Option D} {fs : List Fn} {k i : Nat} {H : Hp} {a : Addr} {ns : List Int} {S : Store} (hS : SqL K H a (ns.map V.int)) (e : call gl fs k i [.scr ns] [] = .ok (.d (.bl true), S)) : spL K gl fs k i [.ref a] H (fun v _ => v = .bl true) fun _ _ _ => False := by
  refine ⟨H, [], [], [.scr ns], ⟨Le.refl _, rfl, fun a h => by simp at h, fun n c h => by simp at h, fun n m a c d h => by simp at h⟩, .cons (.scr hS) .nil, .inl ⟨_, _, e, fun v G' ix' H' s g r => ?_⟩⟩
  cases (show Rp K G' ix' v (.bl true) from r)
  rfl
theorem cx_none {P : Program} (H : Hp) (s : Shared) (e : Value) (s' : Shared) (h : CXe P [] H s (fun _ _ _ => False) e s') : False := by
  obtain ⟨_, _, _, _, _, _, _, _, _, _, _, _, _, z⟩ := h
  exact z
end Nl

/-! The head's look at addresses that are told beforehand. -/
namespace Nl
open PySem PySem.Spec PyProof.Rows L2
def obsNL (as : List Addr) (ds : List Df) (M : Mn) (g : Addr → Option Obj) : AlN := obsN ds M (He.frG g as)
def hookL (as : List Addr) (ds : List Df) (M : Mn) : PySem.W.Hook where
  α := AlN
  obs := fun s => obsNL as ds M s.heap.get?
  val := fun _ => (He.valD (fnOf ds), true)
  says := fun _ h => ∃ K : PySem.W.Frag, K.In h ∧ SaysN ds M K
  of := fun _ _ e => ⟨_, He.frG_in, congrArg (fun z : AlN => z.1) e, congrArg (fun z : AlN => z.2) e⟩
  keeps := fun _ _ _ ⟨K, hK, c⟩ k => ⟨K, PySem.W.Frag.In.keeps hK k, c⟩
theorem obsNL_eq {as : List Addr} {ds : List Df} {M : Mn} {g : Addr → Option Obj} {s : Shared} (h : ∀ a, g a = s.heap.get? a) : obsNL as ds M g = (hookL as ds M).obs s := by
  have e : g = s.heap.get? := funext h
  rw [e]
  rfl
open HandSHeadRun PySem.W PySem.Calls in
/-- the head's run, looked at in pieces (each piece runs anew: less is held at once) -/
theorem run_split {r : OpenRow} {q : Program} {loose : List Str} {N : Nat} {w : World} {as : List Addr} {ds : List Df} {M : Mn} (c : Nat)
    (h1 : ∀ os : OsState, (endF (stepQ (denQ tabQ) r.prog w) N r.prog w os).map (fun s => (looksF r.prog (boot_heap w.params) s.abs, seenQ q loose (importedModules r.prog.main.body) (fun s => xlAt q [] s && recOk r.toRowW.records s) s.abs)) = some (true, openGood q loose))
    (h2 : ∀ os : OsState, (endF (stepQ (denQ tabQ) r.prog w) N r.prog w os).map (fun s => ((faOf ds M).take c).all fun f => f.ok (He.frG (getT s) as)) = some true)
    (h3 : ∀ os : OsState, (endF (stepQ (denQ tabQ) r.prog w) N r.prog w os).map (fun s => ((faOf ds M).drop c).all fun f => f.ok (He.frG (getT s) as)) = some true)
    (h4 : ∀ os : OsState, (endF (stepQ (denQ tabQ) r.prog w) N r.prog w os).map (fun s => ((fnOf ds).all (fun d => d.ok (He.frG (getT s) as)), (fnOf ds).map fun d => He.fnW (He.frG (getT s) as) d.at_)) = some (He.valD (fnOf ds)))
    (h5 : ∀ os : OsState, (endF (stepQ (denQ tabQ) r.prog w) N r.prog w os).map (fun s => exB M (He.frG (getT s) as)) = some true) :
    RunEq r q (hookL as ds M) (fun s => obsNL as ds M (getT s)) N loose w := by
  intro os
  obtain ⟨s, hs, e1⟩ := Option.map_eq_some_iff.mp (h1 os)
  have e2 := h2 os
  have e3 := h3 os
  have e4 := h4 os
  have e5 := h5 os
  rw [hs, Option.map_some, Option.some.injEq] at e2 e3 e4 e5
  obtain ⟨e11, e12⟩ := Prod.mk.inj e1
  obtain ⟨e41, e42⟩ := Prod.mk.inj e4
  have e6 : ((faOf ds M).all fun f => f.ok (He.frG (getT s) as)) = true := by
    rw [← List.take_append_drop c (faOf ds M), List.all_append, e2, e3]; rfl
  rw [hs, Option.map_some]
  refine congrArg some ?_
  show ((looksF r.prog (boot_heap w.params) s.abs, seenQ q loose (importedModules r.prog.main.body) (fun s => xlAt q [] s && recOk r.toRowW.records s) s.abs, ((((faOf ds M).all fun f => f.ok (He.frG (getT s) as)) && (fnOf ds).all fun d => d.ok (He.frG (getT s) as), (fnOf ds).map fun d => He.fnW (He.frG (getT s) as) d.at_), exB M (He.frG (getT s) as))) : Bool × _ × AlN) = (true, openGood q loose, (He.valD (fnOf ds), true))
  rw [e11, e12, e6, e41, e42, e5]
  rfl
end Nl

/-! What the small language's texts come to: rules to walk them. -/
namespace Nl
/-- it comes to something of which Q holds -/
def Res.sat {α : Type} (r : Res α) (Q : α → Prop) : Prop := ∃ a, r = .ok a ∧ Q a
section
variable {α β : Type}
theorem sat_ok {a : α} {Q : α → Prop} : (Res.ok a).sat Q ↔ Q a := ⟨fun ⟨_, e, q⟩ => by cases e; exact q, fun q => ⟨_, rfl, q⟩⟩
theorem sat_err {Q : α → Prop} : (Res.err : Res α).sat Q ↔ False := ⟨fun ⟨_, e, _⟩ => (by cases e), False.elim⟩
theorem sat_bind {r : Res α} {f : α → Res β} {Q : β → Prop} : (r.bind f).sat Q ↔ r.sat fun a => (f a).sat Q := by
  cases r with
  | ok a => rw [sat_ok]; rfl
  | exc c S => exact ⟨fun ⟨_, e, _⟩ => by (simp at e), fun ⟨_, e, _⟩ => by cases e⟩
  | err => exact ⟨fun ⟨_, e, _⟩ => by (simp at e), fun ⟨_, e, _⟩ => by cases e⟩
theorem sat_calm {r : Res α} {Q : α → Prop} : r.calm.sat Q ↔ r.sat Q := by
  unfold Res.sat
  simp only [Res.calm_ok]
theorem sat_guard {c : Bool} {r : Res α} {Q : α → Prop} : (guard' c r).sat Q ↔ c = true ∧ r.sat Q := by
  cases c with
  | true => simp [guard']
  | false => simp [guard', sat_err]
theorem Res.sat.imp {r : Res α} {P Q : α → Prop} (h : r.sat P) (f : ∀ a, P a → Q a) : r.sat Q := h.elim fun a ⟨e, p⟩ => ⟨a, e, f a p⟩
theorem sat_eq {r : Res α} {a : α} (h : r = .ok a) {Q : α → Prop} : r.sat Q ↔ Q a := by rw [h]; exact sat_ok
theorem sat_def {r : Res α} {a : α} : (r.sat fun x => x = a) ↔ r = .ok a := ⟨fun ⟨b, e, h⟩ => by rw [e, h], fun h => ⟨a, h, rfl⟩⟩
end
section
variable {gl : Nat → Option D} {cf : Cf}
/-! ### statements -/
theorem sat_exs_nil {env : Env} {S : Store} {Q : Fl × Store → Prop} : (exs gl cf .nil env S).sat Q ↔ Q (.nx env, S) := by rw [exs, sat_ok]
/-- what comes of the rest behind a statement -/
def Rest (gl : Nat → Option D) (cf : Cf) (ss : Ss) (Q : Fl × Store → Prop) (r : Fl × Store) : Prop := match r.1 with
  | .nx env' => (exs gl cf ss env' r.2).sat Q
  | _ => Q r
theorem rest_nx {ss : Ss} {Q : Fl × Store → Prop} {env : Env} {S : Store} : Rest gl cf ss Q (.nx env, S) ↔ (exs gl cf ss env S).sat Q := Iff.rfl
theorem rest_ret {ss : Ss} {Q : Fl × Store → Prop} {w : W} {S : Store} : Rest gl cf ss Q (.ret w, S) ↔ Q (.ret w, S) := Iff.rfl
theorem sat_exs {s : S} {ss : Ss} {env : Env} {S : Store} {Q : Fl × Store → Prop} : (exs gl cf (.cons s ss) env S).sat Q ↔ (ex gl cf s env S).sat (Rest gl cf ss Q) := by
  rw [exs, sat_bind]
  constructor
  · rintro ⟨⟨a, T⟩, e, q⟩
    refine ⟨_, e, ?_⟩
    cases a with
    | nx env' => exact q
    | brk env' => exact (sat_ok (Q := Q)).mp q
    | cnt env' => exact (sat_ok (Q := Q)).mp q
    | ret w => exact (sat_ok (Q := Q)).mp q
  · rintro ⟨⟨a, T⟩, e, q⟩
    refine ⟨_, e, ?_⟩
    cases a with
    | nx env' => exact q
    | brk env' => exact sat_ok.mpr q
    | cnt env' => exact sat_ok.mpr q
    | ret w => exact sat_ok.mpr q
theorem sat_asg {i : Nat} {e : E} {env : Env} {S : Store} {Q : Fl × Store → Prop} : (ex gl cf (.asg (.n i) e) env S).sat Q ↔ (ev gl cf e env S).sat fun x => Q (.nx (env.set i (some x.1.toD)), x.2) := by
  simp only [ex, sat_bind, setTg, sat_ok]
theorem sat_ex {e : E} {env : Env} {S : Store} {Q : Fl × Store → Prop} : (ex gl cf (.ex e) env S).sat Q ↔ (ev gl cf e env S).sat fun x => Q (.nx env, x.2) := by
  simp only [ex, sat_bind, sat_ok]
theorem sat_ret {e : E} {env : Env} {S : Store} {Q : Fl × Store → Prop} : (ex gl cf (.ret e) env S).sat Q ↔ (ev gl cf e env S).sat fun x => Q (.ret x.1, x.2) := by
  simp only [ex, sat_bind, sat_ok]
theorem sat_retN {env : Env} {S : Store} {Q : Fl × Store → Prop} : (ex gl cf .retN env S).sat Q ↔ Q (.ret (.d .non), S) := by
  simp only [ex, sat_ok]
theorem sat_pass {env : Env} {S : Store} {Q : Fl × Store → Prop} : (ex gl cf .pass env S).sat Q ↔ Q (.nx env, S) := by
  simp only [ex, sat_ok]
theorem sat_brk {env : Env} {S : Store} {Q : Fl × Store → Prop} : (ex gl cf .brk env S).sat Q ↔ Q (.brk env, S) := by
  simp only [ex, sat_ok]
theorem sat_cnt {env : Env} {S : Store} {Q : Fl × Store → Prop} : (ex gl cf .cnt env S).sat Q ↔ Q (.cnt env, S) := by
  simp only [ex, sat_ok]
theorem sat_raise {c : Nat} {env : Env} {S : Store} {Q : Fl × Store → Prop} : (ex gl cf (.raise c) env S).sat Q ↔ False := by
  simp only [ex]
  exact ⟨fun ⟨_, e, _⟩ => (by cases e), False.elim⟩
theorem sat_asgT {is : List Nat} {e : E} {env : Env} {S : Store} {Q : Fl × Store → Prop} : (ex gl cf (.asg (.t is) e) env S).sat Q ↔ (ev gl cf e env S).sat fun x => (setTg (.t is) x.1.toD env).sat fun env' => Q (.nx env', x.2) := by
  simp only [ex, sat_bind, sat_ok]
theorem sat_setix {o i e : E} {env : Env} {S : Store} {Q : Fl × Store → Prop} : (ex gl cf (.setix o i e) env S).sat Q ↔ (ev gl cf e env S).sat fun x => (ev gl cf o env x.2).sat fun y => (ev gl cf i env y.2).sat fun z =>
    ∃ n k, y.1 = .d (.obj n) ∧ z.1 = .d (.int k) ∧ ∃ xs j, z.2[n]? = some (.lst xs) ∧ ixN xs.length k = some j ∧ Q (.nx env, z.2.set n (.lst (xs.set j x.1.toD))) := by
  simp only [ex, sat_bind]
  constructor
  · rintro ⟨x, e1, y, e2, z, e3, h⟩
    refine ⟨x, e1, y, e2, z, e3, ?_⟩
    obtain ⟨y1, y2⟩ := y
    obtain ⟨z1, z2⟩ := z
    dsimp only at h ⊢
    split at h
    · rename_i n k
      split at h
      · rename_i xs hx
        split at h
        · rename_i j hj
          exact ⟨n, k, rfl, rfl, xs, j, hx, hj, sat_ok.mp h⟩
        · exact (sat_err.mp h).elim
      · exact (sat_err.mp h).elim
    · exact (sat_err.mp h).elim
  · rintro ⟨x, e1, y, e2, z, e3, n, k, h1, h2, xs, j, h3, h4, h5⟩
    refine ⟨x, e1, y, e2, z, e3, ?_⟩
    obtain ⟨y1, y2⟩ := y
    obtain ⟨z1, z2⟩ := z
    cases h1
    cases h2
    dsimp only at h3 ⊢
    rw [h3]
    dsimp only
    rw [h4]
    exact sat_ok.mpr h5
/-- the truth of an expression -/
def evB (gl : Nat → Option D) (cf : Cf) (c : E) (env : Env) (S : Store) : Res (Bool × Store) := (ev gl cf c env S).bind fun x => (toB x.1).bind fun r => .ok (r, x.2)
theorem sat_whl {fuel : Nat} {c : E} {body : Ss} {env : Env} {S : Store} {Q : Fl × Store → Prop} : (ex gl cf (.whl fuel c body) env S).sat Q ↔ (loopW (evB gl cf c) (fun env' S' => exs gl cf body env' S') fuel env S).sat Q := by
  simp only [ex]
  exact Iff.rfl
theorem sat_evB {c : E} {env : Env} {S : Store} {Q : Bool × Store → Prop} : (evB gl cf c env S).sat Q ↔ (ev gl cf c env S).sat fun x => (toB x.1).sat fun r => Q (r, x.2) := by
  simp only [evB, sat_bind, sat_ok]
theorem sat_ite {p : Prop} [Decidable p] {α : Type} {a b : Res α} {Q : α → Prop} : (if p then a else b).sat Q ↔ if p then a.sat Q else b.sat Q := by
  split <;> exact Iff.rfl
theorem sat_if {c : E} {a b : Ss} {env : Env} {S : Store} {Q : Fl × Store → Prop} : (ex gl cf (.ife c a b) env S).sat Q ↔ (evB gl cf c env S).sat fun r => if r.1 = true then (exs gl cf a env r.2).sat Q else (exs gl cf b env r.2).sat Q := by
  simp only [ex, sat_bind, sat_evB]
  constructor <;> rintro ⟨x, e, y, e', h⟩ <;> refine ⟨x, e, y, e', ?_⟩ <;> cases y <;> simpa using h
/-- a for loop, by what holds ahead of each turn -/
theorem sat_loopF {ok : Store → Bool} {f : D → Env → Store → Res (Fl × Store)} {Q : Fl × Store → Prop} (I : Nat → Env → Store → Prop) : ∀ (ds : List D) (i : Nat) (env : Env) (S : Store), I i env S →
    (∀ j d env S, ds[j]? = some d → I (i + j) env S → (f d env S).sat fun r => match r.1 with
      | .nx e => ok r.2 = true ∧ I (i + j + 1) e r.2
      | .cnt e => ok r.2 = true ∧ I (i + j + 1) e r.2
      | .brk e => Q (.nx e, r.2)
      | .ret w => Q (.ret w, r.2)) → (∀ env S, I (i + ds.length) env S → Q (.nx env, S)) → (loopF ok f ds env S).sat Q
  | [], i, env, S, h0, _, h1 => by
    rw [loopF, sat_ok]
    exact h1 env S h0
  | d :: ds, i, env, S, h0, st, h1 => by
    rw [loopF, sat_bind]
    refine (st 0 d env S rfl h0).imp ?_
    rintro ⟨r1, r2⟩ h
    have go : ∀ e, ok r2 = true ∧ I (i + 0 + 1) e r2 → (guard' (ok r2) (loopF ok f ds e r2)).sat Q := fun e h => by
      rw [sat_guard]
      refine ⟨h.1, sat_loopF I ds (i + 1) e r2 h.2 (fun j d' env' S' hj hI => ?_) (fun env' S' hI => h1 env' S' ?_)⟩
      · have := st (j + 1) d' env' S' (by simpa using hj) (by rwa [show i + (j + 1) = i + 1 + j by omega])
        rwa [show i + (j + 1) + 1 = i + 1 + j + 1 by omega] at this
      · rwa [show i + (d :: ds).length = i + 1 + ds.length by simp; omega]
    cases r1 with
    | nx e => exact go e h
    | cnt e => exact go e h
    | brk e => exact sat_ok.mpr h
    | ret w => exact sat_ok.mpr h
/-- the same, by an invariant that does not count -/
theorem sat_loop {ok : Store → Bool} {f : D → Env → Store → Res (Fl × Store)} {Q : Fl × Store → Prop} (I : Env → Store → Prop) {ds : List D} {env : Env} {S : Store} (h0 : I env S)
    (st : ∀ d env S, d ∈ ds → I env S → (f d env S).sat fun r => match r.1 with
      | .nx e => ok r.2 = true ∧ I e r.2
      | .cnt e => ok r.2 = true ∧ I e r.2
      | .brk e => Q (.nx e, r.2)
      | .ret w => Q (.ret w, r.2)) (h1 : ∀ env S, I env S → Q (.nx env, S)) : (loopF ok f ds env S).sat Q :=
  sat_loopF (fun _ => I) ds 0 env S h0 (fun j d env S hj hI => st d env S (List.mem_of_getElem? hj) hI) h1
theorem sat_for {tg : Tg} {k : Ik} {a b : E} {body : Ss} {env : Env} {S : Store} {Q : Fl × Store → Prop} : (ex gl cf (.forr tg k a b body) env S).sat Q ↔ (ev gl cf a env S).sat fun x => (ev gl cf b env x.2).sat fun y => (items k (pk y.2 x.1.toD) (pk y.2 y.1.toD)).sat fun ds =>
      (loopF (fun S' => kept x.1.toD y.2 S' && kept y.1.toD y.2 S') (fun d env' S' => (setTg tg d env').bind fun env2 => exs gl cf body env2 S') ds env y.2).sat Q := by
  simp only [ex, sat_bind]
/-- a while loop: the rest of the fuel is enough -/
theorem sat_loopW {c : Env → Store → Res (Bool × Store)} {f : Env → Store → Res (Fl × Store)} {Q : Fl × Store → Prop} (I : Nat → Env → Store → Prop) : ∀ (n : Nat) (env : Env) (S : Store), I n env S →
    (∀ m env S, I m env S → ∃ m', m = m' + 1 ∧ (c env S).sat fun t => if t.1 = true then (f env t.2).sat fun r => match r.1 with
      | .nx e => I m' e r.2
      | .cnt e => I m' e r.2
      | .brk e => Q (.nx e, r.2)
      | .ret w => Q (.ret w, r.2) else Q (.nx env, t.2)) → (loopW c f n env S).sat Q
  | 0, env, S, h0, st => by
    obtain ⟨m', e, _⟩ := st 0 env S h0
    cases e
  | n + 1, env, S, h0, st => by
    obtain ⟨m', e, h⟩ := st (n + 1) env S h0
    cases e
    rw [loopW, sat_bind]
    refine h.imp ?_
    rintro ⟨t1, t2⟩ h
    cases t1 with
    | false => exact sat_ok.mpr h
    | true =>
      simp only [if_true] at h ⊢
      rw [sat_bind]
      refine Res.sat.imp h ?_
      rintro ⟨r1, r2⟩ h
      cases r1 with
      | nx e => exact sat_loopW I n e r2 h st
      | cnt e => exact sat_loopW I n e r2 h st
      | brk e => exact sat_ok.mpr h
      | ret w => exact sat_ok.mpr h
theorem kept_non {S S' : Store} : kept .non S S' = true := rfl
theorem kept_int {S S' : Store} {i : Int} : kept (.int i) S S' = true := rfl
theorem kept_tup {S S' : Store} {xs : List D} : kept (.tup xs) S S' = true := rfl
theorem kept_lst {S S' : Store} {xs : List D} : kept (.lst xs) S S' = true := rfl
theorem kept_str {S S' : Store} {s : List Nat} : kept (.str s) S S' = true := rfl
theorem kept_scr {S S' : Store} {s : List Int} : kept (.scr s) S S' = true := rfl
theorem kept_self (a : D) (S : Store) : kept a S S = true := by
  cases a <;> simp [kept]
/-! ### data -/
theorem eqB_nn  : eqB .non .non = true := by simp only [eqB, eqBs]
theorem eqB_bb {a b : Bool} : eqB (.bl a) (.bl b) = (a == b) := by simp only [eqB, eqBs]
theorem eqB_bi {a : Bool} {j : Int} : eqB (.bl a) (.int j) = ((if a then 1 else 0) == j) := by simp only [eqB, eqBs]
theorem eqB_ib {i : Int} {b : Bool} : eqB (.int i) (.bl b) = (i == (if b then 1 else 0)) := by simp only [eqB, eqBs]
theorem eqB_ii {i j : Int} : eqB (.int i) (.int j) = (i == j) := by simp only [eqB, eqBs]
theorem eqB_ss {x y : List Nat} : eqB (.str x) (.str y) = (x == y) := by simp only [eqB, eqBs]
theorem eqB_ll {xs ys : List D} : eqB (.lst xs) (.lst ys) = eqBs xs ys := by simp only [eqB, eqBs]
theorem eqB_tt {xs ys : List D} : eqB (.tup xs) (.tup ys) = eqBs xs ys := by simp only [eqB, eqBs]
theorem eqB_ni {i : Int} : eqB .non (.int i) = false := by simp only [eqB, eqBs]
theorem eqB_in {i : Int} : eqB (.int i) .non = false := by simp only [eqB, eqBs]
theorem eqBs_00  : eqBs [] [] = true := by simp only [eqB, eqBs]
theorem eqBs_0c {y : D} {ys : List D} : eqBs [] (y :: ys) = false := by simp only [eqB, eqBs]
theorem eqBs_c0 {x : D} {xs : List D} : eqBs (x :: xs) [] = false := by simp only [eqB, eqBs]
theorem eqBs_cc {x y : D} {xs ys : List D} : eqBs (x :: xs) (y :: ys) = (eqB x y && eqBs xs ys) := by simp only [eqB, eqBs]
theorem toD_d {x : D} : (W.d x).toD = x := rfl
theorem toD_fl {xs : List D} : (W.fl xs).toD = .lst xs := rfl
theorem clo_d {x : D} : (W.d x).toD.closed = x.closed := rfl
theorem clo_fl {xs : List D} : (W.fl xs).toD.closed = D.closeds xs := by
  rw [toD_fl, D.closed]
theorem natAbs_1 : Int.natAbs 1 = 1 := rfl
theorem natAbs_2 : Int.natAbs 2 = 2 := rfl
theorem natAbs_10 : Int.natAbs 10 = 10 := rfl
theorem pq_non {S : Store} : pk S .non = .non := rfl
theorem pq_bl {S : Store} {b : Bool} : pk S (.bl b) = .bl b := rfl
theorem pq_int {S : Store} {i : Int} : pk S (.int i) = .int i := rfl
theorem pq_str {S : Store} {s : List Nat} : pk S (.str s) = .str s := rfl
theorem pq_tup {S : Store} {xs : List D} : pk S (.tup xs) = .tup xs := rfl
theorem pq_lst {S : Store} {xs : List D} : pk S (.lst xs) = .lst xs := rfl
theorem pq_scr {S : Store} {xs : List Int} : pk S (.scr xs) = .scr xs := rfl
theorem pq_obj {S : Store} {p : Nat} {xs : List D} (h : S[p]? = some (.lst xs)) : pk S (.obj p) = .lst xs := by
  simp only [pk, h]
section
variable {α : Type}
theorem ixN_nat {n i : Nat} (h : i < n) : ixN n (i : Int) = some i := by
  have h' : (i : Int) < (n : Int) := by omega
  rw [ixN, if_pos (Int.natCast_nonneg i), if_pos h', Int.toNat_natCast]
theorem atI_nat {xs : List α} {i : Nat} : atI xs (i : Int) = xs[i]? := by
  by_cases h : i < xs.length
  · rw [atI, ixN_nat h]; rfl
  · have h' : ¬ (i : Int) < (xs.length : Int) := by omega
    rw [atI, ixN, if_pos (Int.natCast_nonneg i), if_neg h', List.getElem?_eq_none (by omega)]
    rfl
theorem atI_0 {x : α} {xs : List α} : atI (x :: xs) 0 = some x := atI_nat (i := 0)
theorem atI_1 {x y : α} {xs : List α} : atI (x :: y :: xs) 1 = some y := atI_nat (i := 1)
theorem atI_2 {x y z : α} {xs : List α} : atI (x :: y :: z :: xs) 2 = some z := atI_nat (i := 2)
theorem ixN_0 {n : Nat} : ixN (n + 1) 0 = some 0 := ixN_nat (i := 0) (by omega)
theorem ixN_1 {n : Nat} : ixN (n + 1 + 1) 1 = some 1 := ixN_nat (i := 1) (by omega)
end
/-! ### operations, by what they are done to -/
theorem bin_ii {o : Bop} {i j : Int} : binOp o (.int i) (.int j) = (intOp o i j).bind fun d => .ok (.d d) := rfl
theorem bin_ll {xs ys : List D} : binOp .add (.lst xs) (.lst ys) = guard' (decide (xs.length + ys.length ≤ most)) (.ok (.fl (xs ++ ys))) := rfl
theorem bin_tt {xs ys : List D} : binOp .add (.tup xs) (.tup ys) = guard' (decide (xs.length + ys.length ≤ most)) (.ok (.d (.tup (xs ++ ys)))) := rfl
theorem bin_ss {xs ys : List Nat} : binOp .add (.str xs) (.str ys) = guard' (decide (xs.length + ys.length ≤ most)) (.ok (.d (.str (xs ++ ys)))) := rfl
theorem bin_li {xs : List D} {k : Int} : binOp .mul (.lst xs) (.int k) = guard' (decide (-(2 ^ 63) ≤ k) && (decide (k < 2 ^ 63) && decide (xs.length * k.toNat ≤ most))) (.ok (.fl (rep k.toNat xs))) := rfl
theorem bin_ti {xs : List D} {k : Int} : binOp .mul (.tup xs) (.int k) = guard' (decide (1 ≤ k) && (decide (k ≤ 1000) && (decide (xs.length ≤ 1000) && !xs.isEmpty))) (.ok (.d (.tup (rep k.toNat xs)))) := rfl
theorem rg_1 {n : Int} {b : D} : rgItems .rng1 (.int n) b = guard' (small n) (.ok (upFrom 0 n.toNat)) := rfl
theorem rg_2 {m n : Int} : rgItems .rng2 (.int m) (.int n) = guard' (small m && small n) (.ok (upFrom m (n - m).toNat)) := rfl
theorem int_add {i j : Int} : intOp .add i j = .ok (.int (i + j)) := rfl
theorem int_sub {i j : Int} : intOp .sub i j = .ok (.int (i - j)) := rfl
theorem int_mul {i j : Int} : intOp .mul i j = guard' (mulOk i j) (.ok (.int (i * j))) := rfl
theorem int_fdiv {i j : Int} : intOp .fdiv i j = guard' (decide (0 < j) && decide (j < 1073741824)) (.ok (.int (i / j))) := rfl
theorem int_mod {i j : Int} : intOp .mod i j = guard' (decide (0 < j)) (.ok (.int (i % j))) := rfl
theorem int_pow {i j : Int} : intOp .pow i j = guard' (powOk i j) (.ok (.int (i ^ j.toNat))) := rfl
theorem int_shl {i j : Int} : intOp .shl i j = guard' (powOk i j) (.ok (.int (i * 2 ^ j.toNat))) := rfl
theorem int_shr {i j : Int} : intOp .shr i j = guard' (decide (0 ≤ j)) (.ok (.int (i / 2 ^ j.toNat))) := rfl
theorem int_band {i j : Int} : intOp .band i j = guard' (decide (0 ≤ i) && decide (0 ≤ j)) (.ok (.int ((i.toNat &&& j.toNat : Nat) : Int))) := rfl
theorem int_bor {i j : Int} : intOp .bor i j = guard' (decide (0 ≤ i) && decide (0 ≤ j)) (.ok (.int ((i.toNat ||| j.toNat : Nat) : Int))) := rfl
theorem int_bxor {i j : Int} : intOp .bxor i j = guard' (decide (0 ≤ i) && decide (0 ≤ j)) (.ok (.int ((i.toNat ^^^ j.toNat : Nat) : Int))) := rfl
theorem cmp_eq {a b : D} : cmpOp .eq a b = eqOp a b := rfl
theorem cmp_ne {a b : D} : cmpOp .ne a b = (eqOp a b).bind fun r => .ok (!r) := rfl
theorem cmp_in {a b : D} : cmpOp .inn a b = inOp a b := rfl
theorem cmp_nin {a b : D} : cmpOp .nin a b = (inOp a b).bind fun r => .ok (!r) := rfl
theorem cmp_lt {i j : Int} : cmpOp .lt (.int i) (.int j) = .ok (decide (i < j)) := rfl
theorem cmp_le {i j : Int} : cmpOp .le (.int i) (.int j) = .ok (decide (i ≤ j)) := rfl
theorem cmp_gt {i j : Int} : cmpOp .gt (.int i) (.int j) = .ok (decide (j < i)) := rfl
theorem cmp_ge {i j : Int} : cmpOp .ge (.int i) (.int j) = .ok (decide (j ≤ i)) := rfl
theorem eq_op {a b : D} : eqOp a b = guard' (okD 40 a && okD 40 b) (.ok (eqB a b)) := rfl
theorem in_lst {a : D} {ys : List D} : inOp a (.lst ys) = guard' (okD 40 a && okD 40 (.lst ys)) (.ok (ys.any fun y => eqB y a)) := rfl
theorem in_tup {a : D} {ys : List D} : inOp a (.tup ys) = guard' (flat a && ys.all flat) (.ok (ys.any fun y => eqB y a)) := rfl
theorem ix_lst {xs : List D} {i : Int} : ixOp (.lst xs) (.int i) = match atI xs i with | some d => .ok d | none => .err := rfl
theorem ix_tup {xs : List D} {i : Int} : ixOp (.tup xs) (.int i) = match atI xs i with | some d => .ok d | none => .err := rfl
theorem ix_scr {xs : List Int} {i : Int} : ixOp (.scr xs) (.int i) = match atI xs i with | some d => .ok (.int d) | none => .err := rfl
theorem ix_str {s : List Nat} {i : Int} : ixOp (.str s) (.int i) = guard' (decide (s.length ≤ most)) (match atI s i with | some c => .ok (.str [c]) | none => .err) := rfl
theorem sl_lst {xs : List D} {lo hi : Option Int} : slOp (.lst xs) lo hi = .ok (.fl (cut xs lo hi)) := rfl
theorem sl_tup {xs : List D} {lo hi : Option Int} : slOp (.tup xs) lo hi = .ok (.d (.tup (cut xs lo hi))) := rfl
theorem sl_str {s : List Nat} {lo hi : Option Int} : slOp (.str s) lo hi = guard' (decide (s.length ≤ most)) (.ok (.d (.str (cut s lo hi)))) := rfl
theorem end_t {d : D} : endOf true d = some none := rfl
theorem end_i {i : Int} : endOf false (.int i) = some (some i) := rfl
theorem bi_len_l {xs : List D} : biOp .len [.lst xs] = .ok (.d (.int xs.length)) := rfl
theorem bi_len_t {xs : List D} : biOp .len [.tup xs] = .ok (.d (.int xs.length)) := rfl
theorem bi_len_c {xs : List Int} : biOp .len [.scr xs] = .ok (.d (.int xs.length)) := rfl
theorem bi_len_s {s : List Nat} : biOp .len [.str s] = guard' (decide (s.length ≤ most)) (.ok (.d (.int s.length))) := rfl
theorem bi_abs {i : Int} : biOp .abs [.int i] = .ok (.d (.int (if i < 0 then -i else i))) := rfl
theorem bi_sum {xs : List D} : biOp .sum [.lst xs] = match intsOf xs with | some ns => .ok (.d (.int ns.sum)) | none => .err := rfl
theorem bi_maxl {xs : List D} : biOp .maxl [.lst xs] = match intsOf xs with | some ns => guard' (!ns.isEmpty) (.ok (.d (.int (maxOf ns)))) | none => .err := rfl
theorem bi_minl {xs : List D} : biOp .minl [.lst xs] = match intsOf xs with | some ns => guard' (!ns.isEmpty) (.ok (.d (.int (minOf ns)))) | none => .err := rfl
theorem bi_max2 {i j : Int} : biOp .max2 [.int i, .int j] = .ok (.d (.int (if j > i then j else i))) := rfl
theorem bi_min2 {i j : Int} : biOp .min2 [.int i, .int j] = .ok (.d (.int (if j < i then j else i))) := rfl
theorem bi_any {xs : List D} : biOp .any [.lst xs] = match blsOf xs with | some bs => .ok (.d (.bl (bs.any id))) | none => .err := rfl
theorem bi_all {xs : List D} : biOp .all [.lst xs] = match blsOf xs with | some bs => .ok (.d (.bl (bs.all id))) | none => .err := rfl
theorem bi_int_i {i : Int} : biOp .int [.int i] = .ok (.d (.int i)) := rfl
theorem bi_int_b {b : Bool} : biOp .int [.bl b] = .ok (.d (.int (if b then 1 else 0))) := rfl
theorem bi_list_l {xs : List D} : biOp .list [.lst xs] = .ok (.fl xs) := rfl
theorem bi_list_t {xs : List D} : biOp .list [.tup xs] = .ok (.fl xs) := rfl
theorem bi_tuple_l {xs : List D} : biOp .tuple [.lst xs] = .ok (.d (.tup xs)) := rfl
theorem bi_tuple_t {xs : List D} : biOp .tuple [.tup xs] = .ok (.d (.tup xs)) := rfl
theorem bi_sorted {xs : List D} : biOp .sorted [.lst xs] = match intsOf xs with | some ns => .ok (.fl ((sortI ns).map D.int)) | none => .err := rfl
theorem bi_sset {xs : List D} : biOp .sset [.lst xs] = match intsOf xs with | some ns => guard' (decide (ns.length ≤ 1000)) (.ok (.fl ((sortU ns).map D.int))) | none => .err := rfl
theorem ty_non {t : Ty} : isTy t .non = .ok false := rfl
theorem ty_bl {t : Ty} {b : Bool} : isTy t (.bl b) = .ok (t == .bool || t == .int) := rfl
theorem ty_int {t : Ty} {i : Int} : isTy t (.int i) = .ok (t == .int) := rfl
theorem ty_str {t : Ty} {s : List Nat} : isTy t (.str s) = .ok (t == .str) := rfl
theorem ty_lst {t : Ty} {xs : List D} : isTy t (.lst xs) = .ok (t == .list) := rfl
theorem ty_tup {t : Ty} {xs : List D} : isTy t (.tup xs) = .ok (t == .tuple) := rfl
theorem ty_scr {t : Ty} {xs : List Int} : isTy t (.scr xs) = .ok (t == .list) := rfl
theorem toB_bl {b : Bool} : toB (.d (.bl b)) = .ok b := rfl
theorem set_n {i : Nat} {d : D} {env : Env} : setTg (.n i) d env = .ok (env.set i (some d)) := rfl
theorem set_t {is : List Nat} {xs : List D} {env : Env} : setTg (.t is) (.tup xs) env = guard' (decide (xs.length = is.length)) (.ok ((is.zip xs).foldl (fun e p => e.set p.1 (some p.2)) env)) := rfl
theorem set_tl {is : List Nat} {xs : List D} {env : Env} : setTg (.t is) (.lst xs) env = guard' (decide (xs.length = is.length)) (.ok ((is.zip xs).foldl (fun e p => e.set p.1 (some p.2)) env)) := rfl
theorem it_seq_l {xs : List D} {b : D} : items .seq (.lst xs) b = .ok xs := rfl
theorem it_seq_t {xs : List D} {b : D} : items .seq (.tup xs) b = .ok xs := rfl
theorem it_seq_s {s : List Nat} {b : D} : items .seq (.str s) b = .ok (s.map fun c => D.str [c]) := rfl
theorem it_rng1 {n : Int} {b : D} : items .rng1 (.int n) b = guard' (small n) (.ok (upFrom 0 n.toNat)) := rfl
theorem it_rng2 {m n : Int} : items .rng2 (.int m) (.int n) = guard' (small m && small n) (.ok (upFrom m (n - m).toNat)) := rfl
theorem it_enmT {xs : List D} {b : D} : items .enm (.tup xs) b = .ok (pairs (upFrom 0 xs.length) xs) := rfl
theorem me_count {n : Nat} {xs : List D} {S : Store} (h : S[n]? = some (.lst xs)) : meOp .count n [.non] S = guard' (xs.all noneOrInt) (.ok (.d (.int (xs.countP fun d => decide (d = .non) : Nat)), S)) := by
  simp only [meOp, h]
theorem it_enm {xs : List D} {b : D} : items .enm (.lst xs) b = .ok (pairs (upFrom 0 xs.length) xs) := rfl
theorem it_zp_l {xs ys : List D} : items .zp (.lst xs) (.lst ys) = .ok (pairs xs ys) := rfl
theorem it_zp_t {xs ys : List D} : items .zp (.tup xs) (.tup ys) = .ok (pairs xs ys) := rfl
theorem it_rev_l {xs : List D} {b : D} : items .rev (.lst xs) b = .ok xs.reverse := rfl
theorem it_rev_t {xs : List D} {b : D} : items .rev (.tup xs) b = .ok xs.reverse := rfl
theorem me_append {S : Store} {n : Nat} {xs : List D} {d : D} (h : S[n]? = some (.lst xs)) : meOp .append n [d] S = guard' (decide (xs.length < most)) (.ok (.d .non, S.set n (.lst (xs ++ [d])))) := by
  simp only [meOp, h]
theorem me_extend {S : Store} {n : Nat} {xs ys : List D} {d : D} (h : S[n]? = some (.lst xs)) (hd : pk S d = .lst ys) : meOp .extend n [d] S = guard' (decide (xs.length + ys.length ≤ most)) (.ok (.d .non, S.set n (.lst (xs ++ ys)))) := by
  simp only [meOp, h, hd]
theorem me_pop {S : Store} {n : Nat} {xs : List D} (h : S[n]? = some (.lst xs)) : meOp .pop n [] S = match xs.getLast? with | some d => .ok (.d d, S.set n (.lst xs.dropLast)) | none => .err := by
  simp only [meOp, h] <;> rfl
theorem me_reverse {S : Store} {n : Nat} {xs : List D} (h : S[n]? = some (.lst xs)) : meOp .reverse n [] S = .ok (.d .non, S.set n (.lst xs.reverse)) := by
  simp only [meOp, h]
theorem ty_int_int : (Ty.int == Ty.int) = true := rfl
theorem ty_int_bool : (Ty.int == Ty.bool) = false := rfl
theorem ty_bool_int : (Ty.bool == Ty.int) = false := rfl
theorem ty_bool_bool : (Ty.bool == Ty.bool) = true := rfl
theorem ty_list_list : (Ty.list == Ty.list) = true := rfl
theorem ty_tuple_tuple : (Ty.tuple == Ty.tuple) = true := rfl
theorem ty_list_tuple : (Ty.list == Ty.tuple) = false := rfl
theorem ty_tuple_list : (Ty.tuple == Ty.list) = false := rfl
theorem ty_tuple_int : (Ty.tuple == Ty.int) = false := rfl
theorem ty_tuple_bool : (Ty.tuple == Ty.bool) = false := rfl
theorem ty_int_tuple : (Ty.int == Ty.tuple) = false := rfl
theorem ty_str_str : (Ty.str == Ty.str) = true := rfl
/-! ### expressions -/
section
variable {gl : Nat → Option D} {cf : Cf} {env : Env} {S : Store} {Q : W × Store → Prop}
theorem sat_var {i : Nat} : (ev gl cf (.var i) env S).sat Q ↔ ∃ d, env[i]? = some (some d) ∧ Q (.d d, S) := by
  simp only [ev]
  split
  · rename_i d h
    rw [sat_ok]
    exact ⟨fun q => ⟨d, h, q⟩, fun ⟨d', h', q⟩ => by rw [h] at h'; cases h'; exact q⟩
  · rename_i h
    rw [sat_err]
    exact ⟨False.elim, fun ⟨d, h', _⟩ => h d h'⟩
theorem sat_non : (ev gl cf .non env S).sat Q ↔ Q (.d .non, S) := by simp only [ev, sat_ok]
theorem sat_bl {b : Bool} : (ev gl cf (.bl b) env S).sat Q ↔ Q (.d (.bl b), S) := by simp only [ev, sat_ok]
theorem sat_int {i : Int} : (ev gl cf (.int i) env S).sat Q ↔ Q (.d (.int i), S) := by simp only [ev, sat_ok]
theorem sat_str {s : List Nat} : (ev gl cf (.str s) env S).sat Q ↔ Q (.d (.str s), S) := by simp only [ev, sat_ok]
theorem sat_glob {g : Nat} {d : D} (h : gl g = some d) : (ev gl cf (.glob g) env S).sat Q ↔ Q (.d d, S) := by simp only [ev, h, sat_ok]
theorem sat_bin {o : Bop} {a b : E} : (ev gl cf (.bin o a b) env S).sat Q ↔ (ev gl cf a env S).sat fun x => (ev gl cf b env x.2).sat fun y => (binOp o (pk y.2 x.1.toD) (pk y.2 y.1.toD)).sat fun w => Q (w, y.2) := by
  simp only [ev, sat_bind, sat_ok]
theorem sat_neg {a : E} : (ev gl cf (.neg a) env S).sat Q ↔ (ev gl cf a env S).sat fun x => ∃ i, x.1 = .d (.int i) ∧ Q (.d (.int (-i)), x.2) := by
  simp only [ev, sat_bind]
  constructor
  · rintro ⟨x, e, h⟩
    refine ⟨x, e, ?_⟩
    obtain ⟨x1, x2⟩ := x
    dsimp only at h ⊢
    split at h
    · rename_i i
      exact ⟨i, rfl, sat_ok.mp h⟩
    · exact (sat_err.mp h).elim
  · rintro ⟨x, e, i, h1, h2⟩
    refine ⟨x, e, ?_⟩
    obtain ⟨x1, x2⟩ := x
    cases h1
    exact sat_ok.mpr h2
theorem sat_cmp {o : Cop} {a b : E} : (ev gl cf (.cmp o a b) env S).sat Q ↔ (ev gl cf a env S).sat fun x => (ev gl cf b env x.2).sat fun y => (cmpOp o (pk y.2 x.1.toD) (pk y.2 y.1.toD)).sat fun r => Q (.d (.bl r), y.2) := by
  simp only [ev, sat_bind, sat_ok]
theorem sat_chain {o o' : Cop} {a b c : E} : (ev gl cf (.chain o o' a b c) env S).sat Q ↔ (ev gl cf a env S).sat fun x => (ev gl cf b env x.2).sat fun y => (cmpOp o (pk y.2 x.1.toD) (pk y.2 y.1.toD)).sat fun r =>
    if r = true then (ev gl cf c env y.2).sat fun z => (cmpOp o' (pk z.2 y.1.toD) (pk z.2 z.1.toD)).sat fun q => Q (.d (.bl q), z.2) else Q (.d (.bl false), y.2) := by
  simp only [ev, sat_bind, sat_ite, sat_ok]
theorem sat_isN {a : E} : (ev gl cf (.isN a) env S).sat Q ↔ (ev gl cf a env S).sat fun x => Q (.d (.bl (decide (x.1.toD = .non))), x.2) := by
  simp only [ev, sat_bind, sat_ok]
theorem sat_notN {a : E} : (ev gl cf (.notN a) env S).sat Q ↔ (ev gl cf a env S).sat fun x => Q (.d (.bl (!decide (x.1.toD = .non))), x.2) := by
  simp only [ev, sat_bind, sat_ok]
theorem sat_and {a b : E} : (ev gl cf (.and a b) env S).sat Q ↔ (evB gl cf a env S).sat fun r => if r.1 = true then (evB gl cf b env r.2).sat fun q => Q (.d (.bl q.1), q.2) else Q (.d (.bl false), r.2) := by
  simp only [ev, sat_bind, sat_ite, sat_ok, sat_evB]
theorem sat_or {a b : E} : (ev gl cf (.or a b) env S).sat Q ↔ (evB gl cf a env S).sat fun r => if r.1 = true then Q (.d (.bl true), r.2) else (evB gl cf b env r.2).sat fun q => Q (.d (.bl q.1), q.2) := by
  simp only [ev, sat_bind, sat_ite, sat_ok, sat_evB]
theorem sat_not {a : E} : (ev gl cf (.not a) env S).sat Q ↔ (evB gl cf a env S).sat fun r => Q (.d (.bl (!r.1)), r.2) := by
  simp only [ev, sat_bind, sat_ok, sat_evB]
theorem sat_ifE {c a b : E} : (ev gl cf (.ife c a b) env S).sat Q ↔ (evB gl cf c env S).sat fun r => if r.1 = true then (ev gl cf a env r.2).sat Q else (ev gl cf b env r.2).sat Q := by
  simp only [ev, sat_bind, sat_ite, sat_evB]
theorem sat_tup {es : Es} : (ev gl cf (.tup es) env S).sat Q ↔ (evs gl cf es env S).sat fun x => x.1.length ≤ most ∧ Q (.d (.tup x.1), x.2) := by
  simp only [ev, sat_bind, sat_ok, sat_guard, decide_eq_true_eq]
theorem sat_lst {es : Es} : (ev gl cf (.lst es) env S).sat Q ↔ (evs gl cf es env S).sat fun x => x.1.length ≤ most ∧ Q (.fl x.1, x.2) := by
  simp only [ev, sat_bind, sat_ok, sat_guard, decide_eq_true_eq]
theorem sat_ix {a b : E} : (ev gl cf (.ix a b) env S).sat Q ↔ (ev gl cf a env S).sat fun x => (ev gl cf b env x.2).sat fun y => (ixOp (pk y.2 x.1.toD) y.1.toD).sat fun d => Q (.d d, y.2) := by
  simp only [ev, sat_bind, sat_ok]
theorem sat_slN {a : E} : (ev gl cf (.sl a .non .non) env S).sat Q ↔ (ev gl cf a env S).sat fun x => (slOp (pk x.2 x.1.toD) none none).sat fun w => Q (w, x.2) := by
  simp only [ev, sat_bind, sat_calm, sat_ok, show isNonE E.non = true from rfl, end_t]
theorem sat_slL {a lo : E} (h : isNonE lo = false) : (ev gl cf (.sl a lo .non) env S).sat Q ↔ (ev gl cf a env S).sat fun x => (ev gl cf lo env x.2).sat fun l => ∃ i, l.1 = .d (.int i) ∧ (slOp (pk l.2 x.1.toD) (some i) none).sat fun w => Q (w, l.2) := by
  simp only [ev, sat_bind, sat_calm, sat_ok, show isNonE E.non = true from rfl, end_t, h]
  constructor
  · rintro ⟨x, e, l, e', h⟩
    refine ⟨x, e, l, e', ?_⟩
    obtain ⟨l1, l2⟩ := l
    cases l1 with
    | fl xs => exact (sat_err.mp h).elim
    | d v =>
      cases v with
      | int i =>
        simp only [W.toD, end_i, sat_bind, sat_ok] at h
        exact ⟨i, rfl, h⟩
      | _ => exact (sat_err.mp h).elim
  · rintro ⟨x, e, l, e', i, h1, h2⟩
    refine ⟨x, e, l, e', ?_⟩
    obtain ⟨l1, l2⟩ := l
    cases h1
    simp only [W.toD, end_i, sat_bind, sat_ok]
    exact h2
theorem sat_slH {a hi : E} (h : isNonE hi = false) : (ev gl cf (.sl a .non hi) env S).sat Q ↔ (ev gl cf a env S).sat fun x => (ev gl cf hi env x.2).sat fun l => ∃ i, l.1 = .d (.int i) ∧ (slOp (pk l.2 x.1.toD) none (some i)).sat fun w => Q (w, l.2) := by
  simp only [ev, sat_bind, sat_calm, sat_ok, show isNonE E.non = true from rfl, end_t, h]
  constructor
  · rintro ⟨x, e, l, e', h⟩
    refine ⟨x, e, l, e', ?_⟩
    obtain ⟨l1, l2⟩ := l
    cases l1 with
    | fl xs => exact (sat_err.mp h).elim
    | d v =>
      cases v with
      | int i =>
        simp only [W.toD, end_i, sat_bind, sat_ok] at h
        exact ⟨i, rfl, h⟩
      | _ => exact (sat_err.mp h).elim
  · rintro ⟨x, e, l, e', i, h1, h2⟩
    refine ⟨x, e, l, e', ?_⟩
    obtain ⟨l1, l2⟩ := l
    cases h1
    simp only [W.toD, end_i, sat_bind, sat_ok]
    exact h2
theorem sat_slLv {a : E} {i : Nat} : (ev gl cf (.sl a (.var i) .non) env S).sat Q ↔ (ev gl cf a env S).sat fun x => (ev gl cf (.var i) env x.2).sat fun l => ∃ i, l.1 = .d (.int i) ∧ (slOp (pk l.2 x.1.toD) (some i) none).sat fun w => Q (w, l.2) := sat_slL rfl
theorem sat_slHv {a : E} {i : Nat} : (ev gl cf (.sl a .non (.var i)) env S).sat Q ↔ (ev gl cf a env S).sat fun x => (ev gl cf (.var i) env x.2).sat fun l => ∃ i, l.1 = .d (.int i) ∧ (slOp (pk l.2 x.1.toD) none (some i)).sat fun w => Q (w, l.2) := sat_slH rfl
theorem sat_slLb {a : E} {o : Bop} {u v : E} : (ev gl cf (.sl a (.bin o u v) .non) env S).sat Q ↔ (ev gl cf a env S).sat fun x => (ev gl cf (.bin o u v) env x.2).sat fun l => ∃ i, l.1 = .d (.int i) ∧ (slOp (pk l.2 x.1.toD) (some i) none).sat fun w => Q (w, l.2) := sat_slL rfl
theorem sat_slHb {a : E} {o : Bop} {u v : E} : (ev gl cf (.sl a .non (.bin o u v)) env S).sat Q ↔ (ev gl cf a env S).sat fun x => (ev gl cf (.bin o u v) env x.2).sat fun l => ∃ i, l.1 = .d (.int i) ∧ (slOp (pk l.2 x.1.toD) none (some i)).sat fun w => Q (w, l.2) := sat_slH rfl
theorem sat_slLi {a : E} {i : Int} : (ev gl cf (.sl a (.int i) .non) env S).sat Q ↔ (ev gl cf a env S).sat fun x => (ev gl cf (.int i) env x.2).sat fun l => ∃ i, l.1 = .d (.int i) ∧ (slOp (pk l.2 x.1.toD) (some i) none).sat fun w => Q (w, l.2) := sat_slL rfl
theorem sat_slHi {a : E} {i : Int} : (ev gl cf (.sl a .non (.int i)) env S).sat Q ↔ (ev gl cf a env S).sat fun x => (ev gl cf (.int i) env x.2).sat fun l => ∃ i, l.1 = .d (.int i) ∧ (slOp (pk l.2 x.1.toD) none (some i)).sat fun w => Q (w, l.2) := sat_slH rfl
theorem sat_slLc {a : E} {f : Nat} {es : Es} : (ev gl cf (.sl a (.call f es) .non) env S).sat Q ↔ (ev gl cf a env S).sat fun x => (ev gl cf (.call f es) env x.2).sat fun l => ∃ i, l.1 = .d (.int i) ∧ (slOp (pk l.2 x.1.toD) (some i) none).sat fun w => Q (w, l.2) := sat_slL rfl
theorem sat_slHc {a : E} {f : Nat} {es : Es} : (ev gl cf (.sl a .non (.call f es)) env S).sat Q ↔ (ev gl cf a env S).sat fun x => (ev gl cf (.call f es) env x.2).sat fun l => ∃ i, l.1 = .d (.int i) ∧ (slOp (pk l.2 x.1.toD) none (some i)).sat fun w => Q (w, l.2) := sat_slH rfl
theorem sat_cal {f : Nat} {es : Es} : (ev gl cf (.call f es) env S).sat Q ↔ (evs gl cf es env S).sat fun x => (cf f x.1 x.2).sat Q := by
  simp only [ev, sat_bind]
theorem sat_bi {b : Bi} {es : Es} : (ev gl cf (.bi b es) env S).sat Q ↔ (evs gl cf es env S).sat fun x => (biOp b (x.1.map (pk x.2))).sat fun w => Q (w, x.2) := by
  simp only [ev, sat_bind, sat_ok]
theorem sat_isi {a : E} {t : Ty} : (ev gl cf (.isi a t) env S).sat Q ↔ (ev gl cf a env S).sat fun x => (isTy t (pk x.2 x.1.toD)).sat fun r => Q (.d (.bl r), x.2) := by
  simp only [ev, sat_bind, sat_ok]
theorem sat_isis {a : E} {t u : Ty} : (ev gl cf (.isis a [t, u]) env S).sat Q ↔ (ev gl cf a env S).sat fun x => (isTy t (pk x.2 x.1.toD)).sat fun r => (isTy u (pk x.2 x.1.toD)).sat fun q => Q (.d (.bl (r || q)), x.2) := by
  simp only [ev, sat_bind, sat_ok]
theorem sat_me {m : Me} {a : E} {es : Es} : (ev gl cf (.me m a es) env S).sat Q ↔ (ev gl cf a env S).sat fun x => ∃ n xs, x.1 = .d (.obj n) ∧ x.2[n]? = some (.lst xs) ∧ (evs gl cf es env x.2).sat fun y => (meOp m n y.1 y.2).sat Q := by
  simp only [ev, sat_bind]
  constructor
  · rintro ⟨x, e, h⟩
    refine ⟨x, e, ?_⟩
    obtain ⟨x1, x2⟩ := x
    dsimp only at h ⊢
    split at h
    · rename_i n
      split at h
      · rename_i xs hx
        exact ⟨n, xs, rfl, hx, sat_bind.mp h⟩
      · exact (sat_err.mp h).elim
    · exact (sat_err.mp h).elim
  · rintro ⟨x, e, n, xs, h1, h2, h3⟩
    refine ⟨x, e, ?_⟩
    obtain ⟨x1, x2⟩ := x
    cases h1
    dsimp only at h2 ⊢
    rw [h2]
    exact sat_bind.mpr h3
/-- a turn of a comprehension -/
def lcF (gl : Nat → Option D) (cf : Cf) (el : E) (tg : Tg) (env : Env) (d : D) (S : Store) : Res (Option D × Store) := (setTg tg d env).bind fun env' => (ev gl cf el env' S).bind fun z => .ok (some z.1.toD, z.2)
def lcFi (gl : Nat → Option D) (cf : Cf) (el : E) (tg : Tg) (c : E) (env : Env) (d : D) (S : Store) : Res (Option D × Store) := (setTg tg d env).bind fun env' => (ev gl cf c env' S).bind fun t => (toB t.1).bind fun r =>
        if r then (ev gl cf el env' t.2).bind fun z => .ok (some z.1.toD, z.2) else .ok (none, t.2)
theorem sat_lc {el : E} {tg : Tg} {k : Ik} {a b : E} {own : List Nat} : (ev gl cf (.lc el tg k a b own) env S).sat Q ↔ (ev gl cf a env S).sat fun x => (ev gl cf b env x.2).sat fun y => (items k (pk y.2 x.1.toD) (pk y.2 y.1.toD)).sat fun ds =>
    (compL (fun S' => kept x.1.toD y.2 S' && kept y.1.toD y.2 S') (lcF gl cf el tg (wipe env own)) ds y.2).sat fun q => ds.length ≤ most ∧ Q (.fl q.1, q.2) := by
  simp only [ev, sat_bind, sat_calm, sat_ok, sat_guard, decide_eq_true_eq]
  exact Iff.rfl
theorem sat_lcIf {el : E} {tg : Tg} {k : Ik} {a b c : E} {own : List Nat} : (ev gl cf (.lcIf el tg k a b c own) env S).sat Q ↔ (ev gl cf a env S).sat fun x => (ev gl cf b env x.2).sat fun y => (items k (pk y.2 x.1.toD) (pk y.2 y.1.toD)).sat fun ds =>
    (compL (fun S' => kept x.1.toD y.2 S' && kept y.1.toD y.2 S') (lcFi gl cf el tg c (wipe env own)) ds y.2).sat fun q => ds.length ≤ most ∧ Q (.fl q.1, q.2) := by
  simp only [ev, sat_bind, sat_calm, sat_ok, sat_guard, decide_eq_true_eq]
  exact Iff.rfl
theorem sat_lcF {el : E} {tg : Tg} {d : D} {Q : Option D × Store → Prop} : (lcF gl cf el tg env d S).sat Q ↔ (setTg tg d env).sat fun env' => (ev gl cf el env' S).sat fun z => Q (some z.1.toD, z.2) := by
  simp only [lcF, sat_bind, sat_ok]
theorem sat_lcFi {el c : E} {tg : Tg} {d : D} {Q : Option D × Store → Prop} : (lcFi gl cf el tg c env d S).sat Q ↔ (setTg tg d env).sat fun env' => (evB gl cf c env' S).sat fun r => if r.1 = true then (ev gl cf el env' r.2).sat fun z => Q (some z.1.toD, z.2) else Q (none, r.2) := by
  simp only [lcFi, sat_bind, sat_ok, sat_ite, sat_evB]
theorem sat_lrng {k : Ik} {a b : E} : (ev gl cf (.lrng k a b) env S).sat Q ↔ (ev gl cf a env S).sat fun x => (ev gl cf b env x.2).sat fun y => (rgItems k (pk y.2 x.1.toD) (pk y.2 y.1.toD)).sat fun ds => ds.length ≤ most ∧ Q (.fl ds, y.2) := by
  simp only [ev, sat_bind, sat_ok, sat_guard, decide_eq_true_eq]
theorem sat_isB {neg b : Bool} {a : E} : (ev gl cf (.isB neg b a) env S).sat Q ↔ (ev gl cf a env S).sat fun x => ∃ c, x.1 = .d (.bl c) ∧ Q (.d (.bl (if neg = true then !decide (c = b) else decide (c = b))), x.2) := by
  simp only [ev, sat_bind]
  constructor
  · rintro ⟨x, e, h⟩
    refine ⟨x, e, ?_⟩
    obtain ⟨x1, x2⟩ := x
    dsimp only at h ⊢
    split at h
    · rename_i c
      exact ⟨c, rfl, sat_ok.mp h⟩
    · exact (sat_err.mp h).elim
  · rintro ⟨x, e, c, h1, h2⟩
    refine ⟨x, e, ?_⟩
    obtain ⟨x1, x2⟩ := x
    cases h1
    exact sat_ok.mpr h2
def intO (y : W × Store) : Res (W × Store) := match y.1 with
  | .d (.int j) => .ok (.d (.int j), y.2)
  | _ => .err
def orvK (x : W × Store) (rb : Res (W × Store)) : Res (W × Store) := match x.1 with
  | .d (.int i) => if i = 0 then rb.bind intO else .ok (.d (.int i), x.2)
  | .d .non => rb.bind intO
  | _ => .err
theorem orvK_int {i : Int} {T : Store} {rb : Res (W × Store)} : orvK (.d (.int i), T) rb = if i = 0 then rb.bind intO else .ok (.d (.int i), T) := rfl
theorem orvK_non {T : Store} {rb : Res (W × Store)} : orvK (.d .non, T) rb = rb.bind intO := rfl
theorem intO_int {i : Int} {T : Store} : intO (.d (.int i), T) = .ok (.d (.int i), T) := rfl
theorem sat_orv {a b : E} : (ev gl cf (.orv a b) env S).sat Q ↔ (ev gl cf a env S).sat fun x => (orvK x (ev gl cf b env x.2)).sat Q := by
  simp only [ev, sat_bind]
  exact Iff.rfl
def rv1 (d : D) : Res W := match d with
  | .lst xs => .ok (.fl xs.reverse)
  | .tup xs => .ok (.d (.tup xs.reverse))
  | _ => .err
theorem rv1_l {xs : List D} : rv1 (.lst xs) = .ok (.fl xs.reverse) := rfl
theorem rv1_t {xs : List D} : rv1 (.tup xs) = .ok (.d (.tup xs.reverse)) := rfl
theorem sat_rev1 {a : E} : (ev gl cf (.rev1 a) env S).sat Q ↔ (ev gl cf a env S).sat fun x => (rv1 (pk x.2 x.1.toD)).sat fun w => Q (w, x.2) := by
  simp only [ev, sat_bind]
  constructor
  · rintro ⟨x, e, h⟩
    refine ⟨x, e, ?_⟩
    split at h
    · rename_i xs hx
      rw [hx, rv1_l, sat_ok]
      exact sat_ok.mp h
    · rename_i xs hx
      rw [hx, rv1_t, sat_ok]
      exact sat_ok.mp h
    · exact (sat_err.mp h).elim
  · rintro ⟨x, e, h⟩
    refine ⟨x, e, ?_⟩
    dsimp only
    unfold rv1 at h
    split at h
    · rename_i xs hx
      try rw [hx]
      rw [sat_ok] at h
      exact sat_ok.mpr h
    · rename_i xs hx
      try rw [hx]
      rw [sat_ok] at h
      exact sat_ok.mpr h
    · exact (sat_err.mp h).elim
theorem sat_box {e : E} : (ev gl cf (.box e) env S).sat Q ↔ (ev gl cf e env S).sat fun x => ∃ xs, x.1 = .fl xs ∧ Q (.d (.obj x.2.length), x.2 ++ [.lst xs]) := by
  simp only [ev, sat_bind]
  constructor
  · rintro ⟨x, e, h⟩
    refine ⟨x, e, ?_⟩
    obtain ⟨x1, x2⟩ := x
    cases x1 with
    | d v => exact (sat_err.mp h).elim
    | fl xs => exact ⟨xs, rfl, sat_ok.mp h⟩
  · rintro ⟨x, e, xs, h1, h2⟩
    refine ⟨x, e, ?_⟩
    obtain ⟨x1, x2⟩ := x
    cases h1
    exact sat_ok.mpr h2
theorem sat_unbox {e : E} : (ev gl cf (.unbox e) env S).sat Q ↔ (ev gl cf e env S).sat fun x => ∃ n xs, x.1 = .d (.obj n) ∧ x.2[n]? = some (.lst xs) ∧ Q (.fl xs, x.2.set n .dead) := by
  simp only [ev, sat_bind]
  constructor
  · rintro ⟨x, e, h⟩
    refine ⟨x, e, ?_⟩
    obtain ⟨x1, x2⟩ := x
    dsimp only at h ⊢
    split at h
    · rename_i n
      split at h
      · rename_i xs hx
        exact ⟨n, xs, rfl, hx, sat_ok.mp h⟩
      · exact (sat_err.mp h).elim
    · exact (sat_err.mp h).elim
  · rintro ⟨x, e, n, xs, h1, h2, h3⟩
    refine ⟨x, e, ?_⟩
    obtain ⟨x1, x2⟩ := x
    cases h1
    dsimp only at h2 ⊢
    rw [h2]
    exact sat_ok.mpr h3
theorem sat_esN {Q : List D × Store → Prop} : (evs gl cf .nil env S).sat Q ↔ Q ([], S) := by simp only [evs, sat_ok]
theorem sat_esC {e : E} {es : Es} {Q : List D × Store → Prop} : (evs gl cf (.cons e es) env S).sat Q ↔ (ev gl cf e env S).sat fun x => (evs gl cf es env x.2).sat fun y => Q (x.1.toD :: y.1, y.2) := by
  simp only [evs, sat_bind, sat_ok]
end
theorem ex_d {d : D} {P : D → Prop} : (∃ e, (some (some d) : Option (Option D)) = some (some e) ∧ P e) ↔ P d := ⟨fun ⟨e, h, p⟩ => by cases h; exact p, fun p => ⟨d, rfl, p⟩⟩
theorem ex_int {i : Int} {P : Int → Prop} : (∃ e, (W.d (.int i)) = .d (.int e) ∧ P e) ↔ P i := ⟨fun ⟨e, h, p⟩ => by cases h; exact p, fun p => ⟨i, rfl, p⟩⟩
theorem ex_fl {xs : List D} {P : List D → Prop} : (∃ ys, (W.fl xs) = .fl ys ∧ P ys) ↔ P xs := ⟨fun ⟨e, h, p⟩ => by cases h; exact p, fun p => ⟨xs, rfl, p⟩⟩
theorem ex_obj {n : Nat} {P : Nat → List D → Prop} : (∃ m xs, (W.d (.obj n)) = .d (.obj m) ∧ P m xs) ↔ ∃ xs, P n xs := ⟨fun ⟨m, xs, h, p⟩ => by cases h; exact ⟨xs, p⟩, fun ⟨xs, p⟩ => ⟨n, xs, rfl, p⟩⟩
theorem ex_cell {xs : List D} {P : List D → Prop} : (∃ ys, (some (Cell.lst xs)) = some (Cell.lst ys) ∧ P ys) ↔ P xs := ⟨fun ⟨e, h, p⟩ => by cases h; exact p, fun p => ⟨xs, rfl, p⟩⟩
theorem ex_oi {n : Nat} {k : Int} {P : Nat → Int → Prop} : (∃ m l, (W.d (.obj n)) = .d (.obj m) ∧ (W.d (.int k)) = .d (.int l) ∧ P m l) ↔ P n k := ⟨fun ⟨m, l, h, h', p⟩ => by cases h; cases h'; exact p, fun p => ⟨n, k, rfl, rfl, p⟩⟩
theorem ex_bl {b : Bool} {P : Bool → Prop} : (∃ c, (W.d (.bl b)) = .d (.bl c) ∧ P c) ↔ P b := ⟨fun ⟨e, h, p⟩ => by cases h; exact p, fun p => ⟨b, rfl, p⟩⟩
theorem ex_lst {ys : List D} {P : List D → Prop} : (∃ xs, (D.lst ys) = .lst xs ∧ P xs) ↔ P ys := ⟨fun ⟨e, h, p⟩ => by cases h; exact p, fun p => ⟨ys, rfl, p⟩⟩
theorem ex_setx {ys : List D} {P : List D → Nat → Prop} {k : Int} : (∃ xs j, some (Cell.lst ys) = some (Cell.lst xs) ∧ ixN xs.length k = some j ∧ P xs j) ↔ ∃ j, ixN ys.length k = some j ∧ P ys j := ⟨fun ⟨xs, j, h, p⟩ => by cases h; exact ⟨j, p⟩, fun ⟨j, p⟩ => ⟨ys, j, rfl, p⟩⟩
theorem ex_j {a : Nat} {P : Nat → Prop} : (∃ j, some a = some j ∧ P j) ↔ P a := ⟨fun ⟨j, h, p⟩ => by cases h; exact p, fun p => ⟨a, rfl, p⟩⟩
theorem shl1 {n : Nat} : (1 : Int) * 2 ^ n = ((2 ^ n : Nat) : Int) := by simp
/-! ### comprehensions -/
end
/-! ### calls -/
section
variable {gl : Nat → Option D} {fs : List Fn}
theorem sat_call {n i : Nat} {f : Fn} (hf : fs[i]? = some f) {ds : List D} {S : Store} {Q : W × Store → Prop} (hl : ds.length = f.arity) (hp : f.plain = true) (hc : D.closeds ds = true)
    (h : (exs gl (call gl fs n) f.body (start f ds) []).sat fun r => match r.1 with
      | .ret w => D.closed w.toD = true ∧ Q (w, S)
      | .nx _ => Q (.d .non, S)
      | _ => False) (hi : f.init = false := by rfl) : (call gl fs (n + 1) i ds S).sat Q := by
  simp only [call, hf, hl, decide_true, hi, Bool.false_eq_true, if_false, hp, if_true, hc, sat_guard, true_and]
  obtain ⟨⟨r1, r2⟩, e, q⟩ := h
  rw [e]
  cases r1 with
  | ret w => simp only [Res.bind_ok, endW, plainEnd, sat_ok, sat_guard]; exact q
  | nx env => simp only [Res.bind_ok, endW, plainEnd, sat_ok, sat_guard]; exact ⟨rfl, q⟩
  | brk env => exact q.elim
  | cnt env => exact q.elim
theorem sat_callS {n i : Nat} {f : Fn} (hf : fs[i]? = some f) {ds : List D} {S : Store} {Q : W × Store → Prop} (hl : ds.length = f.arity) (hp : f.plain = false)
    (h : (exs gl (call gl fs n) f.body (start f ds) S).sat fun r => match r.1 with
      | .ret w => Q (w, r.2)
      | .nx _ => Q (.d .non, r.2)
      | _ => False) (hi : f.init = false := by rfl) : (call gl fs (n + 1) i ds S).sat Q := by
  simp only [call, hf, hl, decide_true, hi, hp, Bool.false_eq_true, if_false, sat_guard, true_and, sat_bind]
  refine h.imp ?_
  rintro ⟨r1, r2⟩ q
  cases r1 with
  | ret w => simp only [endW, sat_ok]; exact q
  | nx env => simp only [endW, sat_ok]; exact q
  | brk env => exact q.elim
  | cnt env => exact q.elim
end
end Nl

namespace Nl
def f_is_int_f58b : Fn := ⟨["thing", "least", "most"], 3, true,
  (.cons (.ret (.and (.isi (.var 0) .int) (.and (.not (.isi (.var 0) .bool)) (.chain .le .le (.var 1) (.var 0) (.var 2))))) .nil), false⟩
def f_all_cuts_5693 : Fn := ⟨["n"], 1, true,
  (.cons (.ret (.lrng .rng1 (.bin .shl (.int 1) (.var 0)) .non)) .nil), false⟩
def f_spots_of_ec1d : Fn := ⟨["cuts", "found", "at"], 1, true,
  (.cons (.asg (.n 1) (.box (.lst .nil))) (.cons (.asg (.n 2) (.int 0)) (.cons (.whl 100 (.cmp .gt (.bin .shr (.var 0) (.var 2)) (.int 0)) (.cons (.ife (.cmp .eq (.bin .band (.bin .shr (.var 0) (.var 2)) (.int 1)) (.int 1)) (.cons (.ex (.me .append (.var 1) (.cons (.var 2) .nil))) .nil) .nil) (.cons (.asg (.n 2) (.bin .add (.var 2) (.int 1))) .nil))) (.cons (.ret (.unbox (.var 1))) .nil)))), false⟩
def f_made_writing_48a6 (i_is_int : Nat) (g_MOST_SPOTS : Nat) (g_FEWEST_NUMBERS : Nat) (g_MOST_NUMBERS : Nat) : Fn := ⟨["n", "k", "table", "number"], 3, true,
  (.cons (.ife (.or (.not (.call i_is_int (.cons (.var 0) (.cons (.int 1) (.cons (.glob g_MOST_SPOTS) .nil))))) (.not (.call i_is_int (.cons (.var 1) (.cons (.glob g_FEWEST_NUMBERS) (.cons (.glob g_MOST_NUMBERS) .nil)))))) (.cons (.raise 1) .nil) .nil) (.cons (.ife (.or (.not (.isi (.var 2) .tuple)) (.cmp .ne (.bi .len (.cons (.var 2) .nil)) (.bin .shl (.int 1) (.var 0)))) (.cons (.raise 1) .nil) .nil) (.cons (.forr (.n 3) .seq (.var 2) .non (.cons (.ife (.and (.notN (.var 3)) (.not (.call i_is_int (.cons (.var 3) (.cons (.int 0) (.cons (.bin .sub (.var 1) (.int 1)) .nil)))))) (.cons (.raise 1) .nil) .nil) .nil)) (.cons (.ret (.tup (.cons (.var 0) (.cons (.var 1) (.cons (.var 2) .nil))))) .nil)))), false⟩
def f_rest_of_eb55 (i_spots_of : Nat) : Fn := ⟨["n", "cuts", "spot"], 2, true,
  (.cons (.ret (.bin .mod (.bi .sum (.cons (.lc (.bin .add (.var 2) (.int 1)) (.n 2) .seq (.call i_spots_of (.cons (.var 1) .nil)) .non [2]) .nil)) (.bin .add (.var 0) (.int 1)))) .nil), false⟩
def f_summed_af48 (i_all_cuts : Nat) (i_rest_of : Nat) (i_made_writing : Nat) : Fn := ⟨["n", "rest", "table", "many", "cuts", "number"], 2, true,
  (.cons (.asg (.n 2) (.box (.lst .nil))) (.cons (.asg (.n 3) (.int 0)) (.cons (.forr (.n 4) .seq (.call i_all_cuts (.cons (.var 0) .nil)) .non (.cons (.asg (.n 5) .non) (.cons (.ife (.cmp .eq (.call i_rest_of (.cons (.var 0) (.cons (.var 4) .nil))) (.var 1)) (.cons (.asg (.n 5) (.var 3)) (.cons (.asg (.n 3) (.bin .add (.var 3) (.int 1))) .nil)) .nil) (.cons (.ex (.me .append (.var 2) (.cons (.var 5) .nil))) .nil)))) (.cons (.ret (.call i_made_writing (.cons (.var 0) (.cons (.var 3) (.cons (.bi .tuple (.cons (.var 2) .nil)) .nil))))) .nil)))), false⟩
def f_law_stream_dd9d : Fn := ⟨["_law_script", "_law_k", "_law_cell", "_law_mixed"], 2, true,
  (.cons (.ife (.cmp .lt (.var 1) (.bi .len (.cons (.var 0) .nil))) (.cons (.asg (.n 2) (.bi .abs (.cons (.ix (.var 0) (.var 1)) .nil))) (.cons (.asg (.n 3) (.bin .add (.bin .add (.bin .mod (.var 2) (.int 2147483629)) (.bin .mul (.var 1) (.var 1))) (.int 1))) (.cons (.ife (.cmp .lt (.var 2) (.bin .pow (.int 10) (.int 18))) (.cons (.asg (.n 2) (.int 0)) .nil) .nil) (.cons (.ret (.lst (.cons (.var 2) (.cons (.var 3) .nil)))) .nil)))) .nil) (.cons (.ret (.lst (.cons (.int 0) (.cons (.bin .add (.bin .mul (.var 1) (.var 1)) (.int 11)) .nil)))) .nil)), false⟩
def f_law_take_ed9d : Fn := ⟨["_law_stream_here", "_law_most", "_law_digit"], 2, false,
  (.cons (.ife (.cmp .eq (.ix (.var 0) (.int 0)) (.int 0)) (.cons (.setix (.var 0) (.int 1) (.bin .mod (.bin .add (.bin .mul (.ix (.var 0) (.int 1)) (.int 48271)) (.int 12345)) (.int 2147483647))) (.cons (.ret (.bin .mod (.bin .mod (.bin .mul (.ix (.var 0) (.int 1)) (.ix (.var 0) (.int 1))) (.int 2147483629)) (.var 1))) .nil)) .nil) (.cons (.asg (.n 2) (.bin .mod (.ix (.var 0) (.int 0)) (.var 1))) (.cons (.setix (.var 0) (.int 0) (.bin .fdiv (.ix (.var 0) (.int 0)) (.var 1))) (.cons (.ret (.var 2)) .nil)))), false⟩
def f_law_rest_4503 : Fn := ⟨["_law_n", "_law_cuts", "_law_left", "_law_spot", "_law_turn"], 2, true,
  (.cons (.asg (.n 2) (.int 0)) (.cons (.forr (.n 3) .rng1 (.var 0) .non (.cons (.forr (.n 4) .rng1 (.bin .mul (.bin .add (.var 3) (.int 1)) (.bin .band (.bin .shr (.var 1) (.var 3)) (.int 1))) .non (.cons (.asg (.n 2) (.bin .add (.var 2) (.int 1))) (.cons (.ife (.cmp .eq (.var 2) (.bin .add (.var 0) (.int 1))) (.cons (.asg (.n 2) (.int 0)) .nil) .nil) .nil))) .nil)) (.cons (.ret (.var 2)) .nil))), false⟩
def f_law_due_8a70 (i_law_rest : Nat) : Fn := ⟨["_law_n", "_law_rest_here", "_law_rows", "_law_many", "_law_cuts"], 2, true,
  (.cons (.asg (.n 2) (.box (.lst .nil))) (.cons (.asg (.n 3) (.int 0)) (.cons (.forr (.n 4) .rng1 (.bin .shl (.int 1) (.var 0)) .non (.cons (.ife (.cmp .eq (.call i_law_rest (.cons (.var 0) (.cons (.var 4) .nil))) (.var 1)) (.cons (.ex (.me .append (.var 2) (.cons (.var 3) .nil))) (.cons (.asg (.n 3) (.bin .add (.var 3) (.int 1))) .nil)) (.cons (.ex (.me .append (.var 2) (.cons .non .nil))) .nil)) .nil)) (.cons (.ret (.tup (.cons (.var 0) (.cons (.var 3) (.cons (.bi .tuple (.cons (.var 2) .nil)) .nil))))) .nil)))), false⟩
def f_law_c227 (i_law_stream : Nat) (i_law_take : Nat) (i_summed : Nat) (i_law_due : Nat) : Fn := ⟨["_law_script", "_law_k", "_law_stream_here", "_law_n", "_law_rest_here", "_law_here", "_law_left"], 1, true,
  (.cons (.forr (.n 1) .rng1 (.bi .max2 (.cons (.int 2) (.cons (.bi .min2 (.cons (.int 4) (.cons (.bi .len (.cons (.var 0) .nil)) .nil))) .nil))) .non (.cons (.asg (.n 2) (.box (.call i_law_stream (.cons (.var 0) (.cons (.var 1) .nil))))) (.cons (.asg (.n 3) (.bin .add (.int 3) (.call i_law_take (.cons (.var 2) (.cons (.int 6) .nil))))) (.cons (.asg (.n 4) (.call i_law_take (.cons (.var 2) (.cons (.bin .add (.var 3) (.int 1)) .nil)))) (.cons (.forr (.t [5, 6]) .seq (.lst (.cons (.tup (.cons (.var 3) (.cons (.var 4) .nil))) (.cons (.tup (.cons (.var 3) (.cons (.bin .mod (.bin .add (.var 4) (.int 1)) (.bin .add (.var 3) (.int 1))) .nil))) (.cons (.tup (.cons (.bin .add (.int 3) (.bin .mod (.bin .add (.var 3) (.int 1)) (.int 6))) (.cons (.bin .mod (.var 4) (.int 4)) .nil))) (.cons (.tup (.cons (.var 3) (.cons (.var 4) .nil))) .nil))))) .non (.cons (.ife (.cmp .ne (.shw (.call i_summed (.cons (.var 5) (.cons (.var 6) .nil)))) (.shw (.call i_law_due (.cons (.var 5) (.cons (.var 6) .nil))))) (.cons (.ret (.bl false)) .nil) .nil) .nil)) .nil))))) (.cons (.ret (.bl true)) .nil)), false⟩
end Nl

namespace Kx
open PySem PySem.Spec PyProof.Rows L2 Nl
abbrev P0 : Program := PySem.Challenge.pw_notchledger_k55_summed
def wanted : List (Str × Option Str) := [(Str.ofString "is_int", none), (Str.ofString "all_cuts", none), (Str.ofString "spots_of", none), (Str.ofString "made_writing", none), (Str.ofString "rest_of", none), (Str.ofString "summed", none), (Str.ofString "_law_stream", none), (Str.ofString "_law_take", none), (Str.ofString "_law_rest", none), (Str.ofString "_law_due", none), (Str.ofString "law", none)]
def ds : List Df := (P0.main.body.flatMap dfsOf).filter fun d => wanted.contains d.at_
def ks : Mn := ⟨[.int "MOST_SPOTS" 8, .int "FEWEST_NUMBERS" 2, .int "MOST_NUMBERS" 100], [], [1], []⟩
def fs : List Fn := [f_is_int_f58b, f_all_cuts_5693, f_spots_of_ec1d, f_made_writing_48a6 0 0 1 2, f_rest_of_eb55 2, f_summed_af48 1 4 3, f_law_stream_dd9d, f_law_take_ed9d, f_law_rest_4503, f_law_due_8a70 8, f_law_c227 6 7 5 9]
theorem chk_ok : chkFns (nmOf ds ks) fs ds = true := by decide +kernel
abbrev R : PySem.W.OpenRow := PySem.W.OpenLaw.row PySem.Challenge.rw_notchledger_k55_summed
def as : List Addr := [3, 58, 21, 28, 35, 67, 72, 79, 86, 93, 100, 107, 114, 57, 45, 44, 20, 27, 34, 66, 71, 78, 85, 92, 99, 106, 113]
abbrev hk : PySem.W.Hook := hookL as ds ks
def ob (s : PySem.W.SharedT) : AlN := obsNL as ds ks (HandSHeadRun.getT s)
theorem ob_eq (s : PySem.W.SharedT) : ob s = hk.obs s.abs := obsNL_eq (HandSHeadRun.getT_eq s)
def loose : List Str := ["is_int", "all_cuts", "spots_of", "NotchError", "NoWriting", "MOST_SPOTS", "FEWEST_NUMBERS", "MOST_NUMBERS", "made_writing", "rest_of", "summed", "_law_stream", "_law_take", "_law_rest", "_law_due"].map Str.ofString
theorem run1 (w : PySem.World) (os : PySem.OsState) : (HandSHeadRun.endF (HandSHeadRun.stepQ (HandSHeadRun.denQ HandSHeadRun.tabQ) R.prog w) 2000 R.prog w os).map (fun s => (HandSHeadRun.looksF R.prog (PySem.W.boot_heap w.params) s.abs, HandSHeadRun.seenQ (PySem.W.view R.prog [20]) loose (PySem.importedModules R.prog.main.body) (fun s => PySem.W.xlAt (PySem.W.view R.prog [20]) [] s && PySem.W.recOk R.toRowW.records s) s.abs)) = some (true, PySem.W.openGood (PySem.W.view R.prog [20]) loose) := by kernel_rfl
theorem run2 (w : PySem.World) (os : PySem.OsState) : (HandSHeadRun.endF (HandSHeadRun.stepQ (HandSHeadRun.denQ HandSHeadRun.tabQ) R.prog w) 2000 R.prog w os).map (fun s => ((faOf ds ks).take 200).all fun f => f.ok (He.frG (HandSHeadRun.getT s) as)) = some true := by kernel_rfl
theorem run3 (w : PySem.World) (os : PySem.OsState) : (HandSHeadRun.endF (HandSHeadRun.stepQ (HandSHeadRun.denQ HandSHeadRun.tabQ) R.prog w) 2000 R.prog w os).map (fun s => ((faOf ds ks).drop 200).all fun f => f.ok (He.frG (HandSHeadRun.getT s) as)) = some true := by kernel_rfl
theorem run4 (w : PySem.World) (os : PySem.OsState) : (HandSHeadRun.endF (HandSHeadRun.stepQ (HandSHeadRun.denQ HandSHeadRun.tabQ) R.prog w) 2000 R.prog w os).map (fun s => ((fnOf ds).all (fun d => d.ok (He.frG (HandSHeadRun.getT s) as)), (fnOf ds).map fun d => He.fnW (He.frG (HandSHeadRun.getT s) as) d.at_)) = some (He.valD (fnOf ds)) := by kernel_rfl
theorem run5 (w : PySem.World) (os : PySem.OsState) : (HandSHeadRun.endF (HandSHeadRun.stepQ (HandSHeadRun.denQ HandSHeadRun.tabQ) R.prog w) 2000 R.prog w os).map (fun s => exB ks (He.frG (HandSHeadRun.getT s) as)) = some true := by kernel_rfl
theorem run (w : World) : HandSHeadRun.RunEq R (PySem.W.view R.prog [20]) hk ob 2000 loose w := run_split 200 (run1 w) (run2 w) (run3 w) (run4 w) (run5 w)
theorem dl : ∃ d, ds[10]? = some d ∧ d.at_.1 = ("law" : Str) ∧ d.at_.2 = none := ⟨_, rfl, by kernel_rfl, by kernel_rfl⟩
end Kx

/-! Rules to walk: dicts, instances, tuple(range), len(set), index, reversed(range). -/
namespace Nl
section
variable {gl : Nat → Option D} {cf : Cf} {env : Env} {S : Store} {Q : W × Store → Prop}
theorem sat_trng {k : Ik} {a b : E} : (ev gl cf (.trng k a b) env S).sat Q ↔ (ev gl cf a env S).sat fun x => (ev gl cf b env x.2).sat fun y => (rgItems k (pk y.2 x.1.toD) (pk y.2 y.1.toD)).sat fun ds => ds.length ≤ most ∧ Q (.d (.tup ds), y.2) := by
  simp only [ev, sat_bind, sat_ok, sat_guard, decide_eq_true_eq]
def lsnR (d : D) : Res D := match d with
  | .lst xs => (match intsOf xs with
    | some ns => guard' (decide (ns.length ≤ 1000)) (.ok (.int (sortU ns).length))
    | none => .err)
  | _ => .err
theorem lsn_l {xs : List D} {ns : List Int} (h : intsOf xs = some ns) : lsnR (.lst xs) = guard' (decide (ns.length ≤ 1000)) (.ok (.int (sortU ns).length)) := by
  simp only [lsnR, h]
theorem sat_lsn {a : E} : (ev gl cf (.lsn a) env S).sat Q ↔ (ev gl cf a env S).sat fun x => (lsnR (pk x.2 x.1.toD)).sat fun d => Q (.d d, x.2) := by
  simp only [ev, sat_bind]
  constructor
  · rintro ⟨x, e, h⟩
    refine ⟨x, e, ?_⟩
    split at h
    · rename_i xs hx
      split at h
      · rename_i ns hn
        rw [hx, lsn_l hn]
        rw [sat_guard, sat_ok] at h ⊢
        exact h
      · exact (sat_err.mp h).elim
    · exact (sat_err.mp h).elim
  · rintro ⟨x, e, h⟩
    refine ⟨x, e, ?_⟩
    dsimp only
    cases hx : pk x.2 x.1.toD with
    | lst xs =>
      rw [hx] at h
      cases hn : intsOf xs with
      | some ns =>
        rw [lsn_l hn] at h
        simp only [hn]
        rw [sat_guard, sat_ok] at h ⊢
        exact h
      | none =>
        simp only [lsnR, hn] at h
        exact (sat_err.mp h).elim
    | _ => rw [hx] at h; exact (sat_err.mp h).elim
def lidR (d z : D) : Res D := match d, z with
  | .lst xs, .int i => (match intsOf xs with
    | some ns => guard' (ns.contains i) (.ok (.int (ns.idxOf i)))
    | none => .err)
  | _, _ => .err
theorem lid_l {xs : List D} {ns : List Int} {i : Int} (h : intsOf xs = some ns) : lidR (.lst xs) (.int i) = guard' (ns.contains i) (.ok (.int (ns.idxOf i))) := by
  simp only [lidR, h]
theorem sat_lidx {a b : E} : (ev gl cf (.lidx a b) env S).sat Q ↔ (ev gl cf a env S).sat fun x => ∃ us, pk x.2 x.1.toD = .lst us ∧ (ev gl cf b env x.2).sat fun y => (lidR (pk y.2 x.1.toD) y.1.toD).sat fun d => Q (.d d, y.2) := by
  simp only [ev, sat_bind]
  constructor
  · rintro ⟨x, e, h⟩
    refine ⟨x, e, ?_⟩
    split at h
    · rename_i us hu
      refine ⟨us, hu, ?_⟩
      rw [sat_bind] at h
      refine h.imp fun y hy => ?_
      split at hy
      · rename_i xs i hx hi
        split at hy
        · rename_i ns hn
          rw [hx, hi, lid_l hn]
          rw [sat_guard, sat_ok] at hy ⊢
          exact hy
        · exact (sat_err.mp hy).elim
      · exact (sat_err.mp hy).elim
    · exact (sat_err.mp h).elim
  · rintro ⟨x, e, us, hu, h⟩
    refine ⟨x, e, ?_⟩
    dsimp only
    rw [hu]
    dsimp only
    rw [sat_bind]
    refine h.imp fun y hy => ?_
    revert hy
    generalize pk y.2 x.1.toD = A
    generalize y.1.toD = B
    intro hy
    cases A with
    | lst xs =>
      cases B with
      | int i =>
        revert hy
        simp only [lidR]
        cases intsOf xs with
        | none => exact fun hy => (sat_err.mp hy).elim
        | some ns =>
          intro hy
          rw [sat_guard, sat_ok] at hy ⊢
          exact hy
      | _ => exact (sat_err.mp hy).elim
    | _ => exact (sat_err.mp hy).elim
theorem it_rr1 {n : Int} {b : D} : items .rr1 (.int n) b = guard' (small n) (.ok (upFrom 0 n.toNat).reverse) := by
  simp only [items, rng1Items, guard']
  split <;> rfl
theorem it_rr2 {m n : Int} : items .rr2 (.int m) (.int n) = guard' (small m && small n) (.ok (upFrom m (n - m).toNat).reverse) := by
  simp only [items, rng2Items, guard']
  split <;> rfl
theorem bi_sortP {xs : List D} : biOp .sortP [.lst xs] = match prsOf xs with | some ps => .ok (.fl ((sortPr ps).map prD)) | none => .err := rfl
theorem bi_repr {i : Int} : biOp .repr [.int i] = guard' (decide (i.natAbs < 2 ^ 1920)) (.ok (.d (.str (figs i)))) := rfl
/-! ### dicts -/
theorem sat_dnew {t : Bool} : (ev gl cf (.dnew t) env S).sat Q ↔ Q (.d (.obj S.length), S ++ [if t = true then .dT [] else .dK []]) := by
  simp only [ev, sat_ok]
def dinR (neg : Bool) (k : D) (y : W × Store) : Res (W × Store) := match y.1 with
  | .d (.obj n) => (match (y.2[n]?).bind fun c => dGet c k with
    | some o => .ok (.d (.bl (if neg then !o.isSome else o.isSome)), y.2)
    | none => .err)
  | _ => .err
theorem sat_din {neg : Bool} {k d : E} : (ev gl cf (.din neg k d) env S).sat Q ↔ (ev gl cf k env S).sat fun x => (ev gl cf d env x.2).sat fun y => (dinR neg x.1.toD y).sat Q := by
  simp only [ev, sat_bind]
  exact Iff.rfl
def dgetR (w : W) (k : D) (T : Store) : Res (W × Store) := match w with
  | .d (.obj n) => (match (T[n]?).bind fun c => dGet c k with
    | some (some v) => .ok (.d v, T)
    | _ => .err)
  | _ => .err
theorem sat_dget {d k : E} : (ev gl cf (.dget d k) env S).sat Q ↔ (ev gl cf d env S).sat fun x => (ev gl cf k env x.2).sat fun y => (dgetR x.1 y.1.toD y.2).sat Q := by
  simp only [ev, sat_bind]
  exact Iff.rfl
def dgdR (n : Nat) (k : D) (u : W × Store) : Res (W × Store) := match (u.2[n]?).bind fun c => dGet c k with
  | some o => .ok (.d (o.getD u.1.toD), u.2)
  | none => .err
theorem sat_dgetD {d k z : E} : (ev gl cf (.dgetD d k z) env S).sat Q ↔ (ev gl cf d env S).sat fun x => ∃ n ks, x.1 = .d (.obj n) ∧ (x.2[n]?).bind dKeys = some ks ∧ (ev gl cf k env x.2).sat fun y => (ev gl cf z env y.2).sat fun u => (dgdR n y.1.toD u).sat Q := by
  simp only [ev, sat_bind]
  constructor
  · rintro ⟨x, e, h⟩
    refine ⟨x, e, ?_⟩
    obtain ⟨x1, x2⟩ := x
    dsimp only at h ⊢
    split at h
    · rename_i n
      split at h
      · rename_i ks hk
        refine ⟨n, ks, rfl, hk, ?_⟩
        rw [sat_bind] at h
        refine h.imp fun y hy => ?_
        rw [sat_bind] at hy
        exact hy
      · exact (sat_err.mp h).elim
    · exact (sat_err.mp h).elim
  · rintro ⟨x, e, n, ks, h1, h2, h3⟩
    refine ⟨x, e, ?_⟩
    obtain ⟨x1, x2⟩ := x
    cases h1
    dsimp only at h2 ⊢
    rw [h2]
    dsimp only
    rw [sat_bind]
    refine h3.imp fun y hy => ?_
    rw [sat_bind]
    exact hy
def dlenR (x : W × Store) : Res (W × Store) := match x.1 with
  | .d (.obj n) => (match (x.2[n]?).bind dKeys with
    | some ks => .ok (.d (.int ks.length), x.2)
    | none => .err)
  | _ => .err
theorem sat_dlen {d : E} : (ev gl cf (.dlen d) env S).sat Q ↔ (ev gl cf d env S).sat fun x => (dlenR x).sat Q := by
  simp only [ev, sat_bind]
  exact Iff.rfl
def dlistR (x : W × Store) : Res (W × Store) := match x.1 with
  | .d (.obj n) => (match (x.2[n]?).bind dKeys with
    | some ks => .ok (.fl ks, x.2)
    | none => .err)
  | _ => .err
theorem sat_dlist {d : E} : (ev gl cf (.dlist d) env S).sat Q ↔ (ev gl cf d env S).sat fun x => (dlistR x).sat Q := by
  simp only [ev, sat_bind]
  exact Iff.rfl
def dputR (env : Env) (w : W) (k v : D) (T : Store) : Res (Fl × Store) := match w with
  | .d (.obj n) => (match (T[n]?).bind fun c => dPut c k v with
    | some c => .ok (.nx env, T.set n c)
    | none => .err)
  | _ => .err
theorem sat_dput {d k e : E} {Q : Fl × Store → Prop} : (ex gl cf (.dput d k e) env S).sat Q ↔ (ev gl cf e env S).sat fun x => (ev gl cf d env x.2).sat fun y => (ev gl cf k env y.2).sat fun z => (dputR env y.1 z.1.toD x.1.toD z.2).sat Q := by
  simp only [ex, sat_bind]
  exact Iff.rfl
/-! ### instances -/
def fldR (c f : Nat) (x : W × Store) : Res (W × Store) := match x.1 with
  | .d (.obj n) => (match x.2[n]? with
    | some (.ins c' fs) => guard' (c' == c) (match getF f fs with
      | some d => .ok (.d d, x.2)
      | none => .err)
    | _ => .err)
  | _ => .err
theorem sat_fld {c : Nat} {a : E} {f : Nat} : (ev gl cf (.fld c a f) env S).sat Q ↔ (ev gl cf a env S).sat fun x => (fldR c f x).sat Q := by
  simp only [ev, sat_bind]
  exact Iff.rfl
theorem sat_meth {f c : Nat} {a : E} {es : Es} : (ev gl cf (.meth f c a es) env S).sat Q ↔ (ev gl cf a env S).sat fun x => ∃ n fs, x.1 = .d (.obj n) ∧ x.2[n]? = some (.ins c fs) ∧ (evs gl cf es env x.2).sat fun y => (cf f (.obj n :: y.1) y.2).sat Q := by
  simp only [ev, sat_bind]
  constructor
  · rintro ⟨x, e, h⟩
    refine ⟨x, e, ?_⟩
    obtain ⟨x1, x2⟩ := x
    dsimp only at h ⊢
    split at h
    · rename_i n
      split at h
      · rename_i c' fs hc
        rw [sat_guard, sat_bind, beq_iff_eq] at h
        obtain ⟨rfl, h⟩ := h
        exact ⟨n, fs, rfl, hc, h⟩
      · exact (sat_err.mp h).elim
    · exact (sat_err.mp h).elim
  · rintro ⟨x, e, n, fs, h1, h2, h3⟩
    refine ⟨x, e, ?_⟩
    obtain ⟨x1, x2⟩ := x
    cases h1
    dsimp only at h2 ⊢
    rw [h2]
    dsimp only
    rw [sat_guard, sat_bind, beq_iff_eq]
    exact ⟨rfl, h3⟩
theorem sat_make {f c : Nat} {es : Es} : (ev gl cf (.make f c es) env S).sat Q ↔ (evs gl cf es env S).sat fun y => (cf f (.obj y.2.length :: y.1) (y.2 ++ [.ins c []])).sat fun r => r.1 = .d .non ∧ Q (.d (.obj y.2.length), r.2) := by
  simp only [ev, sat_bind, sat_calm]
  constructor
  · rintro ⟨y, e, r, e2, h⟩
    refine ⟨y, e, r, e2, ?_⟩
    obtain ⟨r1, r2⟩ := r
    dsimp only at h ⊢
    split at h
    · exact ⟨rfl, sat_ok.mp h⟩
    · exact (sat_err.mp h).elim
  · rintro ⟨y, e, r, e2, h1, h2⟩
    refine ⟨y, e, r, e2, ?_⟩
    obtain ⟨r1, r2⟩ := r
    cases h1
    exact sat_ok.mpr h2
theorem sat_setfld {c : Nat} {o : E} {f : Nat} {e : E} {Q : Fl × Store → Prop} : (ex gl cf (.setfld c o f e) env S).sat Q ↔ (ev gl cf e env S).sat fun x => (ev gl cf o env x.2).sat fun y => ∃ n fs, y.1 = .d (.obj n) ∧ y.2[n]? = some (.ins c fs) ∧ f < fdNames.length ∧ fs.length < 100 ∧ Q (.nx env, y.2.set n (.ins c (putF f x.1.toD fs))) := by
  simp only [ex, sat_bind]
  constructor
  · rintro ⟨x, e, y, e2, h⟩
    refine ⟨x, e, y, e2, ?_⟩
    obtain ⟨y1, y2⟩ := y
    dsimp only at h ⊢
    split at h
    · rename_i n
      split at h
      · rename_i c' fs hc
        rw [sat_guard, sat_ok] at h
        simp only [Bool.and_eq_true, beq_iff_eq, decide_eq_true_eq] at h
        obtain ⟨⟨rfl, h1, h2⟩, h3⟩ := h
        exact ⟨n, fs, rfl, hc, h1, h2, h3⟩
      · exact (sat_err.mp h).elim
    · exact (sat_err.mp h).elim
  · rintro ⟨x, e, y, e2, n, fs, h1, h2, h3, h4, h5⟩
    refine ⟨x, e, y, e2, ?_⟩
    obtain ⟨y1, y2⟩ := y
    cases h1
    dsimp only at h2 ⊢
    rw [h2]
    dsimp only
    rw [sat_guard, sat_ok]
    simp only [Bool.and_eq_true, beq_iff_eq, decide_eq_true_eq]
    exact ⟨⟨trivial, h3, h4⟩, h5⟩
end
end Nl

/-! Rules for max(.., default=..) and for repr of lists and tuples; how long such a text is. -/
namespace Nl
section
variable {gl : Nat → Option D} {cf : Cf} {env : Env} {S : Store} {Q : W × Store → Prop}
theorem sat_maxd {a d : Nl.E} : (ev gl cf (.maxd a d) env S).sat Q ↔ (ev gl cf a env S).sat fun x => (ev gl cf d env x.2).sat fun y => (maxdR (pk y.2 x.1.toD) y.1).sat fun w => Q (w, y.2) := by
  simp only [ev, sat_bind, sat_ok]
theorem sat_shw {a : Nl.E} : (ev gl cf (.shw a) env S).sat Q ↔ (ev gl cf a env S).sat fun x => (shwR (pk x.2 x.1.toD)).sat fun w => Q (w, x.2) := by
  simp only [ev, sat_bind, sat_ok]
end
theorem shOks_iff {n : Nat} : ∀ {xs : List D}, shOks n xs = true ↔ ∀ x ∈ xs, shOk n x = true
  | [] => ⟨fun _ x h => (by cases h), fun _ => rfl⟩
  | x :: xs => by
    rw [shOks, Bool.and_eq_true, shOks_iff]
    exact ⟨fun h y hy => (List.mem_cons.mp hy).elim (fun e => by rw [e]; exact h.1) (h.2 y), fun h => ⟨h x List.mem_cons_self, fun y hy => h y (List.mem_cons_of_mem _ hy)⟩⟩
theorem shJ_len {b : Nat} : ∀ ts : List (List Nat), (∀ t ∈ ts, t.length ≤ b) → (shJ ts).length ≤ (b + 2) * ts.length
  | [], _ => Nat.zero_le _
  | [t], h => by
    have := h t List.mem_cons_self
    show t.length ≤ (b + 2) * 1
    omega
  | t :: u :: r, h => by
    have h1 := h t List.mem_cons_self
    have h2 := shJ_len (u :: r) fun v hv => h v (List.mem_cons_of_mem _ hv)
    show (t ++ ([44, 32] ++ shJ (u :: r))).length ≤ _
    rw [List.length_append, List.length_append, List.length_cons (a := t), Nat.mul_succ]
    simp only [List.length_cons, List.length_nil] at h2 ⊢
    omega
theorem shDs_map : ∀ xs : List D, shDs xs = xs.map shD
  | [] => rfl
  | x :: xs => by rw [shDs, shDs_map xs, List.map_cons]
theorem shD_tup_len {b : Nat} {xs : List D} (h : ∀ x ∈ xs, (shD x).length ≤ b) : (shD (.tup xs)).length ≤ (b + 2) * xs.length + 3 := by
  have := shJ_len (b := b) (xs.map shD) (fun t ht => by obtain ⟨x, hx, rfl⟩ := List.mem_map.mp ht; exact h x hx)
  rw [List.length_map] at this
  rw [shD, shDs_map, List.length_cons, List.length_append]
  have : (if xs.length = 1 then [44, 41] else [41]).length ≤ 2 := by split <;> simp
  omega
theorem digits_len : ∀ (k fuel n : Nat) (ds : List Char), n < 10 ^ (k + 1) → (Nat.toDigitsCore 10 fuel n ds).length ≤ k + 1 + ds.length
  | k, 0, n, ds, _ => by
    show ds.length ≤ _
    omega
  | 0, f + 1, n, ds, h => by
    have h0 : n / 10 = 0 := by omega
    unfold Nat.toDigitsCore
    simp only [h0, if_true, List.length_cons]
    omega
  | k + 1, f + 1, n, ds, h => by
    unfold Nat.toDigitsCore
    by_cases h0 : n / 10 = 0
    · simp only [h0, if_true, List.length_cons]
      omega
    · simp only [h0, if_false]
      have := digits_len k f (n / 10) (Nat.digitChar (n % 10) :: ds) (by rw [Nat.pow_succ] at h; omega)
      rw [List.length_cons] at this
      omega
theorem repr_len {k n : Nat} (h : n < 10 ^ (k + 1)) : (Nat.repr n).toList.length ≤ k + 1 := by
  have := digits_len k (n + 1) n [] h
  rw [List.length_nil, Nat.add_zero] at this
  have e : (Nat.repr n).toList = Nat.toDigits 10 n := by
    unfold Nat.repr
    exact String.toList_ofList
  rw [e]
  exact this
theorem figs_len {k : Nat} {i : Int} (h : i.natAbs < 10 ^ (k + 1)) : (figs i).length ≤ k + 2 := by
  unfold figs
  rw [List.length_map]
  cases i with
  | ofNat n =>
    have e : (toString (Int.ofNat n) : String) = Nat.repr n := rfl
    rw [e]
    have := repr_len (k := k) (n := n) h
    omega
  | negSucc n =>
    have e : (toString (Int.negSucc n) : String) = "-" ++ Nat.repr (n + 1) := rfl
    rw [e, String.toList_append, List.length_append]
    have := repr_len (k := k) (n := n + 1) h
    have : ("-" : String).toList.length = 1 := rfl
    omega
theorem figs_ok5 (i : Int) : (figs i).all (fun c => decide (c < 1114112)) = true := by
  rw [List.all_eq_true]
  intro c hc
  unfold figs at hc
  obtain ⟨q, -, rfl⟩ := List.mem_map.mp hc
  have := q.valid
  rw [decide_eq_true_eq]
  rcases this with h | h
  · have : q.toNat < 55296 := h
    omega
  · exact h.2
theorem shJ_all {p : Nat → Bool} (h1 : p 44 = true) (h2 : p 32 = true) : ∀ ts : List (List Nat), (∀ t ∈ ts, t.all p = true) → (shJ ts).all p = true
  | [], _ => rfl
  | [t], h => h t List.mem_cons_self
  | t :: u :: r, h => by
    show (t ++ ([44, 32] ++ shJ (u :: r))).all p = true
    rw [List.all_append, List.all_append, h t List.mem_cons_self, shJ_all h1 h2 (u :: r) fun v hv => h v (List.mem_cons_of_mem _ hv)]
    simp [h1, h2]
mutual
theorem shD_ok : ∀ (n : Nat) (d : D), shOk n d = true → (shD d).all (fun c => decide (c < 1114112)) = true
  | _, .non, _ => by rw [shD]; decide
  | _, .bl true, _ => by rw [shD]; decide
  | _, .bl false, _ => by rw [shD]; decide
  | _, .int i, _ => by rw [shD]; exact figs_ok5 i
  | _, .str s, h => by
    simp only [shOk, List.all_eq_true, Bool.and_eq_true, decide_eq_true_eq] at h
    rw [shD, List.all_eq_true]
    intro c hc
    rw [decide_eq_true_eq]
    rcases List.mem_cons.mp hc with rfl | hc
    · decide
    · rcases List.mem_append.mp hc with hc | hc
      · have := h c hc
        omega
      · cases List.mem_singleton.mp hc
        decide
  | 0, .tup _, h => by simp [shOk] at h
  | 0, .lst _, h => by simp [shOk] at h
  | n + 1, .tup xs, h => by
    rw [shOk] at h
    have := shJ_all (p := fun c => decide (c < 1114112)) (by decide) (by decide) (shDs xs) (shDs_ok n xs h)
    rw [shD, List.all_cons, List.all_append, this]
    split <;> decide
  | n + 1, .lst xs, h => by
    rw [shOk] at h
    have := shJ_all (p := fun c => decide (c < 1114112)) (by decide) (by decide) (shDs xs) (shDs_ok n xs h)
    rw [shD, List.all_cons, List.all_append, this]
    decide
  | _, .scr _, h => by simp [shOk] at h
  | _, .obj _, h => by simp [shOk] at h
  | _, .ex _, h => by simp [shOk] at h
theorem shDs_ok : ∀ (n : Nat) (xs : List D), shOks n xs = true → ∀ t ∈ shDs xs, t.all (fun c => decide (c < 1114112)) = true
  | _, [], _ => fun t h => by rw [shDs] at h; cases h
  | n, x :: xs, h => fun t ht => by
    rw [shOks, Bool.and_eq_true] at h
    rw [shDs] at ht
    rcases List.mem_cons.mp ht with rfl | ht
    · exact shD_ok n x h.1
    · exact shDs_ok n xs h.2 t ht
end
/-- what's told of a tuple, a list -/
theorem shw_of {d : D} (h1 : shOk 40 d = true) (h2 : (shD d).length ≤ 16777216) (h3 : (∃ xs, d = .tup xs) ∨ ∃ xs, d = .lst xs) : shwR d = .ok (.d (.str (shD d))) := by
  rcases h3 with ⟨xs, rfl⟩ | ⟨xs, rfl⟩
  · rw [shOk] at h1
    have e : shwR (.tup xs) = guard' (shOks 39 xs && decide ((shD (.tup xs)).length ≤ most)) (.ok (.d (.str (shD (.tup xs))))) := rfl
    rw [e, h1]
    have : decide ((shD (.tup xs)).length ≤ most) = true := decide_eq_true h2
    rw [this]
    rfl
  · rw [shOk] at h1
    have e : shwR (.lst xs) = guard' (shOks 39 xs && decide ((shD (.lst xs)).length ≤ most)) (.ok (.d (.str (shD (.lst xs))))) := rfl
    rw [e, h1]
    have : decide ((shD (.lst xs)).length ≤ most) = true := decide_eq_true h2
    rw [this]
    rfl
end Nl

/-! What texts that may raise come to: rules with two ways out. Printed by mkwp.py of NlLog's. -/
namespace Nl
/-- it comes to something of which Q holds, or raises something of which E holds -/
def Res.wp {α : Type} (r : Res α) (Q : α → Prop) (E : Nat → Store → Prop) : Prop := match r with
  | .ok a => Q a
  | .exc k S => E k S
  | .err => False
section
variable {α β : Type} {E : Nat → Store → Prop}
theorem Res.wp.imp {r : Res α} {P Q : α → Prop} {F : Nat → Store → Prop} (h : r.wp P E) (f : ∀ a, P a → Q a) (g : ∀ k S, E k S → F k S) : r.wp Q F := by
  cases r with
  | ok a => exact f a h
  | exc k S => exact g k S h
  | err => exact h
end
section
variable {gl : Nat → Option D} {cf : Cf} {E : Nat → Store → Prop}
section
variable {env : Env} {S : Store} {Q : W × Store → Prop}
end
end
section
variable {gl : Nat → Option D} {fs : List Fn} {E : Nat → Store → Prop}
end
end Nl

/-! The laws' own draws. -/
namespace Nl
section
variable {gl : Nat → Option D} {fs : List Fn}
/-- a stream of draws stands at p -/
def Dr (S : Store) (p : Nat) : Prop := ∃ a b : Int, S[p]? = some (.lst [.int a, .int b])
theorem take_sat {n i p : Nat} {m : Int} {S : Store} {Q : W × Store → Prop} (hf : fs[i]? = some f_law_take_ed9d) (hp : Dr S p) (h0 : 0 < m) (h1 : m < 1073741824)
    (h : ∀ (x : Nat) (a b : Int), (x : Int) < m → Q (.d (.int x), S.set p (.lst [.int a, .int b]))) : (call gl fs (n + 1) i [.obj p, .int m] S).sat Q := by
  obtain ⟨a, b, hp⟩ := hp
  have hl : p < S.length := (List.getElem?_eq_some_iff.mp hp).1
  have nn : ∀ z : Int, ∃ x : Nat, z % m = (x : Int) ∧ (x : Int) < m := fun z => by
    refine ⟨(z % m).toNat, ?_, ?_⟩
    · rw [Int.toNat_of_nonneg (Int.emod_nonneg _ (by omega))]
    · rw [Int.toNat_of_nonneg (Int.emod_nonneg _ (by omega))]
      exact Int.emod_lt_of_pos _ h0
  have hs : ∀ c, (S.set p c)[p]? = some c := fun c => List.getElem?_set_self hl
  refine sat_callS hf rfl rfl ?_
  simp -implicitDefEqProofs only [sat_exs, sat_exs_nil, sat_if, sat_asg, sat_asgT, sat_setix, sat_ex, sat_ret, sat_retN, sat_pass, sat_brk, sat_cnt, sat_raise, sat_evB, sat_ite, sat_for, rest_nx, rest_ret, sat_var, sat_non, sat_bl, sat_int, sat_str, sat_bin, sat_neg, sat_cmp, sat_chain, sat_isN, sat_notN, sat_and, sat_or, sat_not, sat_ifE, sat_tup, sat_lst, sat_ix, sat_slN, sat_slLv, sat_slHv, sat_slLb, sat_slHb, sat_slLi, sat_slHi, sat_slLc, sat_slHc, sat_cal, sat_bi, sat_isi, sat_isis, sat_me, sat_lc, sat_lcIf, sat_lcF, sat_lcFi, sat_lrng, sat_isB, sat_rev1, rv1_l, rv1_t, List.reverse_cons, List.reverse_nil, sat_orv, orvK_int, orvK_non, intO_int, ex_bl, ex_lst, sat_box, sat_unbox, sat_esN, sat_esC, ex_d, ex_int, ex_fl, ex_obj, ex_cell, ex_oi, kept_non, kept_int, kept_tup, kept_lst, kept_str, kept_scr, kept_self, ex_setx, ex_j, shl1, Int.toNat_natCast, Int.natCast_nonneg, start, bin_ii, bin_ll, bin_tt, bin_ss, bin_li, bin_ti, rg_1, rg_2, int_add, int_sub, int_mul, int_fdiv, int_mod, int_pow, int_shl, int_shr, int_band, int_bor, int_bxor, cmp_eq, cmp_ne, cmp_in, cmp_nin, cmp_lt, cmp_le, cmp_gt, cmp_ge, eq_op, in_lst, in_tup, ix_lst, ix_tup, ix_scr, ix_str, sl_lst, sl_tup, sl_str, end_t, end_i, bi_len_l, bi_len_t, bi_len_c, bi_len_s, bi_abs, bi_sum, bi_maxl, bi_minl, bi_max2, bi_min2, bi_any, bi_all, bi_int_i, bi_int_b, bi_list_l, bi_list_t, bi_tuple_l, bi_tuple_t, bi_sorted, bi_sset, ty_non, ty_bl, ty_int, ty_str, ty_lst, ty_tup, ty_scr, toB_bl, set_n, set_t, set_tl, it_seq_l, it_seq_t, it_seq_s, it_rng1, it_rng2, it_enm, it_enmT, it_zp_l, it_zp_t, it_rev_l, it_rev_t, me_append, me_extend, me_pop, me_reverse, me_count, ty_int_int, ty_int_bool, ty_bool_int, ty_bool_bool, ty_list_list, ty_tuple_tuple, ty_list_tuple, ty_tuple_list, ty_tuple_int, ty_tuple_bool, ty_int_tuple, ty_str_str, isNonE, toD_d, toD_fl, clo_d, clo_fl, eqB_nn, eqB_bb, eqB_bi, eqB_ib, eqB_ii, eqB_ss, eqB_ll, eqB_tt, eqB_ni, eqB_in, eqBs_00, eqBs_0c, eqBs_c0, eqBs_cc, okD, okDs, flat, small, powOk, mulOk, most, natAbs_1, natAbs_2, natAbs_10, Int.natAbs_natCast, wipe, intsOf, blsOf, pq_non, pq_bl, pq_int, pq_str, pq_tup, pq_lst, pq_scr, atI_0, atI_1, atI_2, ixN_0, ixN_1, D.closed, D.closeds, sat_ok, sat_bind, sat_guard, sat_err, Res.bind_ok, Res.bind_err, List.map_cons, List.map_nil, List.length_cons, List.length_nil, List.cons_append, List.nil_append, List.getElem?_cons_zero, List.getElem?_cons_succ, List.set_cons_zero, List.set_cons_succ, List.replicate, List.foldl_cons, List.foldl_nil, List.zip_cons_cons, List.zip_nil_left, List.zip_nil_right, Nat.reduceAdd, Nat.reduceSub, Nat.reduceLeDiff, Nat.reduceLT, Int.reduceLT, Int.reduceLE, Int.reduceNeg, Int.reducePow, Int.reduceToNat, Int.reduceAdd, Int.reduceMul, Int.reduceSub, Nat.reducePow, Nat.zero_add, Nat.add_zero, decide_true, decide_false, decide_eq_true_eq, beq_iff_eq, Bool.true_eq_false, reduceCtorEq, if_true, if_false, Bool.false_eq_true, true_and, and_true, Bool.true_and, Bool.and_true, Bool.false_and, Bool.and_false, Bool.not_true, Bool.not_false, Bool.or_true, Bool.true_or, Bool.or_false, Bool.false_or, Bool.and_eq_true, Bool.or_eq_true, Bool.not_eq_true', beq_self_eq_true, Option.map_some, Option.toList, if_true, if_false, f_law_take_ed9d, hp, pq_obj hp]
  split
  · simp -implicitDefEqProofs only [sat_exs, sat_exs_nil, sat_if, sat_asg, sat_asgT, sat_setix, sat_ex, sat_ret, sat_retN, sat_pass, sat_brk, sat_cnt, sat_raise, sat_evB, sat_ite, sat_for, rest_nx, rest_ret, sat_var, sat_non, sat_bl, sat_int, sat_str, sat_bin, sat_neg, sat_cmp, sat_chain, sat_isN, sat_notN, sat_and, sat_or, sat_not, sat_ifE, sat_tup, sat_lst, sat_ix, sat_slN, sat_slLv, sat_slHv, sat_slLb, sat_slHb, sat_slLi, sat_slHi, sat_slLc, sat_slHc, sat_cal, sat_bi, sat_isi, sat_isis, sat_me, sat_lc, sat_lcIf, sat_lcF, sat_lcFi, sat_lrng, sat_isB, sat_rev1, rv1_l, rv1_t, List.reverse_cons, List.reverse_nil, sat_orv, orvK_int, orvK_non, intO_int, ex_bl, ex_lst, sat_box, sat_unbox, sat_esN, sat_esC, ex_d, ex_int, ex_fl, ex_obj, ex_cell, ex_oi, kept_non, kept_int, kept_tup, kept_lst, kept_str, kept_scr, kept_self, ex_setx, ex_j, shl1, Int.toNat_natCast, Int.natCast_nonneg, start, bin_ii, bin_ll, bin_tt, bin_ss, bin_li, bin_ti, rg_1, rg_2, int_add, int_sub, int_mul, int_fdiv, int_mod, int_pow, int_shl, int_shr, int_band, int_bor, int_bxor, cmp_eq, cmp_ne, cmp_in, cmp_nin, cmp_lt, cmp_le, cmp_gt, cmp_ge, eq_op, in_lst, in_tup, ix_lst, ix_tup, ix_scr, ix_str, sl_lst, sl_tup, sl_str, end_t, end_i, bi_len_l, bi_len_t, bi_len_c, bi_len_s, bi_abs, bi_sum, bi_maxl, bi_minl, bi_max2, bi_min2, bi_any, bi_all, bi_int_i, bi_int_b, bi_list_l, bi_list_t, bi_tuple_l, bi_tuple_t, bi_sorted, bi_sset, ty_non, ty_bl, ty_int, ty_str, ty_lst, ty_tup, ty_scr, toB_bl, set_n, set_t, set_tl, it_seq_l, it_seq_t, it_seq_s, it_rng1, it_rng2, it_enm, it_enmT, it_zp_l, it_zp_t, it_rev_l, it_rev_t, me_append, me_extend, me_pop, me_reverse, me_count, ty_int_int, ty_int_bool, ty_bool_int, ty_bool_bool, ty_list_list, ty_tuple_tuple, ty_list_tuple, ty_tuple_list, ty_tuple_int, ty_tuple_bool, ty_int_tuple, ty_str_str, isNonE, toD_d, toD_fl, clo_d, clo_fl, eqB_nn, eqB_bb, eqB_bi, eqB_ib, eqB_ii, eqB_ss, eqB_ll, eqB_tt, eqB_ni, eqB_in, eqBs_00, eqBs_0c, eqBs_c0, eqBs_cc, okD, okDs, flat, small, powOk, mulOk, most, natAbs_1, natAbs_2, natAbs_10, Int.natAbs_natCast, wipe, intsOf, blsOf, pq_non, pq_bl, pq_int, pq_str, pq_tup, pq_lst, pq_scr, atI_0, atI_1, atI_2, ixN_0, ixN_1, D.closed, D.closeds, sat_ok, sat_bind, sat_guard, sat_err, Res.bind_ok, Res.bind_err, List.map_cons, List.map_nil, List.length_cons, List.length_nil, List.cons_append, List.nil_append, List.getElem?_cons_zero, List.getElem?_cons_succ, List.set_cons_zero, List.set_cons_succ, List.replicate, List.foldl_cons, List.foldl_nil, List.zip_cons_cons, List.zip_nil_left, List.zip_nil_right, Nat.reduceAdd, Nat.reduceSub, Nat.reduceLeDiff, Nat.reduceLT, Int.reduceLT, Int.reduceLE, Int.reduceNeg, Int.reducePow, Int.reduceToNat, Int.reduceAdd, Int.reduceMul, Int.reduceSub, Nat.reducePow, Nat.zero_add, Nat.add_zero, decide_true, decide_false, decide_eq_true_eq, beq_iff_eq, Bool.true_eq_false, reduceCtorEq, if_true, if_false, Bool.false_eq_true, true_and, and_true, Bool.true_and, Bool.and_true, Bool.false_and, Bool.and_false, Bool.not_true, Bool.not_false, Bool.or_true, Bool.true_or, Bool.or_false, Bool.false_or, Bool.and_eq_true, Bool.or_eq_true, Bool.not_eq_true', beq_self_eq_true, Option.map_some, Option.toList, if_true, if_false, hp, pq_obj hp, hs, pq_obj (hs _)]
    obtain ⟨x, e, hx⟩ := nn ((b * 48271 + 12345) % 2147483647 * ((b * 48271 + 12345) % 2147483647) % 2147483629)
    rw [e]
    have := Int.emod_nonneg (b * 48271 + 12345) (b := 2147483647) (by omega)
    have := Int.emod_lt_of_pos (b * 48271 + 12345) (b := 2147483647) (by omega)
    exact ⟨.inl (by omega), h0, h x _ _ hx⟩
  · obtain ⟨x, e, hx⟩ := nn a
    rw [e]
    exact ⟨h0, ⟨h0, h1⟩, h x _ _ hx⟩
theorem stream_sat {n i k : Nat} {ns : List Int} {S : Store} {Q : W × Store → Prop} (hf : fs[i]? = some f_law_stream_dd9d) (hk : k < 1000) (h : ∀ a b : Int, Q (.fl [.int a, .int b], S)) : (call gl fs (n + 1) i [.scr ns, .int k] S).sat Q := by
  refine sat_call hf rfl rfl rfl ?_
  simp -implicitDefEqProofs only [sat_exs, sat_exs_nil, sat_if, sat_asg, sat_asgT, sat_setix, sat_ex, sat_ret, sat_retN, sat_pass, sat_brk, sat_cnt, sat_raise, sat_evB, sat_ite, sat_for, rest_nx, rest_ret, sat_var, sat_non, sat_bl, sat_int, sat_str, sat_bin, sat_neg, sat_cmp, sat_chain, sat_isN, sat_notN, sat_and, sat_or, sat_not, sat_ifE, sat_tup, sat_lst, sat_ix, sat_slN, sat_slLv, sat_slHv, sat_slLb, sat_slHb, sat_slLi, sat_slHi, sat_slLc, sat_slHc, sat_cal, sat_bi, sat_isi, sat_isis, sat_me, sat_lc, sat_lcIf, sat_lcF, sat_lcFi, sat_lrng, sat_isB, sat_rev1, rv1_l, rv1_t, List.reverse_cons, List.reverse_nil, sat_orv, orvK_int, orvK_non, intO_int, ex_bl, ex_lst, sat_box, sat_unbox, sat_esN, sat_esC, ex_d, ex_int, ex_fl, ex_obj, ex_cell, ex_oi, kept_non, kept_int, kept_tup, kept_lst, kept_str, kept_scr, kept_self, ex_setx, ex_j, shl1, Int.toNat_natCast, Int.natCast_nonneg, start, bin_ii, bin_ll, bin_tt, bin_ss, bin_li, bin_ti, rg_1, rg_2, int_add, int_sub, int_mul, int_fdiv, int_mod, int_pow, int_shl, int_shr, int_band, int_bor, int_bxor, cmp_eq, cmp_ne, cmp_in, cmp_nin, cmp_lt, cmp_le, cmp_gt, cmp_ge, eq_op, in_lst, in_tup, ix_lst, ix_tup, ix_scr, ix_str, sl_lst, sl_tup, sl_str, end_t, end_i, bi_len_l, bi_len_t, bi_len_c, bi_len_s, bi_abs, bi_sum, bi_maxl, bi_minl, bi_max2, bi_min2, bi_any, bi_all, bi_int_i, bi_int_b, bi_list_l, bi_list_t, bi_tuple_l, bi_tuple_t, bi_sorted, bi_sset, ty_non, ty_bl, ty_int, ty_str, ty_lst, ty_tup, ty_scr, toB_bl, set_n, set_t, set_tl, it_seq_l, it_seq_t, it_seq_s, it_rng1, it_rng2, it_enm, it_enmT, it_zp_l, it_zp_t, it_rev_l, it_rev_t, me_append, me_extend, me_pop, me_reverse, me_count, ty_int_int, ty_int_bool, ty_bool_int, ty_bool_bool, ty_list_list, ty_tuple_tuple, ty_list_tuple, ty_tuple_list, ty_tuple_int, ty_tuple_bool, ty_int_tuple, ty_str_str, isNonE, toD_d, toD_fl, clo_d, clo_fl, eqB_nn, eqB_bb, eqB_bi, eqB_ib, eqB_ii, eqB_ss, eqB_ll, eqB_tt, eqB_ni, eqB_in, eqBs_00, eqBs_0c, eqBs_c0, eqBs_cc, okD, okDs, flat, small, powOk, mulOk, most, natAbs_1, natAbs_2, natAbs_10, Int.natAbs_natCast, wipe, intsOf, blsOf, pq_non, pq_bl, pq_int, pq_str, pq_tup, pq_lst, pq_scr, atI_0, atI_1, atI_2, ixN_0, ixN_1, D.closed, D.closeds, sat_ok, sat_bind, sat_guard, sat_err, Res.bind_ok, Res.bind_err, List.map_cons, List.map_nil, List.length_cons, List.length_nil, List.cons_append, List.nil_append, List.getElem?_cons_zero, List.getElem?_cons_succ, List.set_cons_zero, List.set_cons_succ, List.replicate, List.foldl_cons, List.foldl_nil, List.zip_cons_cons, List.zip_nil_left, List.zip_nil_right, Nat.reduceAdd, Nat.reduceSub, Nat.reduceLeDiff, Nat.reduceLT, Int.reduceLT, Int.reduceLE, Int.reduceNeg, Int.reducePow, Int.reduceToNat, Int.reduceAdd, Int.reduceMul, Int.reduceSub, Nat.reducePow, Nat.zero_add, Nat.add_zero, decide_true, decide_false, decide_eq_true_eq, beq_iff_eq, Bool.true_eq_false, reduceCtorEq, if_true, if_false, Bool.false_eq_true, true_and, and_true, Bool.true_and, Bool.and_true, Bool.false_and, Bool.and_false, Bool.not_true, Bool.not_false, Bool.or_true, Bool.true_or, Bool.or_false, Bool.false_or, Bool.and_eq_true, Bool.or_eq_true, Bool.not_eq_true', beq_self_eq_true, Option.map_some, Option.toList, if_true, if_false, f_law_stream_dd9d, atI_nat]
  split
  · rename_i hk'
    have hk' : k < ns.length := by omega
    rw [List.getElem?_eq_getElem hk']
    simp -implicitDefEqProofs only [sat_exs, sat_exs_nil, sat_if, sat_asg, sat_asgT, sat_setix, sat_ex, sat_ret, sat_retN, sat_pass, sat_brk, sat_cnt, sat_raise, sat_evB, sat_ite, sat_for, rest_nx, rest_ret, sat_var, sat_non, sat_bl, sat_int, sat_str, sat_bin, sat_neg, sat_cmp, sat_chain, sat_isN, sat_notN, sat_and, sat_or, sat_not, sat_ifE, sat_tup, sat_lst, sat_ix, sat_slN, sat_slLv, sat_slHv, sat_slLb, sat_slHb, sat_slLi, sat_slHi, sat_slLc, sat_slHc, sat_cal, sat_bi, sat_isi, sat_isis, sat_me, sat_lc, sat_lcIf, sat_lcF, sat_lcFi, sat_lrng, sat_isB, sat_rev1, rv1_l, rv1_t, List.reverse_cons, List.reverse_nil, sat_orv, orvK_int, orvK_non, intO_int, ex_bl, ex_lst, sat_box, sat_unbox, sat_esN, sat_esC, ex_d, ex_int, ex_fl, ex_obj, ex_cell, ex_oi, kept_non, kept_int, kept_tup, kept_lst, kept_str, kept_scr, kept_self, ex_setx, ex_j, shl1, Int.toNat_natCast, Int.natCast_nonneg, start, bin_ii, bin_ll, bin_tt, bin_ss, bin_li, bin_ti, rg_1, rg_2, int_add, int_sub, int_mul, int_fdiv, int_mod, int_pow, int_shl, int_shr, int_band, int_bor, int_bxor, cmp_eq, cmp_ne, cmp_in, cmp_nin, cmp_lt, cmp_le, cmp_gt, cmp_ge, eq_op, in_lst, in_tup, ix_lst, ix_tup, ix_scr, ix_str, sl_lst, sl_tup, sl_str, end_t, end_i, bi_len_l, bi_len_t, bi_len_c, bi_len_s, bi_abs, bi_sum, bi_maxl, bi_minl, bi_max2, bi_min2, bi_any, bi_all, bi_int_i, bi_int_b, bi_list_l, bi_list_t, bi_tuple_l, bi_tuple_t, bi_sorted, bi_sset, ty_non, ty_bl, ty_int, ty_str, ty_lst, ty_tup, ty_scr, toB_bl, set_n, set_t, set_tl, it_seq_l, it_seq_t, it_seq_s, it_rng1, it_rng2, it_enm, it_enmT, it_zp_l, it_zp_t, it_rev_l, it_rev_t, me_append, me_extend, me_pop, me_reverse, me_count, ty_int_int, ty_int_bool, ty_bool_int, ty_bool_bool, ty_list_list, ty_tuple_tuple, ty_list_tuple, ty_tuple_list, ty_tuple_int, ty_tuple_bool, ty_int_tuple, ty_str_str, isNonE, toD_d, toD_fl, clo_d, clo_fl, eqB_nn, eqB_bb, eqB_bi, eqB_ib, eqB_ii, eqB_ss, eqB_ll, eqB_tt, eqB_ni, eqB_in, eqBs_00, eqBs_0c, eqBs_c0, eqBs_cc, okD, okDs, flat, small, powOk, mulOk, most, natAbs_1, natAbs_2, natAbs_10, Int.natAbs_natCast, wipe, intsOf, blsOf, pq_non, pq_bl, pq_int, pq_str, pq_tup, pq_lst, pq_scr, atI_0, atI_1, atI_2, ixN_0, ixN_1, D.closed, D.closeds, sat_ok, sat_bind, sat_guard, sat_err, Res.bind_ok, Res.bind_err, List.map_cons, List.map_nil, List.length_cons, List.length_nil, List.cons_append, List.nil_append, List.getElem?_cons_zero, List.getElem?_cons_succ, List.set_cons_zero, List.set_cons_succ, List.replicate, List.foldl_cons, List.foldl_nil, List.zip_cons_cons, List.zip_nil_left, List.zip_nil_right, Nat.reduceAdd, Nat.reduceSub, Nat.reduceLeDiff, Nat.reduceLT, Int.reduceLT, Int.reduceLE, Int.reduceNeg, Int.reducePow, Int.reduceToNat, Int.reduceAdd, Int.reduceMul, Int.reduceSub, Nat.reducePow, Nat.zero_add, Nat.add_zero, decide_true, decide_false, decide_eq_true_eq, beq_iff_eq, Bool.true_eq_false, reduceCtorEq, if_true, if_false, Bool.false_eq_true, true_and, and_true, Bool.true_and, Bool.and_true, Bool.false_and, Bool.and_false, Bool.not_true, Bool.not_false, Bool.or_true, Bool.true_or, Bool.or_false, Bool.false_or, Bool.and_eq_true, Bool.or_eq_true, Bool.not_eq_true', beq_self_eq_true, Option.map_some, Option.toList, if_true, if_false]
    generalize (if ns[k] < 0 then -ns[k] else ns[k]) = c
    refine ⟨by omega, ?_⟩
    split
    · exact h _ _
    · exact h _ _
  · exact ⟨by omega, h _ _⟩
theorem upFrom_len (lo : Int) : ∀ n : Nat, (upFrom lo n).length = n
  | 0 => rfl
  | n + 1 => by rw [upFrom, List.length_cons, upFrom_len (lo + 1) n]
theorem upFrom_eq : ∀ (n : Nat) (lo : Int), upFrom lo n = (List.range n).map fun i => D.int (lo + (i : Nat))
  | 0, _ => rfl
  | n + 1, lo => by
    rw [upFrom, List.range_succ_eq_map, List.map_cons, List.map_map, upFrom_eq n (lo + 1)]
    congr 1
    · simp
    · refine List.map_congr_left fun i _ => ?_
      simp only [Function.comp]
      congr 1
      omega
theorem upFrom_get {n : Nat} {lo : Int} {j : Nat} {d : D} (h : (upFrom lo n)[j]? = some d) : j < n ∧ d = .int (lo + (j : Nat)) := by
  rw [upFrom_eq, List.getElem?_map] at h
  by_cases hj : j < n
  · rw [List.getElem?_range hj] at h
    cases h
    exact ⟨hj, rfl⟩
  · rw [List.getElem?_eq_none (by simpa using hj)] at h
    cases h
/-- numbers 0, 1, .. -/
theorem up0_get {n : Nat} {j : Nat} {d : D} (h : (upFrom 0 n)[j]? = some d) : j < n ∧ d = .int (j : Nat) := by
  obtain ⟨h1, h2⟩ := upFrom_get h
  exact ⟨h1, by rw [h2]; congr 1; omega⟩
theorem up0_mem {n : Nat} {d : D} (h : d ∈ upFrom 0 n) : ∃ j : Nat, j < n ∧ d = .int (j : Nat) := by
  obtain ⟨j, hj⟩ := List.getElem?_of_mem h
  exact ⟨j, up0_get hj⟩
/-- the store as it was, but for the draws at p, and maybe more of it -/
structure Ext (p : Nat) (S S' : Store) : Prop where
  dr : Dr S' p
  len : S.length ≤ S'.length
  same : ∀ q, q < S.length → q ≠ p → S'[q]? = S[q]?
theorem Ext.refl {p : Nat} {S : Store} (h : Dr S p) : Ext p S S := ⟨h, Nat.le_refl _, fun _ _ _ => rfl⟩
theorem Dr.lt {p : Nat} {S : Store} (h : Dr S p) : p < S.length := by
  obtain ⟨a, b, h⟩ := h
  exact (List.getElem?_eq_some_iff.mp h).1
theorem Ext.draw {p : Nat} {S : Store} (h : Dr S p) (a b : Int) : Ext p S (S.set p (.lst [.int a, .int b])) := ⟨⟨a, b, List.getElem?_set_self h.lt⟩, by rw [List.length_set]; exact Nat.le_refl _, fun q _ n => List.getElem?_set_ne (Ne.symm n)⟩
/-- what is laid at a place of its own, not ahead -/
theorem Ext.set {p : Nat} {S S1 : Store} (e : Ext p S S1) {q : Nat} (hp : p < S.length) (hq : S.length ≤ q) (c : Cell) : Ext p S (S1.set q c) := ⟨by
  obtain ⟨a, b, h⟩ := e.dr
  exact ⟨a, b, by rw [List.getElem?_set_ne (by omega)]; exact h⟩, by rw [List.length_set]; exact e.len, fun r h n => by rw [List.getElem?_set_ne (by omega)]; exact e.same r h n⟩
/-- the draw, by what it leaves -/
theorem take_ext {n i p : Nat} {m : Int} {S : Store} {Q : W × Store → Prop} (hf : fs[i]? = some f_law_take_ed9d) (hp : Dr S p) (h0 : 0 < m) (h1 : m < 1073741824)
    (h : ∀ (x : Nat) (S' : Store), (x : Int) < m → Ext p S S' → S'.length = S.length → Q (.d (.int x), S')) : (call gl fs (n + 1) i [.obj p, .int m] S).sat Q :=
  take_sat hf hp h0 h1 fun x a b hx => h x _ hx (Ext.draw hp a b) (by rw [List.length_set])
end
end Nl

/-! The laws' own tables. -/
namespace Nl
/-- a thing of a table -/
def oD : Option Nat → D
  | none => .non
  | some x => .int (x : Nat)
/-- a table of 2 ^ n things below k -/
structure Tab (n k : Nat) (t : List (Option Nat)) : Prop where
  len : t.length = 2 ^ n
  lt : ∀ x, some x ∈ t → x < k
theorem intsOf_map {α : Type} (f : α → Int) : ∀ xs : List α, intsOf (xs.map fun x => D.int (f x)) = some (xs.map f)
  | [] => rfl
  | x :: xs => by simp [intsOf, intsOf_map f xs]
theorem pow_le_256 {n : Nat} (h : n ≤ 8) : 2 ^ n ≤ 256 := Nat.pow_le_pow_right (by omega) h
section
variable {gl : Nat → Option D} {fs : List Fn}
end
end Nl

/-! Cuts as numbers: their spots. -/
namespace Nl
/-- ints as data -/
def iD (n : Nat) : D := .int (n : Nat)
theorem shr_nat {c i : Nat} : (c : Int) / 2 ^ i = ((c / 2 ^ i : Nat) : Int) := by simp
theorem and_1 {c : Nat} : c &&& 1 = c % 2 := Nat.and_one_is_mod c
theorem bit_eq {c i : Nat} : (((c / 2 ^ i % 2 : Nat) : Int) = 1) ↔ c.testBit i = true := by
  rw [Nat.testBit_eq_decide_div_mod_eq, decide_eq_true_eq]
  omega
/-- the spots of cuts, of eight at most -/
def bits (c : Nat) : List Nat := (List.range 8).filter fun i => c.testBit i
theorem filter_range_ext {p : Nat → Bool} {a b : Nat} (h : a ≤ b) (hp : ∀ i, a ≤ i → i < b → p i = false) : (List.range b).filter p = (List.range a).filter p := by
  obtain ⟨d, rfl⟩ := Nat.exists_eq_add_of_le h
  rw [List.range_add, List.filter_append]
  have : ((List.range d).map (a + ·)).filter p = [] := by
    rw [List.filter_eq_nil_iff]
    intro x hx
    obtain ⟨y, hy, rfl⟩ := List.mem_map.mp hx
    rw [hp (a + y) (by omega) (by have := List.mem_range.mp hy; omega)]
    simp
  rw [this, List.append_nil]
theorem bits_eq {c n : Nat} (hn : n ≤ 8) (hc : c < 2 ^ n) : bits c = (List.range n).filter fun i => c.testBit i :=
  filter_range_ext hn fun i h1 _ => Nat.testBit_lt_two_pow (Nat.lt_of_lt_of_le hc (Nat.pow_le_pow_right (by omega) h1))
theorem closeds_iD : ∀ xs : List Nat, D.closeds (xs.map iD) = true
  | [] => rfl
  | x :: xs => by rw [List.map_cons, D.closeds, closeds_iD xs]; rfl
theorem closeds_oD : ∀ t : List (Option Nat), D.closeds (t.map oD) = true
  | [] => rfl
  | x :: xs => by rw [List.map_cons, D.closeds, closeds_oD xs]; cases x <;> rfl
theorem bits_le {c : Nat} : (bits c).length ≤ 8 := by
  have := List.length_filter_le (fun i => c.testBit i) (List.range 8)
  rw [List.length_range] at this
  exact this
section
variable {gl : Nat → Option D} {fs : List Fn}
theorem spots_of_ok {m i c : Nat} {S : Store} (hf : fs[i]? = some f_spots_of_ec1d) (hc : c < 256) : call gl fs (m + 1) i [.int c] S = .ok (.fl ((bits c).map iD), S) := by
  rw [← sat_def]
  refine sat_call hf rfl rfl rfl ?_
  simp -implicitDefEqProofs only [sat_exs, sat_exs_nil, sat_if, sat_asg, sat_asgT, sat_setix, sat_ex, sat_ret, sat_retN, sat_pass, sat_brk, sat_cnt, sat_raise, sat_evB, sat_ite, sat_for, rest_nx, rest_ret, sat_var, sat_non, sat_bl, sat_int, sat_str, sat_bin, sat_neg, sat_cmp, sat_chain, sat_isN, sat_notN, sat_and, sat_or, sat_not, sat_ifE, sat_tup, sat_lst, sat_ix, sat_slN, sat_slLv, sat_slHv, sat_slLb, sat_slHb, sat_slLi, sat_slHi, sat_slLc, sat_slHc, sat_cal, sat_bi, sat_isi, sat_isis, sat_me, sat_lc, sat_lcIf, sat_lcF, sat_lcFi, sat_lrng, sat_isB, sat_rev1, rv1_l, rv1_t, List.reverse_cons, List.reverse_nil, sat_orv, orvK_int, orvK_non, intO_int, ex_bl, ex_lst, sat_box, sat_unbox, sat_esN, sat_esC, ex_d, ex_int, ex_fl, ex_obj, ex_cell, ex_oi, kept_non, kept_int, kept_tup, kept_lst, kept_str, kept_scr, kept_self, ex_setx, ex_j, shl1, Int.toNat_natCast, Int.natCast_nonneg, start, bin_ii, bin_ll, bin_tt, bin_ss, bin_li, bin_ti, rg_1, rg_2, int_add, int_sub, int_mul, int_fdiv, int_mod, int_pow, int_shl, int_shr, int_band, int_bor, int_bxor, cmp_eq, cmp_ne, cmp_in, cmp_nin, cmp_lt, cmp_le, cmp_gt, cmp_ge, eq_op, in_lst, in_tup, ix_lst, ix_tup, ix_scr, ix_str, sl_lst, sl_tup, sl_str, end_t, end_i, bi_len_l, bi_len_t, bi_len_c, bi_len_s, bi_abs, bi_sum, bi_maxl, bi_minl, bi_max2, bi_min2, bi_any, bi_all, bi_int_i, bi_int_b, bi_list_l, bi_list_t, bi_tuple_l, bi_tuple_t, bi_sorted, bi_sset, ty_non, ty_bl, ty_int, ty_str, ty_lst, ty_tup, ty_scr, toB_bl, set_n, set_t, set_tl, it_seq_l, it_seq_t, it_seq_s, it_rng1, it_rng2, it_enm, it_enmT, it_zp_l, it_zp_t, it_rev_l, it_rev_t, me_append, me_extend, me_pop, me_reverse, me_count, ty_int_int, ty_int_bool, ty_bool_int, ty_bool_bool, ty_list_list, ty_tuple_tuple, ty_list_tuple, ty_tuple_list, ty_tuple_int, ty_tuple_bool, ty_int_tuple, ty_str_str, isNonE, toD_d, toD_fl, clo_d, clo_fl, eqB_nn, eqB_bb, eqB_bi, eqB_ib, eqB_ii, eqB_ss, eqB_ll, eqB_tt, eqB_ni, eqB_in, eqBs_00, eqBs_0c, eqBs_c0, eqBs_cc, okD, okDs, flat, small, powOk, mulOk, most, natAbs_1, natAbs_2, natAbs_10, Int.natAbs_natCast, wipe, intsOf, blsOf, pq_non, pq_bl, pq_int, pq_str, pq_tup, pq_lst, pq_scr, atI_0, atI_1, atI_2, ixN_0, ixN_1, D.closed, D.closeds, sat_ok, sat_bind, sat_guard, sat_err, Res.bind_ok, Res.bind_err, List.map_cons, List.map_nil, List.length_cons, List.length_nil, List.cons_append, List.nil_append, List.getElem?_cons_zero, List.getElem?_cons_succ, List.set_cons_zero, List.set_cons_succ, List.replicate, List.foldl_cons, List.foldl_nil, List.zip_cons_cons, List.zip_nil_left, List.zip_nil_right, Nat.reduceAdd, Nat.reduceSub, Nat.reduceLeDiff, Nat.reduceLT, Int.reduceLT, Int.reduceLE, Int.reduceNeg, Int.reducePow, Int.reduceToNat, Int.reduceAdd, Int.reduceMul, Int.reduceSub, Nat.reducePow, Nat.zero_add, Nat.add_zero, decide_true, decide_false, decide_eq_true_eq, beq_iff_eq, Bool.true_eq_false, reduceCtorEq, if_true, if_false, Bool.false_eq_true, true_and, and_true, Bool.true_and, Bool.and_true, Bool.false_and, Bool.and_false, Bool.not_true, Bool.not_false, Bool.or_true, Bool.true_or, Bool.or_false, Bool.false_or, Bool.and_eq_true, Bool.or_eq_true, Bool.not_eq_true', beq_self_eq_true, Option.map_some, Option.toList, if_true, if_false, f_spots_of_ec1d, sat_whl]
  refine sat_loopW (fun f env T => ∃ a : Nat, f = 100 - a ∧ a ≤ 8 ∧ env = [some (.int c), some (.obj 0), some (.int a)] ∧ T = [.lst (((List.range a).filter fun i => c.testBit i).map iD)]) 100 _ _ ⟨0, rfl, by omega, rfl, rfl⟩ ?_
  rintro f env T ⟨a, rfl, ha, rfl, rfl⟩
  refine ⟨99 - a, by omega, ?_⟩
  simp -implicitDefEqProofs only [sat_exs, sat_exs_nil, sat_if, sat_asg, sat_asgT, sat_setix, sat_ex, sat_ret, sat_retN, sat_pass, sat_brk, sat_cnt, sat_raise, sat_evB, sat_ite, sat_for, rest_nx, rest_ret, sat_var, sat_non, sat_bl, sat_int, sat_str, sat_bin, sat_neg, sat_cmp, sat_chain, sat_isN, sat_notN, sat_and, sat_or, sat_not, sat_ifE, sat_tup, sat_lst, sat_ix, sat_slN, sat_slLv, sat_slHv, sat_slLb, sat_slHb, sat_slLi, sat_slHi, sat_slLc, sat_slHc, sat_cal, sat_bi, sat_isi, sat_isis, sat_me, sat_lc, sat_lcIf, sat_lcF, sat_lcFi, sat_lrng, sat_isB, sat_rev1, rv1_l, rv1_t, List.reverse_cons, List.reverse_nil, sat_orv, orvK_int, orvK_non, intO_int, ex_bl, ex_lst, sat_box, sat_unbox, sat_esN, sat_esC, ex_d, ex_int, ex_fl, ex_obj, ex_cell, ex_oi, kept_non, kept_int, kept_tup, kept_lst, kept_str, kept_scr, kept_self, ex_setx, ex_j, shl1, Int.toNat_natCast, Int.natCast_nonneg, start, bin_ii, bin_ll, bin_tt, bin_ss, bin_li, bin_ti, rg_1, rg_2, int_add, int_sub, int_mul, int_fdiv, int_mod, int_pow, int_shl, int_shr, int_band, int_bor, int_bxor, cmp_eq, cmp_ne, cmp_in, cmp_nin, cmp_lt, cmp_le, cmp_gt, cmp_ge, eq_op, in_lst, in_tup, ix_lst, ix_tup, ix_scr, ix_str, sl_lst, sl_tup, sl_str, end_t, end_i, bi_len_l, bi_len_t, bi_len_c, bi_len_s, bi_abs, bi_sum, bi_maxl, bi_minl, bi_max2, bi_min2, bi_any, bi_all, bi_int_i, bi_int_b, bi_list_l, bi_list_t, bi_tuple_l, bi_tuple_t, bi_sorted, bi_sset, ty_non, ty_bl, ty_int, ty_str, ty_lst, ty_tup, ty_scr, toB_bl, set_n, set_t, set_tl, it_seq_l, it_seq_t, it_seq_s, it_rng1, it_rng2, it_enm, it_enmT, it_zp_l, it_zp_t, it_rev_l, it_rev_t, me_append, me_extend, me_pop, me_reverse, me_count, ty_int_int, ty_int_bool, ty_bool_int, ty_bool_bool, ty_list_list, ty_tuple_tuple, ty_list_tuple, ty_tuple_list, ty_tuple_int, ty_tuple_bool, ty_int_tuple, ty_str_str, isNonE, toD_d, toD_fl, clo_d, clo_fl, eqB_nn, eqB_bb, eqB_bi, eqB_ib, eqB_ii, eqB_ss, eqB_ll, eqB_tt, eqB_ni, eqB_in, eqBs_00, eqBs_0c, eqBs_c0, eqBs_cc, okD, okDs, flat, small, powOk, mulOk, most, natAbs_1, natAbs_2, natAbs_10, Int.natAbs_natCast, wipe, intsOf, blsOf, pq_non, pq_bl, pq_int, pq_str, pq_tup, pq_lst, pq_scr, atI_0, atI_1, atI_2, ixN_0, ixN_1, D.closed, D.closeds, sat_ok, sat_bind, sat_guard, sat_err, Res.bind_ok, Res.bind_err, List.map_cons, List.map_nil, List.length_cons, List.length_nil, List.cons_append, List.nil_append, List.getElem?_cons_zero, List.getElem?_cons_succ, List.set_cons_zero, List.set_cons_succ, List.replicate, List.foldl_cons, List.foldl_nil, List.zip_cons_cons, List.zip_nil_left, List.zip_nil_right, Nat.reduceAdd, Nat.reduceSub, Nat.reduceLeDiff, Nat.reduceLT, Int.reduceLT, Int.reduceLE, Int.reduceNeg, Int.reducePow, Int.reduceToNat, Int.reduceAdd, Int.reduceMul, Int.reduceSub, Nat.reducePow, Nat.zero_add, Nat.add_zero, decide_true, decide_false, decide_eq_true_eq, beq_iff_eq, Bool.true_eq_false, reduceCtorEq, if_true, if_false, Bool.false_eq_true, true_and, and_true, Bool.true_and, Bool.and_true, Bool.false_and, Bool.and_false, Bool.not_true, Bool.not_false, Bool.or_true, Bool.true_or, Bool.or_false, Bool.false_or, Bool.and_eq_true, Bool.or_eq_true, Bool.not_eq_true', beq_self_eq_true, Option.map_some, Option.toList, if_true, if_false, shr_nat, and_1, bit_eq]
  split
  · rename_i h0
    have h0 : 0 < c / 2 ^ a := by exact_mod_cast h0
    have ha8 : a < 8 := by
      refine Nat.lt_of_le_of_ne ha fun e => ?_
      subst e
      rw [Nat.div_eq_of_lt (by simpa using hc)] at h0
      omega
    have hl : ((List.range a).filter fun i => c.testBit i).length ≤ a := by
      have := List.length_filter_le (fun i => c.testBit i) (List.range a)
      rwa [List.length_range] at this
    split
    · rename_i hb
      rw [me_append rfl, sat_guard, sat_ok]
      refine ⟨decide_eq_true (show _ < 16777216 by rw [List.length_map]; omega), a + 1, by omega, by omega, rfl, ?_⟩
      rw [List.range_succ, List.filter_append, List.map_append]
      simp [hb, iD]
    · rename_i hb
      refine ⟨a + 1, by omega, by omega, rfl, ?_⟩
      rw [List.range_succ, List.filter_append]
      simp [hb]
  · rename_i h0
    have h0 : c / 2 ^ a = 0 := Nat.eq_zero_of_not_pos fun h => h0 (by exact_mod_cast h)
    have hca : c < 2 ^ a := by
      rcases Nat.div_eq_zero_iff.mp h0 with h | h
      · simp at h
      · exact h
    rw [closeds_iD, bits_eq ha hca]
    exact ⟨rfl, rfl⟩
end
/-! ### numbers by their bits -/
end Nl

/-! What many laws need. -/
namespace Nl
theorem compL_f {α : Type} {ok : Store → Bool} {F : D → Store → Res (Option D × Store)} {S : Store} {g : α → D} {h : α → D} (hok : ok S = true) : ∀ {xs : List α}, (∀ x ∈ xs, (F (g x) S).sat fun r => r = (some (h x), S)) → compL ok F (xs.map g) S = .ok (xs.map h, S)
  | [], _ => rfl
  | x :: xs, hx => by
    rw [List.map_cons, compL, sat_def.mp (hx x List.mem_cons_self), Res.bind_ok]
    simp only [guard', hok, if_true]
    rw [compL_f hok (xs := xs) fun y hy => hx y (List.mem_cons_of_mem _ hy), Res.bind_ok]
    rfl
theorem up0_eq (n : Nat) : upFrom 0 n = (List.range n).map iD := by
  rw [upFrom_eq]
  refine List.map_congr_left fun i _ => ?_
  simp [iD]
section
variable {gl : Nat → Option D} {fs : List Fn}
end
end Nl

/-! Writings, ways up. -/
namespace Nl
/-- a writing -/
def wrD (n k : Nat) (t : List (Option Nat)) : D := .tup [.int (n : Nat), .int (k : Nat), .tup (t.map oD)]
theorem wr_closed {n k : Nat} {t : List (Option Nat)} : (wrD n k t).closed = true := by
  simp only [wrD, D.closeds, D.closed, closeds_oD, Bool.and_true]
section
variable {gl : Nat → Option D} {fs : List Fn}
theorem is_int_ok {m i : Nat} {x a b : Int} {S : Store} (hf : fs[i]? = some f_is_int_f58b) : call gl fs (m + 1) i [.int x, .int a, .int b] S = .ok (.d (.bl (decide (a ≤ x) && decide (x ≤ b))), S) := by
  rw [← sat_def]
  refine sat_call hf rfl rfl rfl ?_
  simp -implicitDefEqProofs only [sat_exs, sat_exs_nil, sat_if, sat_asg, sat_asgT, sat_setix, sat_ex, sat_ret, sat_retN, sat_pass, sat_brk, sat_cnt, sat_raise, sat_evB, sat_ite, sat_for, rest_nx, rest_ret, sat_var, sat_non, sat_bl, sat_int, sat_str, sat_bin, sat_neg, sat_cmp, sat_chain, sat_isN, sat_notN, sat_and, sat_or, sat_not, sat_ifE, sat_tup, sat_lst, sat_ix, sat_slN, sat_slLv, sat_slHv, sat_slLb, sat_slHb, sat_slLi, sat_slHi, sat_slLc, sat_slHc, sat_cal, sat_bi, sat_isi, sat_isis, sat_me, sat_lc, sat_lcIf, sat_lcF, sat_lcFi, sat_lrng, sat_isB, sat_rev1, rv1_l, rv1_t, List.reverse_cons, List.reverse_nil, sat_orv, orvK_int, orvK_non, intO_int, ex_bl, ex_lst, sat_box, sat_unbox, sat_esN, sat_esC, ex_d, ex_int, ex_fl, ex_obj, ex_cell, ex_oi, kept_non, kept_int, kept_tup, kept_lst, kept_str, kept_scr, kept_self, ex_setx, ex_j, shl1, Int.toNat_natCast, Int.natCast_nonneg, start, bin_ii, bin_ll, bin_tt, bin_ss, bin_li, bin_ti, rg_1, rg_2, int_add, int_sub, int_mul, int_fdiv, int_mod, int_pow, int_shl, int_shr, int_band, int_bor, int_bxor, cmp_eq, cmp_ne, cmp_in, cmp_nin, cmp_lt, cmp_le, cmp_gt, cmp_ge, eq_op, in_lst, in_tup, ix_lst, ix_tup, ix_scr, ix_str, sl_lst, sl_tup, sl_str, end_t, end_i, bi_len_l, bi_len_t, bi_len_c, bi_len_s, bi_abs, bi_sum, bi_maxl, bi_minl, bi_max2, bi_min2, bi_any, bi_all, bi_int_i, bi_int_b, bi_list_l, bi_list_t, bi_tuple_l, bi_tuple_t, bi_sorted, bi_sset, ty_non, ty_bl, ty_int, ty_str, ty_lst, ty_tup, ty_scr, toB_bl, set_n, set_t, set_tl, it_seq_l, it_seq_t, it_seq_s, it_rng1, it_rng2, it_enm, it_enmT, it_zp_l, it_zp_t, it_rev_l, it_rev_t, me_append, me_extend, me_pop, me_reverse, me_count, ty_int_int, ty_int_bool, ty_bool_int, ty_bool_bool, ty_list_list, ty_tuple_tuple, ty_list_tuple, ty_tuple_list, ty_tuple_int, ty_tuple_bool, ty_int_tuple, ty_str_str, isNonE, toD_d, toD_fl, clo_d, clo_fl, eqB_nn, eqB_bb, eqB_bi, eqB_ib, eqB_ii, eqB_ss, eqB_ll, eqB_tt, eqB_ni, eqB_in, eqBs_00, eqBs_0c, eqBs_c0, eqBs_cc, okD, okDs, flat, small, powOk, mulOk, most, natAbs_1, natAbs_2, natAbs_10, Int.natAbs_natCast, wipe, intsOf, blsOf, pq_non, pq_bl, pq_int, pq_str, pq_tup, pq_lst, pq_scr, atI_0, atI_1, atI_2, ixN_0, ixN_1, D.closed, D.closeds, sat_ok, sat_bind, sat_guard, sat_err, Res.bind_ok, Res.bind_err, List.map_cons, List.map_nil, List.length_cons, List.length_nil, List.cons_append, List.nil_append, List.getElem?_cons_zero, List.getElem?_cons_succ, List.set_cons_zero, List.set_cons_succ, List.replicate, List.foldl_cons, List.foldl_nil, List.zip_cons_cons, List.zip_nil_left, List.zip_nil_right, Nat.reduceAdd, Nat.reduceSub, Nat.reduceLeDiff, Nat.reduceLT, Int.reduceLT, Int.reduceLE, Int.reduceNeg, Int.reducePow, Int.reduceToNat, Int.reduceAdd, Int.reduceMul, Int.reduceSub, Nat.reducePow, Nat.zero_add, Nat.add_zero, decide_true, decide_false, decide_eq_true_eq, beq_iff_eq, Bool.true_eq_false, reduceCtorEq, if_true, if_false, Bool.false_eq_true, true_and, and_true, Bool.true_and, Bool.and_true, Bool.false_and, Bool.and_false, Bool.not_true, Bool.not_false, Bool.or_true, Bool.true_or, Bool.or_false, Bool.false_or, Bool.and_eq_true, Bool.or_eq_true, Bool.not_eq_true', beq_self_eq_true, Option.map_some, Option.toList, if_true, if_false, f_is_int_f58b]
  by_cases h : a ≤ x <;> by_cases h' : x ≤ b <;> simp [h, h', D.closed]
theorem made_ok {m i j g1 g2 g3 n k : Nat} {t : List (Option Nat)} {S : Store} (hf : fs[i]? = some (f_made_writing_48a6 j g1 g2 g3)) (hj : fs[j]? = some f_is_int_f58b) (e1 : gl g1 = some (.int 8)) (e2 : gl g2 = some (.int 2)) (e3 : gl g3 = some (.int 100))
    (hn : 1 ≤ n) (hn8 : n ≤ 8) (hk : 2 ≤ k) (hk2 : k ≤ 100) (ht : Tab n k t) : call gl fs (m + 2) i [.int n, .int k, .tup (t.map oD)] S = .ok (.d (wrD n k t), S) := by
  rw [← sat_def]
  have p8 := pow_le_256 hn8
  refine sat_call hf rfl rfl (by simp only [D.closeds, D.closed, closeds_oD, Bool.and_true]) ?_
  have h1 : (1 : Int) ≤ n := by omega
  have h2 : (n : Int) ≤ 8 := by omega
  have h3 : (2 : Int) ≤ k := by omega
  have h4 : (k : Int) ≤ 100 := by omega
  have h5 : (n : Int) ≤ 1000000 := by omega
  simp -implicitDefEqProofs only [sat_exs, sat_exs_nil, sat_if, sat_asg, sat_asgT, sat_setix, sat_ex, sat_ret, sat_retN, sat_pass, sat_brk, sat_cnt, sat_raise, sat_evB, sat_ite, sat_for, rest_nx, rest_ret, sat_var, sat_non, sat_bl, sat_int, sat_str, sat_bin, sat_neg, sat_cmp, sat_chain, sat_isN, sat_notN, sat_and, sat_or, sat_not, sat_ifE, sat_tup, sat_lst, sat_ix, sat_slN, sat_slLv, sat_slHv, sat_slLb, sat_slHb, sat_slLi, sat_slHi, sat_slLc, sat_slHc, sat_cal, sat_bi, sat_isi, sat_isis, sat_me, sat_lc, sat_lcIf, sat_lcF, sat_lcFi, sat_lrng, sat_isB, sat_rev1, rv1_l, rv1_t, List.reverse_cons, List.reverse_nil, sat_orv, orvK_int, orvK_non, intO_int, ex_bl, ex_lst, sat_box, sat_unbox, sat_esN, sat_esC, ex_d, ex_int, ex_fl, ex_obj, ex_cell, ex_oi, kept_non, kept_int, kept_tup, kept_lst, kept_str, kept_scr, kept_self, ex_setx, ex_j, shl1, Int.toNat_natCast, Int.natCast_nonneg, start, bin_ii, bin_ll, bin_tt, bin_ss, bin_li, bin_ti, rg_1, rg_2, int_add, int_sub, int_mul, int_fdiv, int_mod, int_pow, int_shl, int_shr, int_band, int_bor, int_bxor, cmp_eq, cmp_ne, cmp_in, cmp_nin, cmp_lt, cmp_le, cmp_gt, cmp_ge, eq_op, in_lst, in_tup, ix_lst, ix_tup, ix_scr, ix_str, sl_lst, sl_tup, sl_str, end_t, end_i, bi_len_l, bi_len_t, bi_len_c, bi_len_s, bi_abs, bi_sum, bi_maxl, bi_minl, bi_max2, bi_min2, bi_any, bi_all, bi_int_i, bi_int_b, bi_list_l, bi_list_t, bi_tuple_l, bi_tuple_t, bi_sorted, bi_sset, ty_non, ty_bl, ty_int, ty_str, ty_lst, ty_tup, ty_scr, toB_bl, set_n, set_t, set_tl, it_seq_l, it_seq_t, it_seq_s, it_rng1, it_rng2, it_enm, it_enmT, it_zp_l, it_zp_t, it_rev_l, it_rev_t, me_append, me_extend, me_pop, me_reverse, me_count, ty_int_int, ty_int_bool, ty_bool_int, ty_bool_bool, ty_list_list, ty_tuple_tuple, ty_list_tuple, ty_tuple_list, ty_tuple_int, ty_tuple_bool, ty_int_tuple, ty_str_str, isNonE, toD_d, toD_fl, clo_d, clo_fl, eqB_nn, eqB_bb, eqB_bi, eqB_ib, eqB_ii, eqB_ss, eqB_ll, eqB_tt, eqB_ni, eqB_in, eqBs_00, eqBs_0c, eqBs_c0, eqBs_cc, okD, okDs, flat, small, powOk, mulOk, most, natAbs_1, natAbs_2, natAbs_10, Int.natAbs_natCast, wipe, intsOf, blsOf, pq_non, pq_bl, pq_int, pq_str, pq_tup, pq_lst, pq_scr, atI_0, atI_1, atI_2, ixN_0, ixN_1, D.closed, D.closeds, sat_ok, sat_bind, sat_guard, sat_err, Res.bind_ok, Res.bind_err, List.map_cons, List.map_nil, List.length_cons, List.length_nil, List.cons_append, List.nil_append, List.getElem?_cons_zero, List.getElem?_cons_succ, List.set_cons_zero, List.set_cons_succ, List.replicate, List.foldl_cons, List.foldl_nil, List.zip_cons_cons, List.zip_nil_left, List.zip_nil_right, Nat.reduceAdd, Nat.reduceSub, Nat.reduceLeDiff, Nat.reduceLT, Int.reduceLT, Int.reduceLE, Int.reduceNeg, Int.reducePow, Int.reduceToNat, Int.reduceAdd, Int.reduceMul, Int.reduceSub, Nat.reducePow, Nat.zero_add, Nat.add_zero, decide_true, decide_false, decide_eq_true_eq, beq_iff_eq, Bool.true_eq_false, reduceCtorEq, if_true, if_false, Bool.false_eq_true, true_and, and_true, Bool.true_and, Bool.and_true, Bool.false_and, Bool.and_false, Bool.not_true, Bool.not_false, Bool.or_true, Bool.true_or, Bool.or_false, Bool.false_or, Bool.and_eq_true, Bool.or_eq_true, Bool.not_eq_true', beq_self_eq_true, Option.map_some, Option.toList, if_true, if_false, f_made_writing_48a6, sat_glob e1, sat_glob e2, sat_glob e3, is_int_ok hj, h1, h2, h3, h4, h5, List.length_map, ht.len]
  refine sat_loop (fun env T => T = [] ∧ ∃ x, env = [some (.int n), some (.int k), some (.tup (t.map oD)), x]) ⟨rfl, _, rfl⟩ (fun d env T hd hI => ?_) (fun env T hI => ?_)
  · obtain ⟨rfl, _, rfl⟩ := hI
    obtain ⟨o, ho, rfl⟩ := List.mem_map.mp hd
    cases o with
    | none =>
      simp -implicitDefEqProofs only [sat_exs, sat_exs_nil, sat_if, sat_asg, sat_asgT, sat_setix, sat_ex, sat_ret, sat_retN, sat_pass, sat_brk, sat_cnt, sat_raise, sat_evB, sat_ite, sat_for, rest_nx, rest_ret, sat_var, sat_non, sat_bl, sat_int, sat_str, sat_bin, sat_neg, sat_cmp, sat_chain, sat_isN, sat_notN, sat_and, sat_or, sat_not, sat_ifE, sat_tup, sat_lst, sat_ix, sat_slN, sat_slLv, sat_slHv, sat_slLb, sat_slHb, sat_slLi, sat_slHi, sat_slLc, sat_slHc, sat_cal, sat_bi, sat_isi, sat_isis, sat_me, sat_lc, sat_lcIf, sat_lcF, sat_lcFi, sat_lrng, sat_isB, sat_rev1, rv1_l, rv1_t, List.reverse_cons, List.reverse_nil, sat_orv, orvK_int, orvK_non, intO_int, ex_bl, ex_lst, sat_box, sat_unbox, sat_esN, sat_esC, ex_d, ex_int, ex_fl, ex_obj, ex_cell, ex_oi, kept_non, kept_int, kept_tup, kept_lst, kept_str, kept_scr, kept_self, ex_setx, ex_j, shl1, Int.toNat_natCast, Int.natCast_nonneg, start, bin_ii, bin_ll, bin_tt, bin_ss, bin_li, bin_ti, rg_1, rg_2, int_add, int_sub, int_mul, int_fdiv, int_mod, int_pow, int_shl, int_shr, int_band, int_bor, int_bxor, cmp_eq, cmp_ne, cmp_in, cmp_nin, cmp_lt, cmp_le, cmp_gt, cmp_ge, eq_op, in_lst, in_tup, ix_lst, ix_tup, ix_scr, ix_str, sl_lst, sl_tup, sl_str, end_t, end_i, bi_len_l, bi_len_t, bi_len_c, bi_len_s, bi_abs, bi_sum, bi_maxl, bi_minl, bi_max2, bi_min2, bi_any, bi_all, bi_int_i, bi_int_b, bi_list_l, bi_list_t, bi_tuple_l, bi_tuple_t, bi_sorted, bi_sset, ty_non, ty_bl, ty_int, ty_str, ty_lst, ty_tup, ty_scr, toB_bl, set_n, set_t, set_tl, it_seq_l, it_seq_t, it_seq_s, it_rng1, it_rng2, it_enm, it_enmT, it_zp_l, it_zp_t, it_rev_l, it_rev_t, me_append, me_extend, me_pop, me_reverse, me_count, ty_int_int, ty_int_bool, ty_bool_int, ty_bool_bool, ty_list_list, ty_tuple_tuple, ty_list_tuple, ty_tuple_list, ty_tuple_int, ty_tuple_bool, ty_int_tuple, ty_str_str, isNonE, toD_d, toD_fl, clo_d, clo_fl, eqB_nn, eqB_bb, eqB_bi, eqB_ib, eqB_ii, eqB_ss, eqB_ll, eqB_tt, eqB_ni, eqB_in, eqBs_00, eqBs_0c, eqBs_c0, eqBs_cc, okD, okDs, flat, small, powOk, mulOk, most, natAbs_1, natAbs_2, natAbs_10, Int.natAbs_natCast, wipe, intsOf, blsOf, pq_non, pq_bl, pq_int, pq_str, pq_tup, pq_lst, pq_scr, atI_0, atI_1, atI_2, ixN_0, ixN_1, D.closed, D.closeds, sat_ok, sat_bind, sat_guard, sat_err, Res.bind_ok, Res.bind_err, List.map_cons, List.map_nil, List.length_cons, List.length_nil, List.cons_append, List.nil_append, List.getElem?_cons_zero, List.getElem?_cons_succ, List.set_cons_zero, List.set_cons_succ, List.replicate, List.foldl_cons, List.foldl_nil, List.zip_cons_cons, List.zip_nil_left, List.zip_nil_right, Nat.reduceAdd, Nat.reduceSub, Nat.reduceLeDiff, Nat.reduceLT, Int.reduceLT, Int.reduceLE, Int.reduceNeg, Int.reducePow, Int.reduceToNat, Int.reduceAdd, Int.reduceMul, Int.reduceSub, Nat.reducePow, Nat.zero_add, Nat.add_zero, decide_true, decide_false, decide_eq_true_eq, beq_iff_eq, Bool.true_eq_false, reduceCtorEq, if_true, if_false, Bool.false_eq_true, true_and, and_true, Bool.true_and, Bool.and_true, Bool.false_and, Bool.and_false, Bool.not_true, Bool.not_false, Bool.or_true, Bool.true_or, Bool.or_false, Bool.false_or, Bool.and_eq_true, Bool.or_eq_true, Bool.not_eq_true', beq_self_eq_true, Option.map_some, Option.toList, if_true, if_false, oD]
      exact ⟨_, rfl⟩
    | some x =>
      have hx := ht.lt x ho
      have h6 : (x : Int) ≤ (k : Int) - 1 := by omega
      simp -implicitDefEqProofs only [sat_exs, sat_exs_nil, sat_if, sat_asg, sat_asgT, sat_setix, sat_ex, sat_ret, sat_retN, sat_pass, sat_brk, sat_cnt, sat_raise, sat_evB, sat_ite, sat_for, rest_nx, rest_ret, sat_var, sat_non, sat_bl, sat_int, sat_str, sat_bin, sat_neg, sat_cmp, sat_chain, sat_isN, sat_notN, sat_and, sat_or, sat_not, sat_ifE, sat_tup, sat_lst, sat_ix, sat_slN, sat_slLv, sat_slHv, sat_slLb, sat_slHb, sat_slLi, sat_slHi, sat_slLc, sat_slHc, sat_cal, sat_bi, sat_isi, sat_isis, sat_me, sat_lc, sat_lcIf, sat_lcF, sat_lcFi, sat_lrng, sat_isB, sat_rev1, rv1_l, rv1_t, List.reverse_cons, List.reverse_nil, sat_orv, orvK_int, orvK_non, intO_int, ex_bl, ex_lst, sat_box, sat_unbox, sat_esN, sat_esC, ex_d, ex_int, ex_fl, ex_obj, ex_cell, ex_oi, kept_non, kept_int, kept_tup, kept_lst, kept_str, kept_scr, kept_self, ex_setx, ex_j, shl1, Int.toNat_natCast, Int.natCast_nonneg, start, bin_ii, bin_ll, bin_tt, bin_ss, bin_li, bin_ti, rg_1, rg_2, int_add, int_sub, int_mul, int_fdiv, int_mod, int_pow, int_shl, int_shr, int_band, int_bor, int_bxor, cmp_eq, cmp_ne, cmp_in, cmp_nin, cmp_lt, cmp_le, cmp_gt, cmp_ge, eq_op, in_lst, in_tup, ix_lst, ix_tup, ix_scr, ix_str, sl_lst, sl_tup, sl_str, end_t, end_i, bi_len_l, bi_len_t, bi_len_c, bi_len_s, bi_abs, bi_sum, bi_maxl, bi_minl, bi_max2, bi_min2, bi_any, bi_all, bi_int_i, bi_int_b, bi_list_l, bi_list_t, bi_tuple_l, bi_tuple_t, bi_sorted, bi_sset, ty_non, ty_bl, ty_int, ty_str, ty_lst, ty_tup, ty_scr, toB_bl, set_n, set_t, set_tl, it_seq_l, it_seq_t, it_seq_s, it_rng1, it_rng2, it_enm, it_enmT, it_zp_l, it_zp_t, it_rev_l, it_rev_t, me_append, me_extend, me_pop, me_reverse, me_count, ty_int_int, ty_int_bool, ty_bool_int, ty_bool_bool, ty_list_list, ty_tuple_tuple, ty_list_tuple, ty_tuple_list, ty_tuple_int, ty_tuple_bool, ty_int_tuple, ty_str_str, isNonE, toD_d, toD_fl, clo_d, clo_fl, eqB_nn, eqB_bb, eqB_bi, eqB_ib, eqB_ii, eqB_ss, eqB_ll, eqB_tt, eqB_ni, eqB_in, eqBs_00, eqBs_0c, eqBs_c0, eqBs_cc, okD, okDs, flat, small, powOk, mulOk, most, natAbs_1, natAbs_2, natAbs_10, Int.natAbs_natCast, wipe, intsOf, blsOf, pq_non, pq_bl, pq_int, pq_str, pq_tup, pq_lst, pq_scr, atI_0, atI_1, atI_2, ixN_0, ixN_1, D.closed, D.closeds, sat_ok, sat_bind, sat_guard, sat_err, Res.bind_ok, Res.bind_err, List.map_cons, List.map_nil, List.length_cons, List.length_nil, List.cons_append, List.nil_append, List.getElem?_cons_zero, List.getElem?_cons_succ, List.set_cons_zero, List.set_cons_succ, List.replicate, List.foldl_cons, List.foldl_nil, List.zip_cons_cons, List.zip_nil_left, List.zip_nil_right, Nat.reduceAdd, Nat.reduceSub, Nat.reduceLeDiff, Nat.reduceLT, Int.reduceLT, Int.reduceLE, Int.reduceNeg, Int.reducePow, Int.reduceToNat, Int.reduceAdd, Int.reduceMul, Int.reduceSub, Nat.reducePow, Nat.zero_add, Nat.add_zero, decide_true, decide_false, decide_eq_true_eq, beq_iff_eq, Bool.true_eq_false, reduceCtorEq, if_true, if_false, Bool.false_eq_true, true_and, and_true, Bool.true_and, Bool.and_true, Bool.false_and, Bool.and_false, Bool.not_true, Bool.not_false, Bool.or_true, Bool.true_or, Bool.or_false, Bool.false_or, Bool.and_eq_true, Bool.or_eq_true, Bool.not_eq_true', beq_self_eq_true, Option.map_some, Option.toList, if_true, if_false, oD, is_int_ok hj, h6]
      exact ⟨_, rfl⟩
  · obtain ⟨rfl, _, rfl⟩ := hI
    simp -implicitDefEqProofs only [sat_exs, sat_exs_nil, sat_if, sat_asg, sat_asgT, sat_setix, sat_ex, sat_ret, sat_retN, sat_pass, sat_brk, sat_cnt, sat_raise, sat_evB, sat_ite, sat_for, rest_nx, rest_ret, sat_var, sat_non, sat_bl, sat_int, sat_str, sat_bin, sat_neg, sat_cmp, sat_chain, sat_isN, sat_notN, sat_and, sat_or, sat_not, sat_ifE, sat_tup, sat_lst, sat_ix, sat_slN, sat_slLv, sat_slHv, sat_slLb, sat_slHb, sat_slLi, sat_slHi, sat_slLc, sat_slHc, sat_cal, sat_bi, sat_isi, sat_isis, sat_me, sat_lc, sat_lcIf, sat_lcF, sat_lcFi, sat_lrng, sat_isB, sat_rev1, rv1_l, rv1_t, List.reverse_cons, List.reverse_nil, sat_orv, orvK_int, orvK_non, intO_int, ex_bl, ex_lst, sat_box, sat_unbox, sat_esN, sat_esC, ex_d, ex_int, ex_fl, ex_obj, ex_cell, ex_oi, kept_non, kept_int, kept_tup, kept_lst, kept_str, kept_scr, kept_self, ex_setx, ex_j, shl1, Int.toNat_natCast, Int.natCast_nonneg, start, bin_ii, bin_ll, bin_tt, bin_ss, bin_li, bin_ti, rg_1, rg_2, int_add, int_sub, int_mul, int_fdiv, int_mod, int_pow, int_shl, int_shr, int_band, int_bor, int_bxor, cmp_eq, cmp_ne, cmp_in, cmp_nin, cmp_lt, cmp_le, cmp_gt, cmp_ge, eq_op, in_lst, in_tup, ix_lst, ix_tup, ix_scr, ix_str, sl_lst, sl_tup, sl_str, end_t, end_i, bi_len_l, bi_len_t, bi_len_c, bi_len_s, bi_abs, bi_sum, bi_maxl, bi_minl, bi_max2, bi_min2, bi_any, bi_all, bi_int_i, bi_int_b, bi_list_l, bi_list_t, bi_tuple_l, bi_tuple_t, bi_sorted, bi_sset, ty_non, ty_bl, ty_int, ty_str, ty_lst, ty_tup, ty_scr, toB_bl, set_n, set_t, set_tl, it_seq_l, it_seq_t, it_seq_s, it_rng1, it_rng2, it_enm, it_enmT, it_zp_l, it_zp_t, it_rev_l, it_rev_t, me_append, me_extend, me_pop, me_reverse, me_count, ty_int_int, ty_int_bool, ty_bool_int, ty_bool_bool, ty_list_list, ty_tuple_tuple, ty_list_tuple, ty_tuple_list, ty_tuple_int, ty_tuple_bool, ty_int_tuple, ty_str_str, isNonE, toD_d, toD_fl, clo_d, clo_fl, eqB_nn, eqB_bb, eqB_bi, eqB_ib, eqB_ii, eqB_ss, eqB_ll, eqB_tt, eqB_ni, eqB_in, eqBs_00, eqBs_0c, eqBs_c0, eqBs_cc, okD, okDs, flat, small, powOk, mulOk, most, natAbs_1, natAbs_2, natAbs_10, Int.natAbs_natCast, wipe, intsOf, blsOf, pq_non, pq_bl, pq_int, pq_str, pq_tup, pq_lst, pq_scr, atI_0, atI_1, atI_2, ixN_0, ixN_1, D.closed, D.closeds, sat_ok, sat_bind, sat_guard, sat_err, Res.bind_ok, Res.bind_err, List.map_cons, List.map_nil, List.length_cons, List.length_nil, List.cons_append, List.nil_append, List.getElem?_cons_zero, List.getElem?_cons_succ, List.set_cons_zero, List.set_cons_succ, List.replicate, List.foldl_cons, List.foldl_nil, List.zip_cons_cons, List.zip_nil_left, List.zip_nil_right, Nat.reduceAdd, Nat.reduceSub, Nat.reduceLeDiff, Nat.reduceLT, Int.reduceLT, Int.reduceLE, Int.reduceNeg, Int.reducePow, Int.reduceToNat, Int.reduceAdd, Int.reduceMul, Int.reduceSub, Nat.reducePow, Nat.zero_add, Nat.add_zero, decide_true, decide_false, decide_eq_true_eq, beq_iff_eq, Bool.true_eq_false, reduceCtorEq, if_true, if_false, Bool.false_eq_true, true_and, and_true, Bool.true_and, Bool.and_true, Bool.false_and, Bool.and_false, Bool.not_true, Bool.not_false, Bool.or_true, Bool.true_or, Bool.or_false, Bool.false_or, Bool.and_eq_true, Bool.or_eq_true, Bool.not_eq_true', beq_self_eq_true, Option.map_some, Option.toList, if_true, if_false, closeds_oD]
    rfl
end
end Nl

/-! sorted(set(..)) of numbers, truths of lists. -/
namespace Nl
theorem intsOf_iD (xs : List Nat) : intsOf (xs.map iD) = some (xs.map fun x : Nat => (x : Int)) := intsOf_map (fun x : Nat => (x : Int)) xs
end Nl

/-! More of what many laws need: all cuts, readable ones, a look at a writing. -/
namespace Nl
section
variable {gl : Nat → Option D} {fs : List Fn}
theorem all_cuts_ok {m i n : Nat} {S : Store} (hf : fs[i]? = some f_all_cuts_5693) (hn : n ≤ 8) : call gl fs (m + 1) i [.int n] S = .ok (.fl ((List.range (2 ^ n)).map iD), S) := by
  rw [← sat_def]
  have p8 := pow_le_256 hn
  refine sat_call hf rfl rfl rfl ?_
  generalize hN : 2 ^ n = N at *
  simp -implicitDefEqProofs only [sat_exs, sat_exs_nil, sat_if, sat_asg, sat_asgT, sat_setix, sat_ex, sat_ret, sat_retN, sat_pass, sat_brk, sat_cnt, sat_raise, sat_evB, sat_ite, sat_for, rest_nx, rest_ret, sat_var, sat_non, sat_bl, sat_int, sat_str, sat_bin, sat_neg, sat_cmp, sat_chain, sat_isN, sat_notN, sat_and, sat_or, sat_not, sat_ifE, sat_tup, sat_lst, sat_ix, sat_slN, sat_slLv, sat_slHv, sat_slLb, sat_slHb, sat_slLi, sat_slHi, sat_slLc, sat_slHc, sat_cal, sat_bi, sat_isi, sat_isis, sat_me, sat_lc, sat_lcIf, sat_lcF, sat_lcFi, sat_lrng, sat_isB, sat_rev1, rv1_l, rv1_t, List.reverse_cons, List.reverse_nil, sat_orv, orvK_int, orvK_non, intO_int, ex_bl, ex_lst, sat_box, sat_unbox, sat_esN, sat_esC, ex_d, ex_int, ex_fl, ex_obj, ex_cell, ex_oi, kept_non, kept_int, kept_tup, kept_lst, kept_str, kept_scr, kept_self, ex_setx, ex_j, shl1, Int.toNat_natCast, Int.natCast_nonneg, start, bin_ii, bin_ll, bin_tt, bin_ss, bin_li, bin_ti, rg_1, rg_2, int_add, int_sub, int_mul, int_fdiv, int_mod, int_pow, int_shl, int_shr, int_band, int_bor, int_bxor, cmp_eq, cmp_ne, cmp_in, cmp_nin, cmp_lt, cmp_le, cmp_gt, cmp_ge, eq_op, in_lst, in_tup, ix_lst, ix_tup, ix_scr, ix_str, sl_lst, sl_tup, sl_str, end_t, end_i, bi_len_l, bi_len_t, bi_len_c, bi_len_s, bi_abs, bi_sum, bi_maxl, bi_minl, bi_max2, bi_min2, bi_any, bi_all, bi_int_i, bi_int_b, bi_list_l, bi_list_t, bi_tuple_l, bi_tuple_t, bi_sorted, bi_sset, ty_non, ty_bl, ty_int, ty_str, ty_lst, ty_tup, ty_scr, toB_bl, set_n, set_t, set_tl, it_seq_l, it_seq_t, it_seq_s, it_rng1, it_rng2, it_enm, it_enmT, it_zp_l, it_zp_t, it_rev_l, it_rev_t, me_append, me_extend, me_pop, me_reverse, me_count, ty_int_int, ty_int_bool, ty_bool_int, ty_bool_bool, ty_list_list, ty_tuple_tuple, ty_list_tuple, ty_tuple_list, ty_tuple_int, ty_tuple_bool, ty_int_tuple, ty_str_str, isNonE, toD_d, toD_fl, clo_d, clo_fl, eqB_nn, eqB_bb, eqB_bi, eqB_ib, eqB_ii, eqB_ss, eqB_ll, eqB_tt, eqB_ni, eqB_in, eqBs_00, eqBs_0c, eqBs_c0, eqBs_cc, okD, okDs, flat, small, powOk, mulOk, most, natAbs_1, natAbs_2, natAbs_10, Int.natAbs_natCast, wipe, intsOf, blsOf, pq_non, pq_bl, pq_int, pq_str, pq_tup, pq_lst, pq_scr, atI_0, atI_1, atI_2, ixN_0, ixN_1, D.closed, D.closeds, sat_ok, sat_bind, sat_guard, sat_err, Res.bind_ok, Res.bind_err, List.map_cons, List.map_nil, List.length_cons, List.length_nil, List.cons_append, List.nil_append, List.getElem?_cons_zero, List.getElem?_cons_succ, List.set_cons_zero, List.set_cons_succ, List.replicate, List.foldl_cons, List.foldl_nil, List.zip_cons_cons, List.zip_nil_left, List.zip_nil_right, Nat.reduceAdd, Nat.reduceSub, Nat.reduceLeDiff, Nat.reduceLT, Int.reduceLT, Int.reduceLE, Int.reduceNeg, Int.reducePow, Int.reduceToNat, Int.reduceAdd, Int.reduceMul, Int.reduceSub, Nat.reducePow, Nat.zero_add, Nat.add_zero, decide_true, decide_false, decide_eq_true_eq, beq_iff_eq, Bool.true_eq_false, reduceCtorEq, if_true, if_false, Bool.false_eq_true, true_and, and_true, Bool.true_and, Bool.and_true, Bool.false_and, Bool.and_false, Bool.not_true, Bool.not_false, Bool.or_true, Bool.true_or, Bool.or_false, Bool.false_or, Bool.and_eq_true, Bool.or_eq_true, Bool.not_eq_true', beq_self_eq_true, Option.map_some, Option.toList, if_true, if_false, f_all_cuts_5693, up0_eq, List.length_map, List.length_range, closeds_iD, hN]
  refine ⟨by omega, by omega, by omega⟩
end
end Nl

/-! Drawn writings of the later laws. -/
namespace Nl
section
variable {gl : Nat → Option D} {cf : Cf}
end
section
variable {gl : Nat → Option D} {fs : List Fn}
end
end Nl

/-! Tears: what is within them, mending, writings by sums. -/
namespace Nl
def sumN (c : Nat) : Nat := ((bits c).map fun i => i + 1).sum
def restN (n c : Nat) : Nat := sumN c % (n + 1)
def cntL (n r q : Nat) : Nat := ((List.range q).filter fun c => decide (restN n c = r)).length
def sumF (n r c : Nat) : Option Nat := if restN n c = r then some (cntL n r c) else none
def sumT (n r : Nat) : List (Option Nat) := (List.range (2 ^ n)).map (sumF n r)
theorem cntL_succ (n r q : Nat) : cntL n r (q + 1) = cntL n r q + if restN n q = r then 1 else 0 := by
  unfold cntL
  rw [List.range_succ, List.filter_append, List.length_append]
  by_cases h : restN n q = r <;> simp [h]
theorem cntL_mono (n r : Nat) {a b : Nat} (h : a ≤ b) : cntL n r a ≤ cntL n r b := by
  induction h with
  | refl => exact Nat.le_refl _
  | step _ ih => rw [cntL_succ]; omega
theorem sumT_tab (n r : Nat) : Tab n (cntL n r (2 ^ n)) (sumT n r) := ⟨by simp [sumT], fun x hx => by
  obtain ⟨c, hc, e⟩ := List.mem_map.mp hx
  unfold sumF at e
  split at e
  · rename_i h
    cases e
    have h1 := cntL_succ n r c
    rw [if_pos h] at h1
    have h2 := cntL_mono n r (a := c + 1) (b := 2 ^ n) (by have := List.mem_range.mp hc; omega)
    omega
  · cases e⟩
section
variable {gl : Nat → Option D} {fs : List Fn}
theorem rest_ok {m i j n c : Nat} {S : Store} (hf : fs[i]? = some (f_rest_of_eb55 j)) (hj : fs[j]? = some f_spots_of_ec1d) (hc : c < 256) : call gl fs (m + 2) i [.int n, .int c] S = .ok (.d (.int (restN n c : Nat)), S) := by
  rw [← sat_def]
  refine sat_call hf rfl rfl rfl ?_
  simp -implicitDefEqProofs only [sat_exs, sat_exs_nil, sat_if, sat_asg, sat_asgT, sat_setix, sat_ex, sat_ret, sat_retN, sat_pass, sat_brk, sat_cnt, sat_raise, sat_evB, sat_ite, sat_for, rest_nx, rest_ret, sat_var, sat_non, sat_bl, sat_int, sat_str, sat_bin, sat_neg, sat_cmp, sat_chain, sat_isN, sat_notN, sat_and, sat_or, sat_not, sat_ifE, sat_tup, sat_lst, sat_ix, sat_slN, sat_slLv, sat_slHv, sat_slLb, sat_slHb, sat_slLi, sat_slHi, sat_slLc, sat_slHc, sat_cal, sat_bi, sat_isi, sat_isis, sat_trng, sat_lsn, sat_lidx, it_rr1, it_rr2, bi_sortP, bi_repr, sat_dnew, sat_din, sat_dget, sat_dgetD, sat_dlen, sat_dlist, sat_dput, sat_fld, sat_meth, sat_make, sat_setfld, sat_me, sat_lc, sat_lcIf, sat_lcF, sat_lcFi, sat_lrng, sat_isB, sat_rev1, rv1_l, rv1_t, List.reverse_cons, List.reverse_nil, sat_orv, orvK_int, orvK_non, intO_int, ex_bl, ex_lst, sat_box, sat_unbox, sat_esN, sat_esC, ex_d, ex_int, ex_fl, ex_obj, ex_cell, ex_oi, kept_non, kept_int, kept_tup, kept_lst, kept_str, kept_scr, kept_self, ex_setx, ex_j, shl1, Int.toNat_natCast, Int.natCast_nonneg, start, bin_ii, bin_ll, bin_tt, bin_ss, bin_li, bin_ti, rg_1, rg_2, int_add, int_sub, int_mul, int_fdiv, int_mod, int_pow, int_shl, int_shr, int_band, int_bor, int_bxor, cmp_eq, cmp_ne, cmp_in, cmp_nin, cmp_lt, cmp_le, cmp_gt, cmp_ge, eq_op, in_lst, in_tup, ix_lst, ix_tup, ix_scr, ix_str, sl_lst, sl_tup, sl_str, end_t, end_i, bi_len_l, bi_len_t, bi_len_c, bi_len_s, bi_abs, bi_sum, bi_maxl, bi_minl, bi_max2, bi_min2, bi_any, bi_all, bi_int_i, bi_int_b, bi_list_l, bi_list_t, bi_tuple_l, bi_tuple_t, bi_sorted, bi_sset, ty_non, ty_bl, ty_int, ty_str, ty_lst, ty_tup, ty_scr, toB_bl, set_n, set_t, set_tl, it_seq_l, it_seq_t, it_seq_s, it_rng1, it_rng2, it_enm, it_enmT, it_zp_l, it_zp_t, it_rev_l, it_rev_t, me_append, me_extend, me_pop, me_reverse, me_count, ty_int_int, ty_int_bool, ty_bool_int, ty_bool_bool, ty_list_list, ty_tuple_tuple, ty_list_tuple, ty_tuple_list, ty_tuple_int, ty_tuple_bool, ty_int_tuple, ty_str_str, isNonE, toD_d, toD_fl, clo_d, clo_fl, eqB_nn, eqB_bb, eqB_bi, eqB_ib, eqB_ii, eqB_ss, eqB_ll, eqB_tt, eqB_ni, eqB_in, eqBs_00, eqBs_0c, eqBs_c0, eqBs_cc, okD, okDs, flat, small, powOk, mulOk, most, natAbs_1, natAbs_2, natAbs_10, Int.natAbs_natCast, wipe, intsOf, blsOf, pq_non, pq_bl, pq_int, pq_str, pq_tup, pq_lst, pq_scr, atI_0, atI_1, atI_2, ixN_0, ixN_1, D.closed, D.closeds, sat_ok, sat_bind, sat_guard, sat_err, Res.bind_ok, Res.bind_err, List.map_cons, List.map_nil, List.length_cons, List.length_nil, List.cons_append, List.nil_append, List.getElem?_cons_zero, List.getElem?_cons_succ, List.set_cons_zero, List.set_cons_succ, List.replicate, List.foldl_cons, List.foldl_nil, List.zip_cons_cons, List.zip_nil_left, List.zip_nil_right, Nat.reduceAdd, Nat.reduceSub, Nat.reduceLeDiff, Nat.reduceLT, Int.reduceLT, Int.reduceLE, Int.reduceNeg, Int.reducePow, Int.reduceToNat, Int.reduceAdd, Int.reduceMul, Int.reduceSub, Nat.reducePow, Nat.zero_add, Nat.add_zero, decide_true, decide_false, decide_eq_true_eq, beq_iff_eq, Bool.true_eq_false, reduceCtorEq, if_true, if_false, Bool.false_eq_true, true_and, and_true, Bool.true_and, Bool.and_true, Bool.false_and, Bool.and_false, Bool.not_true, Bool.not_false, Bool.or_true, Bool.true_or, Bool.or_false, Bool.false_or, Bool.and_eq_true, Bool.or_eq_true, Bool.not_eq_true', beq_self_eq_true, Option.map_some, Option.toList, if_true, if_false, f_rest_of_eb55, spots_of_ok hj hc]
  rw [sat_eq (compL_f (h := fun i => iD (i + 1)) (by simp [kept]) ?c1)]
  case c1 =>
    intro x hx
    simp -implicitDefEqProofs only [sat_exs, sat_exs_nil, sat_if, sat_asg, sat_asgT, sat_setix, sat_ex, sat_ret, sat_retN, sat_pass, sat_brk, sat_cnt, sat_raise, sat_evB, sat_ite, sat_for, rest_nx, rest_ret, sat_var, sat_non, sat_bl, sat_int, sat_str, sat_bin, sat_neg, sat_cmp, sat_chain, sat_isN, sat_notN, sat_and, sat_or, sat_not, sat_ifE, sat_tup, sat_lst, sat_ix, sat_slN, sat_slLv, sat_slHv, sat_slLb, sat_slHb, sat_slLi, sat_slHi, sat_slLc, sat_slHc, sat_cal, sat_bi, sat_isi, sat_isis, sat_trng, sat_lsn, sat_lidx, it_rr1, it_rr2, bi_sortP, bi_repr, sat_dnew, sat_din, sat_dget, sat_dgetD, sat_dlen, sat_dlist, sat_dput, sat_fld, sat_meth, sat_make, sat_setfld, sat_me, sat_lc, sat_lcIf, sat_lcF, sat_lcFi, sat_lrng, sat_isB, sat_rev1, rv1_l, rv1_t, List.reverse_cons, List.reverse_nil, sat_orv, orvK_int, orvK_non, intO_int, ex_bl, ex_lst, sat_box, sat_unbox, sat_esN, sat_esC, ex_d, ex_int, ex_fl, ex_obj, ex_cell, ex_oi, kept_non, kept_int, kept_tup, kept_lst, kept_str, kept_scr, kept_self, ex_setx, ex_j, shl1, Int.toNat_natCast, Int.natCast_nonneg, start, bin_ii, bin_ll, bin_tt, bin_ss, bin_li, bin_ti, rg_1, rg_2, int_add, int_sub, int_mul, int_fdiv, int_mod, int_pow, int_shl, int_shr, int_band, int_bor, int_bxor, cmp_eq, cmp_ne, cmp_in, cmp_nin, cmp_lt, cmp_le, cmp_gt, cmp_ge, eq_op, in_lst, in_tup, ix_lst, ix_tup, ix_scr, ix_str, sl_lst, sl_tup, sl_str, end_t, end_i, bi_len_l, bi_len_t, bi_len_c, bi_len_s, bi_abs, bi_sum, bi_maxl, bi_minl, bi_max2, bi_min2, bi_any, bi_all, bi_int_i, bi_int_b, bi_list_l, bi_list_t, bi_tuple_l, bi_tuple_t, bi_sorted, bi_sset, ty_non, ty_bl, ty_int, ty_str, ty_lst, ty_tup, ty_scr, toB_bl, set_n, set_t, set_tl, it_seq_l, it_seq_t, it_seq_s, it_rng1, it_rng2, it_enm, it_enmT, it_zp_l, it_zp_t, it_rev_l, it_rev_t, me_append, me_extend, me_pop, me_reverse, me_count, ty_int_int, ty_int_bool, ty_bool_int, ty_bool_bool, ty_list_list, ty_tuple_tuple, ty_list_tuple, ty_tuple_list, ty_tuple_int, ty_tuple_bool, ty_int_tuple, ty_str_str, isNonE, toD_d, toD_fl, clo_d, clo_fl, eqB_nn, eqB_bb, eqB_bi, eqB_ib, eqB_ii, eqB_ss, eqB_ll, eqB_tt, eqB_ni, eqB_in, eqBs_00, eqBs_0c, eqBs_c0, eqBs_cc, okD, okDs, flat, small, powOk, mulOk, most, natAbs_1, natAbs_2, natAbs_10, Int.natAbs_natCast, wipe, intsOf, blsOf, pq_non, pq_bl, pq_int, pq_str, pq_tup, pq_lst, pq_scr, atI_0, atI_1, atI_2, ixN_0, ixN_1, D.closed, D.closeds, sat_ok, sat_bind, sat_guard, sat_err, Res.bind_ok, Res.bind_err, List.map_cons, List.map_nil, List.length_cons, List.length_nil, List.cons_append, List.nil_append, List.getElem?_cons_zero, List.getElem?_cons_succ, List.set_cons_zero, List.set_cons_succ, List.replicate, List.foldl_cons, List.foldl_nil, List.zip_cons_cons, List.zip_nil_left, List.zip_nil_right, Nat.reduceAdd, Nat.reduceSub, Nat.reduceLeDiff, Nat.reduceLT, Int.reduceLT, Int.reduceLE, Int.reduceNeg, Int.reducePow, Int.reduceToNat, Int.reduceAdd, Int.reduceMul, Int.reduceSub, Nat.reducePow, Nat.zero_add, Nat.add_zero, decide_true, decide_false, decide_eq_true_eq, beq_iff_eq, Bool.true_eq_false, reduceCtorEq, if_true, if_false, Bool.false_eq_true, true_and, and_true, Bool.true_and, Bool.and_true, Bool.false_and, Bool.and_false, Bool.not_true, Bool.not_false, Bool.or_true, Bool.true_or, Bool.or_false, Bool.false_or, Bool.and_eq_true, Bool.or_eq_true, Bool.not_eq_true', beq_self_eq_true, Option.map_some, Option.toList, if_true, if_false, sat_lcF, iD]
    simp
  have hl := bits_le (c := c)
  have em : (bits c).map (fun i => iD (i + 1)) = ((bits c).map fun i => i + 1).map iD := by rw [List.map_map]; rfl
  have sc : ∀ xs : List Nat, (xs.map fun x : Nat => (x : Int)).sum = ((xs.sum : Nat) : Int) := fun xs => by
    induction xs with
    | nil => rfl
    | cons x xs ih => rw [List.map_cons, List.sum_cons, List.sum_cons, ih]; simp
  have n0 : (0 : Int) < (n : Int) + 1 := by omega
  simp -implicitDefEqProofs only [sat_exs, sat_exs_nil, sat_if, sat_asg, sat_asgT, sat_setix, sat_ex, sat_ret, sat_retN, sat_pass, sat_brk, sat_cnt, sat_raise, sat_evB, sat_ite, sat_for, rest_nx, rest_ret, sat_var, sat_non, sat_bl, sat_int, sat_str, sat_bin, sat_neg, sat_cmp, sat_chain, sat_isN, sat_notN, sat_and, sat_or, sat_not, sat_ifE, sat_tup, sat_lst, sat_ix, sat_slN, sat_slLv, sat_slHv, sat_slLb, sat_slHb, sat_slLi, sat_slHi, sat_slLc, sat_slHc, sat_cal, sat_bi, sat_isi, sat_isis, sat_trng, sat_lsn, sat_lidx, it_rr1, it_rr2, bi_sortP, bi_repr, sat_dnew, sat_din, sat_dget, sat_dgetD, sat_dlen, sat_dlist, sat_dput, sat_fld, sat_meth, sat_make, sat_setfld, sat_me, sat_lc, sat_lcIf, sat_lcF, sat_lcFi, sat_lrng, sat_isB, sat_rev1, rv1_l, rv1_t, List.reverse_cons, List.reverse_nil, sat_orv, orvK_int, orvK_non, intO_int, ex_bl, ex_lst, sat_box, sat_unbox, sat_esN, sat_esC, ex_d, ex_int, ex_fl, ex_obj, ex_cell, ex_oi, kept_non, kept_int, kept_tup, kept_lst, kept_str, kept_scr, kept_self, ex_setx, ex_j, shl1, Int.toNat_natCast, Int.natCast_nonneg, start, bin_ii, bin_ll, bin_tt, bin_ss, bin_li, bin_ti, rg_1, rg_2, int_add, int_sub, int_mul, int_fdiv, int_mod, int_pow, int_shl, int_shr, int_band, int_bor, int_bxor, cmp_eq, cmp_ne, cmp_in, cmp_nin, cmp_lt, cmp_le, cmp_gt, cmp_ge, eq_op, in_lst, in_tup, ix_lst, ix_tup, ix_scr, ix_str, sl_lst, sl_tup, sl_str, end_t, end_i, bi_len_l, bi_len_t, bi_len_c, bi_len_s, bi_abs, bi_sum, bi_maxl, bi_minl, bi_max2, bi_min2, bi_any, bi_all, bi_int_i, bi_int_b, bi_list_l, bi_list_t, bi_tuple_l, bi_tuple_t, bi_sorted, bi_sset, ty_non, ty_bl, ty_int, ty_str, ty_lst, ty_tup, ty_scr, toB_bl, set_n, set_t, set_tl, it_seq_l, it_seq_t, it_seq_s, it_rng1, it_rng2, it_enm, it_enmT, it_zp_l, it_zp_t, it_rev_l, it_rev_t, me_append, me_extend, me_pop, me_reverse, me_count, ty_int_int, ty_int_bool, ty_bool_int, ty_bool_bool, ty_list_list, ty_tuple_tuple, ty_list_tuple, ty_tuple_list, ty_tuple_int, ty_tuple_bool, ty_int_tuple, ty_str_str, isNonE, toD_d, toD_fl, clo_d, clo_fl, eqB_nn, eqB_bb, eqB_bi, eqB_ib, eqB_ii, eqB_ss, eqB_ll, eqB_tt, eqB_ni, eqB_in, eqBs_00, eqBs_0c, eqBs_c0, eqBs_cc, okD, okDs, flat, small, powOk, mulOk, most, natAbs_1, natAbs_2, natAbs_10, Int.natAbs_natCast, wipe, intsOf, blsOf, pq_non, pq_bl, pq_int, pq_str, pq_tup, pq_lst, pq_scr, atI_0, atI_1, atI_2, ixN_0, ixN_1, D.closed, D.closeds, sat_ok, sat_bind, sat_guard, sat_err, Res.bind_ok, Res.bind_err, List.map_cons, List.map_nil, List.length_cons, List.length_nil, List.cons_append, List.nil_append, List.getElem?_cons_zero, List.getElem?_cons_succ, List.set_cons_zero, List.set_cons_succ, List.replicate, List.foldl_cons, List.foldl_nil, List.zip_cons_cons, List.zip_nil_left, List.zip_nil_right, Nat.reduceAdd, Nat.reduceSub, Nat.reduceLeDiff, Nat.reduceLT, Int.reduceLT, Int.reduceLE, Int.reduceNeg, Int.reducePow, Int.reduceToNat, Int.reduceAdd, Int.reduceMul, Int.reduceSub, Nat.reducePow, Nat.zero_add, Nat.add_zero, decide_true, decide_false, decide_eq_true_eq, beq_iff_eq, Bool.true_eq_false, reduceCtorEq, if_true, if_false, Bool.false_eq_true, true_and, and_true, Bool.true_and, Bool.and_true, Bool.false_and, Bool.and_false, Bool.not_true, Bool.not_false, Bool.or_true, Bool.true_or, Bool.or_false, Bool.false_or, Bool.and_eq_true, Bool.or_eq_true, Bool.not_eq_true', beq_self_eq_true, Option.map_some, Option.toList, if_true, if_false, em, intsOf_iD, sc, List.length_map, n0]
  refine ⟨by omega, ?_⟩
  rfl
theorem summed_ok {m i i1 i2 i3 j0 j2 g1 g2 g3 n r : Nat} {S : Store} (hf : fs[i]? = some (f_summed_af48 i1 i2 i3)) (h1 : fs[i1]? = some f_all_cuts_5693) (h2 : fs[i2]? = some (f_rest_of_eb55 j2)) (k2 : fs[j2]? = some f_spots_of_ec1d) (h3 : fs[i3]? = some (f_made_writing_48a6 j0 g1 g2 g3)) (h0 : fs[j0]? = some f_is_int_f58b) (e1 : gl g1 = some (.int 8)) (e2 : gl g2 = some (.int 2)) (e3 : gl g3 = some (.int 100))
    (hn1 : 1 ≤ n) (hn : n ≤ 8) (hk : 2 ≤ cntL n r (2 ^ n)) (hk2 : cntL n r (2 ^ n) ≤ 100) : call gl fs (m + 3) i [.int n, .int r] S = .ok (.d (wrD n (cntL n r (2 ^ n)) (sumT n r)), S) := by
  rw [← sat_def]
  have p8 := pow_le_256 hn
  have mk := fun T => made_ok (S := T) (m := m) h3 h0 e1 e2 e3 hn1 hn hk hk2 (sumT_tab n r)
  refine sat_call hf rfl rfl rfl ?_
  simp -implicitDefEqProofs only [sat_exs, sat_exs_nil, sat_if, sat_asg, sat_asgT, sat_setix, sat_ex, sat_ret, sat_retN, sat_pass, sat_brk, sat_cnt, sat_raise, sat_evB, sat_ite, sat_for, rest_nx, rest_ret, sat_var, sat_non, sat_bl, sat_int, sat_str, sat_bin, sat_neg, sat_cmp, sat_chain, sat_isN, sat_notN, sat_and, sat_or, sat_not, sat_ifE, sat_tup, sat_lst, sat_ix, sat_slN, sat_slLv, sat_slHv, sat_slLb, sat_slHb, sat_slLi, sat_slHi, sat_slLc, sat_slHc, sat_cal, sat_bi, sat_isi, sat_isis, sat_trng, sat_lsn, sat_lidx, it_rr1, it_rr2, bi_sortP, bi_repr, sat_dnew, sat_din, sat_dget, sat_dgetD, sat_dlen, sat_dlist, sat_dput, sat_fld, sat_meth, sat_make, sat_setfld, sat_me, sat_lc, sat_lcIf, sat_lcF, sat_lcFi, sat_lrng, sat_isB, sat_rev1, rv1_l, rv1_t, List.reverse_cons, List.reverse_nil, sat_orv, orvK_int, orvK_non, intO_int, ex_bl, ex_lst, sat_box, sat_unbox, sat_esN, sat_esC, ex_d, ex_int, ex_fl, ex_obj, ex_cell, ex_oi, kept_non, kept_int, kept_tup, kept_lst, kept_str, kept_scr, kept_self, ex_setx, ex_j, shl1, Int.toNat_natCast, Int.natCast_nonneg, start, bin_ii, bin_ll, bin_tt, bin_ss, bin_li, bin_ti, rg_1, rg_2, int_add, int_sub, int_mul, int_fdiv, int_mod, int_pow, int_shl, int_shr, int_band, int_bor, int_bxor, cmp_eq, cmp_ne, cmp_in, cmp_nin, cmp_lt, cmp_le, cmp_gt, cmp_ge, eq_op, in_lst, in_tup, ix_lst, ix_tup, ix_scr, ix_str, sl_lst, sl_tup, sl_str, end_t, end_i, bi_len_l, bi_len_t, bi_len_c, bi_len_s, bi_abs, bi_sum, bi_maxl, bi_minl, bi_max2, bi_min2, bi_any, bi_all, bi_int_i, bi_int_b, bi_list_l, bi_list_t, bi_tuple_l, bi_tuple_t, bi_sorted, bi_sset, ty_non, ty_bl, ty_int, ty_str, ty_lst, ty_tup, ty_scr, toB_bl, set_n, set_t, set_tl, it_seq_l, it_seq_t, it_seq_s, it_rng1, it_rng2, it_enm, it_enmT, it_zp_l, it_zp_t, it_rev_l, it_rev_t, me_append, me_extend, me_pop, me_reverse, me_count, ty_int_int, ty_int_bool, ty_bool_int, ty_bool_bool, ty_list_list, ty_tuple_tuple, ty_list_tuple, ty_tuple_list, ty_tuple_int, ty_tuple_bool, ty_int_tuple, ty_str_str, isNonE, toD_d, toD_fl, clo_d, clo_fl, eqB_nn, eqB_bb, eqB_bi, eqB_ib, eqB_ii, eqB_ss, eqB_ll, eqB_tt, eqB_ni, eqB_in, eqBs_00, eqBs_0c, eqBs_c0, eqBs_cc, okD, okDs, flat, small, powOk, mulOk, most, natAbs_1, natAbs_2, natAbs_10, Int.natAbs_natCast, wipe, intsOf, blsOf, pq_non, pq_bl, pq_int, pq_str, pq_tup, pq_lst, pq_scr, atI_0, atI_1, atI_2, ixN_0, ixN_1, D.closed, D.closeds, sat_ok, sat_bind, sat_guard, sat_err, Res.bind_ok, Res.bind_err, List.map_cons, List.map_nil, List.length_cons, List.length_nil, List.cons_append, List.nil_append, List.getElem?_cons_zero, List.getElem?_cons_succ, List.set_cons_zero, List.set_cons_succ, List.replicate, List.foldl_cons, List.foldl_nil, List.zip_cons_cons, List.zip_nil_left, List.zip_nil_right, Nat.reduceAdd, Nat.reduceSub, Nat.reduceLeDiff, Nat.reduceLT, Int.reduceLT, Int.reduceLE, Int.reduceNeg, Int.reducePow, Int.reduceToNat, Int.reduceAdd, Int.reduceMul, Int.reduceSub, Nat.reducePow, Nat.zero_add, Nat.add_zero, decide_true, decide_false, decide_eq_true_eq, beq_iff_eq, Bool.true_eq_false, reduceCtorEq, if_true, if_false, Bool.false_eq_true, true_and, and_true, Bool.true_and, Bool.and_true, Bool.false_and, Bool.and_false, Bool.not_true, Bool.not_false, Bool.or_true, Bool.true_or, Bool.or_false, Bool.false_or, Bool.and_eq_true, Bool.or_eq_true, Bool.not_eq_true', beq_self_eq_true, Option.map_some, Option.toList, if_true, if_false, f_summed_af48, all_cuts_ok h1 hn]
  refine sat_loopF (fun q env T => ∃ (mn : Nat) (x y : Option D), env = [some (.int n), some (.int r), some (.obj 0), some (.int mn), x, y] ∧ mn = cntL n r q ∧ T = [.lst (((List.range q).map (sumF n r)).map oD)]) _ 0 _ _ ⟨0, _, _, rfl, rfl, rfl⟩ (fun q d env T hd hI => ?_) (fun env T hI => ?_)
  · obtain ⟨mn, _, _, rfl, hmn, rfl⟩ := hI
    rw [List.getElem?_map] at hd
    rw [Nat.zero_add] at hmn ⊢
    obtain ⟨c, hx, rfl⟩ := Option.map_eq_some_iff.mp hd
    have hcq : c = q ∧ q < 2 ^ n := by
      obtain ⟨q1, q2⟩ := List.getElem?_eq_some_iff.mp hx
      rw [List.length_range] at q1
      rw [List.getElem_range] at q2
      exact ⟨q2.symm, q1⟩
    obtain ⟨rfl, hc⟩ := hcq
    have hs := cntL_succ n r c
    have fin : ∀ (o : Option Nat) (mn' : Nat), o = sumF n r c → mn' = cntL n r (c + 1) → (meOp .append 0 [oD o] [Cell.lst (((List.range c).map (sumF n r)).map oD)]).sat fun x => x.2 = [Cell.lst (((List.range (c + 1)).map (sumF n r)).map oD)] := fun o mn' ho _ => by
      rw [me_append rfl, sat_guard, sat_ok]
      refine ⟨decide_eq_true (show _ < 16777216 by rw [List.length_map, List.length_map, List.length_range]; omega), ?_⟩
      rw [List.range_succ, List.map_append, List.map_append, ho]
      rfl
    by_cases hr : restN n c = r
    · rw [if_pos hr] at hs
      have hri : ((restN n c : Nat) : Int) = (r : Int) := by rw [hr]
      simp -implicitDefEqProofs only [sat_exs, sat_exs_nil, sat_if, sat_asg, sat_asgT, sat_setix, sat_ex, sat_ret, sat_retN, sat_pass, sat_brk, sat_cnt, sat_raise, sat_evB, sat_ite, sat_for, rest_nx, rest_ret, sat_var, sat_non, sat_bl, sat_int, sat_str, sat_bin, sat_neg, sat_cmp, sat_chain, sat_isN, sat_notN, sat_and, sat_or, sat_not, sat_ifE, sat_tup, sat_lst, sat_ix, sat_slN, sat_slLv, sat_slHv, sat_slLb, sat_slHb, sat_slLi, sat_slHi, sat_slLc, sat_slHc, sat_cal, sat_bi, sat_isi, sat_isis, sat_trng, sat_lsn, sat_lidx, it_rr1, it_rr2, bi_sortP, bi_repr, sat_dnew, sat_din, sat_dget, sat_dgetD, sat_dlen, sat_dlist, sat_dput, sat_fld, sat_meth, sat_make, sat_setfld, sat_me, sat_lc, sat_lcIf, sat_lcF, sat_lcFi, sat_lrng, sat_isB, sat_rev1, rv1_l, rv1_t, List.reverse_cons, List.reverse_nil, sat_orv, orvK_int, orvK_non, intO_int, ex_bl, ex_lst, sat_box, sat_unbox, sat_esN, sat_esC, ex_d, ex_int, ex_fl, ex_obj, ex_cell, ex_oi, kept_non, kept_int, kept_tup, kept_lst, kept_str, kept_scr, kept_self, ex_setx, ex_j, shl1, Int.toNat_natCast, Int.natCast_nonneg, start, bin_ii, bin_ll, bin_tt, bin_ss, bin_li, bin_ti, rg_1, rg_2, int_add, int_sub, int_mul, int_fdiv, int_mod, int_pow, int_shl, int_shr, int_band, int_bor, int_bxor, cmp_eq, cmp_ne, cmp_in, cmp_nin, cmp_lt, cmp_le, cmp_gt, cmp_ge, eq_op, in_lst, in_tup, ix_lst, ix_tup, ix_scr, ix_str, sl_lst, sl_tup, sl_str, end_t, end_i, bi_len_l, bi_len_t, bi_len_c, bi_len_s, bi_abs, bi_sum, bi_maxl, bi_minl, bi_max2, bi_min2, bi_any, bi_all, bi_int_i, bi_int_b, bi_list_l, bi_list_t, bi_tuple_l, bi_tuple_t, bi_sorted, bi_sset, ty_non, ty_bl, ty_int, ty_str, ty_lst, ty_tup, ty_scr, toB_bl, set_n, set_t, set_tl, it_seq_l, it_seq_t, it_seq_s, it_rng1, it_rng2, it_enm, it_enmT, it_zp_l, it_zp_t, it_rev_l, it_rev_t, me_append, me_extend, me_pop, me_reverse, me_count, ty_int_int, ty_int_bool, ty_bool_int, ty_bool_bool, ty_list_list, ty_tuple_tuple, ty_list_tuple, ty_tuple_list, ty_tuple_int, ty_tuple_bool, ty_int_tuple, ty_str_str, isNonE, toD_d, toD_fl, clo_d, clo_fl, eqB_nn, eqB_bb, eqB_bi, eqB_ib, eqB_ii, eqB_ss, eqB_ll, eqB_tt, eqB_ni, eqB_in, eqBs_00, eqBs_0c, eqBs_c0, eqBs_cc, okD, okDs, flat, small, powOk, mulOk, most, natAbs_1, natAbs_2, natAbs_10, Int.natAbs_natCast, wipe, intsOf, blsOf, pq_non, pq_bl, pq_int, pq_str, pq_tup, pq_lst, pq_scr, atI_0, atI_1, atI_2, ixN_0, ixN_1, D.closed, D.closeds, sat_ok, sat_bind, sat_guard, sat_err, Res.bind_ok, Res.bind_err, List.map_cons, List.map_nil, List.length_cons, List.length_nil, List.cons_append, List.nil_append, List.getElem?_cons_zero, List.getElem?_cons_succ, List.set_cons_zero, List.set_cons_succ, List.replicate, List.foldl_cons, List.foldl_nil, List.zip_cons_cons, List.zip_nil_left, List.zip_nil_right, Nat.reduceAdd, Nat.reduceSub, Nat.reduceLeDiff, Nat.reduceLT, Int.reduceLT, Int.reduceLE, Int.reduceNeg, Int.reducePow, Int.reduceToNat, Int.reduceAdd, Int.reduceMul, Int.reduceSub, Nat.reducePow, Nat.zero_add, Nat.add_zero, decide_true, decide_false, decide_eq_true_eq, beq_iff_eq, Bool.true_eq_false, reduceCtorEq, if_true, if_false, Bool.false_eq_true, true_and, and_true, Bool.true_and, Bool.and_true, Bool.false_and, Bool.and_false, Bool.not_true, Bool.not_false, Bool.or_true, Bool.true_or, Bool.or_false, Bool.false_or, Bool.and_eq_true, Bool.or_eq_true, Bool.not_eq_true', beq_self_eq_true, Option.map_some, Option.toList, if_true, if_false, iD, rest_ok h2 k2 (show c < 256 by omega), hri]
      refine (fin (some mn) (mn + 1) (by rw [sumF, if_pos hr, hmn]) (by omega)).imp fun x hx => ?_
      exact ⟨mn + 1, _, _, rfl, by omega, hx⟩
    · rw [if_neg hr] at hs
      have hri : ((restN n c : Nat) : Int) ≠ (r : Int) := by omega
      simp -implicitDefEqProofs only [sat_exs, sat_exs_nil, sat_if, sat_asg, sat_asgT, sat_setix, sat_ex, sat_ret, sat_retN, sat_pass, sat_brk, sat_cnt, sat_raise, sat_evB, sat_ite, sat_for, rest_nx, rest_ret, sat_var, sat_non, sat_bl, sat_int, sat_str, sat_bin, sat_neg, sat_cmp, sat_chain, sat_isN, sat_notN, sat_and, sat_or, sat_not, sat_ifE, sat_tup, sat_lst, sat_ix, sat_slN, sat_slLv, sat_slHv, sat_slLb, sat_slHb, sat_slLi, sat_slHi, sat_slLc, sat_slHc, sat_cal, sat_bi, sat_isi, sat_isis, sat_trng, sat_lsn, sat_lidx, it_rr1, it_rr2, bi_sortP, bi_repr, sat_dnew, sat_din, sat_dget, sat_dgetD, sat_dlen, sat_dlist, sat_dput, sat_fld, sat_meth, sat_make, sat_setfld, sat_me, sat_lc, sat_lcIf, sat_lcF, sat_lcFi, sat_lrng, sat_isB, sat_rev1, rv1_l, rv1_t, List.reverse_cons, List.reverse_nil, sat_orv, orvK_int, orvK_non, intO_int, ex_bl, ex_lst, sat_box, sat_unbox, sat_esN, sat_esC, ex_d, ex_int, ex_fl, ex_obj, ex_cell, ex_oi, kept_non, kept_int, kept_tup, kept_lst, kept_str, kept_scr, kept_self, ex_setx, ex_j, shl1, Int.toNat_natCast, Int.natCast_nonneg, start, bin_ii, bin_ll, bin_tt, bin_ss, bin_li, bin_ti, rg_1, rg_2, int_add, int_sub, int_mul, int_fdiv, int_mod, int_pow, int_shl, int_shr, int_band, int_bor, int_bxor, cmp_eq, cmp_ne, cmp_in, cmp_nin, cmp_lt, cmp_le, cmp_gt, cmp_ge, eq_op, in_lst, in_tup, ix_lst, ix_tup, ix_scr, ix_str, sl_lst, sl_tup, sl_str, end_t, end_i, bi_len_l, bi_len_t, bi_len_c, bi_len_s, bi_abs, bi_sum, bi_maxl, bi_minl, bi_max2, bi_min2, bi_any, bi_all, bi_int_i, bi_int_b, bi_list_l, bi_list_t, bi_tuple_l, bi_tuple_t, bi_sorted, bi_sset, ty_non, ty_bl, ty_int, ty_str, ty_lst, ty_tup, ty_scr, toB_bl, set_n, set_t, set_tl, it_seq_l, it_seq_t, it_seq_s, it_rng1, it_rng2, it_enm, it_enmT, it_zp_l, it_zp_t, it_rev_l, it_rev_t, me_append, me_extend, me_pop, me_reverse, me_count, ty_int_int, ty_int_bool, ty_bool_int, ty_bool_bool, ty_list_list, ty_tuple_tuple, ty_list_tuple, ty_tuple_list, ty_tuple_int, ty_tuple_bool, ty_int_tuple, ty_str_str, isNonE, toD_d, toD_fl, clo_d, clo_fl, eqB_nn, eqB_bb, eqB_bi, eqB_ib, eqB_ii, eqB_ss, eqB_ll, eqB_tt, eqB_ni, eqB_in, eqBs_00, eqBs_0c, eqBs_c0, eqBs_cc, okD, okDs, flat, small, powOk, mulOk, most, natAbs_1, natAbs_2, natAbs_10, Int.natAbs_natCast, wipe, intsOf, blsOf, pq_non, pq_bl, pq_int, pq_str, pq_tup, pq_lst, pq_scr, atI_0, atI_1, atI_2, ixN_0, ixN_1, D.closed, D.closeds, sat_ok, sat_bind, sat_guard, sat_err, Res.bind_ok, Res.bind_err, List.map_cons, List.map_nil, List.length_cons, List.length_nil, List.cons_append, List.nil_append, List.getElem?_cons_zero, List.getElem?_cons_succ, List.set_cons_zero, List.set_cons_succ, List.replicate, List.foldl_cons, List.foldl_nil, List.zip_cons_cons, List.zip_nil_left, List.zip_nil_right, Nat.reduceAdd, Nat.reduceSub, Nat.reduceLeDiff, Nat.reduceLT, Int.reduceLT, Int.reduceLE, Int.reduceNeg, Int.reducePow, Int.reduceToNat, Int.reduceAdd, Int.reduceMul, Int.reduceSub, Nat.reducePow, Nat.zero_add, Nat.add_zero, decide_true, decide_false, decide_eq_true_eq, beq_iff_eq, Bool.true_eq_false, reduceCtorEq, if_true, if_false, Bool.false_eq_true, true_and, and_true, Bool.true_and, Bool.and_true, Bool.false_and, Bool.and_false, Bool.not_true, Bool.not_false, Bool.or_true, Bool.true_or, Bool.or_false, Bool.false_or, Bool.and_eq_true, Bool.or_eq_true, Bool.not_eq_true', beq_self_eq_true, Option.map_some, Option.toList, if_true, if_false, iD, rest_ok h2 k2 (show c < 256 by omega), hri]
      refine (fin none mn (by rw [sumF, if_neg hr]) (by omega)).imp fun x hx => ?_
      exact ⟨mn, _, _, rfl, by omega, hx⟩
  · obtain ⟨mn, _, _, rfl, hmn, rfl⟩ := hI
    rw [List.length_map, List.length_range, Nat.zero_add] at *
    subst hmn
    rw [show (List.range (2 ^ n)).map (sumF n r) = sumT n r from rfl]
    simp -implicitDefEqProofs only [sat_exs, sat_exs_nil, sat_if, sat_asg, sat_asgT, sat_setix, sat_ex, sat_ret, sat_retN, sat_pass, sat_brk, sat_cnt, sat_raise, sat_evB, sat_ite, sat_for, rest_nx, rest_ret, sat_var, sat_non, sat_bl, sat_int, sat_str, sat_bin, sat_neg, sat_cmp, sat_chain, sat_isN, sat_notN, sat_and, sat_or, sat_not, sat_ifE, sat_tup, sat_lst, sat_ix, sat_slN, sat_slLv, sat_slHv, sat_slLb, sat_slHb, sat_slLi, sat_slHi, sat_slLc, sat_slHc, sat_cal, sat_bi, sat_isi, sat_isis, sat_trng, sat_lsn, sat_lidx, it_rr1, it_rr2, bi_sortP, bi_repr, sat_dnew, sat_din, sat_dget, sat_dgetD, sat_dlen, sat_dlist, sat_dput, sat_fld, sat_meth, sat_make, sat_setfld, sat_me, sat_lc, sat_lcIf, sat_lcF, sat_lcFi, sat_lrng, sat_isB, sat_rev1, rv1_l, rv1_t, List.reverse_cons, List.reverse_nil, sat_orv, orvK_int, orvK_non, intO_int, ex_bl, ex_lst, sat_box, sat_unbox, sat_esN, sat_esC, ex_d, ex_int, ex_fl, ex_obj, ex_cell, ex_oi, kept_non, kept_int, kept_tup, kept_lst, kept_str, kept_scr, kept_self, ex_setx, ex_j, shl1, Int.toNat_natCast, Int.natCast_nonneg, start, bin_ii, bin_ll, bin_tt, bin_ss, bin_li, bin_ti, rg_1, rg_2, int_add, int_sub, int_mul, int_fdiv, int_mod, int_pow, int_shl, int_shr, int_band, int_bor, int_bxor, cmp_eq, cmp_ne, cmp_in, cmp_nin, cmp_lt, cmp_le, cmp_gt, cmp_ge, eq_op, in_lst, in_tup, ix_lst, ix_tup, ix_scr, ix_str, sl_lst, sl_tup, sl_str, end_t, end_i, bi_len_l, bi_len_t, bi_len_c, bi_len_s, bi_abs, bi_sum, bi_maxl, bi_minl, bi_max2, bi_min2, bi_any, bi_all, bi_int_i, bi_int_b, bi_list_l, bi_list_t, bi_tuple_l, bi_tuple_t, bi_sorted, bi_sset, ty_non, ty_bl, ty_int, ty_str, ty_lst, ty_tup, ty_scr, toB_bl, set_n, set_t, set_tl, it_seq_l, it_seq_t, it_seq_s, it_rng1, it_rng2, it_enm, it_enmT, it_zp_l, it_zp_t, it_rev_l, it_rev_t, me_append, me_extend, me_pop, me_reverse, me_count, ty_int_int, ty_int_bool, ty_bool_int, ty_bool_bool, ty_list_list, ty_tuple_tuple, ty_list_tuple, ty_tuple_list, ty_tuple_int, ty_tuple_bool, ty_int_tuple, ty_str_str, isNonE, toD_d, toD_fl, clo_d, clo_fl, eqB_nn, eqB_bb, eqB_bi, eqB_ib, eqB_ii, eqB_ss, eqB_ll, eqB_tt, eqB_ni, eqB_in, eqBs_00, eqBs_0c, eqBs_c0, eqBs_cc, okD, okDs, flat, small, powOk, mulOk, most, natAbs_1, natAbs_2, natAbs_10, Int.natAbs_natCast, wipe, intsOf, blsOf, pq_non, pq_bl, pq_int, pq_str, pq_tup, pq_lst, pq_scr, atI_0, atI_1, atI_2, ixN_0, ixN_1, D.closed, D.closeds, sat_ok, sat_bind, sat_guard, sat_err, Res.bind_ok, Res.bind_err, List.map_cons, List.map_nil, List.length_cons, List.length_nil, List.cons_append, List.nil_append, List.getElem?_cons_zero, List.getElem?_cons_succ, List.set_cons_zero, List.set_cons_succ, List.replicate, List.foldl_cons, List.foldl_nil, List.zip_cons_cons, List.zip_nil_left, List.zip_nil_right, Nat.reduceAdd, Nat.reduceSub, Nat.reduceLeDiff, Nat.reduceLT, Int.reduceLT, Int.reduceLE, Int.reduceNeg, Int.reducePow, Int.reduceToNat, Int.reduceAdd, Int.reduceMul, Int.reduceSub, Nat.reducePow, Nat.zero_add, Nat.add_zero, decide_true, decide_false, decide_eq_true_eq, beq_iff_eq, Bool.true_eq_false, reduceCtorEq, if_true, if_false, Bool.false_eq_true, true_and, and_true, Bool.true_and, Bool.and_true, Bool.false_and, Bool.and_false, Bool.not_true, Bool.not_false, Bool.or_true, Bool.true_or, Bool.or_false, Bool.false_or, Bool.and_eq_true, Bool.or_eq_true, Bool.not_eq_true', beq_self_eq_true, Option.map_some, Option.toList, if_true, if_false, pq_obj (show ([Cell.lst ((sumT n r).map oD)] : Store)[0]? = some (.lst ((sumT n r).map oD)) from rfl), mk, wr_closed]
def cntChk : Bool := (List.range 9).all fun n => decide (n < 3) || (List.range (n + 1)).all fun r => decide (2 ≤ cntL n r (2 ^ n)) && decide (cntL n r (2 ^ n) ≤ 100)
theorem cntChk_ok : cntChk = true := by decide +kernel
theorem cnt_ok {n r : Nat} (h3 : 3 ≤ n) (h8 : n ≤ 8) (hr : r ≤ n) : 2 ≤ cntL n r (2 ^ n) ∧ cntL n r (2 ^ n) ≤ 100 := by
  have h := cntChk_ok
  unfold cntChk at h
  rw [List.all_eq_true] at h
  have h1 := h n (List.mem_range.mpr (by omega))
  rw [Bool.or_eq_true, decide_eq_true_eq] at h1
  rcases h1 with h1 | h1
  · omega
  · rw [List.all_eq_true] at h1
    have h2 := h1 r (List.mem_range.mpr (by omega))
    simpa using h2
end
end Nl

/-! k55: summed. -/
namespace Nl
theorem iD_len {x k : Nat} (h : x < 10 ^ (k + 1)) : (shD (iD x)).length ≤ k + 2 := by
  rw [iD, shD]
  exact figs_len (by rw [Int.natAbs_natCast]; exact h)
theorem oD_len {o : Option Nat} (h : ∀ x, o = some x → x < 100) : (shD (oD o)).length ≤ 4 := by
  cases o with
  | none => rw [oD, shD]; exact Nat.le_refl _
  | some x =>
    have := iD_len (x := x) (k := 1) (by have := h x rfl; omega)
    unfold iD at this
    rw [oD]
    omega
theorem shOk_int {m : Nat} {x : Int} (h : x.natAbs < 1000000) : shOk m (.int x) = true := by
  have e : ∀ j, shOk j (.int x) = decide (x.natAbs < 2 ^ 1920) := fun j => by cases j <;> rw [shOk]
  rw [e, decide_eq_true_eq]
  exact Nat.lt_trans h (by decide)
theorem wr_sh {n k : Nat} {t : List (Option Nat)} (hn : n ≤ 8) (hk : k ≤ 100) (ht : Tab n k t) : shOk 40 (wrD n k t) = true ∧ (shD (wrD n k t)).length ≤ 10000 := by
  have hl : t.length ≤ 256 := by rw [ht.len]; exact pow_le_256 hn
  have hx : ∀ o ∈ t, ∀ x, o = some x → x < 100 := fun o ho x e => by
    subst e
    have := ht.lt x ho
    omega
  constructor
  · unfold wrD
    rw [shOk, shOks, shOks, shOks, shOks, shOk_int (by omega), shOk_int (by omega), shOk, shOks_iff.mpr]
    · rfl
    · intro d hd
      obtain ⟨o, ho, rfl⟩ := List.mem_map.mp hd
      cases o with
      | none => rfl
      | some x =>
        have := hx _ ho x rfl
        exact shOk_int (by omega)
  · have h3 : (shD (.tup (t.map oD))).length ≤ 6 * 256 + 3 := by
      refine Nat.le_trans (shD_tup_len (b := 4) fun d hd => ?_) ?_
      · obtain ⟨o, ho, rfl⟩ := List.mem_map.mp hd
        exact oD_len (hx o ho)
      · rw [List.length_map]
        omega
    have h1 := iD_len (x := n) (k := 2) (by omega)
    have h2 := iD_len (x := k) (k := 2) (by omega)
    unfold iD at h1 h2
    refine Nat.le_trans (shD_tup_len (b := 2000) fun d hd => ?_) (by show (2000 + 2) * 3 + 3 ≤ 10000; omega)
    simp only [List.mem_cons, List.not_mem_nil, or_false] at hd
    rcases hd with rfl | rfl | rfl <;> omega
theorem wr_shw {n k : Nat} {t : List (Option Nat)} (hn : n ≤ 8) (hk : k ≤ 100) (ht : Tab n k t) : shwR (wrD n k t) = .ok (.d (.str (shD (wrD n k t)))) := by
  obtain ⟨h1, h2⟩ := wr_sh hn hk ht
  exact shw_of h1 (by omega) (.inl ⟨_, rfl⟩)
theorem wr_okS {n k : Nat} {t : List (Option Nat)} (hn : n ≤ 8) (hk : k ≤ 100) (ht : Tab n k t) : ((shD (wrD n k t)).all fun c => decide (c < 1114112)) = true := shD_ok 40 _ (wr_sh hn hk ht).1
/-- one more, and 0 behind n -/
def stepN (n x : Nat) : Nat := if x + 1 = n + 1 then 0 else x + 1
def bumpN (n : Nat) : Nat → Nat → Nat
  | 0, x => x
  | t + 1, x => stepN n (bumpN n t x)
def lwN (n c : Nat) : Nat → Nat
  | 0 => 0
  | s + 1 => bumpN n ((s + 1) * (c / 2 ^ s % 2)) (lwN n c s)
def lwChk : Bool := (List.range 9).all fun n => (List.range (2 ^ n)).all fun c => decide (restN n c = lwN n c n)
theorem lwChk_ok : lwChk = true := by decide +kernel
theorem lw_ok {n c : Nat} (hn : n ≤ 8) (hc : c < 2 ^ n) : restN n c = lwN n c n := by
  have h := lwChk_ok
  unfold lwChk at h
  rw [List.all_eq_true] at h
  have h1 := h n (List.mem_range.mpr (by omega))
  rw [List.all_eq_true] at h1
  exact of_decide_eq_true (h1 c (List.mem_range.mpr hc))
section
variable {gl : Nat → Option D} {fs : List Fn}
theorem lrest_ok {m i n c : Nat} {S : Store} (hf : fs[i]? = some f_law_rest_4503) (hn : n ≤ 8) (hc : c < 2 ^ n) : call gl fs (m + 1) i [.int n, .int c] S = .ok (.d (.int (restN n c : Nat)), S) := by
  rw [← sat_def]
  have p8 := pow_le_256 hn
  refine sat_call hf rfl rfl rfl ?_
  have sm : small (n : Int) = true := by
    unfold small
    rw [Bool.and_eq_true, decide_eq_true_eq, decide_eq_true_eq]
    omega
  simp -implicitDefEqProofs only [sat_exs, sat_exs_nil, sat_if, sat_asg, sat_asgT, sat_setix, sat_ex, sat_ret, sat_retN, sat_pass, sat_brk, sat_cnt, sat_raise, sat_evB, sat_ite, sat_for, rest_nx, rest_ret, sat_var, sat_non, sat_bl, sat_int, sat_str, sat_bin, sat_neg, sat_cmp, sat_chain, sat_isN, sat_notN, sat_and, sat_or, sat_not, sat_ifE, sat_tup, sat_lst, sat_ix, sat_slN, sat_slLv, sat_slHv, sat_slLb, sat_slHb, sat_slLi, sat_slHi, sat_slLc, sat_slHc, sat_cal, sat_bi, sat_isi, sat_isis, sat_maxd, sat_shw, sat_trng, sat_lsn, sat_lidx, it_rr1, it_rr2, bi_sortP, bi_repr, sat_dnew, sat_din, sat_dget, sat_dgetD, sat_dlen, sat_dlist, sat_dput, sat_fld, sat_meth, sat_make, sat_setfld, sat_me, sat_lc, sat_lcIf, sat_lcF, sat_lcFi, sat_lrng, sat_isB, sat_rev1, rv1_l, rv1_t, List.reverse_cons, List.reverse_nil, sat_orv, orvK_int, orvK_non, intO_int, ex_bl, ex_lst, sat_box, sat_unbox, sat_esN, sat_esC, ex_d, ex_int, ex_fl, ex_obj, ex_cell, ex_oi, kept_non, kept_int, kept_tup, kept_lst, kept_str, kept_scr, kept_self, ex_setx, ex_j, shl1, Int.toNat_natCast, Int.natCast_nonneg, start, bin_ii, bin_ll, bin_tt, bin_ss, bin_li, bin_ti, rg_1, rg_2, int_add, int_sub, int_mul, int_fdiv, int_mod, int_pow, int_shl, int_shr, int_band, int_bor, int_bxor, cmp_eq, cmp_ne, cmp_in, cmp_nin, cmp_lt, cmp_le, cmp_gt, cmp_ge, eq_op, in_lst, in_tup, ix_lst, ix_tup, ix_scr, ix_str, sl_lst, sl_tup, sl_str, end_t, end_i, bi_len_l, bi_len_t, bi_len_c, bi_len_s, bi_abs, bi_sum, bi_maxl, bi_minl, bi_max2, bi_min2, bi_any, bi_all, bi_int_i, bi_int_b, bi_list_l, bi_list_t, bi_tuple_l, bi_tuple_t, bi_sorted, bi_sset, ty_non, ty_bl, ty_int, ty_str, ty_lst, ty_tup, ty_scr, toB_bl, set_n, set_t, set_tl, it_seq_l, it_seq_t, it_seq_s, it_rng1, it_rng2, it_enm, it_enmT, it_zp_l, it_zp_t, it_rev_l, it_rev_t, me_append, me_extend, me_pop, me_reverse, me_count, ty_int_int, ty_int_bool, ty_bool_int, ty_bool_bool, ty_list_list, ty_tuple_tuple, ty_list_tuple, ty_tuple_list, ty_tuple_int, ty_tuple_bool, ty_int_tuple, ty_str_str, isNonE, toD_d, toD_fl, clo_d, clo_fl, eqB_nn, eqB_bb, eqB_bi, eqB_ib, eqB_ii, eqB_ss, eqB_ll, eqB_tt, eqB_ni, eqB_in, eqBs_00, eqBs_0c, eqBs_c0, eqBs_cc, okD, okDs, flat, small, powOk, mulOk, most, natAbs_1, natAbs_2, natAbs_10, Int.natAbs_natCast, wipe, intsOf, blsOf, pq_non, pq_bl, pq_int, pq_str, pq_tup, pq_lst, pq_scr, atI_0, atI_1, atI_2, ixN_0, ixN_1, D.closed, D.closeds, sat_ok, sat_bind, sat_guard, sat_err, Res.bind_ok, Res.bind_err, List.map_cons, List.map_nil, List.length_cons, List.length_nil, List.cons_append, List.nil_append, List.getElem?_cons_zero, List.getElem?_cons_succ, List.set_cons_zero, List.set_cons_succ, List.replicate, List.foldl_cons, List.foldl_nil, List.zip_cons_cons, List.zip_nil_left, List.zip_nil_right, Nat.reduceAdd, Nat.reduceSub, Nat.reduceLeDiff, Nat.reduceLT, Int.reduceLT, Int.reduceLE, Int.reduceNeg, Int.reducePow, Int.reduceToNat, Int.reduceAdd, Int.reduceMul, Int.reduceSub, Nat.reducePow, Nat.zero_add, Nat.add_zero, decide_true, decide_false, decide_eq_true_eq, beq_iff_eq, Bool.true_eq_false, reduceCtorEq, if_true, if_false, Bool.false_eq_true, true_and, and_true, Bool.true_and, Bool.and_true, Bool.false_and, Bool.and_false, Bool.not_true, Bool.not_false, Bool.or_true, Bool.true_or, Bool.or_false, Bool.false_or, Bool.and_eq_true, Bool.or_eq_true, Bool.not_eq_true', beq_self_eq_true, Option.map_some, Option.toList, if_true, if_false, f_law_rest_4503]
  refine ⟨by omega, ?_⟩
  refine sat_loopF (fun s env T => T = [] ∧ ∃ (y z : Option D), env = [some (.int n), some (.int c), some (.int (lwN n c s : Nat)), y, z]) _ 0 _ _ ⟨rfl, _, _, rfl⟩ (fun s d env T hd hI => ?_) (fun env T hI => ?_)
  · obtain ⟨rfl, _, _, rfl⟩ := hI
    obtain ⟨hs, rfl⟩ := up0_get hd
    rw [Nat.zero_add]
    have s6 : (s : Int) ≤ 1000000 := by omega
    have hb : c / 2 ^ s % 2 < 2 := Nat.mod_lt _ (by omega)
    generalize hB : c / 2 ^ s % 2 = b at *
    have hb2 : b = 0 ∨ b = 1 := by omega
    have em : ((s : Int) + 1) * (b : Int) = (((s + 1) * b : Nat) : Int) := by
      rw [Int.natCast_mul]
      rfl
    have hsb : (s + 1) * b ≤ 9 := by
      rcases hb2 with rfl | rfl <;> omega
    simp -implicitDefEqProofs only [sat_exs, sat_exs_nil, sat_if, sat_asg, sat_asgT, sat_setix, sat_ex, sat_ret, sat_retN, sat_pass, sat_brk, sat_cnt, sat_raise, sat_evB, sat_ite, sat_for, rest_nx, rest_ret, sat_var, sat_non, sat_bl, sat_int, sat_str, sat_bin, sat_neg, sat_cmp, sat_chain, sat_isN, sat_notN, sat_and, sat_or, sat_not, sat_ifE, sat_tup, sat_lst, sat_ix, sat_slN, sat_slLv, sat_slHv, sat_slLb, sat_slHb, sat_slLi, sat_slHi, sat_slLc, sat_slHc, sat_cal, sat_bi, sat_isi, sat_isis, sat_maxd, sat_shw, sat_trng, sat_lsn, sat_lidx, it_rr1, it_rr2, bi_sortP, bi_repr, sat_dnew, sat_din, sat_dget, sat_dgetD, sat_dlen, sat_dlist, sat_dput, sat_fld, sat_meth, sat_make, sat_setfld, sat_me, sat_lc, sat_lcIf, sat_lcF, sat_lcFi, sat_lrng, sat_isB, sat_rev1, rv1_l, rv1_t, List.reverse_cons, List.reverse_nil, sat_orv, orvK_int, orvK_non, intO_int, ex_bl, ex_lst, sat_box, sat_unbox, sat_esN, sat_esC, ex_d, ex_int, ex_fl, ex_obj, ex_cell, ex_oi, kept_non, kept_int, kept_tup, kept_lst, kept_str, kept_scr, kept_self, ex_setx, ex_j, shl1, Int.toNat_natCast, Int.natCast_nonneg, start, bin_ii, bin_ll, bin_tt, bin_ss, bin_li, bin_ti, rg_1, rg_2, int_add, int_sub, int_mul, int_fdiv, int_mod, int_pow, int_shl, int_shr, int_band, int_bor, int_bxor, cmp_eq, cmp_ne, cmp_in, cmp_nin, cmp_lt, cmp_le, cmp_gt, cmp_ge, eq_op, in_lst, in_tup, ix_lst, ix_tup, ix_scr, ix_str, sl_lst, sl_tup, sl_str, end_t, end_i, bi_len_l, bi_len_t, bi_len_c, bi_len_s, bi_abs, bi_sum, bi_maxl, bi_minl, bi_max2, bi_min2, bi_any, bi_all, bi_int_i, bi_int_b, bi_list_l, bi_list_t, bi_tuple_l, bi_tuple_t, bi_sorted, bi_sset, ty_non, ty_bl, ty_int, ty_str, ty_lst, ty_tup, ty_scr, toB_bl, set_n, set_t, set_tl, it_seq_l, it_seq_t, it_seq_s, it_rng1, it_rng2, it_enm, it_enmT, it_zp_l, it_zp_t, it_rev_l, it_rev_t, me_append, me_extend, me_pop, me_reverse, me_count, ty_int_int, ty_int_bool, ty_bool_int, ty_bool_bool, ty_list_list, ty_tuple_tuple, ty_list_tuple, ty_tuple_list, ty_tuple_int, ty_tuple_bool, ty_int_tuple, ty_str_str, isNonE, toD_d, toD_fl, clo_d, clo_fl, eqB_nn, eqB_bb, eqB_bi, eqB_ib, eqB_ii, eqB_ss, eqB_ll, eqB_tt, eqB_ni, eqB_in, eqBs_00, eqBs_0c, eqBs_c0, eqBs_cc, okD, okDs, flat, small, powOk, mulOk, most, natAbs_1, natAbs_2, natAbs_10, Int.natAbs_natCast, wipe, intsOf, blsOf, pq_non, pq_bl, pq_int, pq_str, pq_tup, pq_lst, pq_scr, atI_0, atI_1, atI_2, ixN_0, ixN_1, D.closed, D.closeds, sat_ok, sat_bind, sat_guard, sat_err, Res.bind_ok, Res.bind_err, List.map_cons, List.map_nil, List.length_cons, List.length_nil, List.cons_append, List.nil_append, List.getElem?_cons_zero, List.getElem?_cons_succ, List.set_cons_zero, List.set_cons_succ, List.replicate, List.foldl_cons, List.foldl_nil, List.zip_cons_cons, List.zip_nil_left, List.zip_nil_right, Nat.reduceAdd, Nat.reduceSub, Nat.reduceLeDiff, Nat.reduceLT, Int.reduceLT, Int.reduceLE, Int.reduceNeg, Int.reducePow, Int.reduceToNat, Int.reduceAdd, Int.reduceMul, Int.reduceSub, Nat.reducePow, Nat.zero_add, Nat.add_zero, decide_true, decide_false, decide_eq_true_eq, beq_iff_eq, Bool.true_eq_false, reduceCtorEq, if_true, if_false, Bool.false_eq_true, true_and, and_true, Bool.true_and, Bool.and_true, Bool.false_and, Bool.and_false, Bool.not_true, Bool.not_false, Bool.or_true, Bool.true_or, Bool.or_false, Bool.false_or, Bool.and_eq_true, Bool.or_eq_true, Bool.not_eq_true', beq_self_eq_true, Option.map_some, Option.toList, if_true, if_false, s6, shr_nat, and_1, hB, em]
    refine ⟨by omega, by omega, ?_⟩
    refine sat_loopF (fun t env T => T = [] ∧ ∃ (z : Option D), env = [some (.int n), some (.int c), some (.int (bumpN n t (lwN n c s) : Nat)), some (.int (s : Nat)), z]) _ 0 _ _ ⟨rfl, _, rfl⟩ (fun t d env T hd hI => ?_) (fun env T hI => ?_)
    · obtain ⟨rfl, _, rfl⟩ := hI
      obtain ⟨ht, rfl⟩ := up0_get hd
      rw [Nat.zero_add]
      generalize hY : bumpN n t (lwN n c s) = y
      have hst : bumpN n (t + 1) (lwN n c s) = stepN n y := by rw [bumpN, hY]
      rw [hst]
      simp -implicitDefEqProofs only [sat_exs, sat_exs_nil, sat_if, sat_asg, sat_asgT, sat_setix, sat_ex, sat_ret, sat_retN, sat_pass, sat_brk, sat_cnt, sat_raise, sat_evB, sat_ite, sat_for, rest_nx, rest_ret, sat_var, sat_non, sat_bl, sat_int, sat_str, sat_bin, sat_neg, sat_cmp, sat_chain, sat_isN, sat_notN, sat_and, sat_or, sat_not, sat_ifE, sat_tup, sat_lst, sat_ix, sat_slN, sat_slLv, sat_slHv, sat_slLb, sat_slHb, sat_slLi, sat_slHi, sat_slLc, sat_slHc, sat_cal, sat_bi, sat_isi, sat_isis, sat_maxd, sat_shw, sat_trng, sat_lsn, sat_lidx, it_rr1, it_rr2, bi_sortP, bi_repr, sat_dnew, sat_din, sat_dget, sat_dgetD, sat_dlen, sat_dlist, sat_dput, sat_fld, sat_meth, sat_make, sat_setfld, sat_me, sat_lc, sat_lcIf, sat_lcF, sat_lcFi, sat_lrng, sat_isB, sat_rev1, rv1_l, rv1_t, List.reverse_cons, List.reverse_nil, sat_orv, orvK_int, orvK_non, intO_int, ex_bl, ex_lst, sat_box, sat_unbox, sat_esN, sat_esC, ex_d, ex_int, ex_fl, ex_obj, ex_cell, ex_oi, kept_non, kept_int, kept_tup, kept_lst, kept_str, kept_scr, kept_self, ex_setx, ex_j, shl1, Int.toNat_natCast, Int.natCast_nonneg, start, bin_ii, bin_ll, bin_tt, bin_ss, bin_li, bin_ti, rg_1, rg_2, int_add, int_sub, int_mul, int_fdiv, int_mod, int_pow, int_shl, int_shr, int_band, int_bor, int_bxor, cmp_eq, cmp_ne, cmp_in, cmp_nin, cmp_lt, cmp_le, cmp_gt, cmp_ge, eq_op, in_lst, in_tup, ix_lst, ix_tup, ix_scr, ix_str, sl_lst, sl_tup, sl_str, end_t, end_i, bi_len_l, bi_len_t, bi_len_c, bi_len_s, bi_abs, bi_sum, bi_maxl, bi_minl, bi_max2, bi_min2, bi_any, bi_all, bi_int_i, bi_int_b, bi_list_l, bi_list_t, bi_tuple_l, bi_tuple_t, bi_sorted, bi_sset, ty_non, ty_bl, ty_int, ty_str, ty_lst, ty_tup, ty_scr, toB_bl, set_n, set_t, set_tl, it_seq_l, it_seq_t, it_seq_s, it_rng1, it_rng2, it_enm, it_enmT, it_zp_l, it_zp_t, it_rev_l, it_rev_t, me_append, me_extend, me_pop, me_reverse, me_count, ty_int_int, ty_int_bool, ty_bool_int, ty_bool_bool, ty_list_list, ty_tuple_tuple, ty_list_tuple, ty_tuple_list, ty_tuple_int, ty_tuple_bool, ty_int_tuple, ty_str_str, isNonE, toD_d, toD_fl, clo_d, clo_fl, eqB_nn, eqB_bb, eqB_bi, eqB_ib, eqB_ii, eqB_ss, eqB_ll, eqB_tt, eqB_ni, eqB_in, eqBs_00, eqBs_0c, eqBs_c0, eqBs_cc, okD, okDs, flat, small, powOk, mulOk, most, natAbs_1, natAbs_2, natAbs_10, Int.natAbs_natCast, wipe, intsOf, blsOf, pq_non, pq_bl, pq_int, pq_str, pq_tup, pq_lst, pq_scr, atI_0, atI_1, atI_2, ixN_0, ixN_1, D.closed, D.closeds, sat_ok, sat_bind, sat_guard, sat_err, Res.bind_ok, Res.bind_err, List.map_cons, List.map_nil, List.length_cons, List.length_nil, List.cons_append, List.nil_append, List.getElem?_cons_zero, List.getElem?_cons_succ, List.set_cons_zero, List.set_cons_succ, List.replicate, List.foldl_cons, List.foldl_nil, List.zip_cons_cons, List.zip_nil_left, List.zip_nil_right, Nat.reduceAdd, Nat.reduceSub, Nat.reduceLeDiff, Nat.reduceLT, Int.reduceLT, Int.reduceLE, Int.reduceNeg, Int.reducePow, Int.reduceToNat, Int.reduceAdd, Int.reduceMul, Int.reduceSub, Nat.reducePow, Nat.zero_add, Nat.add_zero, decide_true, decide_false, decide_eq_true_eq, beq_iff_eq, Bool.true_eq_false, reduceCtorEq, if_true, if_false, Bool.false_eq_true, true_and, and_true, Bool.true_and, Bool.and_true, Bool.false_and, Bool.and_false, Bool.not_true, Bool.not_false, Bool.or_true, Bool.true_or, Bool.or_false, Bool.false_or, Bool.and_eq_true, Bool.or_eq_true, Bool.not_eq_true', beq_self_eq_true, Option.map_some, Option.toList, if_true, if_false]
      by_cases h : y + 1 = n + 1
      · have h' : ((y : Int) + 1) = (n : Int) + 1 := by omega
        have e : stepN n y = 0 := if_pos h
        simp -implicitDefEqProofs only [sat_exs, sat_exs_nil, sat_if, sat_asg, sat_asgT, sat_setix, sat_ex, sat_ret, sat_retN, sat_pass, sat_brk, sat_cnt, sat_raise, sat_evB, sat_ite, sat_for, rest_nx, rest_ret, sat_var, sat_non, sat_bl, sat_int, sat_str, sat_bin, sat_neg, sat_cmp, sat_chain, sat_isN, sat_notN, sat_and, sat_or, sat_not, sat_ifE, sat_tup, sat_lst, sat_ix, sat_slN, sat_slLv, sat_slHv, sat_slLb, sat_slHb, sat_slLi, sat_slHi, sat_slLc, sat_slHc, sat_cal, sat_bi, sat_isi, sat_isis, sat_maxd, sat_shw, sat_trng, sat_lsn, sat_lidx, it_rr1, it_rr2, bi_sortP, bi_repr, sat_dnew, sat_din, sat_dget, sat_dgetD, sat_dlen, sat_dlist, sat_dput, sat_fld, sat_meth, sat_make, sat_setfld, sat_me, sat_lc, sat_lcIf, sat_lcF, sat_lcFi, sat_lrng, sat_isB, sat_rev1, rv1_l, rv1_t, List.reverse_cons, List.reverse_nil, sat_orv, orvK_int, orvK_non, intO_int, ex_bl, ex_lst, sat_box, sat_unbox, sat_esN, sat_esC, ex_d, ex_int, ex_fl, ex_obj, ex_cell, ex_oi, kept_non, kept_int, kept_tup, kept_lst, kept_str, kept_scr, kept_self, ex_setx, ex_j, shl1, Int.toNat_natCast, Int.natCast_nonneg, start, bin_ii, bin_ll, bin_tt, bin_ss, bin_li, bin_ti, rg_1, rg_2, int_add, int_sub, int_mul, int_fdiv, int_mod, int_pow, int_shl, int_shr, int_band, int_bor, int_bxor, cmp_eq, cmp_ne, cmp_in, cmp_nin, cmp_lt, cmp_le, cmp_gt, cmp_ge, eq_op, in_lst, in_tup, ix_lst, ix_tup, ix_scr, ix_str, sl_lst, sl_tup, sl_str, end_t, end_i, bi_len_l, bi_len_t, bi_len_c, bi_len_s, bi_abs, bi_sum, bi_maxl, bi_minl, bi_max2, bi_min2, bi_any, bi_all, bi_int_i, bi_int_b, bi_list_l, bi_list_t, bi_tuple_l, bi_tuple_t, bi_sorted, bi_sset, ty_non, ty_bl, ty_int, ty_str, ty_lst, ty_tup, ty_scr, toB_bl, set_n, set_t, set_tl, it_seq_l, it_seq_t, it_seq_s, it_rng1, it_rng2, it_enm, it_enmT, it_zp_l, it_zp_t, it_rev_l, it_rev_t, me_append, me_extend, me_pop, me_reverse, me_count, ty_int_int, ty_int_bool, ty_bool_int, ty_bool_bool, ty_list_list, ty_tuple_tuple, ty_list_tuple, ty_tuple_list, ty_tuple_int, ty_tuple_bool, ty_int_tuple, ty_str_str, isNonE, toD_d, toD_fl, clo_d, clo_fl, eqB_nn, eqB_bb, eqB_bi, eqB_ib, eqB_ii, eqB_ss, eqB_ll, eqB_tt, eqB_ni, eqB_in, eqBs_00, eqBs_0c, eqBs_c0, eqBs_cc, okD, okDs, flat, small, powOk, mulOk, most, natAbs_1, natAbs_2, natAbs_10, Int.natAbs_natCast, wipe, intsOf, blsOf, pq_non, pq_bl, pq_int, pq_str, pq_tup, pq_lst, pq_scr, atI_0, atI_1, atI_2, ixN_0, ixN_1, D.closed, D.closeds, sat_ok, sat_bind, sat_guard, sat_err, Res.bind_ok, Res.bind_err, List.map_cons, List.map_nil, List.length_cons, List.length_nil, List.cons_append, List.nil_append, List.getElem?_cons_zero, List.getElem?_cons_succ, List.set_cons_zero, List.set_cons_succ, List.replicate, List.foldl_cons, List.foldl_nil, List.zip_cons_cons, List.zip_nil_left, List.zip_nil_right, Nat.reduceAdd, Nat.reduceSub, Nat.reduceLeDiff, Nat.reduceLT, Int.reduceLT, Int.reduceLE, Int.reduceNeg, Int.reducePow, Int.reduceToNat, Int.reduceAdd, Int.reduceMul, Int.reduceSub, Nat.reducePow, Nat.zero_add, Nat.add_zero, decide_true, decide_false, decide_eq_true_eq, beq_iff_eq, Bool.true_eq_false, reduceCtorEq, if_true, if_false, Bool.false_eq_true, true_and, and_true, Bool.true_and, Bool.and_true, Bool.false_and, Bool.and_false, Bool.not_true, Bool.not_false, Bool.or_true, Bool.true_or, Bool.or_false, Bool.false_or, Bool.and_eq_true, Bool.or_eq_true, Bool.not_eq_true', beq_self_eq_true, Option.map_some, Option.toList, if_true, if_false, h', e]
        exact ⟨_, rfl⟩
      · have h' : ¬ ((y : Int) + 1) = (n : Int) + 1 := by omega
        have e : stepN n y = y + 1 := if_neg h
        simp -implicitDefEqProofs only [sat_exs, sat_exs_nil, sat_if, sat_asg, sat_asgT, sat_setix, sat_ex, sat_ret, sat_retN, sat_pass, sat_brk, sat_cnt, sat_raise, sat_evB, sat_ite, sat_for, rest_nx, rest_ret, sat_var, sat_non, sat_bl, sat_int, sat_str, sat_bin, sat_neg, sat_cmp, sat_chain, sat_isN, sat_notN, sat_and, sat_or, sat_not, sat_ifE, sat_tup, sat_lst, sat_ix, sat_slN, sat_slLv, sat_slHv, sat_slLb, sat_slHb, sat_slLi, sat_slHi, sat_slLc, sat_slHc, sat_cal, sat_bi, sat_isi, sat_isis, sat_maxd, sat_shw, sat_trng, sat_lsn, sat_lidx, it_rr1, it_rr2, bi_sortP, bi_repr, sat_dnew, sat_din, sat_dget, sat_dgetD, sat_dlen, sat_dlist, sat_dput, sat_fld, sat_meth, sat_make, sat_setfld, sat_me, sat_lc, sat_lcIf, sat_lcF, sat_lcFi, sat_lrng, sat_isB, sat_rev1, rv1_l, rv1_t, List.reverse_cons, List.reverse_nil, sat_orv, orvK_int, orvK_non, intO_int, ex_bl, ex_lst, sat_box, sat_unbox, sat_esN, sat_esC, ex_d, ex_int, ex_fl, ex_obj, ex_cell, ex_oi, kept_non, kept_int, kept_tup, kept_lst, kept_str, kept_scr, kept_self, ex_setx, ex_j, shl1, Int.toNat_natCast, Int.natCast_nonneg, start, bin_ii, bin_ll, bin_tt, bin_ss, bin_li, bin_ti, rg_1, rg_2, int_add, int_sub, int_mul, int_fdiv, int_mod, int_pow, int_shl, int_shr, int_band, int_bor, int_bxor, cmp_eq, cmp_ne, cmp_in, cmp_nin, cmp_lt, cmp_le, cmp_gt, cmp_ge, eq_op, in_lst, in_tup, ix_lst, ix_tup, ix_scr, ix_str, sl_lst, sl_tup, sl_str, end_t, end_i, bi_len_l, bi_len_t, bi_len_c, bi_len_s, bi_abs, bi_sum, bi_maxl, bi_minl, bi_max2, bi_min2, bi_any, bi_all, bi_int_i, bi_int_b, bi_list_l, bi_list_t, bi_tuple_l, bi_tuple_t, bi_sorted, bi_sset, ty_non, ty_bl, ty_int, ty_str, ty_lst, ty_tup, ty_scr, toB_bl, set_n, set_t, set_tl, it_seq_l, it_seq_t, it_seq_s, it_rng1, it_rng2, it_enm, it_enmT, it_zp_l, it_zp_t, it_rev_l, it_rev_t, me_append, me_extend, me_pop, me_reverse, me_count, ty_int_int, ty_int_bool, ty_bool_int, ty_bool_bool, ty_list_list, ty_tuple_tuple, ty_list_tuple, ty_tuple_list, ty_tuple_int, ty_tuple_bool, ty_int_tuple, ty_str_str, isNonE, toD_d, toD_fl, clo_d, clo_fl, eqB_nn, eqB_bb, eqB_bi, eqB_ib, eqB_ii, eqB_ss, eqB_ll, eqB_tt, eqB_ni, eqB_in, eqBs_00, eqBs_0c, eqBs_c0, eqBs_cc, okD, okDs, flat, small, powOk, mulOk, most, natAbs_1, natAbs_2, natAbs_10, Int.natAbs_natCast, wipe, intsOf, blsOf, pq_non, pq_bl, pq_int, pq_str, pq_tup, pq_lst, pq_scr, atI_0, atI_1, atI_2, ixN_0, ixN_1, D.closed, D.closeds, sat_ok, sat_bind, sat_guard, sat_err, Res.bind_ok, Res.bind_err, List.map_cons, List.map_nil, List.length_cons, List.length_nil, List.cons_append, List.nil_append, List.getElem?_cons_zero, List.getElem?_cons_succ, List.set_cons_zero, List.set_cons_succ, List.replicate, List.foldl_cons, List.foldl_nil, List.zip_cons_cons, List.zip_nil_left, List.zip_nil_right, Nat.reduceAdd, Nat.reduceSub, Nat.reduceLeDiff, Nat.reduceLT, Int.reduceLT, Int.reduceLE, Int.reduceNeg, Int.reducePow, Int.reduceToNat, Int.reduceAdd, Int.reduceMul, Int.reduceSub, Nat.reducePow, Nat.zero_add, Nat.add_zero, decide_true, decide_false, decide_eq_true_eq, beq_iff_eq, Bool.true_eq_false, reduceCtorEq, if_true, if_false, Bool.false_eq_true, true_and, and_true, Bool.true_and, Bool.and_true, Bool.false_and, Bool.and_false, Bool.not_true, Bool.not_false, Bool.or_true, Bool.true_or, Bool.or_false, Bool.false_or, Bool.and_eq_true, Bool.or_eq_true, Bool.not_eq_true', beq_self_eq_true, Option.map_some, Option.toList, if_true, if_false, h', e]
        exact ⟨_, rfl⟩
    · obtain ⟨rfl, _, rfl⟩ := hI
      rw [upFrom_len, Nat.zero_add]
      have e : lwN n c (s + 1) = bumpN n ((s + 1) * b) (lwN n c s) := by rw [lwN, hB]
      rw [e]
      simp -implicitDefEqProofs only [sat_exs, sat_exs_nil, sat_if, sat_asg, sat_asgT, sat_setix, sat_ex, sat_ret, sat_retN, sat_pass, sat_brk, sat_cnt, sat_raise, sat_evB, sat_ite, sat_for, rest_nx, rest_ret, sat_var, sat_non, sat_bl, sat_int, sat_str, sat_bin, sat_neg, sat_cmp, sat_chain, sat_isN, sat_notN, sat_and, sat_or, sat_not, sat_ifE, sat_tup, sat_lst, sat_ix, sat_slN, sat_slLv, sat_slHv, sat_slLb, sat_slHb, sat_slLi, sat_slHi, sat_slLc, sat_slHc, sat_cal, sat_bi, sat_isi, sat_isis, sat_maxd, sat_shw, sat_trng, sat_lsn, sat_lidx, it_rr1, it_rr2, bi_sortP, bi_repr, sat_dnew, sat_din, sat_dget, sat_dgetD, sat_dlen, sat_dlist, sat_dput, sat_fld, sat_meth, sat_make, sat_setfld, sat_me, sat_lc, sat_lcIf, sat_lcF, sat_lcFi, sat_lrng, sat_isB, sat_rev1, rv1_l, rv1_t, List.reverse_cons, List.reverse_nil, sat_orv, orvK_int, orvK_non, intO_int, ex_bl, ex_lst, sat_box, sat_unbox, sat_esN, sat_esC, ex_d, ex_int, ex_fl, ex_obj, ex_cell, ex_oi, kept_non, kept_int, kept_tup, kept_lst, kept_str, kept_scr, kept_self, ex_setx, ex_j, shl1, Int.toNat_natCast, Int.natCast_nonneg, start, bin_ii, bin_ll, bin_tt, bin_ss, bin_li, bin_ti, rg_1, rg_2, int_add, int_sub, int_mul, int_fdiv, int_mod, int_pow, int_shl, int_shr, int_band, int_bor, int_bxor, cmp_eq, cmp_ne, cmp_in, cmp_nin, cmp_lt, cmp_le, cmp_gt, cmp_ge, eq_op, in_lst, in_tup, ix_lst, ix_tup, ix_scr, ix_str, sl_lst, sl_tup, sl_str, end_t, end_i, bi_len_l, bi_len_t, bi_len_c, bi_len_s, bi_abs, bi_sum, bi_maxl, bi_minl, bi_max2, bi_min2, bi_any, bi_all, bi_int_i, bi_int_b, bi_list_l, bi_list_t, bi_tuple_l, bi_tuple_t, bi_sorted, bi_sset, ty_non, ty_bl, ty_int, ty_str, ty_lst, ty_tup, ty_scr, toB_bl, set_n, set_t, set_tl, it_seq_l, it_seq_t, it_seq_s, it_rng1, it_rng2, it_enm, it_enmT, it_zp_l, it_zp_t, it_rev_l, it_rev_t, me_append, me_extend, me_pop, me_reverse, me_count, ty_int_int, ty_int_bool, ty_bool_int, ty_bool_bool, ty_list_list, ty_tuple_tuple, ty_list_tuple, ty_tuple_list, ty_tuple_int, ty_tuple_bool, ty_int_tuple, ty_str_str, isNonE, toD_d, toD_fl, clo_d, clo_fl, eqB_nn, eqB_bb, eqB_bi, eqB_ib, eqB_ii, eqB_ss, eqB_ll, eqB_tt, eqB_ni, eqB_in, eqBs_00, eqBs_0c, eqBs_c0, eqBs_cc, okD, okDs, flat, small, powOk, mulOk, most, natAbs_1, natAbs_2, natAbs_10, Int.natAbs_natCast, wipe, intsOf, blsOf, pq_non, pq_bl, pq_int, pq_str, pq_tup, pq_lst, pq_scr, atI_0, atI_1, atI_2, ixN_0, ixN_1, D.closed, D.closeds, sat_ok, sat_bind, sat_guard, sat_err, Res.bind_ok, Res.bind_err, List.map_cons, List.map_nil, List.length_cons, List.length_nil, List.cons_append, List.nil_append, List.getElem?_cons_zero, List.getElem?_cons_succ, List.set_cons_zero, List.set_cons_succ, List.replicate, List.foldl_cons, List.foldl_nil, List.zip_cons_cons, List.zip_nil_left, List.zip_nil_right, Nat.reduceAdd, Nat.reduceSub, Nat.reduceLeDiff, Nat.reduceLT, Int.reduceLT, Int.reduceLE, Int.reduceNeg, Int.reducePow, Int.reduceToNat, Int.reduceAdd, Int.reduceMul, Int.reduceSub, Nat.reducePow, Nat.zero_add, Nat.add_zero, decide_true, decide_false, decide_eq_true_eq, beq_iff_eq, Bool.true_eq_false, reduceCtorEq, if_true, if_false, Bool.false_eq_true, true_and, and_true, Bool.true_and, Bool.and_true, Bool.false_and, Bool.and_false, Bool.not_true, Bool.not_false, Bool.or_true, Bool.true_or, Bool.or_false, Bool.false_or, Bool.and_eq_true, Bool.or_eq_true, Bool.not_eq_true', beq_self_eq_true, Option.map_some, Option.toList, if_true, if_false]
      exact ⟨_, _, rfl⟩
  · obtain ⟨rfl, _, _, rfl⟩ := hI
    rw [upFrom_len, Nat.zero_add]
    simp -implicitDefEqProofs only [sat_exs, sat_exs_nil, sat_if, sat_asg, sat_asgT, sat_setix, sat_ex, sat_ret, sat_retN, sat_pass, sat_brk, sat_cnt, sat_raise, sat_evB, sat_ite, sat_for, rest_nx, rest_ret, sat_var, sat_non, sat_bl, sat_int, sat_str, sat_bin, sat_neg, sat_cmp, sat_chain, sat_isN, sat_notN, sat_and, sat_or, sat_not, sat_ifE, sat_tup, sat_lst, sat_ix, sat_slN, sat_slLv, sat_slHv, sat_slLb, sat_slHb, sat_slLi, sat_slHi, sat_slLc, sat_slHc, sat_cal, sat_bi, sat_isi, sat_isis, sat_maxd, sat_shw, sat_trng, sat_lsn, sat_lidx, it_rr1, it_rr2, bi_sortP, bi_repr, sat_dnew, sat_din, sat_dget, sat_dgetD, sat_dlen, sat_dlist, sat_dput, sat_fld, sat_meth, sat_make, sat_setfld, sat_me, sat_lc, sat_lcIf, sat_lcF, sat_lcFi, sat_lrng, sat_isB, sat_rev1, rv1_l, rv1_t, List.reverse_cons, List.reverse_nil, sat_orv, orvK_int, orvK_non, intO_int, ex_bl, ex_lst, sat_box, sat_unbox, sat_esN, sat_esC, ex_d, ex_int, ex_fl, ex_obj, ex_cell, ex_oi, kept_non, kept_int, kept_tup, kept_lst, kept_str, kept_scr, kept_self, ex_setx, ex_j, shl1, Int.toNat_natCast, Int.natCast_nonneg, start, bin_ii, bin_ll, bin_tt, bin_ss, bin_li, bin_ti, rg_1, rg_2, int_add, int_sub, int_mul, int_fdiv, int_mod, int_pow, int_shl, int_shr, int_band, int_bor, int_bxor, cmp_eq, cmp_ne, cmp_in, cmp_nin, cmp_lt, cmp_le, cmp_gt, cmp_ge, eq_op, in_lst, in_tup, ix_lst, ix_tup, ix_scr, ix_str, sl_lst, sl_tup, sl_str, end_t, end_i, bi_len_l, bi_len_t, bi_len_c, bi_len_s, bi_abs, bi_sum, bi_maxl, bi_minl, bi_max2, bi_min2, bi_any, bi_all, bi_int_i, bi_int_b, bi_list_l, bi_list_t, bi_tuple_l, bi_tuple_t, bi_sorted, bi_sset, ty_non, ty_bl, ty_int, ty_str, ty_lst, ty_tup, ty_scr, toB_bl, set_n, set_t, set_tl, it_seq_l, it_seq_t, it_seq_s, it_rng1, it_rng2, it_enm, it_enmT, it_zp_l, it_zp_t, it_rev_l, it_rev_t, me_append, me_extend, me_pop, me_reverse, me_count, ty_int_int, ty_int_bool, ty_bool_int, ty_bool_bool, ty_list_list, ty_tuple_tuple, ty_list_tuple, ty_tuple_list, ty_tuple_int, ty_tuple_bool, ty_int_tuple, ty_str_str, isNonE, toD_d, toD_fl, clo_d, clo_fl, eqB_nn, eqB_bb, eqB_bi, eqB_ib, eqB_ii, eqB_ss, eqB_ll, eqB_tt, eqB_ni, eqB_in, eqBs_00, eqBs_0c, eqBs_c0, eqBs_cc, okD, okDs, flat, small, powOk, mulOk, most, natAbs_1, natAbs_2, natAbs_10, Int.natAbs_natCast, wipe, intsOf, blsOf, pq_non, pq_bl, pq_int, pq_str, pq_tup, pq_lst, pq_scr, atI_0, atI_1, atI_2, ixN_0, ixN_1, D.closed, D.closeds, sat_ok, sat_bind, sat_guard, sat_err, Res.bind_ok, Res.bind_err, List.map_cons, List.map_nil, List.length_cons, List.length_nil, List.cons_append, List.nil_append, List.getElem?_cons_zero, List.getElem?_cons_succ, List.set_cons_zero, List.set_cons_succ, List.replicate, List.foldl_cons, List.foldl_nil, List.zip_cons_cons, List.zip_nil_left, List.zip_nil_right, Nat.reduceAdd, Nat.reduceSub, Nat.reduceLeDiff, Nat.reduceLT, Int.reduceLT, Int.reduceLE, Int.reduceNeg, Int.reducePow, Int.reduceToNat, Int.reduceAdd, Int.reduceMul, Int.reduceSub, Nat.reducePow, Nat.zero_add, Nat.add_zero, decide_true, decide_false, decide_eq_true_eq, beq_iff_eq, Bool.true_eq_false, reduceCtorEq, if_true, if_false, Bool.false_eq_true, true_and, and_true, Bool.true_and, Bool.and_true, Bool.false_and, Bool.and_false, Bool.not_true, Bool.not_false, Bool.or_true, Bool.true_or, Bool.or_false, Bool.false_or, Bool.and_eq_true, Bool.or_eq_true, Bool.not_eq_true', beq_self_eq_true, Option.map_some, Option.toList, if_true, if_false, lw_ok hn hc]
theorem due55_ok {m i j n r : Nat} {S : Store} (hf : fs[i]? = some (f_law_due_8a70 j)) (hj : fs[j]? = some f_law_rest_4503) (hn : n ≤ 8) : call gl fs (m + 2) i [.int n, .int r] S = .ok (.d (wrD n (cntL n r (2 ^ n)) (sumT n r)), S) := by
  rw [← sat_def]
  have p8 := pow_le_256 hn
  have n6 : (n : Int) ≤ 1000000 := by omega
  refine sat_call hf rfl rfl rfl ?_
  have p9 : ((2 ^ n : Nat) : Int) ≤ 256 := by omega
  have p0 : (0 : Int) ≤ ((2 ^ n : Nat) : Int) := Int.natCast_nonneg _
  simp -implicitDefEqProofs only [sat_exs, sat_exs_nil, sat_if, sat_asg, sat_asgT, sat_setix, sat_ex, sat_ret, sat_retN, sat_pass, sat_brk, sat_cnt, sat_raise, sat_evB, sat_ite, sat_for, rest_nx, rest_ret, sat_var, sat_non, sat_bl, sat_int, sat_str, sat_bin, sat_neg, sat_cmp, sat_chain, sat_isN, sat_notN, sat_and, sat_or, sat_not, sat_ifE, sat_tup, sat_lst, sat_ix, sat_slN, sat_slLv, sat_slHv, sat_slLb, sat_slHb, sat_slLi, sat_slHi, sat_slLc, sat_slHc, sat_cal, sat_bi, sat_isi, sat_isis, sat_maxd, sat_shw, sat_trng, sat_lsn, sat_lidx, it_rr1, it_rr2, bi_sortP, bi_repr, sat_dnew, sat_din, sat_dget, sat_dgetD, sat_dlen, sat_dlist, sat_dput, sat_fld, sat_meth, sat_make, sat_setfld, sat_me, sat_lc, sat_lcIf, sat_lcF, sat_lcFi, sat_lrng, sat_isB, sat_rev1, rv1_l, rv1_t, List.reverse_cons, List.reverse_nil, sat_orv, orvK_int, orvK_non, intO_int, ex_bl, ex_lst, sat_box, sat_unbox, sat_esN, sat_esC, ex_d, ex_int, ex_fl, ex_obj, ex_cell, ex_oi, kept_non, kept_int, kept_tup, kept_lst, kept_str, kept_scr, kept_self, ex_setx, ex_j, shl1, Int.toNat_natCast, Int.natCast_nonneg, start, bin_ii, bin_ll, bin_tt, bin_ss, bin_li, bin_ti, rg_1, rg_2, int_add, int_sub, int_mul, int_fdiv, int_mod, int_pow, int_shl, int_shr, int_band, int_bor, int_bxor, cmp_eq, cmp_ne, cmp_in, cmp_nin, cmp_lt, cmp_le, cmp_gt, cmp_ge, eq_op, in_lst, in_tup, ix_lst, ix_tup, ix_scr, ix_str, sl_lst, sl_tup, sl_str, end_t, end_i, bi_len_l, bi_len_t, bi_len_c, bi_len_s, bi_abs, bi_sum, bi_maxl, bi_minl, bi_max2, bi_min2, bi_any, bi_all, bi_int_i, bi_int_b, bi_list_l, bi_list_t, bi_tuple_l, bi_tuple_t, bi_sorted, bi_sset, ty_non, ty_bl, ty_int, ty_str, ty_lst, ty_tup, ty_scr, toB_bl, set_n, set_t, set_tl, it_seq_l, it_seq_t, it_seq_s, it_rng1, it_rng2, it_enm, it_enmT, it_zp_l, it_zp_t, it_rev_l, it_rev_t, me_append, me_extend, me_pop, me_reverse, me_count, ty_int_int, ty_int_bool, ty_bool_int, ty_bool_bool, ty_list_list, ty_tuple_tuple, ty_list_tuple, ty_tuple_list, ty_tuple_int, ty_tuple_bool, ty_int_tuple, ty_str_str, isNonE, toD_d, toD_fl, clo_d, clo_fl, eqB_nn, eqB_bb, eqB_bi, eqB_ib, eqB_ii, eqB_ss, eqB_ll, eqB_tt, eqB_ni, eqB_in, eqBs_00, eqBs_0c, eqBs_c0, eqBs_cc, okD, okDs, flat, small, powOk, mulOk, most, natAbs_1, natAbs_2, natAbs_10, Int.natAbs_natCast, wipe, intsOf, blsOf, pq_non, pq_bl, pq_int, pq_str, pq_tup, pq_lst, pq_scr, atI_0, atI_1, atI_2, ixN_0, ixN_1, D.closed, D.closeds, sat_ok, sat_bind, sat_guard, sat_err, Res.bind_ok, Res.bind_err, List.map_cons, List.map_nil, List.length_cons, List.length_nil, List.cons_append, List.nil_append, List.getElem?_cons_zero, List.getElem?_cons_succ, List.set_cons_zero, List.set_cons_succ, List.replicate, List.foldl_cons, List.foldl_nil, List.zip_cons_cons, List.zip_nil_left, List.zip_nil_right, Nat.reduceAdd, Nat.reduceSub, Nat.reduceLeDiff, Nat.reduceLT, Int.reduceLT, Int.reduceLE, Int.reduceNeg, Int.reducePow, Int.reduceToNat, Int.reduceAdd, Int.reduceMul, Int.reduceSub, Nat.reducePow, Nat.zero_add, Nat.add_zero, decide_true, decide_false, decide_eq_true_eq, beq_iff_eq, Bool.true_eq_false, reduceCtorEq, if_true, if_false, Bool.false_eq_true, true_and, and_true, Bool.true_and, Bool.and_true, Bool.false_and, Bool.and_false, Bool.not_true, Bool.not_false, Bool.or_true, Bool.true_or, Bool.or_false, Bool.false_or, Bool.and_eq_true, Bool.or_eq_true, Bool.not_eq_true', beq_self_eq_true, Option.map_some, Option.toList, if_true, if_false, f_law_due_8a70, n6]
  generalize hP : ((2 ^ n : Nat) : Int) = P at p9 p0 ⊢
  refine ⟨by omega, ?_⟩
  refine sat_loopF (fun q env T => ∃ (x : Option D), env = [some (.int n), some (.int r), some (.obj 0), some (.int (cntL n r q : Nat)), x] ∧ T = [.lst (((List.range q).map (sumF n r)).map oD)]) _ 0 _ _ ⟨_, rfl, rfl⟩ (fun q d env T hd hI => ?_) (fun env T hI => ?_)
  · obtain ⟨_, rfl, rfl⟩ := hI
    obtain ⟨hq, rfl⟩ := up0_get hd
    rw [Nat.zero_add]
    have hs := cntL_succ n r q
    have fin : ∀ (o : Option Nat), o = sumF n r q → (meOp .append 0 [oD o] [Cell.lst (((List.range q).map (sumF n r)).map oD)]).sat fun x => x.2 = [Cell.lst (((List.range (q + 1)).map (sumF n r)).map oD)] := fun o ho => by
      rw [me_append rfl, sat_guard, sat_ok]
      refine ⟨decide_eq_true (show _ < 16777216 by rw [List.length_map, List.length_map, List.length_range]; omega), ?_⟩
      rw [List.range_succ, List.map_append, List.map_append, ho]
      rfl
    by_cases hr : restN n q = r
    · rw [if_pos hr] at hs
      have hri : ((restN n q : Nat) : Int) = (r : Int) := by rw [hr]
      simp -implicitDefEqProofs only [sat_exs, sat_exs_nil, sat_if, sat_asg, sat_asgT, sat_setix, sat_ex, sat_ret, sat_retN, sat_pass, sat_brk, sat_cnt, sat_raise, sat_evB, sat_ite, sat_for, rest_nx, rest_ret, sat_var, sat_non, sat_bl, sat_int, sat_str, sat_bin, sat_neg, sat_cmp, sat_chain, sat_isN, sat_notN, sat_and, sat_or, sat_not, sat_ifE, sat_tup, sat_lst, sat_ix, sat_slN, sat_slLv, sat_slHv, sat_slLb, sat_slHb, sat_slLi, sat_slHi, sat_slLc, sat_slHc, sat_cal, sat_bi, sat_isi, sat_isis, sat_maxd, sat_shw, sat_trng, sat_lsn, sat_lidx, it_rr1, it_rr2, bi_sortP, bi_repr, sat_dnew, sat_din, sat_dget, sat_dgetD, sat_dlen, sat_dlist, sat_dput, sat_fld, sat_meth, sat_make, sat_setfld, sat_me, sat_lc, sat_lcIf, sat_lcF, sat_lcFi, sat_lrng, sat_isB, sat_rev1, rv1_l, rv1_t, List.reverse_cons, List.reverse_nil, sat_orv, orvK_int, orvK_non, intO_int, ex_bl, ex_lst, sat_box, sat_unbox, sat_esN, sat_esC, ex_d, ex_int, ex_fl, ex_obj, ex_cell, ex_oi, kept_non, kept_int, kept_tup, kept_lst, kept_str, kept_scr, kept_self, ex_setx, ex_j, shl1, Int.toNat_natCast, Int.natCast_nonneg, start, bin_ii, bin_ll, bin_tt, bin_ss, bin_li, bin_ti, rg_1, rg_2, int_add, int_sub, int_mul, int_fdiv, int_mod, int_pow, int_shl, int_shr, int_band, int_bor, int_bxor, cmp_eq, cmp_ne, cmp_in, cmp_nin, cmp_lt, cmp_le, cmp_gt, cmp_ge, eq_op, in_lst, in_tup, ix_lst, ix_tup, ix_scr, ix_str, sl_lst, sl_tup, sl_str, end_t, end_i, bi_len_l, bi_len_t, bi_len_c, bi_len_s, bi_abs, bi_sum, bi_maxl, bi_minl, bi_max2, bi_min2, bi_any, bi_all, bi_int_i, bi_int_b, bi_list_l, bi_list_t, bi_tuple_l, bi_tuple_t, bi_sorted, bi_sset, ty_non, ty_bl, ty_int, ty_str, ty_lst, ty_tup, ty_scr, toB_bl, set_n, set_t, set_tl, it_seq_l, it_seq_t, it_seq_s, it_rng1, it_rng2, it_enm, it_enmT, it_zp_l, it_zp_t, it_rev_l, it_rev_t, me_append, me_extend, me_pop, me_reverse, me_count, ty_int_int, ty_int_bool, ty_bool_int, ty_bool_bool, ty_list_list, ty_tuple_tuple, ty_list_tuple, ty_tuple_list, ty_tuple_int, ty_tuple_bool, ty_int_tuple, ty_str_str, isNonE, toD_d, toD_fl, clo_d, clo_fl, eqB_nn, eqB_bb, eqB_bi, eqB_ib, eqB_ii, eqB_ss, eqB_ll, eqB_tt, eqB_ni, eqB_in, eqBs_00, eqBs_0c, eqBs_c0, eqBs_cc, okD, okDs, flat, small, powOk, mulOk, most, natAbs_1, natAbs_2, natAbs_10, Int.natAbs_natCast, wipe, intsOf, blsOf, pq_non, pq_bl, pq_int, pq_str, pq_tup, pq_lst, pq_scr, atI_0, atI_1, atI_2, ixN_0, ixN_1, D.closed, D.closeds, sat_ok, sat_bind, sat_guard, sat_err, Res.bind_ok, Res.bind_err, List.map_cons, List.map_nil, List.length_cons, List.length_nil, List.cons_append, List.nil_append, List.getElem?_cons_zero, List.getElem?_cons_succ, List.set_cons_zero, List.set_cons_succ, List.replicate, List.foldl_cons, List.foldl_nil, List.zip_cons_cons, List.zip_nil_left, List.zip_nil_right, Nat.reduceAdd, Nat.reduceSub, Nat.reduceLeDiff, Nat.reduceLT, Int.reduceLT, Int.reduceLE, Int.reduceNeg, Int.reducePow, Int.reduceToNat, Int.reduceAdd, Int.reduceMul, Int.reduceSub, Nat.reducePow, Nat.zero_add, Nat.add_zero, decide_true, decide_false, decide_eq_true_eq, beq_iff_eq, Bool.true_eq_false, reduceCtorEq, if_true, if_false, Bool.false_eq_true, true_and, and_true, Bool.true_and, Bool.and_true, Bool.false_and, Bool.and_false, Bool.not_true, Bool.not_false, Bool.or_true, Bool.true_or, Bool.or_false, Bool.false_or, Bool.and_eq_true, Bool.or_eq_true, Bool.not_eq_true', beq_self_eq_true, Option.map_some, Option.toList, if_true, if_false, lrest_ok hj hn (show q < 2 ^ n by omega), hri]
      refine (fin (some (cntL n r q)) (by rw [sumF, if_pos hr])).imp fun x hx => ?_
      rw [hs]
      exact ⟨_, rfl, hx⟩
    · rw [if_neg hr] at hs
      have hri : ((restN n q : Nat) : Int) ≠ (r : Int) := by omega
      simp -implicitDefEqProofs only [sat_exs, sat_exs_nil, sat_if, sat_asg, sat_asgT, sat_setix, sat_ex, sat_ret, sat_retN, sat_pass, sat_brk, sat_cnt, sat_raise, sat_evB, sat_ite, sat_for, rest_nx, rest_ret, sat_var, sat_non, sat_bl, sat_int, sat_str, sat_bin, sat_neg, sat_cmp, sat_chain, sat_isN, sat_notN, sat_and, sat_or, sat_not, sat_ifE, sat_tup, sat_lst, sat_ix, sat_slN, sat_slLv, sat_slHv, sat_slLb, sat_slHb, sat_slLi, sat_slHi, sat_slLc, sat_slHc, sat_cal, sat_bi, sat_isi, sat_isis, sat_maxd, sat_shw, sat_trng, sat_lsn, sat_lidx, it_rr1, it_rr2, bi_sortP, bi_repr, sat_dnew, sat_din, sat_dget, sat_dgetD, sat_dlen, sat_dlist, sat_dput, sat_fld, sat_meth, sat_make, sat_setfld, sat_me, sat_lc, sat_lcIf, sat_lcF, sat_lcFi, sat_lrng, sat_isB, sat_rev1, rv1_l, rv1_t, List.reverse_cons, List.reverse_nil, sat_orv, orvK_int, orvK_non, intO_int, ex_bl, ex_lst, sat_box, sat_unbox, sat_esN, sat_esC, ex_d, ex_int, ex_fl, ex_obj, ex_cell, ex_oi, kept_non, kept_int, kept_tup, kept_lst, kept_str, kept_scr, kept_self, ex_setx, ex_j, shl1, Int.toNat_natCast, Int.natCast_nonneg, start, bin_ii, bin_ll, bin_tt, bin_ss, bin_li, bin_ti, rg_1, rg_2, int_add, int_sub, int_mul, int_fdiv, int_mod, int_pow, int_shl, int_shr, int_band, int_bor, int_bxor, cmp_eq, cmp_ne, cmp_in, cmp_nin, cmp_lt, cmp_le, cmp_gt, cmp_ge, eq_op, in_lst, in_tup, ix_lst, ix_tup, ix_scr, ix_str, sl_lst, sl_tup, sl_str, end_t, end_i, bi_len_l, bi_len_t, bi_len_c, bi_len_s, bi_abs, bi_sum, bi_maxl, bi_minl, bi_max2, bi_min2, bi_any, bi_all, bi_int_i, bi_int_b, bi_list_l, bi_list_t, bi_tuple_l, bi_tuple_t, bi_sorted, bi_sset, ty_non, ty_bl, ty_int, ty_str, ty_lst, ty_tup, ty_scr, toB_bl, set_n, set_t, set_tl, it_seq_l, it_seq_t, it_seq_s, it_rng1, it_rng2, it_enm, it_enmT, it_zp_l, it_zp_t, it_rev_l, it_rev_t, me_append, me_extend, me_pop, me_reverse, me_count, ty_int_int, ty_int_bool, ty_bool_int, ty_bool_bool, ty_list_list, ty_tuple_tuple, ty_list_tuple, ty_tuple_list, ty_tuple_int, ty_tuple_bool, ty_int_tuple, ty_str_str, isNonE, toD_d, toD_fl, clo_d, clo_fl, eqB_nn, eqB_bb, eqB_bi, eqB_ib, eqB_ii, eqB_ss, eqB_ll, eqB_tt, eqB_ni, eqB_in, eqBs_00, eqBs_0c, eqBs_c0, eqBs_cc, okD, okDs, flat, small, powOk, mulOk, most, natAbs_1, natAbs_2, natAbs_10, Int.natAbs_natCast, wipe, intsOf, blsOf, pq_non, pq_bl, pq_int, pq_str, pq_tup, pq_lst, pq_scr, atI_0, atI_1, atI_2, ixN_0, ixN_1, D.closed, D.closeds, sat_ok, sat_bind, sat_guard, sat_err, Res.bind_ok, Res.bind_err, List.map_cons, List.map_nil, List.length_cons, List.length_nil, List.cons_append, List.nil_append, List.getElem?_cons_zero, List.getElem?_cons_succ, List.set_cons_zero, List.set_cons_succ, List.replicate, List.foldl_cons, List.foldl_nil, List.zip_cons_cons, List.zip_nil_left, List.zip_nil_right, Nat.reduceAdd, Nat.reduceSub, Nat.reduceLeDiff, Nat.reduceLT, Int.reduceLT, Int.reduceLE, Int.reduceNeg, Int.reducePow, Int.reduceToNat, Int.reduceAdd, Int.reduceMul, Int.reduceSub, Nat.reducePow, Nat.zero_add, Nat.add_zero, decide_true, decide_false, decide_eq_true_eq, beq_iff_eq, Bool.true_eq_false, reduceCtorEq, if_true, if_false, Bool.false_eq_true, true_and, and_true, Bool.true_and, Bool.and_true, Bool.false_and, Bool.and_false, Bool.not_true, Bool.not_false, Bool.or_true, Bool.true_or, Bool.or_false, Bool.false_or, Bool.and_eq_true, Bool.or_eq_true, Bool.not_eq_true', beq_self_eq_true, Option.map_some, Option.toList, if_true, if_false, lrest_ok hj hn (show q < 2 ^ n by omega), hri]
      refine (fin none (by rw [sumF, if_neg hr])).imp fun x hx => ?_
      rw [hs]
      exact ⟨_, rfl, hx⟩
  · obtain ⟨_, rfl, rfl⟩ := hI
    rw [upFrom_len, Nat.zero_add]
    rw [show (List.range (2 ^ n)).map (sumF n r) = sumT n r from rfl]
    simp -implicitDefEqProofs only [sat_exs, sat_exs_nil, sat_if, sat_asg, sat_asgT, sat_setix, sat_ex, sat_ret, sat_retN, sat_pass, sat_brk, sat_cnt, sat_raise, sat_evB, sat_ite, sat_for, rest_nx, rest_ret, sat_var, sat_non, sat_bl, sat_int, sat_str, sat_bin, sat_neg, sat_cmp, sat_chain, sat_isN, sat_notN, sat_and, sat_or, sat_not, sat_ifE, sat_tup, sat_lst, sat_ix, sat_slN, sat_slLv, sat_slHv, sat_slLb, sat_slHb, sat_slLi, sat_slHi, sat_slLc, sat_slHc, sat_cal, sat_bi, sat_isi, sat_isis, sat_maxd, sat_shw, sat_trng, sat_lsn, sat_lidx, it_rr1, it_rr2, bi_sortP, bi_repr, sat_dnew, sat_din, sat_dget, sat_dgetD, sat_dlen, sat_dlist, sat_dput, sat_fld, sat_meth, sat_make, sat_setfld, sat_me, sat_lc, sat_lcIf, sat_lcF, sat_lcFi, sat_lrng, sat_isB, sat_rev1, rv1_l, rv1_t, List.reverse_cons, List.reverse_nil, sat_orv, orvK_int, orvK_non, intO_int, ex_bl, ex_lst, sat_box, sat_unbox, sat_esN, sat_esC, ex_d, ex_int, ex_fl, ex_obj, ex_cell, ex_oi, kept_non, kept_int, kept_tup, kept_lst, kept_str, kept_scr, kept_self, ex_setx, ex_j, shl1, Int.toNat_natCast, Int.natCast_nonneg, start, bin_ii, bin_ll, bin_tt, bin_ss, bin_li, bin_ti, rg_1, rg_2, int_add, int_sub, int_mul, int_fdiv, int_mod, int_pow, int_shl, int_shr, int_band, int_bor, int_bxor, cmp_eq, cmp_ne, cmp_in, cmp_nin, cmp_lt, cmp_le, cmp_gt, cmp_ge, eq_op, in_lst, in_tup, ix_lst, ix_tup, ix_scr, ix_str, sl_lst, sl_tup, sl_str, end_t, end_i, bi_len_l, bi_len_t, bi_len_c, bi_len_s, bi_abs, bi_sum, bi_maxl, bi_minl, bi_max2, bi_min2, bi_any, bi_all, bi_int_i, bi_int_b, bi_list_l, bi_list_t, bi_tuple_l, bi_tuple_t, bi_sorted, bi_sset, ty_non, ty_bl, ty_int, ty_str, ty_lst, ty_tup, ty_scr, toB_bl, set_n, set_t, set_tl, it_seq_l, it_seq_t, it_seq_s, it_rng1, it_rng2, it_enm, it_enmT, it_zp_l, it_zp_t, it_rev_l, it_rev_t, me_append, me_extend, me_pop, me_reverse, me_count, ty_int_int, ty_int_bool, ty_bool_int, ty_bool_bool, ty_list_list, ty_tuple_tuple, ty_list_tuple, ty_tuple_list, ty_tuple_int, ty_tuple_bool, ty_int_tuple, ty_str_str, isNonE, toD_d, toD_fl, clo_d, clo_fl, eqB_nn, eqB_bb, eqB_bi, eqB_ib, eqB_ii, eqB_ss, eqB_ll, eqB_tt, eqB_ni, eqB_in, eqBs_00, eqBs_0c, eqBs_c0, eqBs_cc, okD, okDs, flat, small, powOk, mulOk, most, natAbs_1, natAbs_2, natAbs_10, Int.natAbs_natCast, wipe, intsOf, blsOf, pq_non, pq_bl, pq_int, pq_str, pq_tup, pq_lst, pq_scr, atI_0, atI_1, atI_2, ixN_0, ixN_1, D.closed, D.closeds, sat_ok, sat_bind, sat_guard, sat_err, Res.bind_ok, Res.bind_err, List.map_cons, List.map_nil, List.length_cons, List.length_nil, List.cons_append, List.nil_append, List.getElem?_cons_zero, List.getElem?_cons_succ, List.set_cons_zero, List.set_cons_succ, List.replicate, List.foldl_cons, List.foldl_nil, List.zip_cons_cons, List.zip_nil_left, List.zip_nil_right, Nat.reduceAdd, Nat.reduceSub, Nat.reduceLeDiff, Nat.reduceLT, Int.reduceLT, Int.reduceLE, Int.reduceNeg, Int.reducePow, Int.reduceToNat, Int.reduceAdd, Int.reduceMul, Int.reduceSub, Nat.reducePow, Nat.zero_add, Nat.add_zero, decide_true, decide_false, decide_eq_true_eq, beq_iff_eq, Bool.true_eq_false, reduceCtorEq, if_true, if_false, Bool.false_eq_true, true_and, and_true, Bool.true_and, Bool.and_true, Bool.false_and, Bool.and_false, Bool.not_true, Bool.not_false, Bool.or_true, Bool.true_or, Bool.or_false, Bool.false_or, Bool.and_eq_true, Bool.or_eq_true, Bool.not_eq_true', beq_self_eq_true, Option.map_some, Option.toList, if_true, if_false, pq_obj (show ([Cell.lst ((sumT n r).map oD)] : Store)[0]? = some (.lst ((sumT n r).map oD)) from rfl), closeds_oD]
    rfl
theorem law55_ok {m i_is_int i_all_cuts i_spots_of i_made_writing i_rest_of i_summed i_stream i_take i_rest i_due il g_MOST_SPOTS g_FEWEST_NUMBERS g_MOST_NUMBERS : Nat} {ns : List Int} (h_is_int : fs[i_is_int]? = some f_is_int_f58b) (h_all_cuts : fs[i_all_cuts]? = some f_all_cuts_5693) (h_spots_of : fs[i_spots_of]? = some f_spots_of_ec1d) (h_made_writing : fs[i_made_writing]? = some (f_made_writing_48a6 i_is_int g_MOST_SPOTS g_FEWEST_NUMBERS g_MOST_NUMBERS)) (h_rest_of : fs[i_rest_of]? = some (f_rest_of_eb55 i_spots_of)) (h_summed : fs[i_summed]? = some (f_summed_af48 i_all_cuts i_rest_of i_made_writing)) (h_stream : fs[i_stream]? = some f_law_stream_dd9d) (h_take : fs[i_take]? = some f_law_take_ed9d) (h_rest : fs[i_rest]? = some f_law_rest_4503) (h_due : fs[i_due]? = some (f_law_due_8a70 i_rest)) (h_law : fs[il]? = some (f_law_c227 i_stream i_take i_summed i_due)) (e_MOST_SPOTS : gl g_MOST_SPOTS = some (.int 8)) (e_FEWEST_NUMBERS : gl g_FEWEST_NUMBERS = some (.int 2)) (e_MOST_NUMBERS : gl g_MOST_NUMBERS = some (.int 100)) : (call gl fs (m + 10) il [.scr ns] []).sat fun r => r = (.d (.bl true), []) := by
  have hS : ∀ (n r : Nat) (T : Store), 3 ≤ n → n ≤ 8 → r ≤ n → call gl fs (m + 9) i_summed [.int n, .int r] T = .ok (.d (wrD n (cntL n r (2 ^ n)) (sumT n r)), T) := fun n r T h3 h8 hr => by
    obtain ⟨c1, c2⟩ := cnt_ok h3 h8 hr
    exact summed_ok (m := m + 6) h_summed h_all_cuts h_rest_of h_spots_of h_made_writing h_is_int e_MOST_SPOTS e_FEWEST_NUMBERS e_MOST_NUMBERS (by omega) h8 c1 c2
  have hD : ∀ (n r : Nat) (T : Store), n ≤ 8 → call gl fs (m + 9) i_due [.int n, .int r] T = .ok (.d (wrD n (cntL n r (2 ^ n)) (sumT n r)), T) := fun n r T h8 => due55_ok (m := m + 7) h_due h_rest h8
  refine sat_call h_law rfl rfl rfl ?_
  simp -implicitDefEqProofs only [sat_exs, sat_exs_nil, sat_if, sat_asg, sat_asgT, sat_setix, sat_ex, sat_ret, sat_retN, sat_pass, sat_brk, sat_cnt, sat_raise, sat_evB, sat_ite, sat_for, rest_nx, rest_ret, sat_var, sat_non, sat_bl, sat_int, sat_str, sat_bin, sat_neg, sat_cmp, sat_chain, sat_isN, sat_notN, sat_and, sat_or, sat_not, sat_ifE, sat_tup, sat_lst, sat_ix, sat_slN, sat_slLv, sat_slHv, sat_slLb, sat_slHb, sat_slLi, sat_slHi, sat_slLc, sat_slHc, sat_cal, sat_bi, sat_isi, sat_isis, sat_maxd, sat_shw, sat_trng, sat_lsn, sat_lidx, it_rr1, it_rr2, bi_sortP, bi_repr, sat_dnew, sat_din, sat_dget, sat_dgetD, sat_dlen, sat_dlist, sat_dput, sat_fld, sat_meth, sat_make, sat_setfld, sat_me, sat_lc, sat_lcIf, sat_lcF, sat_lcFi, sat_lrng, sat_isB, sat_rev1, rv1_l, rv1_t, List.reverse_cons, List.reverse_nil, sat_orv, orvK_int, orvK_non, intO_int, ex_bl, ex_lst, sat_box, sat_unbox, sat_esN, sat_esC, ex_d, ex_int, ex_fl, ex_obj, ex_cell, ex_oi, kept_non, kept_int, kept_tup, kept_lst, kept_str, kept_scr, kept_self, ex_setx, ex_j, shl1, Int.toNat_natCast, Int.natCast_nonneg, start, bin_ii, bin_ll, bin_tt, bin_ss, bin_li, bin_ti, rg_1, rg_2, int_add, int_sub, int_mul, int_fdiv, int_mod, int_pow, int_shl, int_shr, int_band, int_bor, int_bxor, cmp_eq, cmp_ne, cmp_in, cmp_nin, cmp_lt, cmp_le, cmp_gt, cmp_ge, eq_op, in_lst, in_tup, ix_lst, ix_tup, ix_scr, ix_str, sl_lst, sl_tup, sl_str, end_t, end_i, bi_len_l, bi_len_t, bi_len_c, bi_len_s, bi_abs, bi_sum, bi_maxl, bi_minl, bi_max2, bi_min2, bi_any, bi_all, bi_int_i, bi_int_b, bi_list_l, bi_list_t, bi_tuple_l, bi_tuple_t, bi_sorted, bi_sset, ty_non, ty_bl, ty_int, ty_str, ty_lst, ty_tup, ty_scr, toB_bl, set_n, set_t, set_tl, it_seq_l, it_seq_t, it_seq_s, it_rng1, it_rng2, it_enm, it_enmT, it_zp_l, it_zp_t, it_rev_l, it_rev_t, me_append, me_extend, me_pop, me_reverse, me_count, ty_int_int, ty_int_bool, ty_bool_int, ty_bool_bool, ty_list_list, ty_tuple_tuple, ty_list_tuple, ty_tuple_list, ty_tuple_int, ty_tuple_bool, ty_int_tuple, ty_str_str, isNonE, toD_d, toD_fl, clo_d, clo_fl, eqB_nn, eqB_bb, eqB_bi, eqB_ib, eqB_ii, eqB_ss, eqB_ll, eqB_tt, eqB_ni, eqB_in, eqBs_00, eqBs_0c, eqBs_c0, eqBs_cc, okD, okDs, flat, small, powOk, mulOk, most, natAbs_1, natAbs_2, natAbs_10, Int.natAbs_natCast, wipe, intsOf, blsOf, pq_non, pq_bl, pq_int, pq_str, pq_tup, pq_lst, pq_scr, atI_0, atI_1, atI_2, ixN_0, ixN_1, D.closed, D.closeds, sat_ok, sat_bind, sat_guard, sat_err, Res.bind_ok, Res.bind_err, List.map_cons, List.map_nil, List.length_cons, List.length_nil, List.cons_append, List.nil_append, List.getElem?_cons_zero, List.getElem?_cons_succ, List.set_cons_zero, List.set_cons_succ, List.replicate, List.foldl_cons, List.foldl_nil, List.zip_cons_cons, List.zip_nil_left, List.zip_nil_right, Nat.reduceAdd, Nat.reduceSub, Nat.reduceLeDiff, Nat.reduceLT, Int.reduceLT, Int.reduceLE, Int.reduceNeg, Int.reducePow, Int.reduceToNat, Int.reduceAdd, Int.reduceMul, Int.reduceSub, Nat.reducePow, Nat.zero_add, Nat.add_zero, decide_true, decide_false, decide_eq_true_eq, beq_iff_eq, Bool.true_eq_false, reduceCtorEq, if_true, if_false, Bool.false_eq_true, true_and, and_true, Bool.true_and, Bool.and_true, Bool.false_and, Bool.and_false, Bool.not_true, Bool.not_false, Bool.or_true, Bool.true_or, Bool.or_false, Bool.false_or, Bool.and_eq_true, Bool.or_eq_true, Bool.not_eq_true', beq_self_eq_true, Option.map_some, Option.toList, if_true, if_false, f_law_c227]
  refine ⟨by split <;> split <;> omega, ?_⟩
  refine sat_loop (fun env S => ∃ a b c d e f, env = [some (.scr ns), a, b, c, d, e, f]) ⟨_, _, _, _, _, _, rfl⟩ (fun d env S hd hI => ?_) (fun env S hI => ?_)
  · obtain ⟨_, _, _, _, _, _, rfl⟩ := hI
    obtain ⟨j, hj, rfl⟩ := up0_mem hd
    have hq : j < 1000 := by revert hj; split <;> split <;> omega
    simp -implicitDefEqProofs only [sat_exs, sat_exs_nil, sat_if, sat_asg, sat_asgT, sat_setix, sat_ex, sat_ret, sat_retN, sat_pass, sat_brk, sat_cnt, sat_raise, sat_evB, sat_ite, sat_for, rest_nx, rest_ret, sat_var, sat_non, sat_bl, sat_int, sat_str, sat_bin, sat_neg, sat_cmp, sat_chain, sat_isN, sat_notN, sat_and, sat_or, sat_not, sat_ifE, sat_tup, sat_lst, sat_ix, sat_slN, sat_slLv, sat_slHv, sat_slLb, sat_slHb, sat_slLi, sat_slHi, sat_slLc, sat_slHc, sat_cal, sat_bi, sat_isi, sat_isis, sat_maxd, sat_shw, sat_trng, sat_lsn, sat_lidx, it_rr1, it_rr2, bi_sortP, bi_repr, sat_dnew, sat_din, sat_dget, sat_dgetD, sat_dlen, sat_dlist, sat_dput, sat_fld, sat_meth, sat_make, sat_setfld, sat_me, sat_lc, sat_lcIf, sat_lcF, sat_lcFi, sat_lrng, sat_isB, sat_rev1, rv1_l, rv1_t, List.reverse_cons, List.reverse_nil, sat_orv, orvK_int, orvK_non, intO_int, ex_bl, ex_lst, sat_box, sat_unbox, sat_esN, sat_esC, ex_d, ex_int, ex_fl, ex_obj, ex_cell, ex_oi, kept_non, kept_int, kept_tup, kept_lst, kept_str, kept_scr, kept_self, ex_setx, ex_j, shl1, Int.toNat_natCast, Int.natCast_nonneg, start, bin_ii, bin_ll, bin_tt, bin_ss, bin_li, bin_ti, rg_1, rg_2, int_add, int_sub, int_mul, int_fdiv, int_mod, int_pow, int_shl, int_shr, int_band, int_bor, int_bxor, cmp_eq, cmp_ne, cmp_in, cmp_nin, cmp_lt, cmp_le, cmp_gt, cmp_ge, eq_op, in_lst, in_tup, ix_lst, ix_tup, ix_scr, ix_str, sl_lst, sl_tup, sl_str, end_t, end_i, bi_len_l, bi_len_t, bi_len_c, bi_len_s, bi_abs, bi_sum, bi_maxl, bi_minl, bi_max2, bi_min2, bi_any, bi_all, bi_int_i, bi_int_b, bi_list_l, bi_list_t, bi_tuple_l, bi_tuple_t, bi_sorted, bi_sset, ty_non, ty_bl, ty_int, ty_str, ty_lst, ty_tup, ty_scr, toB_bl, set_n, set_t, set_tl, it_seq_l, it_seq_t, it_seq_s, it_rng1, it_rng2, it_enm, it_enmT, it_zp_l, it_zp_t, it_rev_l, it_rev_t, me_append, me_extend, me_pop, me_reverse, me_count, ty_int_int, ty_int_bool, ty_bool_int, ty_bool_bool, ty_list_list, ty_tuple_tuple, ty_list_tuple, ty_tuple_list, ty_tuple_int, ty_tuple_bool, ty_int_tuple, ty_str_str, isNonE, toD_d, toD_fl, clo_d, clo_fl, eqB_nn, eqB_bb, eqB_bi, eqB_ib, eqB_ii, eqB_ss, eqB_ll, eqB_tt, eqB_ni, eqB_in, eqBs_00, eqBs_0c, eqBs_c0, eqBs_cc, okD, okDs, flat, small, powOk, mulOk, most, natAbs_1, natAbs_2, natAbs_10, Int.natAbs_natCast, wipe, intsOf, blsOf, pq_non, pq_bl, pq_int, pq_str, pq_tup, pq_lst, pq_scr, atI_0, atI_1, atI_2, ixN_0, ixN_1, D.closed, D.closeds, sat_ok, sat_bind, sat_guard, sat_err, Res.bind_ok, Res.bind_err, List.map_cons, List.map_nil, List.length_cons, List.length_nil, List.cons_append, List.nil_append, List.getElem?_cons_zero, List.getElem?_cons_succ, List.set_cons_zero, List.set_cons_succ, List.replicate, List.foldl_cons, List.foldl_nil, List.zip_cons_cons, List.zip_nil_left, List.zip_nil_right, Nat.reduceAdd, Nat.reduceSub, Nat.reduceLeDiff, Nat.reduceLT, Int.reduceLT, Int.reduceLE, Int.reduceNeg, Int.reducePow, Int.reduceToNat, Int.reduceAdd, Int.reduceMul, Int.reduceSub, Nat.reducePow, Nat.zero_add, Nat.add_zero, decide_true, decide_false, decide_eq_true_eq, beq_iff_eq, Bool.true_eq_false, reduceCtorEq, if_true, if_false, Bool.false_eq_true, true_and, and_true, Bool.true_and, Bool.and_true, Bool.false_and, Bool.and_false, Bool.not_true, Bool.not_false, Bool.or_true, Bool.true_or, Bool.or_false, Bool.false_or, Bool.and_eq_true, Bool.or_eq_true, Bool.not_eq_true', beq_self_eq_true, Option.map_some, Option.toList, if_true, if_false]
    refine stream_sat h_stream hq fun a b => ?_
    simp -implicitDefEqProofs only [sat_exs, sat_exs_nil, sat_if, sat_asg, sat_asgT, sat_setix, sat_ex, sat_ret, sat_retN, sat_pass, sat_brk, sat_cnt, sat_raise, sat_evB, sat_ite, sat_for, rest_nx, rest_ret, sat_var, sat_non, sat_bl, sat_int, sat_str, sat_bin, sat_neg, sat_cmp, sat_chain, sat_isN, sat_notN, sat_and, sat_or, sat_not, sat_ifE, sat_tup, sat_lst, sat_ix, sat_slN, sat_slLv, sat_slHv, sat_slLb, sat_slHb, sat_slLi, sat_slHi, sat_slLc, sat_slHc, sat_cal, sat_bi, sat_isi, sat_isis, sat_maxd, sat_shw, sat_trng, sat_lsn, sat_lidx, it_rr1, it_rr2, bi_sortP, bi_repr, sat_dnew, sat_din, sat_dget, sat_dgetD, sat_dlen, sat_dlist, sat_dput, sat_fld, sat_meth, sat_make, sat_setfld, sat_me, sat_lc, sat_lcIf, sat_lcF, sat_lcFi, sat_lrng, sat_isB, sat_rev1, rv1_l, rv1_t, List.reverse_cons, List.reverse_nil, sat_orv, orvK_int, orvK_non, intO_int, ex_bl, ex_lst, sat_box, sat_unbox, sat_esN, sat_esC, ex_d, ex_int, ex_fl, ex_obj, ex_cell, ex_oi, kept_non, kept_int, kept_tup, kept_lst, kept_str, kept_scr, kept_self, ex_setx, ex_j, shl1, Int.toNat_natCast, Int.natCast_nonneg, start, bin_ii, bin_ll, bin_tt, bin_ss, bin_li, bin_ti, rg_1, rg_2, int_add, int_sub, int_mul, int_fdiv, int_mod, int_pow, int_shl, int_shr, int_band, int_bor, int_bxor, cmp_eq, cmp_ne, cmp_in, cmp_nin, cmp_lt, cmp_le, cmp_gt, cmp_ge, eq_op, in_lst, in_tup, ix_lst, ix_tup, ix_scr, ix_str, sl_lst, sl_tup, sl_str, end_t, end_i, bi_len_l, bi_len_t, bi_len_c, bi_len_s, bi_abs, bi_sum, bi_maxl, bi_minl, bi_max2, bi_min2, bi_any, bi_all, bi_int_i, bi_int_b, bi_list_l, bi_list_t, bi_tuple_l, bi_tuple_t, bi_sorted, bi_sset, ty_non, ty_bl, ty_int, ty_str, ty_lst, ty_tup, ty_scr, toB_bl, set_n, set_t, set_tl, it_seq_l, it_seq_t, it_seq_s, it_rng1, it_rng2, it_enm, it_enmT, it_zp_l, it_zp_t, it_rev_l, it_rev_t, me_append, me_extend, me_pop, me_reverse, me_count, ty_int_int, ty_int_bool, ty_bool_int, ty_bool_bool, ty_list_list, ty_tuple_tuple, ty_list_tuple, ty_tuple_list, ty_tuple_int, ty_tuple_bool, ty_int_tuple, ty_str_str, isNonE, toD_d, toD_fl, clo_d, clo_fl, eqB_nn, eqB_bb, eqB_bi, eqB_ib, eqB_ii, eqB_ss, eqB_ll, eqB_tt, eqB_ni, eqB_in, eqBs_00, eqBs_0c, eqBs_c0, eqBs_cc, okD, okDs, flat, small, powOk, mulOk, most, natAbs_1, natAbs_2, natAbs_10, Int.natAbs_natCast, wipe, intsOf, blsOf, pq_non, pq_bl, pq_int, pq_str, pq_tup, pq_lst, pq_scr, atI_0, atI_1, atI_2, ixN_0, ixN_1, D.closed, D.closeds, sat_ok, sat_bind, sat_guard, sat_err, Res.bind_ok, Res.bind_err, List.map_cons, List.map_nil, List.length_cons, List.length_nil, List.cons_append, List.nil_append, List.getElem?_cons_zero, List.getElem?_cons_succ, List.set_cons_zero, List.set_cons_succ, List.replicate, List.foldl_cons, List.foldl_nil, List.zip_cons_cons, List.zip_nil_left, List.zip_nil_right, Nat.reduceAdd, Nat.reduceSub, Nat.reduceLeDiff, Nat.reduceLT, Int.reduceLT, Int.reduceLE, Int.reduceNeg, Int.reducePow, Int.reduceToNat, Int.reduceAdd, Int.reduceMul, Int.reduceSub, Nat.reducePow, Nat.zero_add, Nat.add_zero, decide_true, decide_false, decide_eq_true_eq, beq_iff_eq, Bool.true_eq_false, reduceCtorEq, if_true, if_false, Bool.false_eq_true, true_and, and_true, Bool.true_and, Bool.and_true, Bool.false_and, Bool.and_false, Bool.not_true, Bool.not_false, Bool.or_true, Bool.true_or, Bool.or_false, Bool.false_or, Bool.and_eq_true, Bool.or_eq_true, Bool.not_eq_true', beq_self_eq_true, Option.map_some, Option.toList, if_true, if_false]
    have d0 : Dr (S ++ [.lst [.int a, .int b]]) S.length := ⟨a, b, by simp⟩
    refine take_ext h_take d0 (by omega) (by omega) fun x S1 hx e1 l1 => ?_
    have ex : (3 : Int) + (x : Int) = ((3 + x : Nat) : Int) := by omega
    generalize hN : 3 + x = n at ex
    have hn3 : 3 ≤ n := by omega
    have hn8 : n ≤ 8 := by omega
    simp -implicitDefEqProofs only [sat_exs, sat_exs_nil, sat_if, sat_asg, sat_asgT, sat_setix, sat_ex, sat_ret, sat_retN, sat_pass, sat_brk, sat_cnt, sat_raise, sat_evB, sat_ite, sat_for, rest_nx, rest_ret, sat_var, sat_non, sat_bl, sat_int, sat_str, sat_bin, sat_neg, sat_cmp, sat_chain, sat_isN, sat_notN, sat_and, sat_or, sat_not, sat_ifE, sat_tup, sat_lst, sat_ix, sat_slN, sat_slLv, sat_slHv, sat_slLb, sat_slHb, sat_slLi, sat_slHi, sat_slLc, sat_slHc, sat_cal, sat_bi, sat_isi, sat_isis, sat_maxd, sat_shw, sat_trng, sat_lsn, sat_lidx, it_rr1, it_rr2, bi_sortP, bi_repr, sat_dnew, sat_din, sat_dget, sat_dgetD, sat_dlen, sat_dlist, sat_dput, sat_fld, sat_meth, sat_make, sat_setfld, sat_me, sat_lc, sat_lcIf, sat_lcF, sat_lcFi, sat_lrng, sat_isB, sat_rev1, rv1_l, rv1_t, List.reverse_cons, List.reverse_nil, sat_orv, orvK_int, orvK_non, intO_int, ex_bl, ex_lst, sat_box, sat_unbox, sat_esN, sat_esC, ex_d, ex_int, ex_fl, ex_obj, ex_cell, ex_oi, kept_non, kept_int, kept_tup, kept_lst, kept_str, kept_scr, kept_self, ex_setx, ex_j, shl1, Int.toNat_natCast, Int.natCast_nonneg, start, bin_ii, bin_ll, bin_tt, bin_ss, bin_li, bin_ti, rg_1, rg_2, int_add, int_sub, int_mul, int_fdiv, int_mod, int_pow, int_shl, int_shr, int_band, int_bor, int_bxor, cmp_eq, cmp_ne, cmp_in, cmp_nin, cmp_lt, cmp_le, cmp_gt, cmp_ge, eq_op, in_lst, in_tup, ix_lst, ix_tup, ix_scr, ix_str, sl_lst, sl_tup, sl_str, end_t, end_i, bi_len_l, bi_len_t, bi_len_c, bi_len_s, bi_abs, bi_sum, bi_maxl, bi_minl, bi_max2, bi_min2, bi_any, bi_all, bi_int_i, bi_int_b, bi_list_l, bi_list_t, bi_tuple_l, bi_tuple_t, bi_sorted, bi_sset, ty_non, ty_bl, ty_int, ty_str, ty_lst, ty_tup, ty_scr, toB_bl, set_n, set_t, set_tl, it_seq_l, it_seq_t, it_seq_s, it_rng1, it_rng2, it_enm, it_enmT, it_zp_l, it_zp_t, it_rev_l, it_rev_t, me_append, me_extend, me_pop, me_reverse, me_count, ty_int_int, ty_int_bool, ty_bool_int, ty_bool_bool, ty_list_list, ty_tuple_tuple, ty_list_tuple, ty_tuple_list, ty_tuple_int, ty_tuple_bool, ty_int_tuple, ty_str_str, isNonE, toD_d, toD_fl, clo_d, clo_fl, eqB_nn, eqB_bb, eqB_bi, eqB_ib, eqB_ii, eqB_ss, eqB_ll, eqB_tt, eqB_ni, eqB_in, eqBs_00, eqBs_0c, eqBs_c0, eqBs_cc, okD, okDs, flat, small, powOk, mulOk, most, natAbs_1, natAbs_2, natAbs_10, Int.natAbs_natCast, wipe, intsOf, blsOf, pq_non, pq_bl, pq_int, pq_str, pq_tup, pq_lst, pq_scr, atI_0, atI_1, atI_2, ixN_0, ixN_1, D.closed, D.closeds, sat_ok, sat_bind, sat_guard, sat_err, Res.bind_ok, Res.bind_err, List.map_cons, List.map_nil, List.length_cons, List.length_nil, List.cons_append, List.nil_append, List.getElem?_cons_zero, List.getElem?_cons_succ, List.set_cons_zero, List.set_cons_succ, List.replicate, List.foldl_cons, List.foldl_nil, List.zip_cons_cons, List.zip_nil_left, List.zip_nil_right, Nat.reduceAdd, Nat.reduceSub, Nat.reduceLeDiff, Nat.reduceLT, Int.reduceLT, Int.reduceLE, Int.reduceNeg, Int.reducePow, Int.reduceToNat, Int.reduceAdd, Int.reduceMul, Int.reduceSub, Nat.reducePow, Nat.zero_add, Nat.add_zero, decide_true, decide_false, decide_eq_true_eq, beq_iff_eq, Bool.true_eq_false, reduceCtorEq, if_true, if_false, Bool.false_eq_true, true_and, and_true, Bool.true_and, Bool.and_true, Bool.false_and, Bool.and_false, Bool.not_true, Bool.not_false, Bool.or_true, Bool.true_or, Bool.or_false, Bool.false_or, Bool.and_eq_true, Bool.or_eq_true, Bool.not_eq_true', beq_self_eq_true, Option.map_some, Option.toList, if_true, if_false, ex]
    refine take_ext h_take e1.dr (by omega) (by omega) fun r S2 hr e2 l2 => ?_
    have hr' : r ≤ n := by omega
    simp -implicitDefEqProofs only [sat_exs, sat_exs_nil, sat_if, sat_asg, sat_asgT, sat_setix, sat_ex, sat_ret, sat_retN, sat_pass, sat_brk, sat_cnt, sat_raise, sat_evB, sat_ite, sat_for, rest_nx, rest_ret, sat_var, sat_non, sat_bl, sat_int, sat_str, sat_bin, sat_neg, sat_cmp, sat_chain, sat_isN, sat_notN, sat_and, sat_or, sat_not, sat_ifE, sat_tup, sat_lst, sat_ix, sat_slN, sat_slLv, sat_slHv, sat_slLb, sat_slHb, sat_slLi, sat_slHi, sat_slLc, sat_slHc, sat_cal, sat_bi, sat_isi, sat_isis, sat_maxd, sat_shw, sat_trng, sat_lsn, sat_lidx, it_rr1, it_rr2, bi_sortP, bi_repr, sat_dnew, sat_din, sat_dget, sat_dgetD, sat_dlen, sat_dlist, sat_dput, sat_fld, sat_meth, sat_make, sat_setfld, sat_me, sat_lc, sat_lcIf, sat_lcF, sat_lcFi, sat_lrng, sat_isB, sat_rev1, rv1_l, rv1_t, List.reverse_cons, List.reverse_nil, sat_orv, orvK_int, orvK_non, intO_int, ex_bl, ex_lst, sat_box, sat_unbox, sat_esN, sat_esC, ex_d, ex_int, ex_fl, ex_obj, ex_cell, ex_oi, kept_non, kept_int, kept_tup, kept_lst, kept_str, kept_scr, kept_self, ex_setx, ex_j, shl1, Int.toNat_natCast, Int.natCast_nonneg, start, bin_ii, bin_ll, bin_tt, bin_ss, bin_li, bin_ti, rg_1, rg_2, int_add, int_sub, int_mul, int_fdiv, int_mod, int_pow, int_shl, int_shr, int_band, int_bor, int_bxor, cmp_eq, cmp_ne, cmp_in, cmp_nin, cmp_lt, cmp_le, cmp_gt, cmp_ge, eq_op, in_lst, in_tup, ix_lst, ix_tup, ix_scr, ix_str, sl_lst, sl_tup, sl_str, end_t, end_i, bi_len_l, bi_len_t, bi_len_c, bi_len_s, bi_abs, bi_sum, bi_maxl, bi_minl, bi_max2, bi_min2, bi_any, bi_all, bi_int_i, bi_int_b, bi_list_l, bi_list_t, bi_tuple_l, bi_tuple_t, bi_sorted, bi_sset, ty_non, ty_bl, ty_int, ty_str, ty_lst, ty_tup, ty_scr, toB_bl, set_n, set_t, set_tl, it_seq_l, it_seq_t, it_seq_s, it_rng1, it_rng2, it_enm, it_enmT, it_zp_l, it_zp_t, it_rev_l, it_rev_t, me_append, me_extend, me_pop, me_reverse, me_count, ty_int_int, ty_int_bool, ty_bool_int, ty_bool_bool, ty_list_list, ty_tuple_tuple, ty_list_tuple, ty_tuple_list, ty_tuple_int, ty_tuple_bool, ty_int_tuple, ty_str_str, isNonE, toD_d, toD_fl, clo_d, clo_fl, eqB_nn, eqB_bb, eqB_bi, eqB_ib, eqB_ii, eqB_ss, eqB_ll, eqB_tt, eqB_ni, eqB_in, eqBs_00, eqBs_0c, eqBs_c0, eqBs_cc, okD, okDs, flat, small, powOk, mulOk, most, natAbs_1, natAbs_2, natAbs_10, Int.natAbs_natCast, wipe, intsOf, blsOf, pq_non, pq_bl, pq_int, pq_str, pq_tup, pq_lst, pq_scr, atI_0, atI_1, atI_2, ixN_0, ixN_1, D.closed, D.closeds, sat_ok, sat_bind, sat_guard, sat_err, Res.bind_ok, Res.bind_err, List.map_cons, List.map_nil, List.length_cons, List.length_nil, List.cons_append, List.nil_append, List.getElem?_cons_zero, List.getElem?_cons_succ, List.set_cons_zero, List.set_cons_succ, List.replicate, List.foldl_cons, List.foldl_nil, List.zip_cons_cons, List.zip_nil_left, List.zip_nil_right, Nat.reduceAdd, Nat.reduceSub, Nat.reduceLeDiff, Nat.reduceLT, Int.reduceLT, Int.reduceLE, Int.reduceNeg, Int.reducePow, Int.reduceToNat, Int.reduceAdd, Int.reduceMul, Int.reduceSub, Nat.reducePow, Nat.zero_add, Nat.add_zero, decide_true, decide_false, decide_eq_true_eq, beq_iff_eq, Bool.true_eq_false, reduceCtorEq, if_true, if_false, Bool.false_eq_true, true_and, and_true, Bool.true_and, Bool.and_true, Bool.false_and, Bool.and_false, Bool.not_true, Bool.not_false, Bool.or_true, Bool.true_or, Bool.or_false, Bool.false_or, Bool.and_eq_true, Bool.or_eq_true, Bool.not_eq_true', beq_self_eq_true, Option.map_some, Option.toList, if_true, if_false]
    have f1 : ((r : Int) + 1) % ((n : Int) + 1) = (((r + 1) % (n + 1) : Nat) : Int) := by simp
    have f2 : (3 : Int) + ((n : Int) + 1) % 6 = ((3 + (n + 1) % 6 : Nat) : Int) := by simp
    have f3 : (r : Int) % 4 = ((r % 4 : Nat) : Int) := by simp
    have g1 : (r + 1) % (n + 1) ≤ n := by have := Nat.mod_lt (r + 1) (show 0 < n + 1 by omega); omega
    have n0 : (0 : Int) < (n : Int) + 1 := by omega
    rw [f1, f2, f3]
    refine ⟨n0, ?_⟩
    refine sat_loop (fun env S' => ∃ a b c d e f, env = [some (.scr ns), a, b, c, d, e, f] ∧ S' = S2) ⟨_, _, _, _, _, _, rfl, rfl⟩ (fun d env S' hd hI => ?_) (fun env S' hI => ?_)
    · obtain ⟨_, _, _, _, _, _, rfl, rfl⟩ := hI
      have hd' : ∃ n r : Nat, d = .tup [.int n, .int r] ∧ 3 ≤ n ∧ n ≤ 8 ∧ r ≤ n := by
        simp only [List.mem_cons, List.not_mem_nil, or_false] at hd
        rcases hd with rfl | rfl | rfl | rfl
        · exact ⟨_, _, rfl, hn3, hn8, hr'⟩
        · exact ⟨_, _, rfl, hn3, hn8, g1⟩
        · exact ⟨_, _, rfl, by omega, by omega, by omega⟩
        · exact ⟨_, _, rfl, hn3, hn8, hr'⟩
      obtain ⟨n, r, rfl, h3, h8, hr⟩ := hd'
      have tb := sumT_tab n r
      have c2 := (cnt_ok h3 h8 hr).2
      generalize hW : wrD n (cntL n r (2 ^ n)) (sumT n r) = Wr at *
      have sw : shwR Wr = .ok (.d (.str (shD Wr))) := by rw [← hW]; exact wr_shw h8 c2 tb
      have so : ((shD Wr).all fun c => decide (c < 1114112)) = true := by rw [← hW]; exact wr_okS h8 c2 tb
      have pw : ∀ T, pk T Wr = Wr := fun T => by rw [← hW]; rfl
      have s1 := fun T => hS n r T h3 h8 hr
      have s2 := fun T => hD n r T h8
      rw [hW] at s1 s2
      simp -implicitDefEqProofs only [sat_exs, sat_exs_nil, sat_if, sat_asg, sat_asgT, sat_setix, sat_ex, sat_ret, sat_retN, sat_pass, sat_brk, sat_cnt, sat_raise, sat_evB, sat_ite, sat_for, rest_nx, rest_ret, sat_var, sat_non, sat_bl, sat_int, sat_str, sat_bin, sat_neg, sat_cmp, sat_chain, sat_isN, sat_notN, sat_and, sat_or, sat_not, sat_ifE, sat_tup, sat_lst, sat_ix, sat_slN, sat_slLv, sat_slHv, sat_slLb, sat_slHb, sat_slLi, sat_slHi, sat_slLc, sat_slHc, sat_cal, sat_bi, sat_isi, sat_isis, sat_maxd, sat_shw, sat_trng, sat_lsn, sat_lidx, it_rr1, it_rr2, bi_sortP, bi_repr, sat_dnew, sat_din, sat_dget, sat_dgetD, sat_dlen, sat_dlist, sat_dput, sat_fld, sat_meth, sat_make, sat_setfld, sat_me, sat_lc, sat_lcIf, sat_lcF, sat_lcFi, sat_lrng, sat_isB, sat_rev1, rv1_l, rv1_t, List.reverse_cons, List.reverse_nil, sat_orv, orvK_int, orvK_non, intO_int, ex_bl, ex_lst, sat_box, sat_unbox, sat_esN, sat_esC, ex_d, ex_int, ex_fl, ex_obj, ex_cell, ex_oi, kept_non, kept_int, kept_tup, kept_lst, kept_str, kept_scr, kept_self, ex_setx, ex_j, shl1, Int.toNat_natCast, Int.natCast_nonneg, start, bin_ii, bin_ll, bin_tt, bin_ss, bin_li, bin_ti, rg_1, rg_2, int_add, int_sub, int_mul, int_fdiv, int_mod, int_pow, int_shl, int_shr, int_band, int_bor, int_bxor, cmp_eq, cmp_ne, cmp_in, cmp_nin, cmp_lt, cmp_le, cmp_gt, cmp_ge, eq_op, in_lst, in_tup, ix_lst, ix_tup, ix_scr, ix_str, sl_lst, sl_tup, sl_str, end_t, end_i, bi_len_l, bi_len_t, bi_len_c, bi_len_s, bi_abs, bi_sum, bi_maxl, bi_minl, bi_max2, bi_min2, bi_any, bi_all, bi_int_i, bi_int_b, bi_list_l, bi_list_t, bi_tuple_l, bi_tuple_t, bi_sorted, bi_sset, ty_non, ty_bl, ty_int, ty_str, ty_lst, ty_tup, ty_scr, toB_bl, set_n, set_t, set_tl, it_seq_l, it_seq_t, it_seq_s, it_rng1, it_rng2, it_enm, it_enmT, it_zp_l, it_zp_t, it_rev_l, it_rev_t, me_append, me_extend, me_pop, me_reverse, me_count, ty_int_int, ty_int_bool, ty_bool_int, ty_bool_bool, ty_list_list, ty_tuple_tuple, ty_list_tuple, ty_tuple_list, ty_tuple_int, ty_tuple_bool, ty_int_tuple, ty_str_str, isNonE, toD_d, toD_fl, clo_d, clo_fl, eqB_nn, eqB_bb, eqB_bi, eqB_ib, eqB_ii, eqB_ss, eqB_ll, eqB_tt, eqB_ni, eqB_in, eqBs_00, eqBs_0c, eqBs_c0, eqBs_cc, okD, okDs, flat, small, powOk, mulOk, most, natAbs_1, natAbs_2, natAbs_10, Int.natAbs_natCast, wipe, intsOf, blsOf, pq_non, pq_bl, pq_int, pq_str, pq_tup, pq_lst, pq_scr, atI_0, atI_1, atI_2, ixN_0, ixN_1, D.closed, D.closeds, sat_ok, sat_bind, sat_guard, sat_err, Res.bind_ok, Res.bind_err, List.map_cons, List.map_nil, List.length_cons, List.length_nil, List.cons_append, List.nil_append, List.getElem?_cons_zero, List.getElem?_cons_succ, List.set_cons_zero, List.set_cons_succ, List.replicate, List.foldl_cons, List.foldl_nil, List.zip_cons_cons, List.zip_nil_left, List.zip_nil_right, Nat.reduceAdd, Nat.reduceSub, Nat.reduceLeDiff, Nat.reduceLT, Int.reduceLT, Int.reduceLE, Int.reduceNeg, Int.reducePow, Int.reduceToNat, Int.reduceAdd, Int.reduceMul, Int.reduceSub, Nat.reducePow, Nat.zero_add, Nat.add_zero, decide_true, decide_false, decide_eq_true_eq, beq_iff_eq, Bool.true_eq_false, reduceCtorEq, if_true, if_false, Bool.false_eq_true, true_and, and_true, Bool.true_and, Bool.and_true, Bool.false_and, Bool.and_false, Bool.not_true, Bool.not_false, Bool.or_true, Bool.true_or, Bool.or_false, Bool.false_or, Bool.and_eq_true, Bool.or_eq_true, Bool.not_eq_true', beq_self_eq_true, Option.map_some, Option.toList, if_true, if_false, s1, s2, pw, sw, so]
      exact ⟨_, _, _, _, _, _, rfl⟩
    · obtain ⟨_, _, _, _, _, _, rfl, rfl⟩ := hI
      simp -implicitDefEqProofs only [sat_exs, sat_exs_nil, sat_if, sat_asg, sat_asgT, sat_setix, sat_ex, sat_ret, sat_retN, sat_pass, sat_brk, sat_cnt, sat_raise, sat_evB, sat_ite, sat_for, rest_nx, rest_ret, sat_var, sat_non, sat_bl, sat_int, sat_str, sat_bin, sat_neg, sat_cmp, sat_chain, sat_isN, sat_notN, sat_and, sat_or, sat_not, sat_ifE, sat_tup, sat_lst, sat_ix, sat_slN, sat_slLv, sat_slHv, sat_slLb, sat_slHb, sat_slLi, sat_slHi, sat_slLc, sat_slHc, sat_cal, sat_bi, sat_isi, sat_isis, sat_maxd, sat_shw, sat_trng, sat_lsn, sat_lidx, it_rr1, it_rr2, bi_sortP, bi_repr, sat_dnew, sat_din, sat_dget, sat_dgetD, sat_dlen, sat_dlist, sat_dput, sat_fld, sat_meth, sat_make, sat_setfld, sat_me, sat_lc, sat_lcIf, sat_lcF, sat_lcFi, sat_lrng, sat_isB, sat_rev1, rv1_l, rv1_t, List.reverse_cons, List.reverse_nil, sat_orv, orvK_int, orvK_non, intO_int, ex_bl, ex_lst, sat_box, sat_unbox, sat_esN, sat_esC, ex_d, ex_int, ex_fl, ex_obj, ex_cell, ex_oi, kept_non, kept_int, kept_tup, kept_lst, kept_str, kept_scr, kept_self, ex_setx, ex_j, shl1, Int.toNat_natCast, Int.natCast_nonneg, start, bin_ii, bin_ll, bin_tt, bin_ss, bin_li, bin_ti, rg_1, rg_2, int_add, int_sub, int_mul, int_fdiv, int_mod, int_pow, int_shl, int_shr, int_band, int_bor, int_bxor, cmp_eq, cmp_ne, cmp_in, cmp_nin, cmp_lt, cmp_le, cmp_gt, cmp_ge, eq_op, in_lst, in_tup, ix_lst, ix_tup, ix_scr, ix_str, sl_lst, sl_tup, sl_str, end_t, end_i, bi_len_l, bi_len_t, bi_len_c, bi_len_s, bi_abs, bi_sum, bi_maxl, bi_minl, bi_max2, bi_min2, bi_any, bi_all, bi_int_i, bi_int_b, bi_list_l, bi_list_t, bi_tuple_l, bi_tuple_t, bi_sorted, bi_sset, ty_non, ty_bl, ty_int, ty_str, ty_lst, ty_tup, ty_scr, toB_bl, set_n, set_t, set_tl, it_seq_l, it_seq_t, it_seq_s, it_rng1, it_rng2, it_enm, it_enmT, it_zp_l, it_zp_t, it_rev_l, it_rev_t, me_append, me_extend, me_pop, me_reverse, me_count, ty_int_int, ty_int_bool, ty_bool_int, ty_bool_bool, ty_list_list, ty_tuple_tuple, ty_list_tuple, ty_tuple_list, ty_tuple_int, ty_tuple_bool, ty_int_tuple, ty_str_str, isNonE, toD_d, toD_fl, clo_d, clo_fl, eqB_nn, eqB_bb, eqB_bi, eqB_ib, eqB_ii, eqB_ss, eqB_ll, eqB_tt, eqB_ni, eqB_in, eqBs_00, eqBs_0c, eqBs_c0, eqBs_cc, okD, okDs, flat, small, powOk, mulOk, most, natAbs_1, natAbs_2, natAbs_10, Int.natAbs_natCast, wipe, intsOf, blsOf, pq_non, pq_bl, pq_int, pq_str, pq_tup, pq_lst, pq_scr, atI_0, atI_1, atI_2, ixN_0, ixN_1, D.closed, D.closeds, sat_ok, sat_bind, sat_guard, sat_err, Res.bind_ok, Res.bind_err, List.map_cons, List.map_nil, List.length_cons, List.length_nil, List.cons_append, List.nil_append, List.getElem?_cons_zero, List.getElem?_cons_succ, List.set_cons_zero, List.set_cons_succ, List.replicate, List.foldl_cons, List.foldl_nil, List.zip_cons_cons, List.zip_nil_left, List.zip_nil_right, Nat.reduceAdd, Nat.reduceSub, Nat.reduceLeDiff, Nat.reduceLT, Int.reduceLT, Int.reduceLE, Int.reduceNeg, Int.reducePow, Int.reduceToNat, Int.reduceAdd, Int.reduceMul, Int.reduceSub, Nat.reducePow, Nat.zero_add, Nat.add_zero, decide_true, decide_false, decide_eq_true_eq, beq_iff_eq, Bool.true_eq_false, reduceCtorEq, if_true, if_false, Bool.false_eq_true, true_and, and_true, Bool.true_and, Bool.and_true, Bool.false_and, Bool.and_false, Bool.not_true, Bool.not_false, Bool.or_true, Bool.true_or, Bool.or_false, Bool.false_or, Bool.and_eq_true, Bool.or_eq_true, Bool.not_eq_true', beq_self_eq_true, Option.map_some, Option.toList, if_true, if_false]
      exact ⟨_, _, _, _, _, _, rfl⟩
  · obtain ⟨_, _, _, _, _, _, rfl⟩ := hI
    simp -implicitDefEqProofs only [sat_exs, sat_exs_nil, sat_if, sat_asg, sat_asgT, sat_setix, sat_ex, sat_ret, sat_retN, sat_pass, sat_brk, sat_cnt, sat_raise, sat_evB, sat_ite, sat_for, rest_nx, rest_ret, sat_var, sat_non, sat_bl, sat_int, sat_str, sat_bin, sat_neg, sat_cmp, sat_chain, sat_isN, sat_notN, sat_and, sat_or, sat_not, sat_ifE, sat_tup, sat_lst, sat_ix, sat_slN, sat_slLv, sat_slHv, sat_slLb, sat_slHb, sat_slLi, sat_slHi, sat_slLc, sat_slHc, sat_cal, sat_bi, sat_isi, sat_isis, sat_maxd, sat_shw, sat_trng, sat_lsn, sat_lidx, it_rr1, it_rr2, bi_sortP, bi_repr, sat_dnew, sat_din, sat_dget, sat_dgetD, sat_dlen, sat_dlist, sat_dput, sat_fld, sat_meth, sat_make, sat_setfld, sat_me, sat_lc, sat_lcIf, sat_lcF, sat_lcFi, sat_lrng, sat_isB, sat_rev1, rv1_l, rv1_t, List.reverse_cons, List.reverse_nil, sat_orv, orvK_int, orvK_non, intO_int, ex_bl, ex_lst, sat_box, sat_unbox, sat_esN, sat_esC, ex_d, ex_int, ex_fl, ex_obj, ex_cell, ex_oi, kept_non, kept_int, kept_tup, kept_lst, kept_str, kept_scr, kept_self, ex_setx, ex_j, shl1, Int.toNat_natCast, Int.natCast_nonneg, start, bin_ii, bin_ll, bin_tt, bin_ss, bin_li, bin_ti, rg_1, rg_2, int_add, int_sub, int_mul, int_fdiv, int_mod, int_pow, int_shl, int_shr, int_band, int_bor, int_bxor, cmp_eq, cmp_ne, cmp_in, cmp_nin, cmp_lt, cmp_le, cmp_gt, cmp_ge, eq_op, in_lst, in_tup, ix_lst, ix_tup, ix_scr, ix_str, sl_lst, sl_tup, sl_str, end_t, end_i, bi_len_l, bi_len_t, bi_len_c, bi_len_s, bi_abs, bi_sum, bi_maxl, bi_minl, bi_max2, bi_min2, bi_any, bi_all, bi_int_i, bi_int_b, bi_list_l, bi_list_t, bi_tuple_l, bi_tuple_t, bi_sorted, bi_sset, ty_non, ty_bl, ty_int, ty_str, ty_lst, ty_tup, ty_scr, toB_bl, set_n, set_t, set_tl, it_seq_l, it_seq_t, it_seq_s, it_rng1, it_rng2, it_enm, it_enmT, it_zp_l, it_zp_t, it_rev_l, it_rev_t, me_append, me_extend, me_pop, me_reverse, me_count, ty_int_int, ty_int_bool, ty_bool_int, ty_bool_bool, ty_list_list, ty_tuple_tuple, ty_list_tuple, ty_tuple_list, ty_tuple_int, ty_tuple_bool, ty_int_tuple, ty_str_str, isNonE, toD_d, toD_fl, clo_d, clo_fl, eqB_nn, eqB_bb, eqB_bi, eqB_ib, eqB_ii, eqB_ss, eqB_ll, eqB_tt, eqB_ni, eqB_in, eqBs_00, eqBs_0c, eqBs_c0, eqBs_cc, okD, okDs, flat, small, powOk, mulOk, most, natAbs_1, natAbs_2, natAbs_10, Int.natAbs_natCast, wipe, intsOf, blsOf, pq_non, pq_bl, pq_int, pq_str, pq_tup, pq_lst, pq_scr, atI_0, atI_1, atI_2, ixN_0, ixN_1, D.closed, D.closeds, sat_ok, sat_bind, sat_guard, sat_err, Res.bind_ok, Res.bind_err, List.map_cons, List.map_nil, List.length_cons, List.length_nil, List.cons_append, List.nil_append, List.getElem?_cons_zero, List.getElem?_cons_succ, List.set_cons_zero, List.set_cons_succ, List.replicate, List.foldl_cons, List.foldl_nil, List.zip_cons_cons, List.zip_nil_left, List.zip_nil_right, Nat.reduceAdd, Nat.reduceSub, Nat.reduceLeDiff, Nat.reduceLT, Int.reduceLT, Int.reduceLE, Int.reduceNeg, Int.reducePow, Int.reduceToNat, Int.reduceAdd, Int.reduceMul, Int.reduceSub, Nat.reducePow, Nat.zero_add, Nat.add_zero, decide_true, decide_false, decide_eq_true_eq, beq_iff_eq, Bool.true_eq_false, reduceCtorEq, if_true, if_false, Bool.false_eq_true, true_and, and_true, Bool.true_and, Bool.and_true, Bool.false_and, Bool.and_false, Bool.not_true, Bool.not_false, Bool.or_true, Bool.true_or, Bool.or_false, Bool.false_or, Bool.and_eq_true, Bool.or_eq_true, Bool.not_eq_true', beq_self_eq_true, Option.map_some, Option.toList, if_true, if_false]
end
end Nl

theorem Kx_law {ns : List Int} (hl : ns.length ≤ 63) : ∃ S, Nl.call (Nl.glOf Kx.ks) Kx.fs 20 10 [.scr ns] [] = .ok (.d (.bl true), S) :=
  ⟨_, Nl.sat_def.mp (Nl.law55_ok (m := 10) (i_is_int := 0) (i_all_cuts := 1) (i_spots_of := 2) (i_made_writing := 3) (g_MOST_SPOTS := 0) (g_FEWEST_NUMBERS := 1) (g_MOST_NUMBERS := 2) (i_rest_of := 4) (i_summed := 5) (i_stream := 6) (i_take := 7) (i_rest := 8) (i_due := 9) (il := 10) rfl rfl rfl rfl rfl rfl rfl rfl rfl rfl rfl rfl rfl rfl)⟩


open PySem PySem.W PySem.Calls PyProof.Rows
theorem PySem.Challenge.cw_notchledger_k55_summed_holds : PySem.Challenge.rw_notchledger_k55_summed.Holds := by
  w_on; o_law
  refine HandSHeadRun.head_any (r := OpenLaw.row PySem.Challenge.rw_notchledger_k55_summed) (q := view (OpenLaw.row PySem.Challenge.rw_notchledger_k55_summed).prog [20]) (H := Kx.hk) (ob := Kx.ob) (M := 2000) (loose := Kx.loose) (d := HandSHeadRun.topDef (OpenLaw.row PySem.Challenge.rw_notchledger_k55_summed).prog 20) (kwd := []) Kx.ob_eq
    (by kernel_rfl) (fun s => by kernel_rfl) Kx.run (by kernel_rfl) (by kernel_rfl) (by kernel_rfl) (by rfl) (by first | assumption | decide +kernel) (by decide +kernel) ⟨rfl, rfl, rfl, rfl, rfl, by decide +kernel⟩ ?hw ?hc
  case hw => w_witness2
  case hc =>
    refine Nl.walkG (l := PySem.Challenge.rw_notchledger_k55_summed) (n := 63) (k := 21) (x := "_law_script") (CX := Nl.CXe (PySem.Challenge.rw_notchledger_k55_summed).prog) rfl (by decide) (by kernel_rfl) ⟨rfl, by decide, by decide⟩ ?F (fun H s e s1 z => Nl.cx_none H s e s1 z)
    intro w mg fa h Y G hmg0
    obtain ⟨K, KX, c⟩ := Y
    have hmg : mg ("law" : PySem.Str) = some (.ref fa) := by
      have e : (HandSHeadRun.topDef (OpenLaw.row PySem.Challenge.rw_notchledger_k55_summed).prog 20).name = ("law" : PySem.Str) := by kernel_rfl
      rw [← e]
      exact hmg0
    obtain ⟨d, hd1, hd2, hd3⟩ := Kx.dl
    obtain ⟨fd, hb, hF⟩ := Nl.law_of (P := (PySem.Challenge.rw_notchledger_k55_summed).prog) (w := w) (x := "_law_script") (k := 20) (i := 10) (f := Nl.f_law_c227 6 7 5 9) (ds := Kx.ds) (M := Kx.ks) (fs := Kx.fs) KX G c Kx.chk_ok rfl (by kernel_rfl) rfl hd1 hd3 (by rw [hd2]; exact hmg)
    refine ⟨K, fd, _, KX, hb, fun H a ns hl _ hS => ?_, hF⟩
    obtain ⟨S, e⟩ := Kx_law (ns := ns) hl
    exact Nl.law_sp hS e
