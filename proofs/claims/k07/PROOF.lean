import PyProof.Rows.All
import Wide.All
import OpenK.AllK
import Wide.FinOn
import KE.KStateDown
import HandS.ForMost
import HandS.More
import HandS.WordsExc
import HandS.IsInst
import HandS.Deep
import HandS.Zip
import HandS.Rev
import HandS.SortInts
import HandS.SetFor
import HandS.Strs
import HandS.TupMul
import HandS.TupAny
import HandS.Walk
import HandS.Conv
import HandS.Style
import HandS.Defaults
import HandS.Head0
import HandS.Head1
import HandS.Head2
import HandS.HeadEnd
import HandS.HeadHook1
import HandS.HeadHook2
import HandS.NoneIn
import HandS.Flow
import KE.GoesMore
import HandS.Exc
import HandS.ExcIs
import HandS.ExcOwn
import HandS.TryOnly
import HandS.WordsDict
import HandS.TupLen
import HandS.SortRule
import HandS.RaiseMore
import HandS.RevRange
import PySem.Challenge.RW_notchledger_k07_nearest
set_option Elab.async false
set_option linter.all false
set_option maxRecDepth 100000
set_option maxHeartbeats 4000000

/-! A small language of its own: data as trees, a store for what is changed in place, expressions and statements, and what they come to. -/
namespace Nl

/-- data: None, truths, ints, texts (their code points), tuples, lists that nobody changes any more, the script, and a place of the store -/
inductive D where
  | non
  | bl (b : Bool)
  | int (i : Int)
  | str (s : List Nat)
  | tup (xs : List D)
  | lst (xs : List D)
  | scr (xs : List Int)
  | obj (n : Nat)
  /-- an exception that was caught, of the k-th class -/
  | ex (k : Nat)

mutual
def D.beq : D → D → Bool
  | .non, .non => true
  | .bl a, .bl b => a == b
  | .int a, .int b => a == b
  | .str a, .str b => a == b
  | .tup a, .tup b => D.beqs a b
  | .lst a, .lst b => D.beqs a b
  | .scr a, .scr b => a == b
  | .obj a, .obj b => a == b
  | .ex a, .ex b => a == b
  | _, _ => false
def D.beqs : List D → List D → Bool
  | [], [] => true
  | a :: as, b :: bs => D.beq a b && D.beqs as bs
  | _, _ => false
end
mutual
theorem D.beq_eq : ∀ (a b : D), D.beq a b = true → a = b
  | .non, b, h => by cases b <;> simp_all [D.beq]
  | .bl _, b, h => by cases b <;> simp_all [D.beq]
  | .int _, b, h => by cases b <;> simp_all [D.beq]
  | .str _, b, h => by cases b <;> simp_all [D.beq]
  | .tup xs, b, h => by
    cases b with
    | tup ys => rw [D.beqs_eq xs ys (by simpa [D.beq] using h)]
    | _ => simp [D.beq] at h
  | .lst xs, b, h => by
    cases b with
    | lst ys => rw [D.beqs_eq xs ys (by simpa [D.beq] using h)]
    | _ => simp [D.beq] at h
  | .scr _, b, h => by cases b <;> simp_all [D.beq]
  | .obj _, b, h => by cases b <;> simp_all [D.beq]
  | .ex _, b, h => by cases b <;> simp_all [D.beq]
theorem D.beqs_eq : ∀ (a b : List D), D.beqs a b = true → a = b
  | [], [], _ => rfl
  | [], _ :: _, h => by simp [D.beqs] at h
  | _ :: _, [], h => by simp [D.beqs] at h
  | a :: as, b :: bs, h => by
    simp only [D.beqs, Bool.and_eq_true] at h
    rw [D.beq_eq a b h.1, D.beqs_eq as bs h.2]
end
mutual
theorem D.beq_refl : ∀ (a : D), D.beq a a = true
  | .non => rfl
  | .bl _ => by simp [D.beq]
  | .int _ => by simp [D.beq]
  | .str _ => by simp [D.beq]
  | .tup xs => by simp [D.beq, D.beqs_refl xs]
  | .lst xs => by simp [D.beq, D.beqs_refl xs]
  | .scr _ => by simp [D.beq]
  | .obj _ => by simp [D.beq]
  | .ex _ => by simp [D.beq]
theorem D.beqs_refl : ∀ (a : List D), D.beqs a a = true
  | [] => rfl
  | a :: as => by simp [D.beqs, D.beq_refl a, D.beqs_refl as]
end
instance : DecidableEq D := fun a b => match h : D.beq a b with
  | true => isTrue (D.beq_eq a b h)
  | false => isFalse fun e => by rw [e, D.beq_refl] at h; cases h

/-- a key of a dict, or a part of one that is a tuple -/
inductive Ky where
  | i (n : Int)
  | s (x : List Nat)
  deriving DecidableEq
/-- what stands at a place of the store -/
inductive Cell where
  | lst (xs : List D)
  | dK (kvs : List (Ky × D))
  | dT (kvs : List (List Ky × D))
  /-- an instance of the c-th class, its fields -/
  | ins (c : Nat) (fs : List (Nat × D))
  | dead
  deriving DecidableEq
abbrev Store := List Cell
/-- what comes of an expression: data, or a list just made that nobody else has -/
inductive W where
  | d (x : D)
  | fl (xs : List D)
def W.toD : W → D
  | .d x => x
  | .fl xs => .lst xs
inductive Res (α : Type) where
  | ok (a : α)
  | exc (c : Nat) (S : Store)
  | err
def Res.bind {α β : Type} (r : Res α) (f : α → Res β) : Res β := match r with
  | .ok a => f a
  | .exc c S => .exc c S
  | .err => .err
@[simp] theorem Res.bind_ok {α β : Type} (a : α) (f : α → Res β) : (Res.ok a).bind f = f a := rfl
@[simp] theorem Res.bind_err {α β : Type} (f : α → Res β) : (Res.err : Res α).bind f = .err := rfl
@[simp] theorem Res.bind_exc {α β : Type} (c : Nat) (S : Store) (f : α → Res β) : (Res.exc c S : Res α).bind f = .exc c S := rfl
theorem Res.bind_eq_ok {α β : Type} {r : Res α} {f : α → Res β} {b : β} : r.bind f = .ok b ↔ ∃ a, r = .ok a ∧ f a = .ok b := by
  cases r with
  | ok a => simp
  | exc c S => simp
  | err => simp
theorem Res.bind_assoc {α β γ : Type} (r : Res α) (f : α → Res β) (g : β → Res γ) : (r.bind f).bind g = r.bind fun a => (f a).bind g := by
  cases r <;> rfl
/-- nothing is let out -/
def Res.calm {α : Type} (r : Res α) : Res α := match r with
  | .exc _ _ => .err
  | r => r
@[simp] theorem Res.calm_ok {α : Type} {r : Res α} {a : α} : r.calm = .ok a ↔ r = .ok a := by
  cases r <;> simp [Res.calm]
@[simp] theorem Res.calm_exc {α : Type} {r : Res α} {c : Nat} {S : Store} : r.calm = .exc c S ↔ False := by
  cases r <;> simp [Res.calm]
theorem Res.bind_eq_exc {α β : Type} {r : Res α} {f : α → Res β} {c : Nat} {S : Store} : r.bind f = .exc c S ↔ r = .exc c S ∨ ∃ a, r = .ok a ∧ f a = .exc c S := by
  cases r with
  | ok a => simp
  | exc c' S' => simp
  | err => simp
def guard' {α : Type} (c : Bool) (r : Res α) : Res α := if c then r else .err

/-! ### operations on values -/
def most : Nat := 16777216
inductive Bop where
  | add | sub | mul | fdiv | mod | pow | shl | shr | band | bor | bxor
  deriving DecidableEq
inductive Cop where
  | eq | ne | lt | le | gt | ge | inn | nin
  deriving DecidableEq
/-- what a thing is, a list of the store by its items -/
def pk (S : Store) (d : D) : D := match d with
  | .obj n => (match S[n]? with
    | some (.lst xs) => .lst xs
    | _ => .obj n)
  | d => d

mutual
/-- == of Python (a truth is 0 or 1) -/
def eqB : D → D → Bool
  | .non, .non => true
  | .bl a, .bl b => a == b
  | .bl a, .int j => (if a then 1 else 0) == j
  | .int i, .bl b => i == (if b then 1 else 0)
  | .int i, .int j => i == j
  | .str x, .str y => x == y
  | .lst xs, .lst ys => eqBs xs ys
  | .tup xs, .tup ys => eqBs xs ys
  | _, _ => false
def eqBs : List D → List D → Bool
  | [], [] => true
  | x :: xs, y :: ys => eqB x y && eqBs xs ys
  | _, _ => false
end
mutual
/-- plain data to compare: no place of the store in it, texts of ordinary signs, not too deep -/
def okD : Nat → D → Bool
  | _, .non => true
  | _, .bl _ => true
  | _, .int _ => true
  | _, .str s => s.all fun c => decide (c < 1114112)
  | 0, .tup _ => false
  | 0, .lst _ => false
  | n + 1, .tup xs => okDs n xs
  | n + 1, .lst xs => okDs n xs
  | _, .scr _ => false
  | _, .obj _ => false
  | _, .ex _ => false
def okDs : Nat → List D → Bool
  | _, [] => true
  | n, x :: xs => okD n x && okDs n xs
end
def eqOp (a b : D) : Res Bool := guard' (okD 40 a && okD 40 b) (.ok (eqB a b))

def mulOk (i j : Int) : Bool := (decide (-(2 ^ 64) < i) && decide (i < 2 ^ 64)) || (decide (-(2 ^ 64) < j) && decide (j < 2 ^ 64))
def powOk (i j : Int) : Bool := decide (0 ≤ j) && (decide (j ≤ 1000000) && decide (i.natAbs < 2 ^ 64))
def intOp : Bop → Int → Int → Res D
  | .add, i, j => .ok (.int (i + j))
  | .sub, i, j => .ok (.int (i - j))
  | .mul, i, j => guard' (mulOk i j) (.ok (.int (i * j)))
  | .fdiv, i, j => guard' (decide (0 < j) && decide (j < 1073741824)) (.ok (.int (i / j)))
  | .mod, i, j => guard' (decide (0 < j)) (.ok (.int (i % j)))
  | .pow, i, j => guard' (powOk i j) (.ok (.int (i ^ j.toNat)))
  | .shl, i, j => guard' (powOk i j) (.ok (.int (i * 2 ^ j.toNat)))
  | .shr, i, j => guard' (decide (0 ≤ j)) (.ok (.int (i / 2 ^ j.toNat)))
  | .band, i, j => guard' (decide (0 ≤ i) && decide (0 ≤ j)) (.ok (.int ((i.toNat &&& j.toNat : Nat) : Int)))
  | .bor, i, j => guard' (decide (0 ≤ i) && decide (0 ≤ j)) (.ok (.int ((i.toNat ||| j.toNat : Nat) : Int)))
  | .bxor, i, j => guard' (decide (0 ≤ i) && decide (0 ≤ j)) (.ok (.int ((i.toNat ^^^ j.toNat : Nat) : Int)))
def rep {α : Type} (n : Nat) (xs : List α) : List α := match n with
  | 0 => []
  | n + 1 => xs ++ rep n xs
def binOp (o : Bop) (a b : D) : Res W := match a, b with
  | .int i, .int j => (intOp o i j).bind fun d => .ok (.d d)
  | .lst xs, .lst ys => (match o with
    | .add => guard' (decide (xs.length + ys.length ≤ most)) (.ok (.fl (xs ++ ys)))
    | _ => .err)
  | .tup xs, .tup ys => (match o with
    | .add => guard' (decide (xs.length + ys.length ≤ most)) (.ok (.d (.tup (xs ++ ys))))
    | _ => .err)
  | .str xs, .str ys => (match o with
    | .add => guard' (decide (xs.length + ys.length ≤ most)) (.ok (.d (.str (xs ++ ys))))
    | _ => .err)
  | .lst xs, .int k => (match o with
    | .mul => guard' (decide (-(2 ^ 63) ≤ k) && (decide (k < 2 ^ 63) && decide (xs.length * k.toNat ≤ most))) (.ok (.fl (rep k.toNat xs)))
    | _ => .err)
  | .tup xs, .int k => (match o with
    | .mul => guard' (decide (1 ≤ k) && (decide (k ≤ 1000) && (decide (xs.length ≤ 1000) && !xs.isEmpty))) (.ok (.d (.tup (rep k.toNat xs))))
    | _ => .err)
  | _, _ => .err
def ltInts : List D → List D → Option Bool
  | [], [] => some false
  | [], .int _ :: ys => ltInts [] ys |>.map fun _ => true
  | .int _ :: xs, [] => ltInts xs [] |>.map fun _ => false
  | .int i :: xs, .int j :: ys => (ltInts xs ys).map fun r => if i = j then r else decide (i < j)
  | _, _ => none
def orderOp (o : Cop) (i j : Int) : Option Bool := match o with
  | .lt => some (decide (i < j))
  | .le => some (decide (i ≤ j))
  | .gt => some (decide (j < i))
  | .ge => some (decide (j ≤ i))
  | _ => none
def flat : D → Bool
  | .non => true
  | .bl _ => true
  | .int _ => true
  | .str _ => true
  | _ => false
/-- a in b: a list of any plain data, a tuple of flat ones -/
def inOp (a b : D) : Res Bool := match b with
  | .lst ys => guard' (okD 40 a && okD 40 b) (.ok (ys.any fun y => eqB y a))
  | .tup ys => guard' (flat a && ys.all flat) (.ok (ys.any fun y => eqB y a))
  | _ => .err
def cmpOp (o : Cop) (a b : D) : Res Bool := match o with
  | .eq => eqOp a b
  | .ne => (eqOp a b).bind fun r => .ok (!r)
  | .inn => inOp a b
  | .nin => (inOp a b).bind fun r => .ok (!r)
  | o => (match a, b with
    | .int i, .int j => (match orderOp o i j with
      | some r => .ok r
      | none => .err)
    | .tup xs, .tup ys => (match o with
      | .lt => (match ltInts xs ys with
        | some r => .ok r
        | none => .err)
      | _ => .err)
    | _, _ => .err)
def ixN (n : Nat) (i : Int) : Option Nat := if 0 ≤ i then (if i < n then some i.toNat else none) else if -(n : Int) ≤ i then some (i + n).toNat else none
def atI {α : Type} (xs : List α) (i : Int) : Option α := (ixN xs.length i).bind fun j => xs[j]?
def ixOp (a b : D) : Res D := match b with
  | .int i => (match a with
    | .lst xs => (match atI xs i with
      | some d => .ok d
      | none => .err)
    | .tup xs => (match atI xs i with
      | some d => .ok d
      | none => .err)
    | .scr xs => (match atI xs i with
      | some d => .ok (.int d)
      | none => .err)
    | .str s => guard' (decide (s.length ≤ most)) (match atI s i with
      | some c => .ok (.str [c])
      | none => .err)
    | _ => .err)
  | _ => .err
/-- where a slice begins, ends -/
def slN (n : Nat) (dflt : Nat) (o : Option Int) : Nat := match o with
  | none => dflt
  | some i => if i < 0 then (i + n).toNat else min i.toNat n
def cut {α : Type} (xs : List α) (lo hi : Option Int) : List α := (xs.drop (slN xs.length 0 lo)).take (slN xs.length xs.length hi - slN xs.length 0 lo)
def slOp (a : D) (lo hi : Option Int) : Res W := match a with
  | .lst xs => .ok (.fl (cut xs lo hi))
  | .tup xs => .ok (.d (.tup (cut xs lo hi)))
  | .str s => guard' (decide (s.length ≤ most)) (.ok (.d (.str (cut s lo hi))))
  | _ => .err
/-- an end of a slice: left out, or an int -/
def endOf (out : Bool) (d : D) : Option (Option Int) := if out then some none else match d with
  | .int i => some (some i)
  | _ => none

/-- the figures of a number -/
def figs (i : Int) : List Nat := ((toString i).toList.map Char.toNat)
/-- the built-ins that are called by their names -/
inductive Bi where
  | len | abs | sum | maxl | minl | max2 | min2 | any | all | int | list | tuple | sorted | sset | sortP | repr
  deriving DecidableEq
def intsOf : List D → Option (List Int)
  | [] => some []
  | .int i :: xs => (intsOf xs).map (i :: ·)
  | _ => none
def blsOf : List D → Option (List Bool)
  | [] => some []
  | .bl b :: xs => (blsOf xs).map (b :: ·)
  | _ => none
def maxOf : List Int → Int
  | [] => 0
  | [x] => x
  | x :: xs => let m := maxOf xs; if m < x then x else m
def minOf : List Int → Int
  | [] => 0
  | [x] => x
  | x :: xs => let m := minOf xs; if x < m then x else m
def insI (x : Int) : List Int → List Int
  | [] => [x]
  | y :: ys => if x ≤ y then x :: y :: ys else y :: insI x ys
def sortI : List Int → List Int
  | [] => []
  | x :: xs => insI x (sortI xs)
/-- rising, each once -/
def insU (x : Int) : List Int → List Int
  | [] => [x]
  | y :: ys => if x < y then x :: y :: ys else if x = y then y :: ys else y :: insU x ys
def sortU : List Int → List Int
  | [] => []
  | x :: xs => insU x (sortU xs)
/-- pairs of ints, sorted -/
def prsOf : List D → Option (List (Int × Int))
  | [] => some []
  | .tup [.int i, .int j] :: xs => (prsOf xs).map ((i, j) :: ·)
  | _ => none
def prD (p : Int × Int) : D := .tup [.int p.1, .int p.2]
def lePr (p q : Int × Int) : Bool := decide (p.1 < q.1) || (decide (p.1 = q.1) && decide (p.2 ≤ q.2))
def insP (x : Int × Int) : List (Int × Int) → List (Int × Int)
  | [] => [x]
  | y :: ys => if lePr x y then x :: y :: ys else y :: insP x ys
def sortPr : List (Int × Int) → List (Int × Int)
  | [] => []
  | x :: xs => insP x (sortPr xs)
def biOp (b : Bi) (args : List D) : Res W := match b, args with
  | .len, [.lst xs] => .ok (.d (.int xs.length))
  | .len, [.tup xs] => .ok (.d (.int xs.length))
  | .len, [.scr xs] => .ok (.d (.int xs.length))
  | .len, [.str s] => guard' (decide (s.length ≤ most)) (.ok (.d (.int s.length)))
  | .abs, [.int i] => .ok (.d (.int (if i < 0 then -i else i)))
  | .sum, [.lst xs] => (match intsOf xs with
    | some ns => .ok (.d (.int ns.sum))
    | none => .err)
  | .maxl, [.lst xs] => (match intsOf xs with
    | some ns => guard' (!ns.isEmpty) (.ok (.d (.int (maxOf ns))))
    | none => .err)
  | .minl, [.lst xs] => (match intsOf xs with
    | some ns => guard' (!ns.isEmpty) (.ok (.d (.int (minOf ns))))
    | none => .err)
  | .max2, [.int i, .int j] => .ok (.d (.int (if j > i then j else i)))
  | .min2, [.int i, .int j] => .ok (.d (.int (if j < i then j else i)))
  | .any, [.lst xs] => (match blsOf xs with
    | some bs => .ok (.d (.bl (bs.any id)))
    | none => .err)
  | .all, [.lst xs] => (match blsOf xs with
    | some bs => .ok (.d (.bl (bs.all id)))
    | none => .err)
  | .int, [.int i] => .ok (.d (.int i))
  | .int, [.bl b] => .ok (.d (.int (if b then 1 else 0)))
  | .list, [.lst xs] => .ok (.fl xs)
  | .list, [.tup xs] => .ok (.fl xs)
  | .tuple, [.lst xs] => .ok (.d (.tup xs))
  | .tuple, [.tup xs] => .ok (.d (.tup xs))
  | .sorted, [.lst xs] => (match intsOf xs with
    | some ns => .ok (.fl ((sortI ns).map D.int))
    | none => .err)
  | .sset, [.lst xs] => (match intsOf xs with
    | some ns => guard' (decide (ns.length ≤ 1000)) (.ok (.fl ((sortU ns).map D.int)))
    | none => .err)
  | .sortP, [.lst xs] => (match prsOf xs with
    | some ps => .ok (.fl ((sortPr ps).map prD))
    | none => .err)
  | .repr, [.int i] => guard' (decide (i.natAbs < 2 ^ 1920)) (.ok (.d (.str (figs i))))
  | _, _ => .err
/-- the built-in classes of isinstance -/
inductive Ty where
  | int | bool | str | list | tuple
  deriving DecidableEq
def isTy (t : Ty) (d : D) : Res Bool := match d with
  | .non => .ok false
  | .bl _ => .ok (t == .bool || t == .int)
  | .int _ => .ok (t == .int)
  | .str _ => .ok (t == .str)
  | .lst _ => .ok (t == .list)
  | .tup _ => .ok (t == .tuple)
  | .scr _ => .ok (t == .list)
  | .obj _ => .err
  | .ex _ => .err
/-! ### classes -/
/-- the refusals by their numbers; behind them ValueError -/
def exNames : List String := ["NotchError", "NoWriting", "NoAskings", "TooMany", "Unsure", "NoName", "Taken", "Unknown", "NoNumber", "Unlike", "Lent", "Same", "Nothing", "Short", "Over", "NotLent", "Spent", "NoHalf", "NoSpot", "NoDeed", "NoText"]
def exName (k : Nat) : String := exNames.getD k ""
def exVE : Nat := 21
/-- whether the k-th class is the c-th one, or one below it -/
def isSub (k c : Nat) : Bool := k == c || (c == 0 || c == exVE)
def clNames : List String := ["Reckoning", "Account", "Ledger", "Desk"]
def clName (c : Nat) : String := clNames.getD c ""
def fdNames : List String := ["writing", "askings", "ever", "turns", "most", "stock", "foil", "lent", "gone", "reckoning", "accounts", "past", "undone", "ledgers"]
def fdName (f : Nat) : String := fdNames.getD f ""
/-! ### dicts, fields -/
def kyOf : D → Option Ky
  | .int i => some (.i i)
  | .str s => some (.s s)
  | _ => none
def kysOf : List D → Option (List Ky)
  | [] => some []
  | d :: ds => (kyOf d).bind fun k => (kysOf ds).map (k :: ·)
def kyD : Ky → D
  | .i n => .int n
  | .s x => .str x
section
variable {κ : Type} [DecidableEq κ]
def valK (kvs : List (κ × D)) (k : κ) : Option D := (kvs.find? fun kv => decide (kv.1 = k)).map (·.2)
def setK (kvs : List (κ × D)) (k : κ) (v : D) : List (κ × D) :=
  if (kvs.any fun kv => decide (kv.1 = k)) = true then kvs.map (fun kv => if kv.1 = k then (kv.1, v) else kv) else kvs ++ [(k, v)]
end
/-- what a dict has at a key: none if it's no key, or no dict -/
def dGet (c : Cell) (k : D) : Option (Option D) := match c with
  | .dK kvs => (kyOf k).map (valK kvs)
  | .dT kvs => (match k with
    | .tup ds => (kysOf ds).map (valK kvs)
    | _ => none)
  | _ => none
def dPut (c : Cell) (k v : D) : Option Cell := match c with
  | .dK kvs => if kvs.length < most then (kyOf k).map fun q => .dK (setK kvs q v) else none
  | .dT kvs => (match k with
    | .tup ds => if kvs.length < most then (kysOf ds).map fun q => .dT (setK kvs q v) else none
    | _ => none)
  | _ => none
/-- the keys, as they were put in -/
def dKeys (c : Cell) : Option (List D) := match c with
  | .dK kvs => some (kvs.map fun kv => kyD kv.1)
  | .dT kvs => some (kvs.map fun kv => .tup (kv.1.map kyD))
  | _ => none
def getF (f : Nat) : List (Nat × D) → Option D
  | [] => none
  | (g, x) :: r => if g = f then some x else getF f r
def putF (f : Nat) (v : D) : List (Nat × D) → List (Nat × D)
  | [] => [(f, v)]
  | (g, x) :: r => if g = f then (g, v) :: r else (g, x) :: putF f v r

/-! ### the language -/
/-- what is walked: a list, a tuple, a text; range(a); range(a, b); enumerate(a); zip(a, b); reversed(a) -/
inductive Ik where
  | seq | rng1 | rng2 | enm | zp | rev | rr1 | rr2
  deriving DecidableEq
/-- a name's place, or several names -/
inductive Tg where
  | n (i : Nat)
  | t (is : List Nat)
  deriving DecidableEq
inductive Me where
  | append | extend | pop | reverse | count | insert
  deriving DecidableEq
mutual
inductive E where
  | var (i : Nat)
  | non
  | bl (b : Bool)
  | int (i : Int)
  | str (s : List Nat)
  | glob (g : Nat)
  | bin (o : Bop) (a b : E)
  | neg (a : E)
  | cmp (o : Cop) (a b : E)
  | chain (o o' : Cop) (a b c : E)
  | isN (a : E)
  | notN (a : E)
  | and (a b : E)
  | or (a b : E)
  | not (a : E)
  | ife (c a b : E)
  | tup (es : Es)
  | lst (es : Es)
  | ix (a b : E)
  | sl (a lo hi : E)
  | call (f : Nat) (es : Es)
  | bi (b : Bi) (es : Es)
  | isi (a : E) (t : Ty)
  | isis (a : E) (ts : List Ty)
  | me (m : Me) (a : E) (es : Es)
  | lc (el : E) (tg : Tg) (k : Ik) (a b : E) (own : List (Nat))
  | lcIf (el : E) (tg : Tg) (k : Ik) (a b : E) (c : E) (own : List (Nat))
  | lrng (k : Ik) (a b : E)
  | trng (k : Ik) (a b : E)
  | lsn (a : E)
  | lidx (a b : E)
  | isB (neg b : Bool) (a : E)
  | rev1 (a : E)
  | orv (a b : E)
  | dnew (t : Bool)
  | din (neg : Bool) (k d : E)
  | dget (d k : E)
  | dgetD (d k x : E)
  | dlen (d : E)
  | dlist (d : E)
  | fld (c : Nat) (a : E) (f : Nat)
  | meth (f c : Nat) (a : E) (es : Es)
  | make (f c : Nat) (es : Es)
  | isx (al : List Nat) (a : E) (ks : List Nat)
  | strI (a : E)
  | revc (a : E)
  | box (e : E)
  | unbox (e : E)
inductive Es where
  | nil
  | cons (e : E) (es : Es)
end
def isNonE : E → Bool
  | .non => true
  | _ => false
mutual
inductive S where
  | asg (tg : Tg) (e : E)
  | setix (o i e : E)
  | ex (e : E)
  | ret (e : E)
  | retN
  | ife (c : E) (a b : Ss)
  | forr (tg : Tg) (k : Ik) (a b : E) (body : Ss)
  | whl (fuel : Nat) (c : E) (body : Ss)
  | pass
  | brk
  | cnt
  | raise (c : Nat)
  | setfld (c : Nat) (o : E) (f : Nat) (e : E)
  | dput (d k e : E)
  /-- try: s, except the c-th class as i: j = i -/
  | triA (al : List Nat) (s : S) (c i j : Nat)
  /-- try: s, except the c-th class: return e -/
  | triC (al : List Nat) (s : S) (c : Nat) (e : E)
  /-- try: s, except the c-th class as i: j = isinstance(i, ks); if isinstance(i, k) and isinstance(i, ValueError) and not j: return w -/
  | triB (al : List Nat) (s : S) (c i j : Nat) (ks : List Nat) (k : Nat) (w : List Nat)
inductive Ss where
  | nil
  | cons (s : S) (ss : Ss)
end
structure Fn where
  /-- the names by their places, parameters first -/
  names : List String
  /-- how many parameters -/
  arity : Nat
  /-- nothing of the store is handed in or out: it is run in a store of its own -/
  plain : Bool
  body : Ss
  /-- an __init__ -/
  init : Bool
abbrev Env := List (Option D)
abbrev Cf := Nat → List D → Store → Res (W × Store)

/-! ### what comes of them -/
def setTg (tg : Tg) (d : D) (env : Env) : Res Env := match tg with
  | .n i => .ok (env.set i (some d))
  | .t is => (match d with
    | .tup xs => guard' (decide (xs.length = is.length)) (.ok ((is.zip xs).foldl (fun e p => e.set p.1 (some p.2)) env))
    | .lst xs => guard' (decide (xs.length = is.length)) (.ok ((is.zip xs).foldl (fun e p => e.set p.1 (some p.2)) env))
    | _ => .err)
/-- numbers from lo on, n of them -/
def upFrom (lo : Int) : Nat → List D
  | 0 => []
  | n + 1 => .int lo :: upFrom (lo + 1) n
def pairs : List D → List D → List D
  | x :: xs, y :: ys => .tup [x, y] :: pairs xs ys
  | _, _ => []
def small (i : Int) : Bool := decide (-(2 ^ 62) ≤ i) && decide (i < 2 ^ 62)
/-- the items that are walked -/
def seqItems (a : D) : Res (List D) := match a with
  | .lst xs => .ok xs
  | .tup xs => .ok xs
  | .scr xs => .ok (xs.map D.int)
  | .str s => .ok (s.map fun c => .str [c])
  | _ => .err
def rng1Items (a : D) : Res (List D) := match a with
  | .int n => guard' (small n) (.ok (upFrom 0 n.toNat))
  | _ => .err
def rng2Items (a b : D) : Res (List D) := match a, b with
  | .int m, .int n => guard' (small m && small n) (.ok (upFrom m (n - m).toNat))
  | _, _ => .err
def enmItems (a : D) : Res (List D) := match a with
  | .lst xs => .ok (pairs (upFrom 0 xs.length) xs)
  | .tup xs => .ok (pairs (upFrom 0 xs.length) xs)
  | _ => .err
def zpItems (a b : D) : Res (List D) := match a, b with
  | .lst xs, .lst ys => .ok (pairs xs ys)
  | .tup xs, .tup ys => .ok (pairs xs ys)
  | _, _ => .err
def revItems (a : D) : Res (List D) := match a with
  | .lst xs => .ok xs.reverse
  | .tup xs => .ok xs.reverse
  | _ => .err
def items (k : Ik) (a b : D) : Res (List D) := match k with
  | .seq => seqItems a
  | .rng1 => rng1Items a
  | .rng2 => rng2Items a b
  | .enm => enmItems a
  | .zp => zpItems a b
  | .rev => revItems a
  | .rr1 => (rng1Items a).bind fun ds => .ok ds.reverse
  | .rr2 => (rng2Items a b).bind fun ds => .ok ds.reverse
/-- range's items -/
def rgItems (k : Ik) (a b : D) : Res (List D) := match k with
  | .rng1 => rng1Items a
  | .rng2 => rng2Items a b
  | _ => .err
/-- a list of the store that is walked is as it was -/
def kept (a : D) (S S' : Store) : Bool := match a with
  | .obj n => decide (S[n]? = S'[n]?)
  | _ => true
/-- one turn after another, each may give a thing -/
def compL (ok : Store → Bool) (f : D → Store → Res (Option D × Store)) : List D → Store → Res (List D × Store)
  | [], S => .ok ([], S)
  | x :: xs, S => (f x S).bind fun r => guard' (ok r.2) ((compL ok f xs r.2).bind fun q => .ok (r.1.toList ++ q.1, q.2))
def wipe (env : Env) : List Nat → Env
  | [] => env
  | v :: vs => (wipe env vs).set v none
def noneOrInt : D → Bool
  | .non => true
  | .int _ => true
  | _ => false
def meOp (m : Me) (n : Nat) (args : List D) (S : Store) : Res (W × Store) := match S[n]? with
  | some (.lst xs) => (match m, args with
    | .append, [d] => guard' (decide (xs.length < most)) (.ok (.d .non, S.set n (.lst (xs ++ [d]))))
    | .extend, [d] => (match pk S d with
      | .lst ys => guard' (decide (xs.length + ys.length ≤ most)) (.ok (.d .non, S.set n (.lst (xs ++ ys))))
      | _ => .err)
    | .pop, [] => (match xs.getLast? with
      | some d => .ok (.d d, S.set n (.lst xs.dropLast))
      | none => .err)
    | .reverse, [] => .ok (.d .non, S.set n (.lst xs.reverse))
    | .insert, [.int i, d] => guard' (decide (xs.length < most) && (decide (0 ≤ i) && decide (i < 2 ^ 63))) (.ok (.d .non, S.set n (.lst (xs.take i.toNat ++ [d] ++ xs.drop i.toNat))))
    | .count, [.non] => guard' (xs.all noneOrInt) (.ok (.d (.int (xs.countP fun d => decide (d = .non) : Nat)), S))
    | _, _ => .err)
  | _ => .err
def toB (w : W) : Res Bool := match w with
  | .d (.bl b) => .ok b
  | _ => .err
section
variable (gl : Nat → Option D) (cf : Cf)
mutual
def ev : E → Env → Store → Res (W × Store)
  | .var i, env, S => (match env[i]? with
    | some (some d) => .ok (.d d, S)
    | _ => .err)
  | .non, _, S => .ok (.d .non, S)
  | .bl b, _, S => .ok (.d (.bl b), S)
  | .int i, _, S => .ok (.d (.int i), S)
  | .str s, _, S => .ok (.d (.str s), S)
  | .glob g, _, S => (match gl g with
    | some d => .ok (.d d, S)
    | none => .err)
  | .bin o a b, env, S => (ev a env S).bind fun x => (ev b env x.2).bind fun y => (binOp o (pk y.2 x.1.toD) (pk y.2 y.1.toD)).bind fun w => .ok (w, y.2)
  | .neg a, env, S => (ev a env S).bind fun x => (match x.1 with
    | .d (.int i) => .ok (.d (.int (-i)), x.2)
    | _ => .err)
  | .cmp o a b, env, S => (ev a env S).bind fun x => (ev b env x.2).bind fun y => (cmpOp o (pk y.2 x.1.toD) (pk y.2 y.1.toD)).bind fun r => .ok (.d (.bl r), y.2)
  | .chain o o' a b c, env, S => (ev a env S).bind fun x => (ev b env x.2).bind fun y => (cmpOp o (pk y.2 x.1.toD) (pk y.2 y.1.toD)).bind fun r =>
      if r then (ev c env y.2).bind fun z => (cmpOp o' (pk z.2 y.1.toD) (pk z.2 z.1.toD)).bind fun q => .ok (.d (.bl q), z.2) else .ok (.d (.bl false), y.2)
  | .isN a, env, S => (ev a env S).bind fun x => .ok (.d (.bl (decide (x.1.toD = .non))), x.2)
  | .notN a, env, S => (ev a env S).bind fun x => .ok (.d (.bl (!decide (x.1.toD = .non))), x.2)
  | .and a b, env, S => (ev a env S).bind fun x => (toB x.1).bind fun r => if r then (ev b env x.2).bind fun y => (toB y.1).bind fun q => .ok (.d (.bl q), y.2) else .ok (.d (.bl false), x.2)
  | .or a b, env, S => (ev a env S).bind fun x => (toB x.1).bind fun r => if r then .ok (.d (.bl true), x.2) else (ev b env x.2).bind fun y => (toB y.1).bind fun q => .ok (.d (.bl q), y.2)
  | .not a, env, S => (ev a env S).bind fun x => (toB x.1).bind fun r => .ok (.d (.bl (!r)), x.2)
  | .ife c a b, env, S => (ev c env S).bind fun x => (toB x.1).bind fun r => if r then ev a env x.2 else ev b env x.2
  | .tup es, env, S => (evs es env S).bind fun x => guard' (decide (x.1.length ≤ most)) (.ok (.d (.tup x.1), x.2))
  | .lst es, env, S => (evs es env S).bind fun x => guard' (decide (x.1.length ≤ most)) (.ok (.fl x.1, x.2))
  | .ix a b, env, S => (ev a env S).bind fun x => (ev b env x.2).bind fun y => (ixOp (pk y.2 x.1.toD) y.1.toD).bind fun d => .ok (.d d, y.2)
  | .sl a lo hi, env, S => (ev a env S).bind fun x => Res.calm <| (ev lo env x.2).bind fun l => (ev hi env l.2).bind fun h => (match endOf (isNonE lo) l.1.toD, endOf (isNonE hi) h.1.toD with
    | some i, some j => (slOp (pk h.2 x.1.toD) i j).bind fun w => .ok (w, h.2)
    | _, _ => .err)
  | .call f es, env, S => (evs es env S).bind fun x => cf f x.1 x.2
  | .bi b es, env, S => (evs es env S).bind fun x => (biOp b (x.1.map (pk x.2))).bind fun w => .ok (w, x.2)
  | .isi a t, env, S => (ev a env S).bind fun x => (isTy t (pk x.2 x.1.toD)).bind fun r => .ok (.d (.bl r), x.2)
  | .isis a ts, env, S => (ev a env S).bind fun x => (match ts with
    | [t, u] => (isTy t (pk x.2 x.1.toD)).bind fun r => (isTy u (pk x.2 x.1.toD)).bind fun q => .ok (.d (.bl (r || q)), x.2)
    | _ => .err)
  | .me m a es, env, S => (ev a env S).bind fun x => (match x.1 with
    | .d (.obj n) => (match x.2[n]? with
      | some (.lst _) => (evs es env x.2).bind fun y => meOp m n y.1 y.2
      | _ => .err)
    | _ => .err)
  | .lc el tg k a b own, env, S => (ev a env S).bind fun x => (ev b env x.2).bind fun y => (items k (pk y.2 x.1.toD) (pk y.2 y.1.toD)).bind fun ds =>
      (compL (fun S' => kept x.1.toD y.2 S' && kept y.1.toD y.2 S') (fun d S' => (setTg tg d (wipe env own)).bind fun env' => (ev el env' S').bind fun z => .ok (some z.1.toD, z.2)) ds y.2).calm.bind fun q =>
        guard' (decide (ds.length ≤ most)) (.ok (.fl q.1, q.2))
  | .lcIf el tg k a b c own, env, S => (ev a env S).bind fun x => (ev b env x.2).bind fun y => (items k (pk y.2 x.1.toD) (pk y.2 y.1.toD)).bind fun ds =>
      (compL (fun S' => kept x.1.toD y.2 S' && kept y.1.toD y.2 S') (fun d S' => (setTg tg d (wipe env own)).bind fun env' => (ev c env' S').bind fun t => (toB t.1).bind fun r =>
        if r then (ev el env' t.2).bind fun z => .ok (some z.1.toD, z.2) else .ok (none, t.2)) ds y.2).calm.bind fun q => guard' (decide (ds.length ≤ most)) (.ok (.fl q.1, q.2))
  | .lrng k a b, env, S => (ev a env S).bind fun x => (ev b env x.2).bind fun y => (rgItems k (pk y.2 x.1.toD) (pk y.2 y.1.toD)).bind fun ds => guard' (decide (ds.length ≤ most)) (.ok (.fl ds, y.2))
  | .trng k a b, env, S => (ev a env S).bind fun x => (ev b env x.2).bind fun y => (rgItems k (pk y.2 x.1.toD) (pk y.2 y.1.toD)).bind fun ds => guard' (decide (ds.length ≤ most)) (.ok (.d (.tup ds), y.2))
  | .lsn a, env, S => (ev a env S).bind fun x => (match pk x.2 x.1.toD with
    | .lst xs => (match intsOf xs with
      | some ns => guard' (decide (ns.length ≤ 1000)) (.ok (.d (.int (sortU ns).length), x.2))
      | none => .err)
    | _ => .err)
  | .lidx a b, env, S => (ev a env S).bind fun x => (match pk x.2 x.1.toD with
    | .lst _ => (ev b env x.2).bind fun y => (match pk y.2 x.1.toD, y.1.toD with
      | .lst xs, .int i => (match intsOf xs with
        | some ns => guard' (ns.contains i) (.ok (.d (.int (ns.idxOf i)), y.2))
        | none => .err)
      | _, _ => .err)
    | _ => .err)
  | .isB neg b a, env, S => (ev a env S).bind fun x => (match x.1 with
    | .d (.bl c) => .ok (.d (.bl (if neg then !decide (c = b) else decide (c = b))), x.2)
    | _ => .err)
  | .rev1 a, env, S => (ev a env S).bind fun x => (match pk x.2 x.1.toD with
    | .lst xs => .ok (.fl xs.reverse, x.2)
    | .tup xs => .ok (.d (.tup xs.reverse), x.2)
    | _ => .err)
  | .orv a b, env, S => (ev a env S).bind fun x => (match x.1 with
    | .d (.int i) => if i = 0 then (ev b env x.2).bind fun y => (match y.1 with
      | .d (.int j) => .ok (.d (.int j), y.2)
      | _ => .err) else .ok (.d (.int i), x.2)
    | .d .non => (ev b env x.2).bind fun y => (match y.1 with
      | .d (.int j) => .ok (.d (.int j), y.2)
      | _ => .err)
    | _ => .err)
  | .dnew t, _, S => .ok (.d (.obj S.length), S ++ [if t then .dT [] else .dK []])
  | .din neg k d, env, S => (ev k env S).bind fun x => (ev d env x.2).bind fun y => (match y.1 with
    | .d (.obj n) => (match (y.2[n]?).bind fun c => dGet c x.1.toD with
      | some o => .ok (.d (.bl (if neg then !o.isSome else o.isSome)), y.2)
      | none => .err)
    | _ => .err)
  | .dget d k, env, S => (ev d env S).bind fun x => (ev k env x.2).bind fun y => (match x.1 with
    | .d (.obj n) => (match (y.2[n]?).bind fun c => dGet c y.1.toD with
      | some (some v) => .ok (.d v, y.2)
      | _ => .err)
    | _ => .err)
  | .dgetD d k z, env, S => (ev d env S).bind fun x => (match x.1 with
    | .d (.obj n) => (match (x.2[n]?).bind dKeys with
      | some _ => (ev k env x.2).bind fun y => (ev z env y.2).bind fun u => (match (u.2[n]?).bind fun c => dGet c y.1.toD with
        | some o => .ok (.d (o.getD u.1.toD), u.2)
        | none => .err)
      | none => .err)
    | _ => .err)
  | .dlen d, env, S => (ev d env S).bind fun x => (match x.1 with
    | .d (.obj n) => (match (x.2[n]?).bind dKeys with
      | some ks => .ok (.d (.int ks.length), x.2)
      | none => .err)
    | _ => .err)
  | .dlist d, env, S => (ev d env S).bind fun x => (match x.1 with
    | .d (.obj n) => (match (x.2[n]?).bind dKeys with
      | some ks => .ok (.fl ks, x.2)
      | none => .err)
    | _ => .err)
  | .fld c a f, env, S => (ev a env S).bind fun x => (match x.1 with
    | .d (.obj n) => (match x.2[n]? with
      | some (.ins c' fs) => guard' (c' == c) (match getF f fs with
        | some d => .ok (.d d, x.2)
        | none => .err)
      | _ => .err)
    | _ => .err)
  | .meth f c a es, env, S => (ev a env S).bind fun x => (match x.1 with
    | .d (.obj n) => (match x.2[n]? with
      | some (.ins c' _) => guard' (c' == c) ((evs es env x.2).bind fun y => cf f (.obj n :: y.1) y.2)
      | _ => .err)
    | _ => .err)
  | .make f c es, env, S => (evs es env S).bind fun y => ((cf f (.obj y.2.length :: y.1) (y.2 ++ [.ins c []])).calm).bind fun r => (match r.1 with
    | .d .non => .ok (.d (.obj y.2.length), r.2)
    | _ => .err)
  | .isx al a ks, env, S => (ev a env S).bind fun x => (match x.1 with
    | .d (.ex k) => guard' (al.contains k) <| .ok (.d (.bl (ks.any fun c => isSub k c)), x.2)
    | _ => .err)
  | .strI a, env, S => (ev a env S).bind fun x => (match x.1 with
    | .d (.int i) => guard' (decide (i.natAbs < 2 ^ 1920)) (.ok (.d (.str (figs i)), x.2))
    | _ => .err)
  | .revc a, env, S => (ev a env S).bind fun x => (match pk x.2 x.1.toD with
    | .tup xs => guard' (!xs.isEmpty) (.ok (.d (.tup (xs.drop 1).reverse), x.2))
    | _ => .err)
  | .box e, env, S => (ev e env S).bind fun x => (match x.1 with
    | .fl xs => .ok (.d (.obj x.2.length), x.2 ++ [.lst xs])
    | _ => .err)
  | .unbox e, env, S => (ev e env S).bind fun x => (match x.1 with
    | .d (.obj n) => (match x.2[n]? with
      | some (.lst xs) => .ok (.fl xs, x.2.set n .dead)
      | _ => .err)
    | _ => .err)
def evs : Es → Env → Store → Res (List D × Store)
  | .nil, _, S => .ok ([], S)
  | .cons e es, env, S => (ev e env S).bind fun x => (evs es env x.2).bind fun y => .ok (x.1.toD :: y.1, y.2)
end
/-- how a statement ends -/
inductive Fl where
  | nx (env : Env)
  | ret (w : W)
  | brk (env : Env)
  | cnt (env : Env)
def loopF (ok : Store → Bool) (f : D → Env → Store → Res (Fl × Store)) : List D → Env → Store → Res (Fl × Store)
  | [], env, S => .ok (.nx env, S)
  | x :: xs, env, S => (f x env S).bind fun r => (match r.1 with
    | .nx env' => guard' (ok r.2) (loopF ok f xs env' r.2)
    | .cnt env' => guard' (ok r.2) (loopF ok f xs env' r.2)
    | .brk env' => .ok (.nx env', r.2)
    | .ret w => .ok (.ret w, r.2))
def loopW (c : Env → Store → Res (Bool × Store)) (f : Env → Store → Res (Fl × Store)) : Nat → Env → Store → Res (Fl × Store)
  | 0, _, _ => .err
  | n + 1, env, S => (c env S).bind fun t => if t.1 then (f env t.2).bind fun r => (match r.1 with
    | .nx env' => loopW c f n env' r.2
    | .cnt env' => loopW c f n env' r.2
    | .brk env' => .ok (.nx env', r.2)
    | .ret w => .ok (.ret w, r.2)) else .ok (.nx env, t.2)
mutual
def ex : S → Env → Store → Res (Fl × Store)
  | .asg tg e, env, S => (ev gl cf e env S).bind fun x => (setTg tg x.1.toD env).bind fun env' => .ok (.nx env', x.2)
  | .setix o i e, env, S => (ev gl cf e env S).bind fun x => (ev gl cf o env x.2).bind fun y => (ev gl cf i env y.2).bind fun z => (match y.1, z.1 with
    | .d (.obj n), .d (.int k) => (match z.2[n]? with
      | some (.lst xs) => (match ixN xs.length k with
        | some j => .ok (.nx env, z.2.set n (.lst (xs.set j x.1.toD)))
        | none => .err)
      | _ => .err)
    | _, _ => .err)
  | .ex e, env, S => (ev gl cf e env S).bind fun x => .ok (.nx env, x.2)
  | .ret e, env, S => (ev gl cf e env S).bind fun x => .ok (.ret x.1, x.2)
  | .retN, _, S => .ok (.ret (.d .non), S)
  | .ife c a b, env, S => (ev gl cf c env S).bind fun x => (toB x.1).bind fun r => if r then exs a env x.2 else exs b env x.2
  | .forr tg k a b body, env, S => (ev gl cf a env S).bind fun x => (ev gl cf b env x.2).bind fun y => (items k (pk y.2 x.1.toD) (pk y.2 y.1.toD)).bind fun ds =>
      loopF (fun S' => kept x.1.toD y.2 S' && kept y.1.toD y.2 S') (fun d env' S' => (setTg tg d env').bind fun env2 => exs body env2 S') ds env y.2
  | .whl fuel c body, env, S => loopW (fun env' S' => (ev gl cf c env' S').bind fun x => (toB x.1).bind fun r => .ok (r, x.2)) (fun env' S' => exs body env' S') fuel env S
  | .pass, env, S => .ok (.nx env, S)
  | .brk, env, S => .ok (.brk env, S)
  | .cnt, env, S => .ok (.cnt env, S)
  | .raise c, _, S => .exc c S
  | .setfld c' o f e, env, S => (ev gl cf e env S).bind fun x => (ev gl cf o env x.2).bind fun y => (match y.1 with
    | .d (.obj n) => (match y.2[n]? with
      | some (.ins c fs) => guard' (c == c' && (decide (f < fdNames.length) && decide (fs.length < 100))) (.ok (.nx env, y.2.set n (.ins c (putF f x.1.toD fs))))
      | _ => .err)
    | _ => .err)
  | .dput d k e, env, S => (ev gl cf e env S).bind fun x => (ev gl cf d env x.2).bind fun y => (ev gl cf k env y.2).bind fun z => (match y.1 with
    | .d (.obj n) => (match (z.2[n]?).bind fun c => dPut c z.1.toD x.1.toD with
      | some c => .ok (.nx env, z.2.set n c)
      | none => .err)
    | _ => .err)
  | .triA al s c i j, env, S => (match ex s env S with
    | .exc k S' => guard' (al.contains k) <| if isSub k c then .ok (.nx ((env.set i none).set j (some (.ex k))), S') else .exc k S'
    | r => r)
  | .triC al s c e, env, S => (match ex s env S with
    | .exc k S' => guard' (al.contains k) <| if isSub k c then (ev gl cf e env S').bind fun x => .ok (.ret x.1, x.2) else .exc k S'
    | r => r)
  | .triB al s c i j ks k0 w, env, S => (match ex s env S with
    | .exc k S' => guard' (al.contains k) <| if isSub k c then (if isSub k k0 && !(ks.any fun c => isSub k c) then .ok (.ret (.d (.str w)), S') else .ok (.nx ((env.set i none).set j (some (.bl (ks.any fun c => isSub k c)))), S')) else .exc k S'
    | r => r)
def exs : Ss → Env → Store → Res (Fl × Store)
  | .nil, env, S => .ok (.nx env, S)
  | .cons s ss, env, S => (ex s env S).bind fun r => (match r.1 with
    | .nx env' => exs ss env' r.2
    | _ => .ok r)
end
end
mutual
/-- no place of the store in it -/
def D.closed : D → Bool
  | .obj _ => false
  | .tup xs => D.closeds xs
  | .lst xs => D.closeds xs
  | _ => true
def D.closeds : List D → Bool
  | [] => true
  | x :: xs => D.closed x && D.closeds xs
end
def start (f : Fn) (args : List D) : Env := args.map some ++ List.replicate (f.names.length - args.length) none
def endW (r : Fl × Store) : Res (W × Store) := match r.1 with
  | .ret w => .ok (w, r.2)
  | .nx _ => .ok (.d .non, r.2)
  | _ => .err
/-- a def of its own store is left -/
def plainEnd (S : Store) (r : Res (W × Store)) : Res (W × Store) := match r with
  | .ok r => guard' (D.closed r.1.toD) (.ok (r.1, S))
  | .exc k _ => .exc k S
  | .err => .err
/-- a call, so many calls deep at most -/
def call (gl : Nat → Option D) (fs : List Fn) : Nat → Nat → List D → Store → Res (W × Store)
  | 0, _, _, _ => .err
  | n + 1, f, args, S => (match fs[f]? with
    | some fn => guard' (decide (args.length = fn.arity)) (if fn.init then (match n with
        | 0 => .err
        | m + 1 => (exs gl (call gl fs m) fn.body (start fn args) S).bind endW)
      else if fn.plain then guard' (D.closeds args) (plainEnd S ((exs gl (call gl fs n) fn.body (start fn args) []).bind endW))
      else (exs gl (call gl fs n) fn.body (start fn args) S).bind endW)
    | none => .err)
end Nl

/-! How the small language's data lie in the abstract heap of the hand layer. -/
namespace Nl
open PySem L2

def toS (s : List Nat) : Str := ⟨s.toArray⟩
theorem toS_inj {a b : List Nat} (h : toS a = toS b) : a = b := by
  have := congrArg (fun z : Str => z.cps.toList) h
  simpa [toS] using this
/-- a class of the text, by its name -/
def clsA (K : PySem.W.Frag) (x : String) : Addr := He.ga K (Str.ofString x)
/-- an exception object of the class cls that was caught, at a -/
def EvO (cls : Value) (a : Addr) : HO := .ext fun h => ∃ (oe : Obj) (vs : Array Value), h.get? a = some oe ∧ Zc cls none oe ∧ oe.data = .fields vs
def kyK : Ky → Key
  | .i n => .inl n
  | .s x => .inr (toS x)
theorem kyK_inj {a b : Ky} (h : kyK a = kyK b) : a = b := by
  cases a with
  | i n => cases b with
    | i m => cases h; rfl
    | s y => cases h
  | s x => cases b with
    | i m => cases h
    | s y => rw [toS_inj (Sum.inr.inj h)]
section
variable (K : PySem.W.Frag)
mutual
/-- v stands for d: what is frozen lies in G, the places of the store at ix -/
inductive Rp (G : Hp) (ix : List Addr) : V → D → Prop
  | non : Rp G ix .non .non
  | bl (b : Bool) : Rp G ix (.bl b) (.bl b)
  | int (i : Int) : Rp G ix (.int i) (.int i)
  | str (s : List Nat) : Rp G ix (.str (toS s)) (.str s)
  | tup {a : Addr} {vs : List V} {ds : List D} : G a = some (.tup vs) → Rps G ix vs ds → Rp G ix (.ref a) (.tup ds)
  | lst {a : Addr} {vs : List V} {ds : List D} : G a = some (.lst vs) → Rps G ix vs ds → Rp G ix (.ref a) (.lst ds)
  | scr {a : Addr} {ns : List Int} : SqL K G a (ns.map V.int) → Rp G ix (.ref a) (.scr ns)
  | obj {a : Addr} {n : Nat} : ix[n]? = some a → Rp G ix (.ref a) (.obj n)
  | ex {a : Addr} {k : Nat} : G a = some (EvO (.ref (clsA K (exName k))) a) → Rp G ix (.ref a) (.ex k)
inductive Rps (G : Hp) (ix : List Addr) : List V → List D → Prop
  | nil : Rps G ix [] []
  | cons {v : V} {vs : List V} {d : D} {ds : List D} : Rp G ix v d → Rps G ix vs ds → Rps G ix (v :: vs) (d :: ds)
end
end
def Le (G G' : Hp) : Prop := ∀ a o, G a = some o → G' a = some o
theorem Le.refl (G : Hp) : Le G G := fun _ _ h => h
theorem Le.trans {G G1 G2 : Hp} (a : Le G G1) (b : Le G1 G2) : Le G G2 := fun c o h => b c o (a c o h)
theorem Le.sql {K : PySem.W.Frag} {G G' : Hp} (e : Le G G') {a : Addr} {xs : List V} (h : SqL K G a xs) : SqL K G' a xs := by
  rcases h with (h | ⟨o, h⟩) | h
  · exact .inl (.inl (e _ _ h))
  · exact .inl (.inr ⟨o, e _ _ h⟩)
  · exact .inr h
def Ixs (ix ix' : List Addr) : Prop := ∀ (n : Nat) (a : Addr), ix[n]? = some a → ix'[n]? = some a
theorem Ixs.refl (ix : List Addr) : Ixs ix ix := fun _ _ h => h
theorem Ixs.trans {a b c : List Addr} (h : Ixs a b) (k : Ixs b c) : Ixs a c := fun n x e => k n x (h n x e)
theorem Ixs.app (ix : List Addr) (p : Addr) : Ixs ix (ix ++ [p]) := fun n a h => by
  have hn := (List.getElem?_eq_some_iff.mp h).1
  rw [List.getElem?_append_left hn]
  exact h
section
variable {K : PySem.W.Frag} {G G' : Hp} {ix ix' : List Addr}
mutual
theorem Rp.mono (g : Le G G') (x : Ixs ix ix') : ∀ (d : D) (v : V), Rp K G ix v d → Rp K G' ix' v d
  | .non, _, h => by cases h; exact .non
  | .bl _, _, h => by cases h; exact .bl _
  | .int _, _, h => by cases h; exact .int _
  | .str _, _, h => by cases h; exact .str _
  | .tup ds, _, h => by
    cases h with
    | tup a r => exact .tup (g _ _ a) (Rps.mono g x ds _ r)
  | .lst ds, _, h => by
    cases h with
    | lst a r => exact .lst (g _ _ a) (Rps.mono g x ds _ r)
  | .scr _, _, h => by
    cases h with
    | scr a => exact .scr (g.sql a)
  | .obj _, _, h => by
    cases h with
    | obj a => exact .obj (x _ _ a)
  | .ex _, _, h => by
    cases h with
    | ex a => exact .ex (g _ _ a)
theorem Rps.mono (g : Le G G') (x : Ixs ix ix') : ∀ (ds : List D) (vs : List V), Rps K G ix vs ds → Rps K G' ix' vs ds
  | [], _, h => by cases h; exact .nil
  | d :: ds, _, h => by
    cases h with
    | cons a r => exact .cons (Rp.mono g x d _ a) (Rps.mono g x ds _ r)
end
mutual
theorem Rp.closed : ∀ (d : D) (v : V), D.closed d = true → Rp K G ix v d → Rp K G ix' v d
  | .non, _, _, h => by cases h; exact .non
  | .bl _, _, _, h => by cases h; exact .bl _
  | .int _, _, _, h => by cases h; exact .int _
  | .str _, _, _, h => by cases h; exact .str _
  | .tup ds, _, c, h => by
    cases h with
    | tup a r => exact .tup a (Rps.closed ds _ (by simpa [D.closed] using c) r)
  | .lst ds, _, c, h => by
    cases h with
    | lst a r => exact .lst a (Rps.closed ds _ (by simpa [D.closed] using c) r)
  | .scr _, _, _, h => by
    cases h with
    | scr a => exact .scr a
  | .obj _, _, c, _ => by simp [D.closed] at c
  | .ex _, _, _, h => by
    cases h with
    | ex a => exact .ex a
theorem Rps.closed : ∀ (ds : List D) (vs : List V), D.closeds ds = true → Rps K G ix vs ds → Rps K G ix' vs ds
  | [], _, _, h => by cases h; exact .nil
  | d :: ds, _, c, h => by
    simp only [D.closeds, Bool.and_eq_true] at c
    cases h with
    | cons a r => exact .cons (Rp.closed d _ c.1 a) (Rps.closed ds _ c.2 r)
end
theorem Rps.length : ∀ {vs : List V} {ds : List D}, Rps K G ix vs ds → vs.length = ds.length
  | _, _, .nil => rfl
  | _, _, .cons _ r => by rw [List.length_cons, List.length_cons, Rps.length r]
theorem Rps.get : ∀ {vs : List V} {ds : List D} {i : Nat} {d : D}, Rps K G ix vs ds → ds[i]? = some d → ∃ v, vs[i]? = some v ∧ Rp K G ix v d
  | _, _, _, _, .nil, e => by simp at e
  | _, _, 0, _, .cons a _, e => by simp at e; subst e; exact ⟨_, rfl, a⟩
  | _, _, i + 1, d, .cons _ r, e => by
    obtain ⟨v, h1, h2⟩ := Rps.get (i := i) (d := d) r (by simpa using e)
    exact ⟨v, by simpa using h1, h2⟩
theorem Rps.get' : ∀ {vs : List V} {ds : List D} {i : Nat} {v : V}, Rps K G ix vs ds → vs[i]? = some v → ∃ d, ds[i]? = some d ∧ Rp K G ix v d
  | _, _, _, _, .nil, e => by simp at e
  | _, _, 0, _, .cons a _, e => by simp at e; subst e; exact ⟨_, rfl, a⟩
  | _, _, i + 1, v, .cons _ r, e => by
    obtain ⟨d, h1, h2⟩ := Rps.get' (i := i) (v := v) r (by simpa using e)
    exact ⟨d, by simpa using h1, h2⟩
theorem Rps.append : ∀ {vs us : List V} {ds es : List D}, Rps K G ix vs ds → Rps K G ix us es → Rps K G ix (vs ++ us) (ds ++ es)
  | _, _, _, _, .nil, s => s
  | _, _, _, _, .cons a r, s => .cons a (Rps.append r s)
theorem Rps.set {v : V} {d : D} (a : Rp K G ix v d) : ∀ {vs : List V} {ds : List D} (i : Nat), Rps K G ix vs ds → Rps K G ix (vs.set i v) (ds.set i d)
  | _, _, _, .nil => .nil
  | _, _, 0, .cons _ r => .cons a r
  | _, _, i + 1, .cons b r => .cons b (Rps.set a i r)
theorem Rps.drop : ∀ {vs : List V} {ds : List D} (n : Nat), Rps K G ix vs ds → Rps K G ix (vs.drop n) (ds.drop n)
  | _, _, 0, r => r
  | _, _, _ + 1, .nil => .nil
  | _, _, n + 1, .cons _ r => Rps.drop n r
theorem Rps.take : ∀ {vs : List V} {ds : List D} (n : Nat), Rps K G ix vs ds → Rps K G ix (vs.take n) (ds.take n)
  | _, _, 0, _ => .nil
  | _, _, _ + 1, .nil => .nil
  | _, _, n + 1, .cons a r => .cons a (Rps.take n r)
theorem Rps.dropLast : ∀ {vs : List V} {ds : List D}, Rps K G ix vs ds → Rps K G ix vs.dropLast ds.dropLast
  | _, _, .nil => .nil
  | _, _, .cons _ .nil => .nil
  | _, _, .cons a (.cons b r) => .cons a (Rps.dropLast (.cons b r))
theorem Rps.reverse : ∀ {vs : List V} {ds : List D}, Rps K G ix vs ds → Rps K G ix vs.reverse ds.reverse
  | _, _, .nil => .nil
  | _, _, .cons a r => by
    rw [List.reverse_cons, List.reverse_cons]
    exact (Rps.reverse r).append (.cons a .nil)
theorem Rps.rep {vs : List V} {ds : List D} (r : Rps K G ix vs ds) : ∀ n : Nat, Rps K G ix (rep n vs) (rep n ds)
  | 0 => .nil
  | n + 1 => r.append (Rps.rep r n)
theorem Rps.ints : ∀ {vs : List V} {ds : List D} {ns : List Int}, Rps K G ix vs ds → intsOf ds = some ns → vs = ns.map V.int
  | _, _, _, .nil, e => by simp [intsOf] at e; subst e; rfl
  | _, _, ns, .cons (d := d) (ds := ds) a r, e => by
    cases d with
    | int i =>
      simp only [intsOf, Option.map_eq_some_iff] at e
      obtain ⟨ms, h1, h2⟩ := e
      subst h2
      cases a
      rw [Rps.ints r h1]
      rfl
    | _ => simp [intsOf] at e
theorem Rps.bls : ∀ {vs : List V} {ds : List D} {bs : List Bool}, Rps K G ix vs ds → blsOf ds = some bs → vs = bs.map V.bl
  | _, _, _, .nil, e => by simp [blsOf] at e; subst e; rfl
  | _, _, bs, .cons (d := d) (ds := ds) a r, e => by
    cases d with
    | bl i =>
      simp only [blsOf, Option.map_eq_some_iff] at e
      obtain ⟨ms, h1, h2⟩ := e
      subst h2
      cases a
      rw [Rps.bls r h1]
      rfl
    | _ => simp [blsOf] at e
theorem Rps.ofInts : ∀ (ns : List Int), Rps K G ix (ns.map V.int) (ns.map D.int)
  | [] => .nil
  | n :: ns => .cons (.int n) (Rps.ofInts ns)
end

/-- pairs, by their first parts and what their second parts stand for -/
def PRs {α β : Type} (R : α → β → Prop) (K : PySem.W.Frag) (G : Hp) (ix : List Addr) (us : List (α × V)) (kvs : List (β × D)) : Prop := Paired (fun (p : α × V) (q : β × D) => R p.1 q.1 ∧ Rp K G ix p.2 q.2) us kvs
theorem PRs.mono {α β : Type} {R : α → β → Prop} {K : PySem.W.Frag} {G G' : Hp} {ix ix' : List Addr} {us : List (α × V)} {kvs : List (β × D)} (h : PRs R K G ix us kvs) (g : Le G G') (x : Ixs ix ix') : PRs R K G' ix' us kvs :=
  L2.Paired.mapP h fun _ _ z => ⟨z.1, z.2.mono g x _ _⟩
def rK (a : Key) (b : Ky) : Prop := a = kyK b
def rT (a : List Key) (b : List Ky) : Prop := a = b.map kyK
def rF (a : Str) (b : Nat) : Prop := a = Str.ofString (fdName b) ∧ b < fdNames.length
/-- what stands at an address for a cell of the store -/
def CellR (K : PySem.W.Frag) (G : Hp) (ix : List Addr) (o : Option HO) : Cell → Prop
  | .lst xs => ∃ vs, o = some (.lst vs) ∧ Rps K G ix vs xs
  | .dK kvs => ∃ us, o = some (.dK us) ∧ PRs rK K G ix us kvs
  | .dT kvs => ∃ us, o = some (.dT us) ∧ PRs rT K G ix us kvs
  | .ins c fs => ∃ dx us, o = some (.ins (clsA K (clName c)) dx us) ∧ PRs rF K G ix us fs
  | .dead => True
theorem CellR.mono {K : PySem.W.Frag} {G G' : Hp} {ix ix' : List Addr} {o : Option HO} (g : Le G G') (x : Ixs ix ix') : ∀ {c : Cell}, CellR K G ix o c → CellR K G' ix' o c
  | .lst _, ⟨vs, h1, h2⟩ => ⟨vs, h1, h2.mono g x⟩
  | .dK _, ⟨us, h1, h2⟩ => ⟨us, h1, h2.mono g x⟩
  | .dT _, ⟨us, h1, h2⟩ => ⟨us, h1, h2.mono g x⟩
  | .ins _ _, ⟨dx, us, h1, h2⟩ => ⟨dx, us, h1, h2.mono g x⟩
  | .dead, _ => trivial
theorem CellR.some_ {K : PySem.W.Frag} {G : Hp} {ix : List Addr} {o : Option HO} : ∀ {c : Cell}, c ≠ .dead → CellR K G ix o c → ∃ u, o = some u
  | .lst _, _, ⟨vs, h1, _⟩ => ⟨_, h1⟩
  | .dK _, _, ⟨us, h1, _⟩ => ⟨_, h1⟩
  | .dT _, _, ⟨us, h1, _⟩ => ⟨_, h1⟩
  | .ins _ _, _, ⟨dx, us, h1, _⟩ => ⟨_, h1⟩
  | .dead, h, _ => absurd rfl h
/-- no live place of the store is p -/
def Free (ix : List Addr) (S : Store) (p : Addr) : Prop := ∀ (n : Nat) (c : Cell), ix[n]? = some p → S[n]? = some c → c = .dead
/-- the abstract heap bears the store and what is frozen -/
structure Good (K : PySem.W.Frag) (G : Hp) (ix : List Addr) (S : Store) (H : Hp) : Prop where
  le : Le G H
  len : ix.length = S.length
  there : ∀ a ∈ ix, ∃ o, H a = some o
  cel : ∀ (n : Nat) (c : Cell), S[n]? = some c → c ≠ .dead → ∃ a, ix[n]? = some a ∧ G a = none ∧ CellR K G ix (H a) c
  inj : ∀ (n m : Nat) (a : Addr) (c d : Cell), ix[n]? = some a → ix[m]? = some a → S[n]? = some c → S[m]? = some d → c ≠ .dead → d ≠ .dead → n = m
theorem Good.cell {K : PySem.W.Frag} {G : Hp} {ix : List Addr} {S : Store} {H : Hp} (g : Good K G ix S H) (n : Nat) (xs : List D) (h : S[n]? = some (.lst xs)) : ∃ a vs, ix[n]? = some a ∧ H a = some (.lst vs) ∧ G a = none ∧ Rps K G ix vs xs := by
  obtain ⟨a, h1, h2, vs, h3, h4⟩ := g.cel n _ h (by intro z; cases z)
  exact ⟨a, vs, h1, h3, h2, h4⟩
/-- from one moment to a later one -/
structure Stp (G : Hp) (ix : List Addr) (H : Hp) (G' : Hp) (ix' : List Addr) (H' : Hp) : Prop where
  g : Le G G'
  i : Ixs ix ix'
  keep : ∀ a o, H a = some o → a ∉ ix → H' a = some o
  there : ∀ a, H' a = none → H a = none
  new : ∀ a o, G' a = some o → G a = some o ∨ H a = none ∨ a ∈ ix ∨ ∃ vs, H a = some (.tup vs)
  fresh : ∀ a, a ∈ ix' → a ∈ ix ∨ H a = none
section
variable {G G1 G2 : Hp} {ix ix1 ix2 : List Addr} {H H1 H2 : Hp}
theorem Stp.refl : Stp G ix H G ix H := ⟨Le.refl _, Ixs.refl _, fun _ _ h _ => h, fun _ h => h, fun _ _ h => .inl h, fun _ h => .inl h⟩
theorem Stp.trans (a : Stp G ix H G1 ix1 H1) (b : Stp G1 ix1 H1 G2 ix2 H2) : Stp G ix H G2 ix2 H2 where
  g := a.g.trans b.g
  i := a.i.trans b.i
  keep := fun c o h hn => b.keep c o (a.keep c o h hn) fun z => (a.fresh c z).elim hn fun e => by rw [h] at e; cases e
  there := fun c h => a.there c (b.there c h)
  new := fun c o h => by
    rcases b.new c o h with h | h | h | ⟨vs, h⟩
    · exact a.new c o h
    · exact .inr (.inl (a.there c h))
    · rcases a.fresh c h with h | h
      · exact .inr (.inr (.inl h))
      · exact .inr (.inl h)
    · cases e : H c with
      | none => exact .inr (.inl rfl)
      | some u =>
        by_cases hc : c ∈ ix
        · exact .inr (.inr (.inl hc))
        · have := a.keep c u e hc
          rw [h] at this
          cases this
          exact .inr (.inr (.inr ⟨vs, rfl⟩))
  fresh := fun c h => by
    rcases b.fresh c h with h | h
    · exact a.fresh c h
    · exact .inr (a.there c h)
/-- a new object is laid that nobody tracks further -/
theorem Stp.lay {p : Addr} {o : HO} (hp : H p = none) : Stp G ix H G ix (upd H p o) := ⟨Le.refl _, Ixs.refl _, fun a u h _ => by rw [upd_ne (ne_of_none h hp)]; exact h,
  fun a h => by
    by_cases e : a = p
    · rw [e]; exact hp
    · rw [upd_ne e] at h; exact h, fun _ _ h => .inl h, fun _ h => .inl h⟩
end
section
variable {K : PySem.W.Frag} {G G1 : Hp} {ix ix1 : List Addr} {H H1 : Hp} {S : Store}
theorem Good.lay (g : Good K G ix S H) {p : Addr} {o : HO} (hp : H p = none) : Good K G ix S (upd H p o) where
  le := fun a u h => by rw [upd_ne (ne_of_none (g.le _ _ h) hp)]; exact g.le _ _ h
  len := g.len
  there := fun a h => by
    obtain ⟨u, e⟩ := g.there a h
    exact ⟨u, by rw [upd_ne (ne_of_none e hp)]; exact e⟩
  cel := fun n c h hc => by
    obtain ⟨a, h1, h2, h3⟩ := g.cel n c h hc
    obtain ⟨u, e⟩ := h3.some_ hc
    exact ⟨a, h1, h2, by rw [upd_ne (ne_of_none e hp)]; exact h3⟩
  inj := g.inj
/-- an object that no place of the store has is frozen -/
theorem Good.freeze (g : Good K G ix S H) {p : Addr} {o : HO} (hp : H p = some o) (hn : G p = none) (free : Free ix S p) : Good K (upd G p o) ix S H where
  le := fun a u h => by
    by_cases e : a = p
    · subst e; rw [upd_same] at h; cases h; exact hp
    · rw [upd_ne e] at h; exact g.le _ _ h
  len := g.len
  there := g.there
  cel := fun n c h hc => by
    obtain ⟨a, h1, h2, h3⟩ := g.cel n c h hc
    have ne : a ≠ p := fun e => hc (free n c (e ▸ h1) h)
    exact ⟨a, h1, by rw [upd_ne ne]; exact h2, h3.mono (fun b u q => by rw [upd_ne (ne_of_none q hn)]; exact q) (Ixs.refl _)⟩
  inj := g.inj
theorem Le.upd {p : Addr} {o : HO} (hn : G p = none) : Le G (upd G p o) := fun b u q => by rw [upd_ne (ne_of_none q hn)]; exact q
theorem Stp.freeze {p : Addr} {o : HO} {G0 : Hp} {ix0 : List Addr} {H0 : Hp} (s : Stp G0 ix0 H0 G ix H) (hn : G p = none) (h : H0 p = none ∨ p ∈ ix0 ∨ ∃ vs, H0 p = some (.tup vs)) : Stp G0 ix0 H0 (upd G p o) ix H where
  g := s.g.trans (Le.upd hn)
  i := s.i
  keep := s.keep
  there := s.there
  new := fun a u q => by
    by_cases e : a = p
    · subst e; exact .inr h
    · rw [upd_ne e] at q; exact s.new a u q
  fresh := s.fresh
theorem Good.notG (g : Good K G ix S H) {p : Addr} (h : H p = none) : G p = none := by
  cases q : G p with
  | none => rfl
  | some o => rw [g.le _ _ q] at h; cases h
theorem Good.notIx (g : Good K G ix S H) {p : Addr} (h : H p = none) : p ∉ ix := fun z => by
  obtain ⟨o, e⟩ := g.there p z
  rw [h] at e; cases e
theorem Good.free (g : Good K G ix S H) {p : Addr} (h : H p = none) : Free ix S p := fun n _ e _ => absurd (List.mem_of_getElem? e) (g.notIx h)
/-- a new frozen object -/
theorem Good.newG (g : Good K G ix S H) {p : Addr} {o : HO} (hp : H p = none) : Good K (upd G p o) ix S (upd H p o) :=
  (g.lay hp).freeze upd_same (g.notG hp) (g.free hp)
theorem Stp.newG (g : Good K G ix S H) {p : Addr} {o : HO} (hp : H p = none) : Stp G ix H (upd G p o) ix (upd H p o) := (Stp.lay hp).freeze (g.notG hp) (.inl hp)
end

/-- the value of W -/
def RpW (K : PySem.W.Frag) (ix0 : List Addr) (H0 : Hp) (G : Hp) (ix : List Addr) (S : Store) (H : Hp) (v : V) : W → Prop
  | .d x => Rp K G ix v x
  | .fl xs => ∃ p vs, v = .ref p ∧ H p = some (.lst vs) ∧ G p = none ∧ Free ix S p ∧ (H0 p = none ∨ p ∈ ix0) ∧ Rps K G ix vs xs
/-- what is wanted behind an expression that comes to w and S', begun at G, ix, H -/
def PostE (K : PySem.W.Frag) (G : Hp) (ix : List Addr) (H : Hp) (w : W) (S' : Store) (Q : VK) : Prop :=
  ∀ v G' ix' H', Stp G ix H G' ix' H' → Good K G' ix' S' H' → RpW K ix H G' ix' S' H' v w → Q v H'
section
variable {K : PySem.W.Frag} {G G1 : Hp} {ix ix1 : List Addr} {H H1 : Hp} {S S' : Store} {w : W} {Q : VK}
theorem RpW.back {ix0 : List Addr} {H0 : Hp} {G' : Hp} {ix' : List Addr} {H' : Hp} {v : V} (s : Stp G ix0 H0 G1 ix1 H1) (r : RpW K ix1 H1 G' ix' S' H' v w) : RpW K ix0 H0 G' ix' S' H' v w := by
  cases w with
  | d x => exact r
  | fl xs =>
    obtain ⟨p, vs, h1, h2, h3, h4, h5, h6⟩ := r
    refine ⟨p, vs, h1, h2, h3, h4, ?_, h6⟩
    rcases h5 with h5 | h5
    · exact .inl (s.there p h5)
    · exact (s.fresh p h5).symm
theorem PostE.from (q : PostE K G ix H w S' Q) (s : Stp G ix H G1 ix1 H1) : PostE K G1 ix1 H1 w S' Q := fun v G' ix' H' s' g r => q v G' ix' H' (s.trans s') g (r.back s)
/-- as data: what was just made is frozen -/
theorem RpW.data {ix0 : List Addr} {H0 : Hp} {G0 : Hp} {v : V} (s : Stp G0 ix0 H0 G ix H) (g : Good K G ix S H) (r : RpW K ix0 H0 G ix S H v w) : ∃ G', Stp G0 ix0 H0 G' ix H ∧ Good K G' ix S H ∧ Rp K G' ix v w.toD := by
  cases w with
  | d x => exact ⟨G, s, g, r⟩
  | fl xs =>
    obtain ⟨p, vs, h1, h2, h3, h4, h5, h6⟩ := r
    subst h1
    exact ⟨_, s.freeze h3 (h5.imp id .inl), g.freeze h2 h3 h4, .lst upd_same (h6.mono (Le.upd h3) (Ixs.refl _))⟩
/-- data out, nothing else changed -/
theorem PostE.same (q : PostE K G ix H w S Q) (g : Good K G ix S H) {v : V} (r : RpW K ix H G ix S H v w) : Q v H := q v G ix H Stp.refl g r
/-- a new list -/
theorem PostE.newL (q : PostE K G ix H w S Q) (g : Good K G ix S H) {p : Addr} {vs : List V} {xs : List D} (hp : H p = none) (hw : w = .fl xs) (r : Rps K G ix vs xs) : Q (.ref p) (upd H p (.lst vs)) := by
  subst hw
  exact q _ G ix _ (Stp.lay hp) (g.lay hp) ⟨p, vs, rfl, upd_same, g.notG hp, g.free hp, .inl hp, r⟩
/-- a new tuple -/
theorem PostE.newT (q : PostE K G ix H w S Q) (g : Good K G ix S H) {p : Addr} {vs : List V} {xs : List D} (hp : H p = none) (hw : w = .d (.tup xs)) (r : Rps K G ix vs xs) : Q (.ref p) (upd H p (.tup vs)) := by
  subst hw
  exact q _ _ ix _ (Stp.newG g hp) (g.newG hp) (.tup upd_same (r.mono (Le.upd (g.notG hp)) (Ixs.refl _)))
end
/-- the names' values -/
structure EnvR (K : PySem.W.Frag) (G : Hp) (ix : List Addr) (σ : L2.St) (env : Env) : Prop where
  len : env.length = σ.length
  get : ∀ (i : Nat) (d : D), env[i]? = some (some d) → ∃ v, σ[i]? = some (some v) ∧ Rp K G ix v d
section
variable {K : PySem.W.Frag} {G G' : Hp} {ix ix' : List Addr} {σ : L2.St} {env : Env}
theorem EnvR.mono (r : EnvR K G ix σ env) (g : Le G G') (x : Ixs ix ix') : EnvR K G' ix' σ env := ⟨r.len, fun i d h => by
  obtain ⟨v, h1, h2⟩ := r.get i d h
  exact ⟨v, h1, h2.mono g x _ _⟩⟩
theorem EnvR.stp {H H' : Hp} (r : EnvR K G ix σ env) (s : Stp G ix H G' ix' H') : EnvR K G' ix' σ env := r.mono s.g s.i
theorem EnvR.set (r : EnvR K G ix σ env) {v : V} {d : D} (h : Rp K G ix v d) (i : Nat) : EnvR K G ix (σ.set i (some v)) (env.set i (some d)) := ⟨by rw [List.length_set, List.length_set]; exact r.len, fun j x e => by
  by_cases hj : i = j
  · subst hj
    have hl : i < env.length := by
      have := (List.getElem?_eq_some_iff.mp e).1
      rwa [List.length_set] at this
    rw [List.getElem?_set_self hl] at e
    cases e
    exact ⟨v, by rw [List.getElem?_set_self (by rw [← r.len]; exact hl)], h⟩
  · rw [List.getElem?_set_ne hj] at e ⊢
    exact r.get j x e⟩
theorem EnvR.none (r : EnvR K G ix σ env) (i : Nat) : EnvR K G ix (σ.set i none) (env.set i none) := ⟨by rw [List.length_set, List.length_set]; exact r.len, fun j x e => by
  by_cases hj : i = j
  · subst hj
    have hl : i < env.length := by
      have := (List.getElem?_eq_some_iff.mp e).1
      rwa [List.length_set] at this
    rw [List.getElem?_set_self hl] at e
    cases e
  · rw [List.getElem?_set_ne hj] at e ⊢
    exact r.get j x e⟩
theorem EnvR.wipe (r : EnvR K G ix σ env) : ∀ vs : List Nat, EnvR K G ix (L2.wipe σ vs) (Nl.wipe env vs)
  | [] => r
  | v :: vs => (EnvR.wipe r vs).none v
end
end Nl

/-! The operations on values: what the small language has is what the model does. -/
namespace Nl
open PySem L2
theorem most_eq : most = sizeLine := rfl
theorem guard_ok {α : Type} {c : Bool} {r : Res α} {a : α} (h : guard' c r = .ok a) : c = true ∧ r = .ok a := by
  unfold guard' at h
  split at h
  · exact ⟨by assumption, h⟩
  · cases h
theorem dec_of {p : Prop} [Decidable p] (h : decide p = true) : p := of_decide_eq_true h
section
variable {K : PySem.W.Frag} {G : Hp} {ix : List Addr} {S : Store} {H : Hp} {v : V} {d : D}
/-! ### what a thing is -/
theorem pk_lst (g : Good K G ix S H) (r : Rp K G ix v d) {xs : List D} (h : pk S d = .lst xs) : ∃ a vs, v = .ref a ∧ H a = some (.lst vs) ∧ Rps K G ix vs xs := by
  cases r with
  | lst a q => cases h; exact ⟨_, _, rfl, g.le _ _ a, q⟩
  | @obj a n e =>
    simp only [pk] at h
    split at h
    · rename_i ys q
      cases h
      obtain ⟨a', vs, h1, h2, h3, h4⟩ := g.cell n _ q
      rw [e] at h1; cases h1
      exact ⟨_, vs, rfl, h2, h4⟩
    · cases h
  | _ => cases h
theorem pk_tup (g : Good K G ix S H) (r : Rp K G ix v d) {xs : List D} (h : pk S d = .tup xs) : ∃ a vs, v = .ref a ∧ H a = some (.tup vs) ∧ G a = some (.tup vs) ∧ Rps K G ix vs xs ∧ d = .tup xs := by
  cases r with
  | tup a q => cases h; exact ⟨_, _, rfl, g.le _ _ a, a, q, rfl⟩
  | obj e =>
    simp only [pk] at h
    split at h <;> cases h
  | _ => cases h
theorem pk_int (r : Rp K G ix v d) {i : Int} (h : pk S d = .int i) : v = .int i := by
  cases r with
  | int j => cases h; rfl
  | obj e =>
    simp only [pk] at h
    split at h <;> cases h
  | _ => cases h
theorem pk_bl (r : Rp K G ix v d) {i : Bool} (h : pk S d = .bl i) : v = .bl i := by
  cases r with
  | bl j => cases h; rfl
  | obj e =>
    simp only [pk] at h
    split at h <;> cases h
  | _ => cases h
theorem pk_non (r : Rp K G ix v d) (h : pk S d = .non) : v = .non := by
  cases r with
  | non => rfl
  | obj e =>
    simp only [pk] at h
    split at h <;> cases h
  | _ => cases h
theorem pk_str (r : Rp K G ix v d) {s : List Nat} (h : pk S d = .str s) : v = .str (toS s) := by
  cases r with
  | str j => cases h; rfl
  | obj e =>
    simp only [pk] at h
    split at h <;> cases h
  | _ => cases h
theorem pk_scr (g : Good K G ix S H) (r : Rp K G ix v d) {ns : List Int} (h : pk S d = .scr ns) : ∃ a, v = .ref a ∧ SqL K H a (ns.map V.int) := by
  cases r with
  | scr a => cases h; exact ⟨_, rfl, g.le.sql a⟩
  | obj e =>
    simp only [pk] at h
    split at h <;> cases h
  | _ => cases h
end
theorem toS_len (s : List Nat) : (toS s).length = s.length := by simp [toS, Str.length]
theorem toS_app (a b : List Nat) : toS a ++ toS b = toS (a ++ b) := by
  show Str.append _ _ = _
  simp [toS, Str.append]

/-! ### two ints, and other pairs -/
def pyB : Bop → Operator
  | .add => .Add
  | .sub => .Sub
  | .mul => .Mult
  | .fdiv => .FloorDiv
  | .mod => .Mod
  | .pow => .Pow
  | .shl => .LShift
  | .shr => .RShift
  | .band => .BitAnd
  | .bor => .BitOr
  | .bxor => .BitXor
open PyProof.Rows in
theorem tuple_mul1 (l : Addr) (items : Array Value) (n : Nat) (dd : Option Addr) (sl : Array (Option Value)) (u : Tok) :
    Meets (Builtin.«tuple.__mul__» ⟨[.ref l, .int 1 u], []⟩) (fun _ R s => s.heap.get? l = some { cls := .type "tuple", dict := dd, data := .seq items n, slots := sl } ∧ R (.ok (.ret (.ref l))) s) :=
  .of_wp fun prog w A R s h => by
    obtain ⟨hp, g, d, tk, os⟩ := s
    obtain ⟨hl, h⟩ := h
    have f1 := AutoSeq1.idx_int
    wp_walk using wpAny_loadPart' hl
    have c1 : (items.isEmpty || (1 : Int) == 1) = true := by simp
    repeat (first
      | (refine wpAny_ite_true (decide_eq_true c1) ?_; wp_walk using wpAny_loadPart' hl)
      | (refine wpAny_ite_false (decide_eq_false (by decide)) ?_; wp_walk using wpAny_loadPart' hl))
    exact ⟨_, rfl, h⟩
open PyProof.Rows in
theorem op_repT1 {X : Cx} : OpR X (binaryOp .Mult) (fun x y H Q => ∃ l xs, x = .ref l ∧ y = .int 1 ∧ SqT X.K H l xs ∧ Q (.ref l) H) := by
  intro pins s σ H x y v u Q I rx ry h
  obtain ⟨l, xs, rfl, rfl, hT, q⟩ := h
  cases rx
  obtain ⟨t, rfl⟩ := ry
  obtain ⟨its, r, ⟨⟨cls, dd, data, sl⟩, ho, hc, n, hd⟩, hs⟩ := I.tuple hT
  simp only at hc hd
  subst hc hd
  exact wpAny_binaryOp_repeat_ref (T := "tuple") (U := "int") (by decide) ⟨_, ho, rfl⟩ (fun s' => typeIs_int s' 1 t) noFill_tuple_mul F.fills_int_mul F.slot_int_rmul repeat_tuple F.slot_int_index.lookup
    (call_meets F.slot_int_rmul (typeIs_int s 1 t) F.entry_int_rmul (F.args_int_rmul_2 _ _) (int_rmul_tuple 1 t l its.toArray n dd sl)
      ⟨ho, rfl, ⟨_, ho, rfl⟩, call_meets F.slot_tuple_mul ⟨_, ho, rfl⟩ F.entry_tuple_mul (F.args_tuple_mul_2 _ _) (tuple_mul1 l its.toArray n dd sl t) ⟨ho, .ref l, _, I, rfl, q⟩⟩)
section
variable {X : Cx}
theorem bitAnd_nn {i j : Int} (hi : 0 ≤ i) (hj : 0 ≤ j) : Builtin.bitAnd i j = ((i.toNat &&& j.toNat : Nat) : Int) := PyProof.Rows.bitAnd_pp hi hj
theorem op_int (o : Bop) : OpR X (binaryOp (pyB o)) (fun x y H Q => ∃ i j d, x = .int i ∧ y = .int j ∧ intOp o i j = .ok (.int d) ∧ Q (.int d) H) := by
  intro pins s σ H x y v u Q I rx ry h
  obtain ⟨i, j, d, rfl, rfl, e, q⟩ := h
  cases o with
  | add => cases e; exact op_add pins s σ H _ _ v u Q I rx ry ⟨i, j, rfl, rfl, q⟩
  | sub => cases e; exact op_sub pins s σ H _ _ v u Q I rx ry ⟨i, j, rfl, rfl, q⟩
  | mul =>
    obtain ⟨c, e⟩ := guard_ok e
    cases e
    simp only [mulOk, Bool.or_eq_true, Bool.and_eq_true, decide_eq_true_eq] at c
    exact op_mul pins s σ H _ _ v u Q I rx ry ⟨i, j, rfl, rfl, c, q⟩
  | fdiv =>
    obtain ⟨c, e⟩ := guard_ok e
    cases e
    simp only [Bool.and_eq_true, decide_eq_true_eq] at c
    exact op_fdiv pins s σ H _ _ v u Q I rx ry ⟨i, j, rfl, rfl, c, q⟩
  | mod =>
    obtain ⟨c, e⟩ := guard_ok e
    cases e
    exact op_mod pins s σ H _ _ v u Q I rx ry ⟨i, j, rfl, rfl, dec_of c, q⟩
  | pow =>
    obtain ⟨c, e⟩ := guard_ok e
    cases e
    simp only [powOk, Bool.and_eq_true, decide_eq_true_eq] at c
    exact op_pow pins s σ H _ _ v u Q I rx ry ⟨i, j, rfl, rfl, c, q⟩
  | shl =>
    obtain ⟨c, e⟩ := guard_ok e
    cases e
    simp only [powOk, Bool.and_eq_true, decide_eq_true_eq] at c
    exact op_shl pins s σ H _ _ v u Q I rx ry ⟨i, j, rfl, rfl, c, q⟩
  | shr =>
    obtain ⟨c, e⟩ := guard_ok e
    cases e
    exact op_shr pins s σ H _ _ v u Q I rx ry ⟨i, j, rfl, rfl, dec_of c, q⟩
  | band =>
    obtain ⟨c, e⟩ := guard_ok e
    cases e
    simp only [Bool.and_eq_true, decide_eq_true_eq] at c
    exact op_and pins s σ H _ _ v u Q I rx ry ⟨i, j, rfl, rfl, by show Q (.int (Builtin.bitAnd i j)) H; rw [bitAnd_nn c.1 c.2]; exact q⟩
  | bor =>
    obtain ⟨c, e⟩ := guard_ok e
    cases e
    simp only [Bool.and_eq_true, decide_eq_true_eq] at c
    exact op_or pins s σ H _ _ v u Q I rx ry ⟨i, j, rfl, rfl, by show Q (.int (Builtin.bitOr i j)) H; rw [Bits.bitOr_pp c.1 c.2]; exact q⟩
  | bxor =>
    obtain ⟨c, e⟩ := guard_ok e
    cases e
    simp only [Bool.and_eq_true, decide_eq_true_eq] at c
    exact op_xor pins s σ H _ _ v u Q I rx ry ⟨i, j, rfl, rfl, by show Q (.int (Builtin.bitXor i j)) H; rw [Bits.bitXor_pp c.1 c.2]; exact q⟩
theorem intOp_int {o : Bop} {i j : Int} {d : D} (h : intOp o i j = .ok d) : ∃ k, d = .int k := by
  cases o <;> simp only [intOp, guard'] at h <;> (try split at h) <;> cases h <;> exact ⟨_, rfl⟩
theorem rep_eq {α : Type} (n : Nat) (xs : List α) : (List.replicate n xs).flatten = rep n xs := by
  induction n with
  | zero => rfl
  | succ n ih => rw [List.replicate_succ, List.flatten_cons, ih]; rfl
def rBin (K : PySem.W.Frag) (o : Bop) : R2 := fun x y H Q => ∃ G ix S dx dy w, Good K G ix S H ∧ Rp K G ix x dx ∧ Rp K G ix y dy ∧ binOp o (pk S dx) (pk S dy) = .ok w ∧ PostE K G ix H w S Q
theorem op_bin (o : Bop) : OpR X (binaryOp (pyB o)) (rBin X.K o) := by
  intro pins s σ H x y v u Q I rx ry h
  obtain ⟨G, ix, S, dx, dy, w, g, hx, hy, e, q⟩ := h
  generalize ea : pk S dx = a at e
  generalize eb : pk S dy = b at e
  unfold binOp at e
  split at e
  · rename_i i j
    cases pk_int hx ea
    cases pk_int hy eb
    rw [Res.bind_eq_ok] at e
    obtain ⟨d, h1, h2⟩ := e
    cases h2
    obtain ⟨k, rfl⟩ := intOp_int h1
    exact op_int o pins s σ H _ _ v u Q I rx ry ⟨i, j, k, rfl, rfl, h1, q.same g (.int k)⟩
  · rename_i xs ys
    obtain ⟨a, vs, rfl, h1, r1⟩ := pk_lst g hx ea
    obtain ⟨b, us, rfl, h2, r2⟩ := pk_lst g hy eb
    split at e
    · obtain ⟨c, e⟩ := guard_ok e
      cases e
      exact op_cat pins s σ H _ _ v u Q I rx ry ⟨a, b, vs, us, rfl, rfl, h1, h2, by rw [r1.length, r2.length]; exact dec_of c, fun p hp => q.newL g hp rfl (r1.append r2)⟩
    · cases e
  · rename_i xs ys
    obtain ⟨a, vs, rfl, h1, g1, r1, e1⟩ := pk_tup g hx ea
    obtain ⟨b, us, rfl, h2, g2, r2, e2⟩ := pk_tup g hy eb
    split at e
    · obtain ⟨c, e⟩ := guard_ok e
      cases e
      refine op_catA pins s σ H _ _ v u Q I rx ry ⟨a, b, vs, us, rfl, rfl, SqT.of h1, SqT.of h2, by rw [r1.length, r2.length]; exact dec_of c, fun z => ?_, fun _ z => ?_, fun _ _ p hp => q.newT g hp rfl (r1.append r2)⟩
      · subst z
        cases r1
        exact q.same g (.tup g2 r2)
      · subst z
        cases r2
        refine q.same g ?_
        rw [List.append_nil]
        exact .tup g1 r1
    · cases e
  · rename_i xs ys
    cases pk_str hx ea
    cases pk_str hy eb
    split at e
    · obtain ⟨c, e⟩ := guard_ok e
      cases e
      refine op_add_str pins s σ H _ _ v u Q I rx ry ⟨_, _, rfl, rfl, by rw [toS_len, toS_len]; exact dec_of c, ?_⟩
      rw [toS_app]
      exact q.same g (.str _)
    · cases e
  · rename_i xs k
    obtain ⟨a, vs, rfl, h1, r1⟩ := pk_lst g hx ea
    cases pk_int hy eb
    split at e
    · obtain ⟨c, e⟩ := guard_ok e
      cases e
      simp only [Bool.and_eq_true, decide_eq_true_eq] at c
      exact op_rep pins s σ H _ _ v u Q I rx ry ⟨a, k, vs, rfl, rfl, h1, c.1, c.2.1, by rw [r1.length]; exact c.2.2, fun p hp => by rw [rep_eq]; exact q.newL g hp rfl (r1.rep _)⟩
    · cases e
  · rename_i xs k
    obtain ⟨a, vs, rfl, h1, g1, r1, e1⟩ := pk_tup g hx ea
    cases pk_int hy eb
    split at e
    · obtain ⟨c, e⟩ := guard_ok e
      cases e
      simp only [Bool.and_eq_true, decide_eq_true_eq, Bool.not_eq_true'] at c
      by_cases k1 : k = 1
      · subst k1
        refine op_repT1 pins s σ H _ _ v u Q I rx ry ⟨a, vs, rfl, rfl, SqT.of h1, q.same g ?_⟩
        show Rp X.K _ _ _ (.tup (rep 1 xs))
        rw [show rep 1 xs = xs from by simp [rep]]
        exact .tup g1 r1
      · exact op_repT pins s σ H _ _ v u Q I rx ry ⟨a, k, vs, rfl, rfl, SqT.of h1, fun z => by subst z; cases r1; simp at c, by have := c.1; omega, c.2.1, by rw [r1.length]; exact c.2.2.1, fun p hp => by rw [rep_eq]; exact q.newT g hp rfl (r1.rep _)⟩
    · cases e
  · cases e
end

/-! ### data as the library has it -/
mutual
def toPy : D → PyData
  | .non => .none
  | .bl b => .bool b
  | .int i => .int i
  | .str s => .str (toS s)
  | .tup xs => .tuple (toPys xs)
  | .lst xs => .list (toPys xs)
  | .scr _ => .none
  | .obj _ => .none
  | .ex _ => .none
def toPys : List D → List PyData
  | [] => []
  | x :: xs => toPy x :: toPys xs
end
theorem dec_toS (a b : List Nat) : (toS a == toS b) = (a == b) := by
  rw [Bool.eq_iff_iff]
  simp only [beq_iff_eq]
  exact ⟨toS_inj, fun h => by rw [h]⟩
mutual
theorem eqB_py : ∀ (n m : Nat) (a b : D), okD n a = true → okD m b = true → PyData.eqv (toPy a) (toPy b) = eqB a b
  | n, m, a, b, ha, hb => by
    cases a with
    | scr _ => simp [okD] at ha
    | obj _ => simp [okD] at ha
    | ex _ => simp [okD] at ha
    | non => cases b <;> first | (simp [okD] at hb; done) | simp [toPy, PyData.eqv, eqB]
    | bl x => cases b <;> first | (simp [okD] at hb; done) | simp [toPy, PyData.eqv, eqB]
    | int x => cases b <;> first | (simp [okD] at hb; done) | simp [toPy, PyData.eqv, eqB]
    | str x => cases b <;> first | (simp [okD] at hb; done) | simp [toPy, PyData.eqv, eqB, dec_toS]
    | tup xs =>
      cases b with
      | tup ys =>
        cases n with
        | zero => simp [okD] at ha
        | succ n =>
          cases m with
          | zero => simp [okD] at hb
          | succ m =>
            simp only [toPy, PyData.eqv, eqB]
            exact eqBs_py n m xs ys (by simpa [okD] using ha) (by simpa [okD] using hb)
      | scr _ => simp [okD] at hb
      | obj _ => simp [okD] at hb
      | ex _ => simp [okD] at hb
      | _ => simp [toPy, PyData.eqv, eqB]
    | lst xs =>
      cases b with
      | lst ys =>
        cases n with
        | zero => simp [okD] at ha
        | succ n =>
          cases m with
          | zero => simp [okD] at hb
          | succ m =>
            simp only [toPy, PyData.eqv, eqB]
            exact eqBs_py n m xs ys (by simpa [okD] using ha) (by simpa [okD] using hb)
      | scr _ => simp [okD] at hb
      | obj _ => simp [okD] at hb
      | ex _ => simp [okD] at hb
      | _ => simp [toPy, PyData.eqv, eqB]
theorem eqBs_py : ∀ (n m : Nat) (a b : List D), okDs n a = true → okDs m b = true → PyData.eqvAll (toPys a) (toPys b) = eqBs a b
  | n, m, [], [], _, _ => by simp [toPys, PyData.eqvAll, eqBs]
  | n, m, [], _ :: _, _, _ => by simp [toPys, PyData.eqvAll, eqBs]
  | n, m, _ :: _, [], _, _ => by simp [toPys, PyData.eqvAll, eqBs]
  | n, m, a :: as, b :: bs, ha, hb => by
    simp only [okDs, Bool.and_eq_true] at ha hb
    simp only [toPys, PyData.eqvAll, eqBs]
    rw [eqB_py n m a b ha.1 hb.1, eqBs_py n m as bs ha.2 hb.2]
end
mutual
theorem lay_py : ∀ (n : Nat) (a : D), okD n a = true → (toPy a).canLay0 = true ∧ (toPy a).depth ≤ n
  | n, .non, _ => by simp [toPy, PyData.canLay0, PyData.depth]
  | n, .bl _, _ => by simp [toPy, PyData.canLay0, PyData.depth]
  | n, .int _, _ => by simp [toPy, PyData.canLay0, PyData.depth]
  | n, .str s, h => by
    refine ⟨?_, by simp [toPy, PyData.depth]⟩
    simp only [okD] at h
    simp only [toPy, PyData.canLay0, PyData.strOk, toS]
    simpa using h
  | 0, .tup _, h => by simp [okD] at h
  | 0, .lst _, h => by simp [okD] at h
  | n + 1, .tup xs, h => by
    obtain ⟨h1, h2⟩ := lays_py n xs (by simpa [okD] using h)
    simp only [toPy, PyData.canLay0, PyData.depth]
    exact ⟨h1, by omega⟩
  | n + 1, .lst xs, h => by
    obtain ⟨h1, h2⟩ := lays_py n xs (by simpa [okD] using h)
    simp only [toPy, PyData.canLay0, PyData.depth]
    exact ⟨h1, by omega⟩
  | _, .scr _, h => by simp [okD] at h
  | _, .obj _, h => by simp [okD] at h
theorem lays_py : ∀ (n : Nat) (a : List D), okDs n a = true → PyData.canLayAll0 (toPys a) = true ∧ PyData.depthAll (toPys a) ≤ n
  | n, [], _ => by simp [toPys, PyData.canLayAll0, PyData.depthAll]
  | n, x :: xs, h => by
    simp only [okDs, Bool.and_eq_true] at h
    obtain ⟨h1, h2⟩ := lay_py n x h.1
    obtain ⟨h3, h4⟩ := lays_py n xs h.2
    simp only [toPys, PyData.canLayAll0, PyData.depthAll, h1, h3, Bool.and_self, true_and]
    omega
end
theorem shaped_py {n : Nat} {a : D} (hn : n ≤ 64) (h : okD n a = true) : SeqAt.shaped (toPy a) = true := by
  obtain ⟨h1, h2⟩ := lay_py n a h
  unfold SeqAt.shaped
  rw [h1, Bool.true_and]
  exact decide_eq_true (Nat.le_trans h2 hn)
section
variable {K : PySem.W.Frag} {G : Hp} {ix : List Addr} {S : Store} {H : Hp}
mutual
theorem Rp.dp (le : Le G H) : ∀ (n : Nat) (d : D) (v : V), okD n d = true → Rp K G ix v d → Dp K H v (toPy d)
  | _, .non, _, _, h => by cases h; exact .non
  | _, .bl _, _, _, h => by cases h; exact .bl _
  | _, .int _, _, _, h => by cases h; exact .int _
  | _, .str _, _, _, h => by cases h; exact .str _
  | 0, .tup _, _, o, _ => by simp [okD] at o
  | 0, .lst _, _, o, _ => by simp [okD] at o
  | n + 1, .tup ds, _, o, h => by
    cases h with
    | tup a r => exact .tup (SqT.of (le _ _ a)) (Rps.dp le n ds _ (by simpa [okD] using o) r)
  | n + 1, .lst ds, _, o, h => by
    cases h with
    | lst a r => exact .lst (SqL.of (le _ _ a)) (Rps.dp le n ds _ (by simpa [okD] using o) r)
  | _, .scr _, _, o, _ => by simp [okD] at o
  | _, .obj _, _, o, _ => by simp [okD] at o
  | _, .ex _, _, o, _ => by simp [okD] at o
theorem Rps.dp (le : Le G H) : ∀ (n : Nat) (ds : List D) (vs : List V), okDs n ds = true → Rps K G ix vs ds → DpAll K H vs (toPys ds)
  | _, [], _, _, h => by cases h; exact .nil
  | n, d :: ds, _, o, h => by
    simp only [okDs, Bool.and_eq_true] at o
    cases h with
    | cons a r => exact .cons (Rp.dp le n d _ o.1 a) (Rps.dp le n ds _ o.2 r)
end
/-- .. at its top it may be a list of the store -/
theorem pk_dp (g : Good K G ix S H) {v : V} {d : D} (r : Rp K G ix v d) {n : Nat} (o : okD n (pk S d) = true) : Dp K H v (toPy (pk S d)) := by
  cases e : pk S d with
  | lst xs =>
    obtain ⟨a, vs, rfl, h1, h2⟩ := pk_lst g r e
    rw [e] at o
    cases n with
    | zero => simp [okD] at o
    | succ n => exact .lst (SqL.of h1) (h2.dp g.le n xs vs (by simpa [okD] using o))
  | tup xs =>
    obtain ⟨a, vs, rfl, h1, _, h2, _⟩ := pk_tup g r e
    rw [e] at o
    cases n with
    | zero => simp [okD] at o
    | succ n => exact .tup (SqT.of h1) (h2.dp g.le n xs vs (by simpa [okD] using o))
  | non => cases pk_non r e; exact .non
  | bl b => cases pk_bl r e; exact .bl b
  | int i => cases pk_int r e; exact .int i
  | str s => cases pk_str r e; exact .str _
  | scr _ => rw [e] at o; simp [okD] at o
  | obj _ => rw [e] at o; simp [okD] at o
  | ex _ => rw [e] at o; simp [okD] at o
theorem any_py {n m : Nat} : ∀ (ys : List D) (a : D), okDs n ys = true → okD m a = true → ((toPys ys).any fun z => PyData.eqv z (toPy a)) = ys.any fun y => eqB y a
  | [], _, _, _ => rfl
  | y :: ys, a, h, ha => by
    simp only [okDs, Bool.and_eq_true] at h
    simp only [toPys, List.any_cons, eqB_py n m y a h.1 ha, any_py ys a h.2 ha]
end

/-! ### comparisons -/
def pyC : Cop → CmpOp
  | .eq => .Eq
  | .ne => .NotEq
  | .lt => .Lt
  | .le => .LtE
  | .gt => .Gt
  | .ge => .GtE
  | .inn => .In
  | .nin => .NotIn
section
variable {X : Cx}
theorem flat_V {K : PySem.W.Frag} {G : Hp} {ix : List Addr} {v : V} {d : D} (r : Rp K G ix v d) (h : flat d = true) : flatV v = true := by
  cases r <;> first | rfl | simp [flat] at h
theorem flats_V {K : PySem.W.Frag} {G : Hp} {ix : List Addr} : ∀ {vs : List V} {ds : List D}, Rps K G ix vs ds → ds.all flat = true → vs.all flatV = true
  | _, _, .nil, _ => rfl
  | _, _, .cons a r, h => by
    rw [List.all_cons, Bool.and_eq_true] at h
    rw [List.all_cons, flat_V a h.1, flats_V r h.2]
    rfl
theorem eq_flat {K : PySem.W.Frag} {G : Hp} {ix : List Addr} {v u : V} {d e : D} (r : Rp K G ix v d) (q : Rp K G ix u e) (h : flat d = true) (k : flat e = true) : eqV v u = eqB d e := by
  cases r <;> first | (simp [flat] at h; done) | (cases q <;> first | (simp [flat] at k; done) | simp [eqV, eqB, dec_toS])
theorem in_flat {K : PySem.W.Frag} {G : Hp} {ix : List Addr} {u : V} {e : D} (q : Rp K G ix u e) (k : flat e = true) : ∀ {vs : List V} {ds : List D}, Rps K G ix vs ds → ds.all flat = true → inV u vs = ds.any fun y => eqB y e
  | _, _, .nil, _ => rfl
  | _, _, .cons a r, h => by
    rw [List.all_cons, Bool.and_eq_true] at h
    have ih := in_flat q k r h.2
    unfold inV at ih ⊢
    rw [List.any_cons, List.any_cons, ih, eq_flat a q h.1 k]
theorem okD_flat {n : Nat} {d : D} (h : flat d = true) : True := trivial
theorem ltInts_ok : ∀ {xs ys : List D} {r : Bool}, ltInts xs ys = some r → ∃ ns ms, intsOf xs = some ns ∧ intsOf ys = some ms ∧ HT.lexLt ns ms = r
  | [], [], r, h => by
    simp [ltInts] at h
    exact ⟨[], [], rfl, rfl, h.symm⟩
  | [], y :: ys, r, h => by
    cases y with
    | int j =>
      simp only [ltInts, Option.map_eq_some_iff] at h
      obtain ⟨r', h1, h2⟩ := h
      obtain ⟨ns, ms, h3, h4, _⟩ := ltInts_ok h1
      exact ⟨[], j :: ms, rfl, by simp [intsOf, h4], by rw [← h2]; rfl⟩
    | _ => simp [ltInts] at h
  | x :: xs, [], r, h => by
    cases x with
    | int j =>
      simp only [ltInts, Option.map_eq_some_iff] at h
      obtain ⟨r', h1, h2⟩ := h
      obtain ⟨ns, ms, h3, h4, _⟩ := ltInts_ok h1
      exact ⟨j :: ns, [], by simp [intsOf, h3], rfl, by rw [← h2]; rfl⟩
    | _ => simp [ltInts] at h
  | x :: xs, y :: ys, r, h => by
    cases x with
    | int i =>
      cases y with
      | int j =>
        simp only [ltInts, Option.map_eq_some_iff] at h
        obtain ⟨r', h1, h2⟩ := h
        obtain ⟨ns, ms, h3, h4, h5⟩ := ltInts_ok h1
        refine ⟨i :: ns, j :: ms, by simp [intsOf, h3], by simp [intsOf, h4], ?_⟩
        rw [HT.lexLt_cons, h5]
        exact h2
      | _ => simp [ltInts] at h
    | _ => simp [ltInts] at h
def rCmp (K : PySem.W.Frag) (o : Cop) : R2 := fun x y H Q => ∃ G ix S dx dy r, Good K G ix S H ∧ Rp K G ix x dx ∧ Rp K G ix y dy ∧ cmpOp o (pk S dx) (pk S dy) = .ok r ∧ Q (.bl r) H
theorem inOp_ok (hu : X.A.units + 65 < cLine) {pins : List (Addr × Obj)} {s : Shared} {σ : L2.St} {H : Hp} {x y : V} {v u : Value} {Q : VK} (I : Inv X pins σ H s) (rx : RelV x v) (ry : RelV y u) {G : Hp} {ix : List Addr} {S : Store} {dx dy : D} {r : Bool}
    (g : Good X.K G ix S H) (hx : Rp X.K G ix x dx) (hy : Rp X.K G ix y dy) (e : inOp (pk S dx) (pk S dy) = .ok r) (neg : Bool) (q : Q (.bl (if neg then !r else r)) H) : wpAny (model X.prog X.w) X.A (compareOp (if neg then .NotIn else .In) v u) (EP X pins σ Q) X.xe s := by
  unfold inOp at e
  split at e
  · rename_i ys eb
    obtain ⟨c, e⟩ := guard_ok e
    cases e
    simp only [Bool.and_eq_true] at c
    have ds := pk_dp g hy c.2
    rw [eb] at ds
    have c2 : okDs 39 ys = true := by have := c.2; rw [eb] at this; simpa [okD] using this
    have sh : SeqAt.shaped (.list (toPys ys)) = true := by
      have := shaped_py (n := 40) (by decide) c.2
      rw [eb] at this
      exact this
    cases neg with
    | false =>
      exact op_inD hu pins s σ H x y v u Q I rx ry ⟨_, _, pk_dp g hx c.1, ds, shaped_py (by decide) c.1, sh, by rw [any_py ys _ c2 c.1]; exact q⟩
    | true =>
      exact op_notInD hu pins s σ H x y v u Q I rx ry ⟨_, _, pk_dp g hx c.1, ds, shaped_py (by decide) c.1, sh, by rw [any_py ys _ c2 c.1]; exact q⟩
  · rename_i ys eb
    obtain ⟨c, e⟩ := guard_ok e
    cases e
    simp only [Bool.and_eq_true] at c
    obtain ⟨b, us, rfl, h2, g2, r2, e2⟩ := pk_tup g hy eb
    have hxf : pk S dx = dx := by
      cases dx with
      | obj n =>
        have := c.1
        simp only [pk] at this
        split at this <;> simp [flat] at this
      | _ => rfl
    rw [hxf] at c q
    have e1 := in_flat hx c.1 r2 c.2
    cases neg with
    | false => exact op_in_seq pins s σ H x _ v u Q I rx ry ⟨b, us, rfl, .inr (SqT.of h2), flat_V hx c.1, flats_V r2 c.2, by rw [e1]; exact q⟩
    | true => exact op_notIn_seq pins s σ H x _ v u Q I rx ry ⟨b, us, rfl, .inr (SqT.of h2), flat_V hx c.1, flats_V r2 c.2, by rw [e1]; exact q⟩
  · cases e
theorem op_cmp (o : Cop) (hu : X.A.units + 65 < cLine) : OpR X (compareOp (pyC o)) (rCmp X.K o) := by
  intro pins s σ H x y v u Q I rx ry h
  obtain ⟨G, ix, S, dx, dy, r, g, hx, hy, e, q⟩ := h
  have hu' : X.A.units + 64 < cLine := by omega
  have order : ∀ (o : Cop), (match pk S dx, pk S dy with
      | .int i, .int j => (match orderOp o i j with
        | some r => Res.ok r
        | none => .err)
      | .tup xs, .tup ys => (match o with
        | .lt => (match ltInts xs ys with
          | some r => .ok r
          | none => .err)
        | _ => .err)
      | _, _ => .err) = .ok r → wpAny (model X.prog X.w) X.A (compareOp (pyC o) v u) (EP X pins σ Q) X.xe s := by
    intro o e
    split at e
    · rename_i i j ea eb
      cases pk_int hx ea
      cases pk_int hy eb
      split at e
      · rename_i r' er
        cases e
        cases o with
        | lt => cases er; exact op_lt pins s σ H _ _ v u Q I rx ry ⟨i, j, rfl, rfl, q⟩
        | le => cases er; exact op_le pins s σ H _ _ v u Q I rx ry ⟨i, j, rfl, rfl, q⟩
        | gt => cases er; exact op_gt pins s σ H _ _ v u Q I rx ry ⟨i, j, rfl, rfl, q⟩
        | ge => cases er; exact op_ge pins s σ H _ _ v u Q I rx ry ⟨i, j, rfl, rfl, q⟩
        | _ => cases er
      · cases e
    · rename_i xs ys ea eb
      obtain ⟨a, vs, rfl, h1, g1, r1, e1⟩ := pk_tup g hx ea
      obtain ⟨b, us, rfl, h2, g2, r2, e2⟩ := pk_tup g hy eb
      split at e
      · split at e
        · rename_i r' er
          cases e
          obtain ⟨ns, ms, h3, h4, h5⟩ := ltInts_ok er
          have k1 := r1.ints h3
          have k2 := r2.ints h4
          subst k1 k2
          exact op_ltT (by omega) pins s σ H _ _ v u Q I rx ry ⟨a, b, ns, ms, rfl, rfl, SqT.of h1, SqT.of h2, by rw [h5]; exact q⟩
        · cases e
      · cases e
    · cases e
  cases o with
  | eq =>
    obtain ⟨c, e⟩ := guard_ok e
    cases e
    simp only [Bool.and_eq_true] at c
    exact op_eqD hu' pins s σ H x y v u Q I rx ry ⟨_, _, pk_dp g hx c.1, pk_dp g hy c.2, shaped_py (by decide) c.1, shaped_py (by decide) c.2, by rw [eqB_py 40 40 _ _ c.1 c.2]; exact q⟩
  | ne =>
    have e : (eqOp (pk S dx) (pk S dy)).bind (fun r => .ok (!r)) = .ok r := e
    rw [Res.bind_eq_ok] at e
    obtain ⟨r', e1, e2⟩ := e
    cases e2
    obtain ⟨c, e⟩ := guard_ok e1
    cases e
    simp only [Bool.and_eq_true] at c
    exact op_neD hu' pins s σ H x y v u Q I rx ry ⟨_, _, pk_dp g hx c.1, pk_dp g hy c.2, shaped_py (by decide) c.1, shaped_py (by decide) c.2, by rw [eqB_py 40 40 _ _ c.1 c.2]; exact q⟩
  | inn => exact inOp_ok hu I rx ry g hx hy e false q
  | nin =>
    have e : (inOp (pk S dx) (pk S dy)).bind (fun r => .ok (!r)) = .ok r := e
    rw [Res.bind_eq_ok] at e
    obtain ⟨r', e1, e2⟩ := e
    cases e2
    exact inOp_ok hu I rx ry g hx hy e1 true q
  | lt => exact order .lt e
  | le => exact order .le e
  | gt => exact order .gt e
  | ge => exact order .ge e
end
end Nl

/-! Subscripts, slices, built-ins, classes, methods of lists. -/
namespace Nl
open PySem L2
section
variable {X : Cx} {K : PySem.W.Frag} {G : Hp} {ix : List Addr} {S : Store} {H : Hp}
/-! ### subscripts -/
theorem ixN_eq (n : Nat) (i : Int) : L2.ixN n i = Nl.ixN n i := rfl
theorem atI_rp {vs : List V} {ds : List D} (r : Rps K G ix vs ds) {i : Int} {d : D} (h : Nl.atI ds i = some d) : ∃ v, L2.atI vs i = some v ∧ Rp K G ix v d := by
  unfold Nl.atI at h
  unfold L2.atI
  rw [ixN_eq, r.length]
  cases e : Nl.ixN ds.length i with
  | none => rw [e] at h; cases h
  | some j =>
    rw [e] at h
    exact r.get h
def rIxx (K : PySem.W.Frag) : R2 := fun x y H Q => ∃ G ix S dx dy d, Good K G ix S H ∧ Rp K G ix x dx ∧ Rp K G ix y dy ∧ ixOp (pk S dx) dy = .ok d ∧ PostE K G ix H (.d d) S Q
theorem ix_all : IxR X (rIxx X.K) := by
  intro value slice pins s σ H x y v u Q I rx ry h hs
  obtain ⟨G, ix, S, dx, dy, d, g, hx, hy, e, q⟩ := h
  unfold ixOp at e
  split at e
  · rename_i i
    cases hy
    split at e
    · rename_i xs ea
      obtain ⟨a, vs, rfl, h1, r1⟩ := pk_lst g hx ea
      split at e
      · rename_i d' ed
        cases e
        obtain ⟨v', e1, r2⟩ := atI_rp r1 ed
        exact ix_list value slice pins s σ H _ _ v u Q I rx ry ⟨a, vs, i, v', rfl, rfl, SqL.of h1, e1, q.same g r2⟩ hs
      · cases e
    · rename_i xs ea
      obtain ⟨a, vs, rfl, h1, _, r1, _⟩ := pk_tup g hx ea
      split at e
      · rename_i d' ed
        cases e
        obtain ⟨v', e1, r2⟩ := atI_rp r1 ed
        exact ix_tup value slice pins s σ H _ _ v u Q I rx ry ⟨a, vs, i, v', rfl, rfl, SqT.of h1, e1, q.same g r2⟩ hs
      · cases e
    · rename_i xs ea
      obtain ⟨a, rfl, h1⟩ := pk_scr g hx ea
      split at e
      · rename_i d' ed
        cases e
        have e1 : L2.atI (xs.map V.int) i = some (.int d') := by
          unfold Nl.atI at ed
          unfold L2.atI
          rw [ixN_eq, List.length_map]
          cases e2 : Nl.ixN xs.length i with
          | none => rw [e2] at ed; cases ed
          | some j =>
            rw [e2] at ed
            have ed : xs[j]? = some d' := ed
            show (xs.map V.int)[j]? = some (.int d')
            rw [List.getElem?_map, ed]
            rfl
        exact ix_list value slice pins s σ H _ _ v u Q I rx ry ⟨a, _, i, _, rfl, rfl, h1, e1, q.same g (.int d')⟩ hs
      · cases e
    · rename_i z ea
      cases pk_str hx ea
      obtain ⟨c, e⟩ := guard_ok e
      split at e
      · rename_i c' ed
        cases e
        exact ix_str value slice pins s σ H _ _ v u Q I rx ry ⟨toS z, i, c', rfl, rfl, by rw [toS_len]; exact dec_of c, (show L2.atI z i = some c' from ed), q.same g (.str [c'])⟩ hs
      · cases e
    · cases e
  · cases e
/-! ### slices -/
theorem slN_eq (n d : Nat) (o : Option Int) : HT.sIx n d o = slN n d o := by
  cases o with
  | none => rfl
  | some i => rfl
theorem cut_rp {vs : List V} {ds : List D} (r : Rps K G ix vs ds) (lo hi : Option Int) : Rps K G ix (cutV vs lo hi) (cut ds lo hi) := by
  unfold cutV cut
  rw [slN_eq, slN_eq, r.length]
  exact (r.drop _).take _
def rSll (K : PySem.W.Frag) : V → Option Int → Option Int → Hp → VK → Prop := fun x lo hi H Q => ∃ G ix S dx w, Good K G ix S H ∧ Rp K G ix x dx ∧ slOp (pk S dx) lo hi = .ok w ∧ PostE K G ix H w S Q
theorem sl_all : SlR X (rSll X.K) := by
  intro pins s σ H x v vl vu lo hi sl Q I rx hs pl pu h
  obtain ⟨G, ix, S, dx, w, g, hx, e, q⟩ := h
  unfold slOp at e
  split at e
  · rename_i xs ea
    cases e
    obtain ⟨a, vs, rfl, h1, r1⟩ := pk_lst g hx ea
    exact sl_list pins s σ H _ v vl vu lo hi sl Q I rx hs pl pu ⟨a, vs, rfl, SqL.of h1, fun p hp => q.newL g hp rfl (cut_rp r1 lo hi)⟩
  · rename_i xs ea
    cases e
    obtain ⟨a, vs, rfl, h1, g1, r1, _⟩ := pk_tup g hx ea
    refine sl_tupA pins s σ H _ v vl vu lo hi sl Q I rx hs pl pu ⟨a, vs, rfl, SqT.of h1, fun z => ?_, fun _ p hp => q.newT g hp rfl (cut_rp r1 lo hi)⟩
    rw [slN_eq, slN_eq, r1.length] at z
    have e1 : cut xs lo hi = xs := by
      unfold cut
      rw [z.1, z.2]
      simp
    refine q.same g ?_
    rw [e1]
    exact .tup g1 r1
  · rename_i z ea
    cases pk_str hx ea
    obtain ⟨c, e⟩ := guard_ok e
    cases e
    refine sl_str pins s σ H _ v vl vu lo hi sl Q I rx hs pl pu ⟨toS z, rfl, by rw [toS_len]; exact dec_of c, ?_⟩
    have e1 : cutS (toS z) lo hi = toS (cut z lo hi) := by
      unfold cutS cut
      rw [slN_eq, slN_eq, toS_len]
      rfl
    rw [e1]
    exact q.same g (.str _)
  · cases e
/-! ### built-ins -/
def biName : Bi → String
  | .len => "len"
  | .abs => "abs"
  | .sum => "sum"
  | .maxl => "max"
  | .minl => "min"
  | .max2 => "max"
  | .min2 => "min"
  | .any => "any"
  | .all => "all"
  | .int => "int"
  | .list => "list"
  | .tuple => "tuple"
  | .sorted => "sorted"
  | .sset => ""
  | .sortP => "sorted"
  | .repr => "repr"
/-- a built-in class (True), a built-in function -/
def biTy : Bi → Bool
  | .int => true
  | .list => true
  | .tuple => true
  | _ => false
def biVal (b : Bi) : Value := if biTy b then .type (biName b) else .builtin (biName b)
theorem maxOf_ok : ∀ (ns : List Int), ns ≠ [] → maxOf ns ∈ ns ∧ ∀ y ∈ ns, y ≤ maxOf ns
  | [], h => absurd rfl h
  | [x], _ => by simp [maxOf]
  | x :: y :: ys, _ => by
    obtain ⟨h1, h2⟩ := maxOf_ok (y :: ys) (by simp)
    unfold maxOf
    simp only
    split
    · refine ⟨by simp, fun z hz => ?_⟩
      rcases List.mem_cons.mp hz with rfl | hz
      · exact Int.le_refl _
      · have := h2 z hz; omega
    · refine ⟨List.mem_cons_of_mem _ h1, fun z hz => ?_⟩
      rcases List.mem_cons.mp hz with rfl | hz
      · omega
      · exact h2 z hz
theorem minOf_ok : ∀ (ns : List Int), ns ≠ [] → minOf ns ∈ ns ∧ ∀ y ∈ ns, minOf ns ≤ y
  | [], h => absurd rfl h
  | [x], _ => by simp [minOf]
  | x :: y :: ys, _ => by
    obtain ⟨h1, h2⟩ := minOf_ok (y :: ys) (by simp)
    unfold minOf
    simp only
    split
    · refine ⟨by simp, fun z hz => ?_⟩
      rcases List.mem_cons.mp hz with rfl | hz
      · exact Int.le_refl _
      · have := h2 z hz; omega
    · refine ⟨List.mem_cons_of_mem _ h1, fun z hz => ?_⟩
      rcases List.mem_cons.mp hz with rfl | hz
      · omega
      · exact h2 z hz
theorem insI_perm (x : Int) : ∀ ys : List Int, (insI x ys).Perm (x :: ys)
  | [] => .refl _
  | y :: ys => by
    unfold insI
    split
    · exact .refl _
    · exact ((insI_perm x ys).cons y).trans (.swap x y ys)
theorem sortI_perm : ∀ xs : List Int, (sortI xs).Perm xs
  | [] => .refl _
  | x :: xs => (insI_perm x (sortI xs)).trans ((sortI_perm xs).cons x)
theorem insI_sorted (x : Int) : ∀ ys : List Int, ys.Pairwise (· ≤ ·) → (insI x ys).Pairwise (· ≤ ·)
  | [], _ => by simp [insI]
  | y :: ys, h => by
    unfold insI
    split
    · rename_i hxy
      refine List.pairwise_cons.mpr ⟨fun z hz => ?_, h⟩
      rcases List.mem_cons.mp hz with rfl | hz
      · exact hxy
      · have := (List.pairwise_cons.mp h).1 z hz; omega
    · rename_i hxy
      obtain ⟨h1, h2⟩ := List.pairwise_cons.mp h
      refine List.pairwise_cons.mpr ⟨fun z hz => ?_, insI_sorted x ys h2⟩
      rcases List.mem_cons.mp ((insI_perm x ys).mem_iff.mp hz) with rfl | hz
      · omega
      · exact h1 z hz
theorem sortI_sorted : ∀ xs : List Int, (sortI xs).Pairwise (· ≤ ·)
  | [] => .nil
  | x :: xs => insI_sorted x _ (sortI_sorted xs)
theorem sorted_unique : ∀ {xs ys : List Int}, xs.Perm ys → xs.Pairwise (· ≤ ·) → ys.Pairwise (· ≤ ·) → xs = ys
  | [], ys, p, _, _ => by rw [List.nil_perm.mp p]
  | x :: xs, [], p, _, _ => by have := List.perm_nil.mp p; cases this
  | x :: xs, y :: ys, p, h1, h2 => by
    obtain ⟨a1, a2⟩ := List.pairwise_cons.mp h1
    obtain ⟨b1, b2⟩ := List.pairwise_cons.mp h2
    have e : x = y := by
      have m1 : x ∈ y :: ys := p.mem_iff.mp List.mem_cons_self
      have m2 : y ∈ x :: xs := p.mem_iff.mpr List.mem_cons_self
      have k1 : y ≤ x := by
        rcases List.mem_cons.mp m1 with e | m
        · omega
        · exact b1 x m
      have k2 : x ≤ y := by
        rcases List.mem_cons.mp m2 with e | m
        · omega
        · exact a1 y m
      omega
    subst e
    rw [sorted_unique (List.Perm.cons_inv p) a2 b2]
def rBi (K : PySem.W.Frag) (b : Bi) : List V → Hp → VK → Prop := fun vs H Q => ∃ G ix S ds w, Good K G ix S H ∧ Rps K G ix vs ds ∧ biOp b (ds.map (pk S)) = .ok w ∧ PostE K G ix H w S Q
theorem map1 {f : D → D} {ds : List D} {x : D} (h : ds.map f = [x]) : ∃ d, ds = [d] ∧ f d = x := by
  match ds, h with
  | [d], h => exact ⟨d, rfl, by simpa using h⟩
theorem map2 {f : D → D} {ds : List D} {x y : D} (h : ds.map f = [x, y]) : ∃ d e, ds = [d, e] ∧ f d = x ∧ f e = y := by
  match ds, h with
  | [d, e], h => exact ⟨d, e, rfl, by simpa using h⟩
theorem rps1 {vs : List V} {d : D} (r : Rps K G ix vs [d]) : ∃ v, vs = [v] ∧ Rp K G ix v d := by
  cases r with
  | cons a r => cases r; exact ⟨_, rfl, a⟩
theorem rps2 {vs : List V} {d e : D} (r : Rps K G ix vs [d, e]) : ∃ v u, vs = [v, u] ∧ Rp K G ix v d ∧ Rp K G ix u e := by
  cases r with
  | cons a r =>
    cases r with
    | cons b r => cases r; exact ⟨_, _, rfl, a, b⟩
/-- the pair that stands at an address -/
def prK (H : Hp) (x : V) : Int × Int := match x with
  | .ref t => (match H t with
    | some (.tup [.int i, .int j]) => (i, j)
    | _ => (0, 0))
  | _ => (0, 0)
theorem prs_of (g : Good K G ix S H) : ∀ {vs : List V} {ds : List D} {ps : List (Int × Int)}, Rps K G ix vs ds → prsOf ds = some ps → (∀ x ∈ vs, (∃ t, x = V.ref t ∧ H t = some (.tup [.int (prK H x).1, .int (prK H x).2])) ∧ Rp K G ix x (prD (prK H x))) ∧ vs.map (prK H) = ps
  | _, _, _, .nil, e => by
    simp [prsOf] at e
    subst e
    exact ⟨fun x hx => (by cases hx), rfl⟩
  | _, _, ps, .cons (v := v) (vs := vs) (d := d) (ds := ds) a r, e => by
    unfold prsOf at e
    split at e
    · rename_i h; cases h
    · rename_i i j xs h
      cases h
      obtain ⟨qs, e1, e2⟩ := Option.map_eq_some_iff.mp e
      obtain ⟨h1, h2⟩ := prs_of g r e1
      cases a with
      | tup k q =>
        rename_i t us
        cases q with
        | cons q1 q =>
          cases q with
          | cons q2 q =>
            cases q
            cases q1
            cases q2
            have hH := g.le _ _ k
            have hk : prK H (V.ref t) = (i, j) := by simp only [prK, hH]
            refine ⟨fun x hx => ?_, by rw [List.map_cons, h2, hk, ← e2]⟩
            rcases List.mem_cons.mp hx with rfl | hx
            · rw [hk]
              exact ⟨⟨t, rfl, hH⟩, .tup k (.cons (.int _) (.cons (.int _) .nil))⟩
            · exact h1 x hx
    · cases e
theorem prs_rps : ∀ {zs : List V}, (∀ z ∈ zs, Rp K G ix z (prD (prK H z))) → Rps K G ix zs (zs.map (prD ∘ prK H))
  | [], _ => .nil
  | z :: zs, h => .cons (h z List.mem_cons_self) (prs_rps fun y hy => h y (List.mem_cons_of_mem _ hy))
def leP (p q : Int × Int) : Prop := p.1 < q.1 ∨ (p.1 = q.1 ∧ p.2 ≤ q.2)
theorem lePr_iff {p q : Int × Int} : lePr p q = true ↔ leP p q := by simp [lePr, leP]
theorem insP_perm (x : Int × Int) : ∀ ys, (insP x ys).Perm (x :: ys)
  | [] => List.Perm.refl _
  | y :: ys => by
    unfold insP
    split
    · exact List.Perm.refl _
    · exact ((insP_perm x ys).cons y).trans (List.Perm.swap x y ys)
theorem sortPr_perm : ∀ xs, (sortPr xs).Perm xs
  | [] => List.Perm.refl _
  | x :: xs => (insP_perm x _).trans ((sortPr_perm xs).cons x)
theorem insP_sorted (x : Int × Int) : ∀ ys, ys.Pairwise leP → (insP x ys).Pairwise leP
  | [], _ => List.pairwise_singleton _ _
  | y :: ys, h => by
    obtain ⟨h1, h2⟩ := List.pairwise_cons.mp h
    unfold insP
    split
    · rename_i k
      have k := lePr_iff.mp k
      refine List.pairwise_cons.mpr ⟨fun z hz => ?_, h⟩
      rcases List.mem_cons.mp hz with rfl | hz
      · exact k
      · have := h1 z hz
        unfold leP at *
        omega
    · rename_i k
      have k : ¬ leP x y := fun z => k (lePr_iff.mpr z)
      refine List.pairwise_cons.mpr ⟨fun z hz => ?_, insP_sorted x ys h2⟩
      rcases List.mem_cons.mp ((insP_perm x ys).mem_iff.mp hz) with rfl | hz
      · unfold leP at *
        omega
      · exact h1 z hz
theorem sortPr_sorted : ∀ xs, (sortPr xs).Pairwise leP
  | [] => List.Pairwise.nil
  | x :: xs => insP_sorted x _ (sortPr_sorted xs)
theorem leP_uniq : ∀ {xs ys : List (Int × Int)}, xs.Perm ys → xs.Pairwise leP → ys.Pairwise leP → xs = ys
  | [], ys, p, _, _ => (List.Perm.nil_eq p)
  | x :: xs, [], p, _, _ => by have := p.length_eq; simp at this
  | x :: xs, y :: ys, p, a, b => by
    obtain ⟨a1, a2⟩ := List.pairwise_cons.mp a
    obtain ⟨b1, b2⟩ := List.pairwise_cons.mp b
    have hxy : x = y := by
      rcases List.mem_cons.mp (p.mem_iff.mp List.mem_cons_self) with h | h
      · exact h
      · rcases List.mem_cons.mp (p.mem_iff.mpr (List.mem_cons_self (a := y) (l := ys))) with h' | h'
        · exact h'.symm
        · have q1 := b1 x h
          have q2 := a1 y h'
          obtain ⟨x1, x2⟩ := x
          obtain ⟨y1, y2⟩ := y
          unfold leP at q1 q2
          simp only [Prod.mk.injEq] at *
          omega
    subst hxy
    rw [leP_uniq (List.Perm.cons_inv p) a2 b2]
theorem prs_uniq {H : Hp} {zs : List V} {ps : List (Int × Int)} (h : SrtO.Srtd (ltP (prK H)) zs) (p : (zs.map (prK H)).Perm ps) : zs.map (prK H) = sortPr ps := by
  refine leP_uniq (p.trans (sortPr_perm ps).symm) ?_ (sortPr_sorted ps)
  rw [List.pairwise_map]
  refine h.imp fun {x y} k => ?_
  have k := SrtO.lexB_no.mp k
  unfold leP
  omega
theorem log2_ltR {n : Nat} (h : n < 2 ^ 1920) : n.log2 < 1920 := by
  by_cases z : n = 0
  · subst z; decide
  · exact (Nat.log2_lt z).mpr h
theorem figs_strR (i : Int) : toS (figs i) = Str.ofString (toString i) := by
  rw [Str.ofString_eq_toList]
  rfl
theorem call_bi (b : Bi) (hb : b ≠ .sset) (hc : X.calm = true) : CallR X (biVal b) (rBi X.K b) := by
  intro pins s σ H xs us Q I r h
  obtain ⟨G, ix, S, ds, w, g, hv, e, q⟩ := h
  have one : ∀ {x : D}, ds.map (pk S) = [x] → ∃ v d, xs = [v] ∧ ds = [d] ∧ pk S d = x ∧ Rp X.K G ix v d := fun {x} em => by
    obtain ⟨d, rfl, ed⟩ := map1 em
    obtain ⟨v, rfl, rv⟩ := rps1 hv
    exact ⟨v, d, rfl, rfl, ed, rv⟩
  have two : ∀ {x y : D}, ds.map (pk S) = [x, y] → ∃ v u d e, xs = [v, u] ∧ ds = [d, e] ∧ pk S d = x ∧ pk S e = y ∧ Rp X.K G ix v d ∧ Rp X.K G ix u e := fun {x y} em => by
    obtain ⟨d, d', rfl, ed, ed'⟩ := map2 em
    obtain ⟨v, u, rfl, rv, ru⟩ := rps2 hv
    exact ⟨v, u, d, d', rfl, rfl, ed, ed', rv, ru⟩
  unfold biOp at e
  split at e
  · rename_i ys em
    cases e
    obtain ⟨v, d, rfl, rfl, ed, rv⟩ := one em
    obtain ⟨a, vs, rfl, h1, r1⟩ := pk_lst g rv ed
    exact call_len_seq pins s σ H _ us Q I r ⟨a, vs, rfl, .inl (SqL.of h1), by rw [r1.length]; exact q.same g (.int _)⟩
  · rename_i ys em
    cases e
    obtain ⟨v, d, rfl, rfl, ed, rv⟩ := one em
    obtain ⟨a, vs, rfl, h1, _, r1, _⟩ := pk_tup g rv ed
    exact call_len_seq pins s σ H _ us Q I r ⟨a, vs, rfl, .inr (SqT.of h1), by rw [r1.length]; exact q.same g (.int _)⟩
  · rename_i ys em
    cases e
    obtain ⟨v, d, rfl, rfl, ed, rv⟩ := one em
    obtain ⟨a, rfl, h1⟩ := pk_scr g rv ed
    exact call_len_seq pins s σ H _ us Q I r ⟨a, _, rfl, .inl h1, by rw [List.length_map]; exact q.same g (.int _)⟩
  · rename_i z em
    obtain ⟨c, e⟩ := guard_ok e
    cases e
    obtain ⟨v, d, rfl, rfl, ed, rv⟩ := one em
    cases pk_str rv ed
    exact call_len_str pins s σ H _ us Q I r ⟨toS z, rfl, by rw [toS_len]; exact dec_of c, by rw [toS_len]; exact q.same g (.int _)⟩
  · rename_i i em
    cases e
    obtain ⟨v, d, rfl, rfl, ed, rv⟩ := one em
    cases pk_int rv ed
    exact call_abs pins s σ H _ us Q I r ⟨i, rfl, q.same g (.int _)⟩
  · rename_i ys em
    obtain ⟨v, d, rfl, rfl, ed, rv⟩ := one em
    obtain ⟨a, vs, rfl, h1, r1⟩ := pk_lst g rv ed
    split at e
    · rename_i ns en
      cases e
      cases r1.ints en
      exact cr_sum hc pins s σ H _ us Q I r ⟨a, ns, rfl, SqL.of h1, q.same g (.int _)⟩
    · cases e
  · rename_i ys em
    obtain ⟨v, d, rfl, rfl, ed, rv⟩ := one em
    obtain ⟨a, vs, rfl, h1, r1⟩ := pk_lst g rv ed
    split at e
    · rename_i ns en
      obtain ⟨c, e⟩ := guard_ok e
      cases e
      cases r1.ints en
      have hne : ns ≠ [] := by intro z; subst z; simp at c
      obtain ⟨m1, m2⟩ := maxOf_ok ns hne
      refine cr_max hc pins s σ H _ us Q I r ⟨a, ns, rfl, SqL.of h1, List.length_pos_iff.mpr hne, fun m k1 k2 => ?_⟩
      have : m = maxOf ns := by have := k2 _ m1; have := m2 _ k1; omega
      rw [this]
      exact q.same g (.int _)
    · cases e
  · rename_i ys em
    obtain ⟨v, d, rfl, rfl, ed, rv⟩ := one em
    obtain ⟨a, vs, rfl, h1, r1⟩ := pk_lst g rv ed
    split at e
    · rename_i ns en
      obtain ⟨c, e⟩ := guard_ok e
      cases e
      cases r1.ints en
      have hne : ns ≠ [] := by intro z; subst z; simp at c
      obtain ⟨m1, m2⟩ := minOf_ok ns hne
      refine cr_min hc pins s σ H _ us Q I r ⟨a, ns, rfl, SqL.of h1, List.length_pos_iff.mpr hne, fun m k1 k2 => ?_⟩
      have : m = minOf ns := by have := k2 _ m1; have := m2 _ k1; omega
      rw [this]
      exact q.same g (.int _)
    · cases e
  · rename_i i j em
    cases e
    obtain ⟨v, u, d, d', rfl, rfl, ed, ed', rv, ru⟩ := two em
    cases pk_int rv ed
    cases pk_int ru ed'
    exact call_max2 hc pins s σ H _ us Q I r ⟨i, j, rfl, q.same g (.int _)⟩
  · rename_i i j em
    cases e
    obtain ⟨v, u, d, d', rfl, rfl, ed, ed', rv, ru⟩ := two em
    cases pk_int rv ed
    cases pk_int ru ed'
    exact call_min2 hc pins s σ H _ us Q I r ⟨i, j, rfl, q.same g (.int _)⟩
  · rename_i ys em
    obtain ⟨v, d, rfl, rfl, ed, rv⟩ := one em
    obtain ⟨a, vs, rfl, h1, r1⟩ := pk_lst g rv ed
    split at e
    · rename_i bs en
      cases e
      cases r1.bls en
      exact cr_any hc pins s σ H _ us Q I r ⟨a, bs, rfl, SqL.of h1, q.same g (.bl _)⟩
    · cases e
  · rename_i ys em
    obtain ⟨v, d, rfl, rfl, ed, rv⟩ := one em
    obtain ⟨a, vs, rfl, h1, r1⟩ := pk_lst g rv ed
    split at e
    · rename_i bs en
      cases e
      cases r1.bls en
      exact cr_all hc pins s σ H _ us Q I r ⟨a, bs, rfl, SqL.of h1, q.same g (.bl _)⟩
    · cases e
  · rename_i i em
    cases e
    obtain ⟨v, d, rfl, rfl, ed, rv⟩ := one em
    cases pk_int rv ed
    exact call_int1 pins s σ H _ us Q I r (.inl ⟨i, rfl, q.same g (.int _)⟩)
  · rename_i i em
    cases e
    obtain ⟨v, d, rfl, rfl, ed, rv⟩ := one em
    cases pk_bl rv ed
    exact call_int1 pins s σ H _ us Q I r (.inr ⟨i, rfl, q.same g (.int _)⟩)
  · rename_i ys em
    cases e
    obtain ⟨v, d, rfl, rfl, ed, rv⟩ := one em
    obtain ⟨a, vs, rfl, h1, r1⟩ := pk_lst g rv ed
    exact call_list_of pins s σ H _ us Q I r ⟨a, vs, rfl, .inl (SqL.of h1), fun p hp => q.newL g hp rfl r1⟩
  · rename_i ys em
    cases e
    obtain ⟨v, d, rfl, rfl, ed, rv⟩ := one em
    obtain ⟨a, vs, rfl, h1, _, r1, _⟩ := pk_tup g rv ed
    exact call_list_of pins s σ H _ us Q I r ⟨a, vs, rfl, .inr (SqT.of h1), fun p hp => q.newL g hp rfl r1⟩
  · rename_i ys em
    cases e
    obtain ⟨v, d, rfl, rfl, ed, rv⟩ := one em
    obtain ⟨a, vs, rfl, h1, r1⟩ := pk_lst g rv ed
    exact call_tuple_of pins s σ H _ us Q I r ⟨a, vs, rfl, .inl ⟨SqL.of h1, fun p hp => q.newT g hp rfl r1⟩⟩
  · rename_i ys em
    cases e
    obtain ⟨v, d, rfl, rfl, ed, rv⟩ := one em
    obtain ⟨a, vs, rfl, h1, g1, r1, _⟩ := pk_tup g rv ed
    exact call_tuple_of pins s σ H _ us Q I r ⟨a, vs, rfl, .inr ⟨SqT.of h1, q.same g (.tup g1 r1)⟩⟩
  · rename_i ys em
    obtain ⟨v, d, rfl, rfl, ed, rv⟩ := one em
    obtain ⟨a, vs, rfl, h1, r1⟩ := pk_lst g rv ed
    split at e
    · rename_i ns en
      cases e
      cases r1.ints en
      refine cr_sortedI pins s σ H _ us Q I r ⟨a, ns, rfl, SqL.of h1, fun ns' p k1 k2 hp => ?_⟩
      have : ns' = sortI ns := sorted_unique (k1.trans (sortI_perm ns).symm) k2 (sortI_sorted ns)
      rw [this]
      exact q.newL g hp rfl (Rps.ofInts _)
    · cases e
  · exact absurd rfl hb
  · rename_i ys em
    obtain ⟨v, d, rfl, rfl, ed, rv⟩ := one em
    obtain ⟨a, vs, rfl, h1, r1⟩ := pk_lst g rv ed
    split at e
    · rename_i ps en
      cases e
      obtain ⟨w1, w2⟩ := prs_of g r1 en
      refine cr_sortedPO pins s σ H _ us Q I r ⟨a, vs, prK H, rfl, SqL.of h1, fun x hx => (w1 x hx).1, fun zs p k1 k2 hp => ?_⟩
      have hm : ∀ z ∈ zs, z ∈ vs := fun z hz => k2.perm.mem_iff.mp hz
      have hs : zs.map (prK H) = sortPr ps := prs_uniq k1 (by rw [← w2]; exact k2.perm.map _)
      refine q.newL g hp rfl ?_
      rw [← hs, List.map_map]
      exact prs_rps fun z hz => (w1 z (hm z hz)).2
    · cases e
  · rename_i i em
    obtain ⟨c, e⟩ := guard_ok e
    cases e
    obtain ⟨v, d, rfl, rfl, ed, rv⟩ := one em
    cases pk_int rv ed
    refine SkE.call_repr_int pins s σ H _ us Q I r ⟨i, rfl, log2_ltR (dec_of c), ?_⟩
    show Q (.str (Str.ofString (toString i))) H
    rw [← figs_strR]
    exact q.same g (.str _)
  · cases e
/-! ### isinstance -/
def tyName : Ty → String
  | .int => "int"
  | .bool => "bool"
  | .str => "str"
  | .list => "list"
  | .tuple => "tuple"
theorem ty_of (g : Good K G ix S H) {v : V} {d : D} (r : Rp K G ix v d) {t : Ty} {b : Bool} (e : isTy t (pk S d) = .ok b) : ∃ T, TyX K H v (.type T) ∧ ∀ t' b', isTy t' (pk S d) = .ok b' → PySem.W.kitOne K (.type T) (.type (tyName t')) = some b' := by
  have fin : ∀ (T : String) (f : Ty → Bool), (∀ t', kitB T (tyName t') = some (f t')) → (∀ t', isTy t' (pk S d) = .ok (f t')) → ∀ t' b', isTy t' (pk S d) = .ok b' → PySem.W.kitOne K (.type T) (.type (tyName t')) = some b' := fun T f h1 h2 t' b' h3 => by
    rw [h2 t'] at h3
    cases h3
    exact kit_ty (h1 t')
  cases ed : pk S d with
  | non =>
    cases pk_non r ed
    rw [ed] at fin
    exact ⟨"NoneType", .base .non, fin _ (fun _ => false) (fun t' => by cases t' <;> decide +kernel) fun t' => rfl⟩
  | bl x =>
    cases pk_bl r ed
    rw [ed] at fin
    exact ⟨"bool", .base (.bl x), fin _ (fun t => t == .bool || t == .int) (fun t' => by cases t' <;> decide +kernel) fun t' => rfl⟩
  | int x =>
    cases pk_int r ed
    rw [ed] at fin
    exact ⟨"int", .base (.int x), fin _ (fun t => t == .int) (fun t' => by cases t' <;> decide +kernel) fun t' => rfl⟩
  | str x =>
    cases pk_str r ed
    rw [ed] at fin
    exact ⟨"str", .base (.str _), fin _ (fun t => t == .str) (fun t' => by cases t' <;> decide +kernel) fun t' => rfl⟩
  | tup xs =>
    obtain ⟨a, vs, rfl, h1, _, r1, _⟩ := pk_tup g r ed
    rw [ed] at fin
    exact ⟨"tuple", .base (.tup h1), fin _ (fun t => t == .tuple) (fun t' => by cases t' <;> decide +kernel) fun t' => rfl⟩
  | lst xs =>
    obtain ⟨a, vs, rfl, h1, r1⟩ := pk_lst g r ed
    rw [ed] at fin
    exact ⟨"list", .base (.lst h1), fin _ (fun t => t == .list) (fun t' => by cases t' <;> decide +kernel) fun t' => rfl⟩
  | scr xs =>
    obtain ⟨a, rfl, h1⟩ := pk_scr g r ed
    rw [ed] at fin
    have k := fin "list" (fun t => t == .list) (fun t' => by cases t' <;> decide +kernel) fun t' => rfl
    rcases h1 with (h1 | ⟨o, h1⟩) | ⟨o, its, n, hk, hc, _⟩
    · exact ⟨"list", .base (.lst h1), k⟩
    · exact ⟨"list", .base (.frz h1), k⟩
    · exact ⟨"list", .kList hk hc, k⟩
  | obj n => rw [ed] at e; cases e
  | ex n => rw [ed] at e; cases e
/-! ### methods of a list of the store -/
theorem ixs_mem {n : Nat} {a : Addr} (h : ix[n]? = some a) : a ∈ ix := List.mem_of_getElem? h
/-- what stands at a place is another thing now -/
theorem Good.updC (g : Good K G ix S H) {n : Nat} {a : Addr} {c c' : Cell} {o' : HO} (hn : ix[n]? = some a) (hs : S[n]? = some c) (hc : c ≠ .dead) (hc' : c' ≠ .dead) (r : CellR K G ix (some o') c') : Good K G ix (S.set n c') (upd H a o') := by
  obtain ⟨a', e1, e3, e4⟩ := g.cel n c hs hc
  rw [hn] at e1; cases e1
  have hl : n < S.length := (List.getElem?_eq_some_iff.mp hs).1
  have gne : ∀ b o, G b = some o → b ≠ a := fun b o q z => by subst z; rw [e3] at q; cases q
  refine ⟨fun b o q => ?_, by rw [List.length_set]; exact g.len, fun b hb => ?_, fun m d q hd => ?_, fun m k b zs ws h1 h2 h3 h4 h5 h6 => ?_⟩
  · rw [upd_ne (gne b o q)]; exact g.le b o q
  · by_cases e : b = a
    · subst e; exact ⟨_, upd_same⟩
    · rw [upd_ne e]; exact g.there b hb
  · by_cases e : n = m
    · subst e
      rw [List.getElem?_set_self hl] at q
      cases q
      exact ⟨a, hn, e3, by rw [upd_same]; exact r⟩
    · rw [List.getElem?_set_ne e] at q
      obtain ⟨b, f1, f3, f4⟩ := g.cel m d q hd
      have ne : b ≠ a := fun z => by subst z; exact e (g.inj n m b c d hn f1 hs q hc hd)
      exact ⟨b, f1, f3, by rw [upd_ne ne]; exact f4⟩
  · have live : ∀ (m : Nat) (d : Cell), (S.set n c')[m]? = some d → d ≠ .dead → ∃ w, S[m]? = some w ∧ w ≠ .dead := fun m d q hd => by
      by_cases e : n = m
      · subst e; exact ⟨c, hs, hc⟩
      · rw [List.getElem?_set_ne e] at q; exact ⟨d, q, hd⟩
    obtain ⟨z1, k1, l1⟩ := live m zs h3 h5
    obtain ⟨z2, k2, l2⟩ := live k ws h4 h6
    exact g.inj m k b z1 z2 h1 h2 k1 k2 l1 l2
/-- the list at a place is another one now -/
theorem Good.upd (g : Good K G ix S H) {n : Nat} {a : Addr} {xs ys : List D} {us : List V} (hn : ix[n]? = some a) (hs : S[n]? = some (.lst xs)) (r : Rps K G ix us ys) : Good K G ix (S.set n (.lst ys)) (upd H a (.lst us)) :=
  g.updC hn hs (by intro z; cases z) (by intro z; cases z) ⟨us, rfl, r⟩
theorem Stp.upd (g : Good K G ix S H) {n : Nat} {a : Addr} {o : HO} (hn : ix[n]? = some a) : Stp G ix H G ix (upd H a o) where
  g := Le.refl _
  i := Ixs.refl _
  keep := fun b u h hb => by rw [upd_ne (fun z => hb (by subst z; exact ixs_mem hn))]; exact h
  there := fun b h => by
    by_cases e : b = a
    · subst e; rw [upd_same] at h; cases h
    · rw [upd_ne e] at h; exact h
  new := fun _ _ h => .inl h
  fresh := fun _ h => .inl h
def meName : Me → String
  | .append => "append"
  | .extend => "extend"
  | .pop => "pop"
  | .reverse => "reverse"
  | .count => "count"
  | .insert => "insert"
/-- whether a value is None -/
def isNo : Value → Bool
  | .none => true
  | _ => false
theorem cnt_vals {A : Around} {s : Shared} : ∀ {vs : List V} {ds : List D} {us : List Value}, Rps K G ix vs ds → Vals vs us → ds.all noneOrInt = true →
    (∀ y ∈ us, SeqAt.EqAt A s y .none (isNo y)) ∧ us.countP isNo = ds.countP (fun d => decide (d = .non))
  | _, _, _, .nil, .nil, _ => ⟨fun _ h => (by cases h), rfl⟩
  | _, _, _, .cons r rs, .cons (b := u) v vs, h => by
    simp only [List.all_cons, Bool.and_eq_true] at h
    obtain ⟨h1, h2⟩ := cnt_vals (A := A) (s := s) rs vs h.2
    cases r with
    | non =>
      have e : u = .none := v
      subst e
      refine ⟨fun y hy => ?_, by simp [List.countP_cons, h2, isNo]⟩
      rcases List.mem_cons.mp hy with rfl | hy
      · exact SeqAt.EqAt.same _
      · exact h1 y hy
    | int i =>
      obtain ⟨t, rfl⟩ := (v : ∃ t, u = .int i t)
      refine ⟨fun y hy => ?_, by simp [List.countP_cons, h2, isNo]⟩
      rcases List.mem_cons.mp hy with rfl | hy
      · exact SeqAt.EqAt.int_none _ _
      · exact h1 y hy
    | _ => exact absurd h.1 (by simp [noneOrInt])
def rMe (K : PySem.W.Frag) (m : Me) : V → List V → Hp → VK → Prop := fun x vs H Q => ∃ G ix S n a ds w S', Good K G ix S H ∧ x = .ref a ∧ ix[n]? = some a ∧ Rps K G ix vs ds ∧ meOp m n ds S = .ok (w, S') ∧ PostE K G ix H w S' Q
theorem mt_me (m : Me) : MtR X ("list." ++ meName m) (rMe X.K m) := by
  intro pins s σ H x xs v us Q I rx rxs h
  obtain ⟨G, ix, S, n, a, ds, w, S', g, rfl, hn, rv, e, q⟩ := h
  unfold meOp at e
  split at e
  · rename_i ys hs
    obtain ⟨a', vs, e1, e2, e3, e4⟩ := g.cell n ys hs
    rw [hn] at e1; cases e1
    split at e
    · rename_i d
      obtain ⟨c, e⟩ := guard_ok e
      cases e
      obtain ⟨v', rfl, r1⟩ := rps1 rv
      exact mt_append pins s σ H _ _ v us Q I rx rxs ⟨a, vs, v', rfl, rfl, e2, by rw [e4.length]; exact dec_of c, q _ _ _ _ (Stp.upd g hn) (g.upd hn hs (e4.append (.cons r1 .nil))) .non⟩
    · rename_i d
      obtain ⟨v', rfl, r1⟩ := rps1 rv
      split at e
      · rename_i zs ez
        obtain ⟨c, e⟩ := guard_ok e
        cases e
        obtain ⟨b, ws, rfl, f1, f2⟩ := pk_lst g r1 ez
        exact mt_extend pins s σ H _ _ v us Q I rx rxs ⟨a, b, vs, ws, rfl, rfl, e2, f1, by rw [e4.length, f2.length]; exact dec_of c, q _ _ _ _ (Stp.upd g hn) (g.upd hn hs (e4.append f2)) .non⟩
      · cases e
    · cases rv
      split at e
      · rename_i d ed
        cases e
        rw [List.getLast?_eq_getElem?] at ed
        obtain ⟨v', f1, f2⟩ := e4.get ed
        refine mt_pop pins s σ H _ _ v us Q I rx rxs ⟨a, vs, v', rfl, rfl, e2, by rw [e4.length]; exact f1, q _ _ _ _ (Stp.upd g hn) (g.upd hn hs e4.dropLast) f2⟩
      · cases e
    · cases rv
      cases e
      exact mt_reverse pins s σ H _ _ v us Q I rx rxs ⟨a, vs, rfl, rfl, e2, q _ _ _ _ (Stp.upd g hn) (g.upd hn hs e4.reverse) .non⟩
    · rename_i i d
      obtain ⟨c, e⟩ := guard_ok e
      cases e
      simp only [Bool.and_eq_true, decide_eq_true_eq] at c
      obtain ⟨v', u', rfl, r1, r2⟩ := rps2 rv
      cases r1
      exact mt_insert pins s σ H _ _ v us Q I rx rxs ⟨a, vs, i, u', rfl, rfl, e2, by rw [e4.length]; exact c.1, c.2.1, c.2.2, q _ _ _ _ (Stp.upd g hn) (g.upd hn hs (((e4.take i.toNat).append (.cons r2 .nil)).append (e4.drop i.toNat))) .non⟩
    · obtain ⟨c, e⟩ := guard_ok e
      cases e
      obtain ⟨v', rfl, r1⟩ := rps1 rv
      cases r1
      cases rx
      obtain ⟨u, rfl, ru⟩ := rxs.one
      have ru : u = .none := ru
      subst ru
      obtain ⟨z, its, k, r, hl, eo⟩ := I.lstM e2
      obtain ⟨c1, c2⟩ := cnt_vals (A := _) (s := s) e4 r c
      refine call_meets PySem.F.slot_list_count ⟨_, eo, rfl⟩ PySem.F.entry_list_count (PySem.F.args_list_count_2 _ _) (SeqAt.list_countAt a its.toArray k none #[] .none isNo) ⟨eo, fun y hy => c1 y (by simpa using hy), ?_⟩
      have hv : RpW X.K ix H G ix S H (.int ((ys.countP fun d => decide (d = .non) : Nat) : Int)) (.d (.int ((ys.countP fun d => decide (d = .non) : Nat) : Int))) := Rp.int _
      refine ⟨.int ((ys.countP fun d => decide (d = .non) : Nat) : Int), H, I.tok _, ⟨s.toks, ?_⟩, q.same g hv⟩
      show Value.int ((its.toArray.toList.countP isNo : Nat) : Int) s.toks = _
      rw [show its.toArray.toList = its from rfl, c2]
    · cases e
  · cases e
end
end Nl

/-! Which text of the model a text of the small language stands for. -/
namespace Nl
open PySem L2
/-- the module's names: its defs, its constants -/
structure Nms where
  fn : List (Str × Option Str)
  gl : List Str
  /-- classes whose instances are used -/
  cl : List Nat
  /-- refusals that may be raised; classes of refusals that are named -/
  xr : List Nat
  xc : List Nat
def vis (sc : Scope) (x : Str) : Bool := match sc.names.lookup x with
  | some .local => true
  | some .cell => true
  | some .free => true
  | _ => false
def loc (sc : Scope) (x : Str) : Bool := match sc.names.lookup x with
  | some .local => true
  | some .cell => true
  | _ => false
def glb (sc : Scope) (x : Str) : Bool := match sc.names.lookup x with
  | some .globalImplicit => true
  | _ => false
/-- no name of the machine's own -/
def okN (x : Str) : Bool := !(x == ("__debug__" : Str)) && (!(x == ("__classdict__" : Str)) && !(x == ("__name__" : Str)))
/-- a built-in's name that the text has as it is -/
def isB (sc : Scope) (s : String) (x : Str) : Bool := x == Str.ofString s && glb sc x
theorem vis_ok {sc : Scope} {x : Str} (h : vis sc x = true) : Vis sc x := by
  unfold vis at h
  split at h
  · exact .inl (by assumption)
  · exact .inr (.inl (by assumption))
  · exact .inr (.inr (by assumption))
  · cases h
theorem loc_ok {sc : Scope} {x : Str} (h : loc sc x = true) : Loc sc x := by
  unfold loc at h
  split at h
  · exact .inl (by assumption)
  · exact .inr (by assumption)
  · cases h
theorem glb_ok {sc : Scope} {x : Str} (h : glb sc x = true) : sc.names.lookup x = some .globalImplicit := by
  unfold glb at h
  split at h
  · assumption
  · cases h
theorem okN_ok {x : Str} (h : okN x = true) : (x == ("__debug__" : Str)) = false ∧ (x == ("__classdict__" : Str)) = false ∧ x ≠ "__name__" := by
  unfold okN at h
  simp only [Bool.and_eq_true, Bool.not_eq_true'] at h
  exact ⟨h.1, h.2.1, fun e => by rw [e] at h; simp at h⟩
/-- the names of a comprehension's own -/
def ownOf (N : List Str) (own : List Nat) : List (Str × Nat) := own.map fun i => (N.getD i Str.empty, i)
theorem ownOf_snd (N : List Str) (own : List Nat) : (ownOf N own).map (·.2) = own := by
  unfold ownOf
  rw [List.map_map]
  exact List.map_id' own
/-- a target: a name, or several -/
def chkNames (N : List Str) (sc : Scope) : List Nat → List Expr → Bool
  | [], [] => true
  | i :: is, .Name x _ :: xs => decide (N[i]? = some x) && (loc sc x && chkNames N sc is xs)
  | _, _ => false
def chkTg (N : List Str) (sc : Scope) : Tg → Expr → Bool
  | .n i, .Name x _ => decide (N[i]? = some x) && loc sc x
  | .t is, .Tuple xs _ _ => chkNames N sc is xs
  | _, _ => false
/-- what a method may be called of -/
def recv : Expr → Bool
  | .Name _ _ => true
  | .Subscript _ _ _ => true
  | .Attribute _ _ _ => true
  | .Call (.Attribute _ _ _) _ _ _ => true
  | .Call (.Name _ _) (_ :: _) _ _ => true
  | _ => false
theorem recv_base {o : Expr} (h : recv o = true) (f : Str) (env : PySem.Env) : attributeBase o f env (eval o env) = eval o env := by
  unfold recv at h
  split at h <;> first | rfl | cases h
/-- a class of the text -/
def clStr (c : Nat) : Str := Str.ofString (clName c)
/-- the class of a refusal by its name; behind them ValueError -/
def chkX (nm : Nms) (sc : Scope) (k : Nat) : Expr → Bool
  | .Name x _ => if k = exVE then isB sc "ValueError" x else (decide (x = Str.ofString (exName k)) && (nm.xc.contains k && (glb sc x && okN x)))
  | _ => false
def chkXs (nm : Nms) (sc : Scope) : List Nat → List Expr → Bool
  | [], [] => true
  | k :: ks, e :: es => chkX nm sc k e && chkXs nm sc ks es
  | _, _ => false
def isIfX : Expr → Bool
  | .IfExp _ _ _ _ => true
  | _ => false
/-- what may be a test -/
def tstE : E → Bool
  | .box _ => false
  | .unbox _ => false
  | .orv _ _ => false
  | _ => true
def okT (c : E) (e : Expr) : Bool := !isIfX e && tstE c
theorem okT_ok {c : E} {e : Expr} (h : okT c e = true) : isIfX e = false ∧ tstE c = true := by
  unfold okT at h
  simpa using h
def tgIs : Tg → List Nat
  | .n i => [i]
  | .t is => is
def isTupX : Expr → Bool
  | .Tuple _ _ _ => true
  | _ => false
def chkTy (sc : Scope) (t : Ty) : Expr → Bool
  | .Name x _ => isB sc (tyName t) x
  | _ => false
section
variable (nm : Nms) (N : List Str)
mutual
def chk : E → Scope → Expr → Bool
  | .var i, sc, e => (match e with
    | .Name x _ => decide (N[i]? = some x) && (vis sc x && okN x)
    | _ => false)
  | .non, _, e => (match e with
    | .Constant .none _ _ => true
    | _ => false)
  | .bl b, _, e => (match e with
    | .Constant (.bool c) _ _ => b == c
    | _ => false)
  | .int i, _, e => (match e with
    | .Constant (.int j) _ _ => decide (i = j)
    | _ => false)
  | .str s, _, e => (match e with
    | .Constant (.str x) _ _ => decide (x = toS s)
    | _ => false)
  | .glob g, sc, e => (match e with
    | .Name x _ => decide (nm.gl[g]? = some x) && (glb sc x && okN x)
    | _ => false)
  | .bin o a b, sc, e => (match e with
    | .BinOp l op r _ => decide (op = pyB o) && (chk a sc l && chk b sc r)
    | _ => false)
  | .neg a, sc, e => (match e with
    | .UnaryOp .USub x _ => chk a sc x
    | _ => false)
  | .cmp o a b, sc, e => (match e with
    | .Compare l [op] [r] _ => decide (op = pyC o) && (chk a sc l && chk b sc r)
    | _ => false)
  | .chain o o' a b c, sc, e => (match e with
    | .Compare l [p, q] [r, t] _ => decide (p = pyC o) && (decide (q = pyC o') && (chk a sc l && (chk b sc r && chk c sc t)))
    | _ => false)
  | .isN a, sc, e => (match e with
    | .Compare l [.Is] [.Constant .none _ _] _ => chk a sc l
    | _ => false)
  | .notN a, sc, e => (match e with
    | .Compare l [.IsNot] [.Constant .none _ _] _ => chk a sc l
    | _ => false)
  | .and a b, sc, e => (match e with
    | .BoolOp .And [x, y] _ => okT a x && (okT b y && (chk a sc x && chk b sc y))
    | .BoolOp .And (x :: y :: z :: r) p => okT a x && tstE b && (chk a sc x && chk b sc (.BoolOp .And (y :: z :: r) p))
    | _ => false)
  | .or a b, sc, e => (match e with
    | .BoolOp .Or [x, y] _ => okT a x && (okT b y && (chk a sc x && chk b sc y))
    | .BoolOp .Or (x :: y :: z :: r) p => okT a x && tstE b && (chk a sc x && chk b sc (.BoolOp .Or (y :: z :: r) p))
    | _ => false)
  | .not a, sc, e => (match e with
    | .UnaryOp .Not x _ => okT a x && chk a sc x
    | _ => false)
  | .ife c a b, sc, e => (match e with
    | .IfExp t x y _ => okT c t && (chk c sc t && (chk a sc x && chk b sc y))
    | _ => false)
  | .tup es, sc, e => (match e with
    | .Tuple xs _ _ => chks es sc xs
    | _ => false)
  | .lst es, sc, e => (match e with
    | .List xs _ => chks es sc xs
    | _ => false)
  | .ix a b, sc, e => (match e with
    | .Subscript x y _ => chk a sc x && chk b sc y
    | _ => false)
  | .sl a lo hi, sc, e => (match e with
    | .Subscript x (.Slice l h none _) _ => chk a sc x && ((match l with
        | none => isNonE lo
        | some y => !isNonE lo && chk lo sc y) && (match h with
        | none => isNonE hi
        | some y => !isNonE hi && chk hi sc y))
    | _ => false)
  | .call f es, sc, e => (match e with
    | .Call (.Name x _) args [] _ => decide (nm.fn[f]? = some (x, none)) && (glb sc x && (okN x && chks es sc args))
    | _ => false)
  | .bi b es, sc, e => (match e with
    | .Call (.Name x _) (a :: args) [] _ => (match b with
      | .sset => isB sc "sorted" x && (match a, args with
        | .Call (.Name y _) (c :: cs) [] _, [] => isB sc "set" y && (cs.isEmpty && chks es sc (c :: cs))
        | _, _ => false)
      | b => isB sc (biName b) x && chks es sc (a :: args))
    | _ => false)
  | .isi a t, sc, e => (match e with
    | .Call (.Name x _) [y, z] [] _ => isB sc "isinstance" x && (chk a sc y && chkTy sc t z)
    | _ => false)
  | .isis a ts, sc, e => (match e with
    | .Call (.Name x _) [y, .Tuple [z, u] _ _] [] _ => isB sc "isinstance" x && (chk a sc y && (match ts with
      | [t, t'] => chkTy sc t z && chkTy sc t' u
      | _ => false))
    | _ => false)
  | .me m a es, sc, e => (match e with
    | .Call (.Attribute o name apos) args [] cpos => decide (name = Str.ofString (meName m)) && (recv o && apos.endLine == cpos.line && (decide (args.length < 30) && (chk a sc o && chks es sc args)))
    | _ => false)
  | .lc el tg k a b own, sc, e => (match e with
    | .ListComp elt [⟨target, iter, [], 0⟩] scope _ => blkC N sc scope (ownOf N own) && ((tgIs tg).all (fun i => own.contains i) && chkTg N scope tg target && ((match k, iter with
        | .seq, it => chk a sc it && isNonE b
        | .rng1, .Call (.Name x _) [y] [] _ => isB sc "range" x && (chk a sc y && isNonE b)
        | .rng2, .Call (.Name x _) [y, z] [] _ => isB sc "range" x && (chk a sc y && chk b sc z)
        | .enm, .Call (.Name x _) [y] [] _ => isB sc "enumerate" x && (isTupX target && (chk a sc y && isNonE b))
        | .zp, .Call (.Name x _) [y, z] [] _ => isB sc "zip" x && (isTupX target && (chk a sc y && chk b sc z))
        | .rev, .Call (.Name x _) [y] [] _ => isB sc "reversed" x && (chk a sc y && isNonE b)
        | .rr1, .Call (.Name x _) [.Call (.Name y _) [z] [] _] [] _ => isB sc "reversed" x && (isB sc "range" y && (chk a sc z && isNonE b))
        | .rr2, .Call (.Name x _) [.Call (.Name y _) [z, u] [] _] [] _ => isB sc "reversed" x && (isB sc "range" y && (chk a sc z && chk b sc u))
        | _, _ => false) && chk el (relS scope sc) elt))
    | _ => false)
  | .lcIf el tg k a b c own, sc, e => (match e with
    | .ListComp elt [⟨target, iter, [i], 0⟩] scope _ => blkC N sc scope (ownOf N own) && ((tgIs tg).all (fun i => own.contains i) && chkTg N scope tg target && ((match k, iter with
        | .seq, it => chk a sc it && isNonE b
        | .rng1, .Call (.Name x _) [y] [] _ => isB sc "range" x && (chk a sc y && isNonE b)
        | .rng2, .Call (.Name x _) [y, z] [] _ => isB sc "range" x && (chk a sc y && chk b sc z)
        | .enm, .Call (.Name x _) [y] [] _ => isB sc "enumerate" x && (isTupX target && (chk a sc y && isNonE b))
        | .zp, .Call (.Name x _) [y, z] [] _ => isB sc "zip" x && (isTupX target && (chk a sc y && chk b sc z))
        | .rev, .Call (.Name x _) [y] [] _ => isB sc "reversed" x && (chk a sc y && isNonE b)
        | .rr1, .Call (.Name x _) [.Call (.Name y _) [z] [] _] [] _ => isB sc "reversed" x && (isB sc "range" y && (chk a sc z && isNonE b))
        | .rr2, .Call (.Name x _) [.Call (.Name y _) [z, u] [] _] [] _ => isB sc "reversed" x && (isB sc "range" y && (chk a sc z && chk b sc u))
        | _, _ => false) && (okT c i && chk c (relS scope sc) i && chk el (relS scope sc) elt)))
    | _ => false)
  | .lrng k a b, sc, e => (match e with
    | .Call (.Name x _) [.Call (.Name y _) args [] _] [] _ => isB sc "list" x && (isB sc "range" y && (match k, args with
      | .rng1, [u] => chk a sc u && isNonE b
      | .rng2, [u, v] => chk a sc u && chk b sc v
      | _, _ => false))
    | _ => false)
  | .trng k a b, sc, e => (match e with
    | .Call (.Name x _) [.Call (.Name y _) args [] _] [] _ => isB sc "tuple" x && (isB sc "range" y && (match k, args with
      | .rng1, [u] => chk a sc u && isNonE b
      | .rng2, [u, v] => chk a sc u && chk b sc v
      | _, _ => false))
    | _ => false)
  | .lsn a, sc, e => (match e with
    | .Call (.Name x _) [.Call (.Name y _) [u] [] _] [] _ => isB sc "len" x && (isB sc "set" y && chk a sc u)
    | _ => false)
  | .lidx a b, sc, e => (match e with
    | .Call (.Attribute o name apos) [u] [] cpos => decide (name = Str.ofString "index") && (recv o && apos.endLine == cpos.line && (chk a sc o && chk b sc u))
    | _ => false)
  | .isB neg b a, sc, e => (match e with
    | .Compare l [op] [.Constant (.bool c) _ _] _ => decide (op = if neg then .IsNot else .Is) && (b == c && chk a sc l)
    | _ => false)
  | .rev1 a, sc, e => (match e with
    | .Subscript x (.Slice none none (some (.UnaryOp .USub (.Constant (.int i) _ _) _)) _) _ => decide (i = 1) && chk a sc x
    | _ => false)
  | .orv a b, sc, e => (match e with
    | .BoolOp .Or [x, y] _ => chk a sc x && chk b sc y
    | _ => false)
  | .dnew _, _, e => (match e with
    | .Dict [] [] _ => true
    | _ => false)
  | .din neg k d, sc, e => (match e with
    | .Compare l [op] [r] _ => decide (op = if neg then .NotIn else .In) && (chk k sc l && chk d sc r)
    | _ => false)
  | .dget d k, sc, e => (match e with
    | .Subscript x y _ => chk d sc x && chk k sc y
    | _ => false)
  | .dgetD d k z, sc, e => (match e with
    | .Call (.Attribute o name apos) [x, y] [] cpos => decide (name = Str.ofString "get") && (recv o && apos.endLine == cpos.line && (chk d sc o && (chk k sc x && chk z sc y)))
    | _ => false)
  | .dlen d, sc, e => (match e with
    | .Call (.Name x _) [y] [] _ => isB sc "len" x && chk d sc y
    | _ => false)
  | .dlist d, sc, e => (match e with
    | .Call (.Name x _) [y] [] _ => isB sc "list" x && chk d sc y
    | _ => false)
  | .fld c a f, sc, e => (match e with
    | .Attribute o name _ => nm.cl.contains c && decide (name = Str.ofString (fdName f)) && (decide (f < fdNames.length) && (recv o && chk a sc o))
    | _ => false)
  | .meth f c a es, sc, e => (match e with
    | .Call (.Attribute o name apos) args [] cpos => nm.cl.contains c && decide (nm.fn[f]? = some (clStr c, some name)) && (!(fdNames.any fun g => Str.ofString g == name) && (recv o && apos.endLine == cpos.line && (decide (args.length < 30) && (chk a sc o && chks es sc args))))
    | _ => false)
  | .make f c es, sc, e => (match e with
    | .Call (.Name x _) args [] _ => decide (x = clStr c) && (decide (nm.fn[f]? = some (clStr c, some (Str.ofString "__init__"))) && (glb sc x && (okN x && chks es sc args)))
    | _ => false)
  | .isx al a ks, sc, e => (match e with
    | .Call (.Name x _) [y, z] [] _ => isB sc "isinstance" x && (al.all fun k => nm.xr.contains k) && (chk a sc y && (match z with
      | .Tuple zs _ _ => decide (ks.length ≤ 100) && chkXs nm sc ks zs
      | z => (match ks with
        | [k] => chkX nm sc k z
        | _ => false)))
    | _ => false)
  | .strI a, sc, e => (match e with
    | .Call (.Name x _) [y] [] _ => isB sc "str" x && chk a sc y
    | _ => false)
  | .revc a, sc, e => (match e with
    | .Subscript x (.Slice none (some (.Constant (.int i) _ _)) (some (.UnaryOp .USub (.Constant (.int j) _ _) _)) _) _ => decide (i = 0) && (decide (j = 1) && chk a sc x)
    | _ => false)
  | .box a, sc, e => chk a sc e
  | .unbox a, sc, e => chk a sc e
def chks : Es → Scope → List Expr → Bool
  | .nil, _, xs => xs.isEmpty
  | .cons e es, sc, xs => (match xs with
    | x :: xs => chk e sc x && chks es sc xs
    | [] => false)
end
end
/-! ### ordinary expressions: nothing of the machine's marks -/
def ord : Expr → Bool
  | .Constant _ _ _ => true
  | .Name _ _ => true
  | .BoolOp _ _ _ => true
  | .BinOp _ _ _ _ => true
  | .UnaryOp _ _ _ => true
  | .IfExp _ _ _ _ => true
  | .List _ _ => true
  | .Tuple _ _ _ => true
  | .ListComp _ _ _ _ => true
  | .Compare _ _ _ _ => true
  | .Call _ _ _ _ => true
  | .Subscript _ _ _ => true
  | .Attribute _ _ _ => true
  | .Dict _ _ _ => true
  | _ => false
theorem chk_ord {nm : Nms} {N : List Str} : ∀ (c : E) (sc : Scope) (e : Expr), chk nm N c sc e = true → ord e = true
  | .box a, sc, e, h => chk_ord a sc e (by simpa [chk] using h)
  | .unbox a, sc, e, h => chk_ord a sc e (by simpa [chk] using h)
  | .var _, _, e, h => by unfold chk at h; split at h <;> first | rfl | cases h
  | .non, _, e, h => by unfold chk at h; split at h <;> first | rfl | cases h
  | .bl _, _, e, h => by unfold chk at h; split at h <;> first | rfl | cases h
  | .int _, _, e, h => by unfold chk at h; split at h <;> first | rfl | cases h
  | .str _, _, e, h => by unfold chk at h; split at h <;> first | rfl | cases h
  | .glob _, _, e, h => by unfold chk at h; split at h <;> first | rfl | cases h
  | .bin _ _ _, _, e, h => by unfold chk at h; split at h <;> first | rfl | cases h
  | .neg _, _, e, h => by unfold chk at h; split at h <;> first | rfl | cases h
  | .cmp _ _ _, _, e, h => by unfold chk at h; split at h <;> first | rfl | cases h
  | .chain _ _ _ _ _, _, e, h => by unfold chk at h; split at h <;> first | rfl | cases h
  | .isN _, _, e, h => by unfold chk at h; split at h <;> first | rfl | cases h
  | .notN _, _, e, h => by unfold chk at h; split at h <;> first | rfl | cases h
  | .and _ _, _, e, h => by unfold chk at h; split at h <;> first | rfl | cases h
  | .or _ _, _, e, h => by unfold chk at h; split at h <;> first | rfl | cases h
  | .not _, _, e, h => by unfold chk at h; split at h <;> first | rfl | cases h
  | .ife _ _ _, _, e, h => by unfold chk at h; split at h <;> first | rfl | cases h
  | .tup _, _, e, h => by unfold chk at h; split at h <;> first | rfl | cases h
  | .lst _, _, e, h => by unfold chk at h; split at h <;> first | rfl | cases h
  | .ix _ _, _, e, h => by unfold chk at h; split at h <;> first | rfl | cases h
  | .sl _ _ _, _, e, h => by unfold chk at h; split at h <;> first | rfl | cases h
  | .call _ _, _, e, h => by unfold chk at h; split at h <;> first | rfl | cases h
  | .bi _ _, _, e, h => by unfold chk at h; split at h <;> first | rfl | cases h
  | .isi _ _, _, e, h => by unfold chk at h; split at h <;> first | rfl | cases h
  | .isis _ _, _, e, h => by unfold chk at h; split at h <;> first | rfl | cases h
  | .me _ _ _, _, e, h => by unfold chk at h; split at h <;> first | rfl | cases h
  | .isB _ _ _, _, e, h => by unfold chk at h; split at h <;> first | rfl | cases h
  | .rev1 _, _, e, h => by unfold chk at h; split at h <;> first | rfl | cases h
  | .orv _ _, _, e, h => by unfold chk at h; split at h <;> first | rfl | cases h
  | .dnew _, _, e, h => by unfold chk at h; split at h <;> first | rfl | cases h
  | .din _ _ _, _, e, h => by unfold chk at h; split at h <;> first | rfl | cases h
  | .dget _ _, _, e, h => by unfold chk at h; split at h <;> first | rfl | cases h
  | .dgetD _ _ _, _, e, h => by unfold chk at h; split at h <;> first | rfl | cases h
  | .dlen _, _, e, h => by unfold chk at h; split at h <;> first | rfl | cases h
  | .dlist _, _, e, h => by unfold chk at h; split at h <;> first | rfl | cases h
  | .fld _ _ _, _, e, h => by unfold chk at h; split at h <;> first | rfl | cases h
  | .meth _ _ _ _, _, e, h => by unfold chk at h; split at h <;> first | rfl | cases h
  | .make _ _ _, _, e, h => by unfold chk at h; split at h <;> first | rfl | cases h
  | .isx _ _ _, _, e, h => by unfold chk at h; split at h <;> first | rfl | cases h
  | .strI _, _, e, h => by unfold chk at h; split at h <;> first | rfl | cases h
  | .revc _, _, e, h => by unfold chk at h; split at h <;> first | rfl | cases h
  | .lrng _ _ _, _, e, h => by unfold chk at h; split at h <;> first | rfl | cases h
  | .trng _ _ _, _, e, h => by unfold chk at h; split at h <;> first | rfl | cases h
  | .lsn _, _, e, h => by unfold chk at h; split at h <;> first | rfl | cases h
  | .lidx _ _, _, e, h => by unfold chk at h; split at h <;> first | rfl | cases h
  | .lc _ _ _ _ _ _, _, e, h => by unfold chk at h; split at h <;> first | rfl | cases h
  | .lcIf _ _ _ _ _ _ _, _, e, h => by unfold chk at h; split at h <;> first | rfl | cases h
section
variable {env : PySem.Env}
theorem ord_star {e : Expr} (h : ord e = true) (es : List Expr) : starEach (e :: es) env = (false, eval e env) :: starEach es env := by
  cases e <;> first | rfl | cases h
theorem ord_ix {e : Expr} (h : ord e = true) : PlainIx e := by
  intro o i
  cases e <;> first | rfl | cases h
theorem ord_mark {e : Expr} (h : ord e = true) (op : CmpOp) : behindInMarks op e = false := by
  cases e <;> first | rfl | cases h
theorem ord_fold {e : Expr} (h : ord e = true) (x : Value) : foldedSetIterable e env x = pure x := by
  cases e <;> first | rfl | cases h
def isLc : Expr → Bool
  | .ListComp _ _ _ _ => true
  | _ => false
theorem ord_swap {e : Expr} (h : ord e = true) (hl : isLc e = false) (t : Option Expr) (l : Nat) : swapsWith e t l env = pure false := by
  cases e <;> first | rfl | (cases hl; done) | (cases h; done)
def isTup : Expr → Bool
  | .Tuple _ _ _ => true
  | _ => false
theorem chks_star {nm : Nms} {N : List Str} {sc : Scope} : ∀ (c : Es) (es : List Expr), chks nm N c sc es = true → ∀ (pos : Pos), (backTo pos (starEach es env)).any (·.1) = false
  | .nil, [], _, pos => rfl
  | .nil, _ :: _, h, pos => by simp [chks] at h
  | .cons c cs, [], h, pos => by simp [chks] at h
  | .cons c cs, e :: es, h, pos => by
    simp only [chks, Bool.and_eq_true] at h
    rw [ord_star (chk_ord c sc e h.1)]
    show (false || (backTo pos (starEach es env)).any (·.1)) = false
    rw [chks_star cs es h.2 pos]
    rfl
theorem chks_few {nm : Nms} {N : List Str} {sc : Scope} : ∀ (c : Es) (es : List Expr), chks nm N c sc es = true → ∀ (pos : Pos), (backTo pos (starEach es env)).all (fun x => !x.1) = true
  | .nil, [], _, pos => rfl
  | .nil, _ :: _, h, pos => by simp [chks] at h
  | .cons c cs, [], h, pos => by simp [chks] at h
  | .cons c cs, e :: es, h, pos => by
    simp only [chks, Bool.and_eq_true] at h
    rw [ord_star (chk_ord c sc e h.1)]
    show (true && (backTo pos (starEach es env)).all (fun x => !x.1)) = true
    rw [chks_few cs es h.2 pos]
    rfl
end
end Nl

/-! What a text of the small language comes to is what the text of the model does: expressions. -/
namespace Nl
open PySem L2
/-- what is wanted behind a raise -/
def PostX (K : PySem.W.Frag) (G : Hp) (ix : List Addr) (H : Hp) (k : Nat) (S' : Store) (E : XK) : Prop := ∀ G' ix' H', Stp G ix H G' ix' H' → Good K G' ix' S' H' → E (.ref (clsA K (exName k))) none H'
theorem PostX.from {K : PySem.W.Frag} {G G1 : Hp} {ix ix1 : List Addr} {H H1 : Hp} {k : Nat} {S' : Store} {E : XK} (q : PostX K G ix H k S' E) (s : Stp G ix H G1 ix1 H1) : PostX K G1 ix1 H1 k S' E := fun G' ix' H' s' g => q G' ix' H' (s.trans s') g
/-- what a call of the f-th def asks -/
def spF (K : PySem.W.Frag) (cf : Cf) (f : Nat) : Sp := fun vs H Q E => ∃ G ix S ds, Good K G ix S H ∧ Rps K G ix vs ds ∧ ((∃ w S', cf f ds S = .ok (w, S') ∧ PostE K G ix H w S' Q) ∨ ∃ k S', cf f ds S = .exc k S' ∧ PostX K G ix H k S' E)
/-- the widest wish about exceptions that a context takes -/
def Wof (X : Cx) : WX := fun cls d σ H => ∀ u s', XE X (fun cls' d' σ' H' => cls' = cls ∧ d' = d ∧ σ' = σ ∧ H' = H) u s' → X.xe u s'
theorem wof_takes (X : Cx) : Takes X (Wof X) := fun u s' ⟨a, B, sI, pins, σ, H, cls, d, e, I, nb, up, sky, na, os, ag, w⟩ => w u s' ⟨a, B, sI, pins, σ, H, cls, d, e, I, nb, up, sky, na, os, ag, rfl, rfl, rfl, rfl⟩
theorem wof_of {X : Cx} {W : WX} (tk : Takes X W) {cls : Value} {d : Option Addr} {σ : L2.St} {H : Hp} (h : W cls d σ H) : Wof X cls d σ H := fun u s' ⟨a, B, sI, pins, σ', H', cls', d', e, I, nb, up, sky, na, os, ag, h1, h2, h3, h4⟩ => by
  subst h1 h2 h3 h4
  exact tk u s' ⟨a, B, sI, pins, σ', H', cls', d', e, I, nb, up, sky, na, os, ag, h⟩
/-- the names of built-ins that texts may use -/
def bNames : List String := ["len", "abs", "sum", "max", "min", "any", "all", "int", "bool", "str", "list", "tuple", "sorted", "set", "isinstance", "range", "enumerate", "zip", "reversed", "ValueError", "repr"]
/-- the class of a refusal, as a value -/
def exV (K : PySem.W.Frag) (c : Nat) : Value := if c = exVE then .type "ValueError" else .ref (clsA K (exName c))
/-- what is known of the classes of refusals -/
structure XFacts (K : PySem.W.Frag) (mg : Str → Option Value) (xr xc : List Nat) : Prop where
  mgr : ∀ k ∈ xr, mg (Str.ofString (exName k)) = some (.ref (clsA K (exName k)))
  mg : ∀ k ∈ xc, mg (Str.ofString (exName k)) = some (.ref (clsA K (exName k)))
  exc : ∀ k ∈ xr, PySem.W.excIn K (clsA K (exName k)) He.veBase "ValueError.__new__" = true ∧ PySem.W.keepIn K (.ref (clsA K (exName k))) = true ∧ PySem.W.subIn K (.ref (clsA K (exName k))) (.type "BaseException") = some true ∧ PySem.W.typeIn K (.ref (clsA K (exName k))) = some (.type "type")
  is : ∀ k ∈ xr, ExcC K (clsA K (exName k))
  exm : ∀ k ∈ xr, ∀ c ∈ xc, PySem.W.exmOne K (.ref (clsA K (exName k))) (.ref (clsA K (exName c))) = some (isSub k c)
  kit : ∀ k ∈ xr, ∀ c, c ∈ xc ∨ c = exVE → PySem.W.kitOne K (.ref (clsA K (exName k))) (exV K c) = some (isSub k c)
/-- where a text of the small language runs -/
structure Ctx (nm : Nms) (gl : Nat → Option D) (cf : Cf) (X : Cx) : Prop where
  nd : X.N.Nodup
  calm : X.calm = true
  hu : X.A.units + 65 < cLine
  bi : ∀ s ∈ bNames, X.mg (Str.ofString s) = none
  fn : ∀ (f : Nat) (x : Str), nm.fn[f]? = some (x, none) → ∃ a k fd ps, Room k X.A ∧ X.mg x = some (.ref a) ∧ PySem.W.keepIn X.K (.ref a) = true ∧ Binds X.K fd ps [] ∧ FnOk X.prog X.w X.K X.mg X.base (L2.CX X.prog X.w) k a fd ps (spF X.K cf f)
  mt : ∀ (f : Nat) (x m : Str), nm.fn[f]? = some (x, some m) → ∃ a k fd ps, Meth X.K (He.ga X.K x) m a ∧ Room k X.A ∧ Binds X.K fd ps [] ∧ FnOk X.prog X.w X.K X.mg X.base (L2.CX X.prog X.w) k a fd ps (spF X.K cf f)
  mkr : ∀ (f : Nat) (x : Str), nm.fn[f]? = some (x, some (Str.ofString "__init__")) → ∃ a k fd ps, Mk X.K (He.ga X.K x) a ∧ X.mg x = some (.ref (He.ga X.K x)) ∧ Room (k + 1) X.A ∧ Binds X.K fd ps [] ∧ FnOk X.prog X.w X.K X.mg X.base (L2.CX X.prog X.w) k a fd ps (spF X.K cf f)
  cl : ∀ c, c ∈ nm.cl → Cls X.K (clsA X.K (clName c)) ∧ ∀ g, g < fdNames.length → NoAttr X.K (clsA X.K (clName c)) (Str.ofString (fdName g))
  xc : XFacts X.K X.mg nm.xr nm.xc
  gl : ∀ (g : Nat) (x : Str) (d : D), nm.gl[g]? = some x → gl g = some d → ∃ v u, X.mg x = some u ∧ RelV v u ∧ ∀ G ix, Rp X.K G ix v d
theorem Ctx.blk {nm : Nms} {gl : Nat → Option D} {cf : Cf} {X : Cx} (C : Ctx nm gl cf X) (s : Shared) (H : Hp) (scope : Scope) (cenv : PySem.Env) (fp : List Addr) : Ctx nm gl cf (X.blk s H scope cenv fp) := ⟨C.nd, C.calm, C.hu, C.bi, C.fn, C.mt, C.mkr, C.cl, C.xc, C.gl⟩
section
variable (gl : Nat → Option D) (cf : Cf)
/-- a reading that an expression's coming to something makes true -/
def SemE (K : PySem.W.Frag) (c : E) (t : TE) : Prop := ∀ σ H env G ix S w S' Q, EnvR K G ix σ env → Good K G ix S H → ev gl cf c env S = .ok (w, S') → PostE K G ix H w S' Q → t σ H Q
def AsgOk (X : Cx) (e : Expr) (t : TE) : Prop := ∀ (i : Nat) (y : Str) (py pos : Pos), X.N[i]? = some y → Loc X.env.scope y → X.fn y = true → PS X (.Assign [.Name y py] e pos) (tAsg t (gName i))
/-- .. that its raising something makes true -/
def SemX (X : Cx) (c : E) (t : TE) : Prop := ∀ σ H env G ix S k S' Q, EnvR X.K G ix σ env → Good X.K G ix S H → ev gl cf c env S = .exc k S' → PostX X.K G ix H k S' (WE (Wof X) σ) → t σ H Q
def SndE (X : Cx) (e : Expr) (c : E) : Prop := ∃ t, PE X e t ∧ AsgOk X e t ∧ SemE gl cf X.K c t ∧ SemX gl cf X c t
def SemT (K : PySem.W.Frag) (c : E) (t : TT) : Prop := ∀ σ H env G ix S b S' Q, EnvR K G ix σ env → Good K G ix S H → ev gl cf c env S = .ok (.d (.bl b), S') → (∀ G' ix' H', Stp G ix H G' ix' H' → Good K G' ix' S' H' → Q b H') → t σ H Q
def SemXT (X : Cx) (c : E) (t : TT) : Prop := ∀ σ H env G ix S k S' Q, EnvR X.K G ix σ env → Good X.K G ix S H → ev gl cf c env S = .exc k S' → PostX X.K G ix H k S' (WE (Wof X) σ) → t σ H Q
def SndT (X : Cx) (e : Expr) (c : E) : Prop := ∃ t, PT X e t ∧ SemT gl cf X.K c t ∧ SemXT gl cf X c t
def SemA (K : PySem.W.Frag) (c : Es) (t : TA) : Prop := ∀ σ H env G ix S ds S' Q, EnvR K G ix σ env → Good K G ix S H → evs gl cf c env S = .ok (ds, S') → (∀ vs G' ix' H', Stp G ix H G' ix' H' → Good K G' ix' S' H' → Rps K G' ix' vs ds → Q vs H') → t σ H Q
def SemXA (X : Cx) (c : Es) (t : TA) : Prop := ∀ σ H env G ix S k S' Q, EnvR X.K G ix σ env → Good X.K G ix S H → evs gl cf c env S = .exc k S' → PostX X.K G ix H k S' (WE (Wof X) σ) → t σ H Q
def SndA (X : Cx) (es : List Expr) (c : Es) : Prop := ∃ t, PA X es t ∧ SemA gl cf X.K c t ∧ SemXA gl cf X c t
end
section
variable {nm : Nms} {gl : Nat → Option D} {cf : Cf} {X : Cx}
/-! ### helpers -/
theorem asg_ord {e : Expr} {t : TE} (nd : X.N.Nodup) (ho : ord e = true) (hl : isLc e = false) (h : PE X e t) : AsgOk X e t := fun i y py pos hi hy hf => ps_set nd hi hy h (ord_swap ho hl _ _) (.inl hf)
theorem asg_lc {elt : Expr} {gs : List Comprehension} {scope : Scope} {p : Pos} {t : TE} (nd : X.N.Nodup) (h : PE X (.ListComp elt gs scope p) t)
    (hs : ∀ (i : Nat) (y : Str) (py spos : Pos), X.N[i]? = some y → X.env.scope.names.lookup y = some .local → swapsWith (.ListComp elt gs scope p) (some (.Name y py)) spos.line X.env = pure true → PS X (.Assign [.Name y py] (.ListComp elt gs scope p) spos) (tAsg t (gName i))) :
    AsgOk X (.ListComp elt gs scope p) t := fun i y py pos hi hy hf => by
  have e : swapsWith (.ListComp elt gs scope p) (some (.Name y py)) pos.line X.env = pure (X.env.blockKind == .function && X.env.kindOf y == some .local && py.line == (Expr.ListComp elt gs scope p).pos.line && !(scope.names.any fun (n, k) => n == y && (k == .local || k == .cell))) := rfl
  cases q : (X.env.blockKind == .function && X.env.kindOf y == some .local && py.line == (Expr.ListComp elt gs scope p).pos.line && !(scope.names.any fun (n, k) => n == y && (k == .local || k == .cell))) with
  | false => exact ps_set nd hi hy h (by rw [e, q]) (.inl hf)
  | true =>
    refine hs i y py pos hi ?_ (by rw [e, q])
    simp only [Bool.and_eq_true] at q
    have := q.1.1.2
    exact beq_iff_eq.mp this
/-- data behind an expression: what was made is frozen -/
theorem SemE.data {K : PySem.W.Frag} {c : E} {t : TE} (h : SemE gl cf K c t) {σ : L2.St} {H : Hp} {env : Env} {G : Hp} {ix : List Addr} {S : Store} {w : W} {S' : Store} {Q : VK} (r : EnvR K G ix σ env) (g : Good K G ix S H) (e : ev gl cf c env S = .ok (w, S'))
    (q : ∀ v G' ix' H', Stp G ix H G' ix' H' → Good K G' ix' S' H' → Rp K G' ix' v w.toD → Q v H') : t σ H Q := h σ H env G ix S w S' Q r g e fun v G' ix' H' s g' rw => by
  obtain ⟨G2, s2, g2, r2⟩ := rw.data s g'
  exact q v G2 ix' H' s2 g2 r2
theorem ok2 {α β : Type} {r : Res α} {f : α → Res β} {b : β} (h : r.bind f = .ok b) : ∃ a, r = .ok a ∧ f a = .ok b := Res.bind_eq_ok.mp h
/-! ### what raises nothing -/
def Res.NX {α : Type} (r : Res α) : Prop := ∀ k S, r ≠ .exc k S
theorem nx_ok {α : Type} {a : α} : (Res.ok a).NX := fun _ _ h => by cases h
theorem nx_err {α : Type} : (Res.err : Res α).NX := fun _ _ h => by cases h
theorem nx_guard {α : Type} {c : Bool} {r : Res α} (h : r.NX) : (guard' c r).NX := by
  unfold guard'
  split
  · exact h
  · exact nx_err
theorem Res.NX.bind {α β : Type} {r : Res α} {f : α → Res β} (h : r.NX) (k : ∀ a, (f a).NX) : (r.bind f).NX := fun c S e => by
  rcases Res.bind_eq_exc.mp e with e | ⟨a, _, e⟩
  · exact h c S e
  · exact k a c S e
theorem Res.calm_nx {α : Type} {r : Res α} : r.calm.NX := fun k S h => Res.calm_exc.mp h
theorem exc2 {α β : Type} {r : Res α} {f : α → Res β} {k : Nat} {S : Store} (h : r.bind f = .exc k S) : r = .exc k S ∨ ∃ a, r = .ok a ∧ f a = .exc k S := Res.bind_eq_exc.mp h
theorem nx_toB {w : W} : (toB w).NX := by
  unfold toB
  split
  · exact nx_ok
  · exact nx_err
theorem nx_intOp {o : Bop} {i j : Int} : (intOp o i j).NX := by
  cases o <;> simp only [intOp] <;> first | exact nx_ok | exact nx_guard nx_ok
theorem nx_binOp {o : Bop} {a b : D} : (binOp o a b).NX := by
  unfold binOp
  split
  · exact nx_intOp.bind fun _ => nx_ok
  all_goals first | exact nx_err | (split <;> first | exact nx_guard nx_ok | exact nx_err)
theorem nx_eqOp {a b : D} : (eqOp a b).NX := nx_guard nx_ok
theorem nx_inOp {a b : D} : (inOp a b).NX := by
  unfold inOp
  split <;> first | exact nx_guard nx_ok | exact nx_err
theorem nx_cmpOp {o : Cop} {a b : D} : (cmpOp o a b).NX := by
  unfold cmpOp
  split
  · exact nx_eqOp
  · exact nx_eqOp.bind fun _ => nx_ok
  · exact nx_inOp
  · exact nx_inOp.bind fun _ => nx_ok
  · split
    · split <;> first | exact nx_ok | exact nx_err
    · split
      · split <;> first | exact nx_ok | exact nx_err
      · exact nx_err
    · exact nx_err
theorem nx_ixOp {a b : D} : (ixOp a b).NX := by
  unfold ixOp
  split
  · split
    · split <;> first | exact nx_ok | exact nx_err
    · split <;> first | exact nx_ok | exact nx_err
    · split <;> first | exact nx_ok | exact nx_err
    · refine nx_guard ?_
      split <;> first | exact nx_ok | exact nx_err
    · exact nx_err
  · exact nx_err
theorem nx_slOp {a : D} {l h : Option Int} : (slOp a l h).NX := by
  unfold slOp
  split <;> first | exact nx_ok | exact nx_guard nx_ok | exact nx_err
theorem nx_biOp {b : Bi} {as : List D} : (biOp b as).NX := by
  unfold biOp
  split <;> first | exact nx_ok | exact nx_guard nx_ok | exact nx_err | (split <;> first | exact nx_ok | exact nx_guard nx_ok | exact nx_err)
theorem nx_isTy {t : Ty} {d : D} : (isTy t d).NX := by
  unfold isTy
  split <;> first | exact nx_ok | exact nx_err
theorem nx_setTg {t : Tg} {d : D} {env : Env} : (setTg t d env).NX := by
  unfold setTg
  split
  · exact nx_ok
  · split <;> first | exact nx_guard nx_ok | exact nx_err
theorem nx_items {k : Ik} {a b : D} : (items k a b).NX := by
  cases k with
  | rr1 =>
    simp only [items, rng1Items]
    refine Res.NX.bind ?_ fun _ => nx_ok
    split <;> first | exact nx_guard nx_ok | exact nx_err
  | rr2 =>
    simp only [items, rng2Items]
    refine Res.NX.bind ?_ fun _ => nx_ok
    split <;> first | exact nx_guard nx_ok | exact nx_err
  | _ => simp only [items, seqItems, rng1Items, rng2Items, enmItems, zpItems, revItems] <;> split <;> first | exact nx_ok | exact nx_guard nx_ok | exact nx_err
theorem nx_rgItems {k : Ik} {a b : D} : (rgItems k a b).NX := by
  cases k <;> simp only [rgItems, rng1Items, rng2Items] <;> first | exact nx_err | (split <;> first | exact nx_ok | exact nx_guard nx_ok | exact nx_err)
theorem nx_meOp {m : Me} {n : Nat} {as : List D} {S : Store} : (meOp m n as S).NX := by
  unfold meOp
  split
  · split
    · exact nx_guard nx_ok
    · split <;> first | exact nx_guard nx_ok | exact nx_err
    · split <;> first | exact nx_ok | exact nx_err
    · exact nx_ok
    · exact nx_guard nx_ok
    · exact nx_guard nx_ok
    · exact nx_err
  · exact nx_err
theorem toB_ok {w : W} {b : Bool} (h : toB w = .ok b) : w = .d (.bl b) := by
  unfold toB at h
  split at h
  · cases h; rfl
  · cases h
/-- a truth as a value, as a test -/
theorem snd_t_val {e : Expr} {c : E} (h : SndE gl cf X e c) (he : ∀ whole, isTrue e X.env whole = (do let v ← whole; standAt e.pos; holding [v] (truthy v))) : SndT gl cf X e c := by
  obtain ⟨t, p, _, m, mx⟩ := h
  refine ⟨_, pt_val p he, fun σ H env G ix S b S' Q r g e q => ?_, fun σ H env G ix S k S' Q r g e q => mx σ H env G ix S k S' _ r g e q⟩
  refine m σ H env G ix S _ S' _ r g e fun v G' ix' H' s g' rw => ?_
  cases (show Rp X.K G' ix' v (.bl b) from rw)
  exact ⟨b, rfl, q G' ix' H' s g'⟩
/-- two operands -/
theorem sem2 {K : PySem.W.Frag} {a b : E} {ta tb : TE} (ha : SemE gl cf K a ta) (hb : SemE gl cf K b tb) {σ : L2.St} {H : Hp} {env : Env} {G : Hp} {ix : List Addr} {S : Store} {x y : W × Store} {R : V → V → Hp → Prop} (r : EnvR K G ix σ env) (g : Good K G ix S H)
    (ea : ev gl cf a env S = .ok x) (eb : ev gl cf b env x.2 = .ok y)
    (q : ∀ v u G' ix' H', Stp G ix H G' ix' H' → Good K G' ix' y.2 H' → Rp K G' ix' v x.1.toD → Rp K G' ix' u y.1.toD → R v u H') : ta σ H fun v H1 => tb σ H1 fun u H2 => R v u H2 :=
  ha.data r g (show ev gl cf a env S = .ok (x.1, x.2) from ea) fun v G1 ix1 H1 s1 g1 r1 => hb.data (r.stp s1) g1 (show ev gl cf b env x.2 = .ok (y.1, y.2) from eb) fun u G2 ix2 H2 s2 g2 r2 => q v u G2 ix2 H2 (s1.trans s2) g2 (r1.mono s2.g s2.i _ _) r2
/-- an operand raises -/
theorem semX1 {a : E} {ta : TE} (xa : SemX gl cf X a ta) {σ : L2.St} {H : Hp} {env : Env} {G : Hp} {ix : List Addr} {S : Store} {k : Nat} {S' : Store} {α : Type} {f : W × Store → Res α} {R : VK} (r : EnvR X.K G ix σ env) (g : Good X.K G ix S H)
    (e : (ev gl cf a env S).bind f = .exc k S') (hf : ∀ x, (f x).NX) (q : PostX X.K G ix H k S' (WE (Wof X) σ)) : ta σ H R := by
  rcases exc2 e with e1 | ⟨x, _, e⟩
  · exact xa σ H env G ix S k S' _ r g e1 q
  · exact absurd e (hf x k S')
theorem semX2 {a b : E} {ta tb : TE} (ma : SemE gl cf X.K a ta) (xa : SemX gl cf X a ta) (xb : SemX gl cf X b tb) {σ : L2.St} {H : Hp} {env : Env} {G : Hp} {ix : List Addr} {S : Store} {k : Nat} {S' : Store} {α : Type} {f : W × Store → W × Store → Res α} {R : V → V → Hp → Prop} (r : EnvR X.K G ix σ env) (g : Good X.K G ix S H)
    (e : ((ev gl cf a env S).bind fun x => (ev gl cf b env x.2).bind (f x)) = .exc k S') (hf : ∀ x y, (f x y).NX) (q : PostX X.K G ix H k S' (WE (Wof X) σ)) : ta σ H fun v H1 => tb σ H1 fun u H2 => R v u H2 := by
  rcases exc2 e with e1 | ⟨x, e1, e⟩
  · exact xa σ H env G ix S k S' _ r g e1 q
  · exact ma.data r g (show ev gl cf a env S = .ok (x.1, x.2) from e1) fun v G1 ix1 H1 s1 g1 r1 => semX1 xb (r.stp s1) g1 e (hf x) (q.from s1)
/-- the arguments raise -/
theorem semXA1 {a : Es} {ta : TA} (xa : SemXA gl cf X a ta) {σ : L2.St} {H : Hp} {env : Env} {G : Hp} {ix : List Addr} {S : Store} {k : Nat} {S' : Store} {α : Type} {f : List D × Store → Res α} {R : List V → Hp → Prop} (r : EnvR X.K G ix σ env) (g : Good X.K G ix S H)
    (e : (evs gl cf a env S).bind f = .exc k S') (hf : ∀ x, (f x).NX) (q : PostX X.K G ix H k S' (WE (Wof X) σ)) : ta σ H R := by
  rcases exc2 e with e1 | ⟨x, _, e⟩
  · exact xa σ H env G ix S k S' _ r g e1 q
  · exact absurd e (hf x k S')
/-- it raises nothing -/
theorem semX0 {c : E} {t : TE} (h : ∀ env S, (ev gl cf c env S).NX) : SemX gl cf X c t := fun σ H env G ix S k S' Q r g e q => absurd e (h env S k S')
theorem semXT0 {c : E} {t : TT} (h : ∀ env S, (ev gl cf c env S).NX) : SemXT gl cf X c t := fun σ H env G ix S k S' Q r g e q => absurd e (h env S k S')
theorem postE_bl {K : PySem.W.Frag} {G : Hp} {ix : List Addr} {H : Hp} {b : Bool} {S' : Store} {Q : VK} (q : PostE K G ix H (.d (.bl b)) S' Q) {G' : Hp} {ix' : List Addr} {H' : Hp} (s : Stp G ix H G' ix' H') (g : Good K G' ix' S' H') : Q (.bl b) H' := q _ G' ix' H' s g (.bl b)

/-! ### names and constants -/
theorem snd_var (C : Ctx nm gl cf X) {i : Nat} {x : Str} {pos : Pos} (hN : X.N[i]? = some x) (hv : Vis X.env.scope x) (hn : okN x = true) : SndE gl cf X (.Name x pos) (.var i) := by
  obtain ⟨n1, n2, _⟩ := okN_ok hn
  have p : PE X (.Name x pos) (tVar i) := pe_var hN hv n1 n2
  refine ⟨_, p, asg_ord C.nd rfl rfl p, fun σ H env G ix S w S' Q r g e q => ?_, semX0 fun env S => by unfold ev; split <;> first | exact nx_ok | exact nx_err⟩
  unfold ev at e
  split at e
  · rename_i d ed
    cases e
    obtain ⟨v, h1, h2⟩ := r.get i d ed
    exact ⟨v, h1, q.same g h2⟩
  · cases e
theorem snd_const (C : Ctx nm gl cf X) {k : Const} {j : Nat} {pos : Pos} {v : V} {d : D} {c : E} (p : PE X (.Constant k j pos) (tC v)) (hv : ∀ G ix, Rp X.K G ix v d) (he : ∀ env S, ev gl cf c env S = .ok (.d d, S)) : SndE gl cf X (.Constant k j pos) c := by
  refine ⟨_, p, asg_ord C.nd rfl rfl p, fun σ H env G ix S w S' Q r g e q => ?_, semX0 fun env S => by rw [he]; exact nx_ok⟩
  rw [he] at e
  cases e
  exact q.same g (hv G ix)
theorem snd_glob (C : Ctx nm gl cf X) {g : Nat} {x : Str} {pos : Pos} (hg : nm.gl[g]? = some x) (hs : Gl X x) (hn : okN x = true) : SndE gl cf X (.Name x pos) (.glob g) := by
  obtain ⟨n1, n2, _⟩ := okN_ok hn
  cases ed : gl g with
  | none =>
    refine ⟨fun _ _ _ => False, ⟨fun _ _ _ _ _ _ h => h.elim⟩, fun i y py pos' hi hy hf => ps_set C.nd hi hy ⟨fun _ _ _ _ _ _ h => h.elim⟩ rfl (.inl hf), fun σ H env G ix S w S' Q r g' e q => ?_, semX0 fun env S => by simp only [ev, ed]; exact nx_err⟩
    simp [ev, ed] at e
  | some d =>
    obtain ⟨v, u, h1, h2, h3⟩ := C.gl g x d hg ed
    have p : PE X (.Name x pos) (tC v) := pe_glob hs h1 h2 n1
    refine ⟨_, p, asg_ord C.nd rfl rfl p, fun σ H env G ix S w S' Q r g' e q => ?_, semX0 fun env S => by simp only [ev, ed]; exact nx_ok⟩
    simp only [ev, ed] at e
    cases e
    exact q.same g' (h3 G ix)

/-! ### operators -/
theorem snd_bin (C : Ctx nm gl cf X) {o : Bop} {a b : Expr} {ca cb : E} {pos : Pos} (ha : SndE gl cf X a ca) (hb : SndE gl cf X b cb) : SndE gl cf X (.BinOp a (pyB o) b pos) (.bin o ca cb) := by
  obtain ⟨ta, pa, _, ma, xa⟩ := ha
  obtain ⟨tb, pb, _, mb, xb⟩ := hb
  have p : PE X (.BinOp a (pyB o) b pos) (tOp (rBin X.K o) ta tb) := pe_op (op_bin o) pa pb
  refine ⟨_, p, asg_ord C.nd rfl rfl p, fun σ H env G ix S w S' Q r g e q => ?_, fun σ H env G ix S k S' Q r g e q => semX2 ma xa xb r g (by simpa only [ev] using e) (fun _ _ => nx_binOp.bind fun _ => nx_ok) q⟩
  simp only [ev] at e
  obtain ⟨x, e1, e⟩ := ok2 e
  obtain ⟨y, e2, e⟩ := ok2 e
  obtain ⟨w', e3, e⟩ := ok2 e
  cases e
  exact sem2 ma mb r g e1 e2 fun v u G' ix' H' s g' rv ru => ⟨G', ix', y.2, _, _, _, g', rv, ru, e3, q.from s⟩
theorem snd_neg (C : Ctx nm gl cf X) {a : Expr} {ca : E} {pos : Pos} (ha : SndE gl cf X a ca) : SndE gl cf X (.UnaryOp .USub a pos) (.neg ca) := by
  obtain ⟨ta, pa, _, ma, xa⟩ := ha
  have p : PE X (.UnaryOp .USub a pos) _ := pe_un un_neg pa
  refine ⟨_, p, asg_ord C.nd rfl rfl p, fun σ H env G ix S w S' Q r g e q => ?_, fun σ H env G ix S k S' Q r g e q => semX1 xa r g (by simpa only [ev] using e) (fun _ => by split <;> first | exact nx_ok | exact nx_err) q⟩
  simp only [ev] at e
  obtain ⟨x, e1, e⟩ := ok2 e
  obtain ⟨x1, x2⟩ := x
  simp only at e
  split at e
  · rename_i i
    cases e
    refine ma σ H env G ix S _ _ _ r g e1 fun v G' ix' H' s g' rw => ?_
    cases (show Rp X.K G' ix' v (.int i) from rw)
    exact ⟨i, rfl, q _ G' ix' H' s g' (.int _)⟩
  · cases e
theorem snd_cmp (C : Ctx nm gl cf X) {o : Cop} {a b : Expr} {ca cb : E} {pos : Pos} (ob : ord b = true) (ha : SndE gl cf X a ca) (hb : SndE gl cf X b cb) : SndE gl cf X (.Compare a [pyC o] [b] pos) (.cmp o ca cb) ∧ SndT gl cf X (.Compare a [pyC o] [b] pos) (.cmp o ca cb) := by
  obtain ⟨ta, pa, _, ma, xa⟩ := ha
  obtain ⟨tb, pb, _, mb, xb⟩ := hb
  have p : PE X (.Compare a [pyC o] [b] pos) (tOp (rCmp X.K o) ta tb) := pe_cmpR (op_cmp o C.hu) pa pb (ord_mark ob _)
  refine ⟨⟨_, p, asg_ord C.nd rfl rfl p, fun σ H env G ix S w S' Q r g e q => ?_, fun σ H env G ix S k S' Q r g e q => semX2 ma xa xb r g (by simpa only [ev] using e) (fun _ _ => nx_cmpOp.bind fun _ => nx_ok) q⟩, ⟨_, pt_cmpR (op_cmp o C.hu) pa pb (ord_mark ob _), fun σ H env G ix S w S' Q r g e q => ?_, fun σ H env G ix S k S' Q r g e q => semX2 ma xa xb r g (by simpa only [ev] using e) (fun _ _ => nx_cmpOp.bind fun _ => nx_ok) q⟩⟩
  · simp only [ev] at e
    obtain ⟨x, e1, e⟩ := ok2 e
    obtain ⟨y, e2, e⟩ := ok2 e
    obtain ⟨k, e3, e⟩ := ok2 e
    cases e
    exact sem2 ma mb r g e1 e2 fun v u G' ix' H' s g' rv ru => ⟨G', ix', y.2, _, _, _, g', rv, ru, e3, postE_bl q s g'⟩
  · simp only [ev] at e
    obtain ⟨x, e1, e⟩ := ok2 e
    obtain ⟨y, e2, e⟩ := ok2 e
    obtain ⟨k, e3, e⟩ := ok2 e
    cases e
    exact sem2 ma mb r g e1 e2 fun v u G' ix' H' s g' rv ru => ⟨G', ix', y.2, _, _, _, g', rv, ru, e3, _, rfl, q G' ix' H' s g'⟩
theorem sem_chain (C : Ctx nm gl cf X) {o o' : Cop} {ca cb cc : E} {ta tb tc : TE} (ma : SemE gl cf X.K ca ta) (mb : SemE gl cf X.K cb tb) (mc : SemE gl cf X.K cc tc) {σ : L2.St} {H : Hp} {env : Env} {G : Hp} {ix : List Addr} {S : Store} {w : W} {S' : Store} {Q : VK} (r : EnvR X.K G ix σ env) (g : Good X.K G ix S H)
    (e : ev gl cf (.chain o o' ca cb cc) env S = .ok (w, S')) (q : ∀ b, w = .d (.bl b) → ∀ G' ix' H', Stp G ix H G' ix' H' → Good X.K G' ix' S' H' → Q (.bl b) H') : tChain (rCmp X.K o) (rCmp X.K o') ta tb tc σ H Q := by
  simp only [ev] at e
  obtain ⟨x, e1, e⟩ := ok2 e
  obtain ⟨y, e2, e⟩ := ok2 e
  obtain ⟨k, e3, e⟩ := ok2 e
  refine sem2 ma mb r g e1 e2 fun v u G' ix' H' s g' rv ru => ⟨G', ix', y.2, _, _, _, g', rv, ru, e3, k, rfl, ?_⟩
  cases k with
  | false =>
    simp only [Bool.false_eq_true, if_false] at e ⊢
    cases e
    exact q false rfl G' ix' H' s g'
  | true =>
    simp only [if_true] at e ⊢
    obtain ⟨z, e4, e⟩ := ok2 e
    obtain ⟨k', e5, e⟩ := ok2 e
    cases e
    exact mc.data (r.stp s) g' (show ev gl cf cc env y.2 = .ok (z.1, z.2) from e4) fun u' G2 ix2 H2 s2 g2 r2 => ⟨G2, ix2, z.2, _, _, _, g2, ru.mono s2.g s2.i _ _, r2, e5, q k' rfl G2 ix2 H2 (s.trans s2) g2⟩
theorem semX_chain (C : Ctx nm gl cf X) {o o' : Cop} {ca cb cc : E} {ta tb tc : TE} (ma : SemE gl cf X.K ca ta) (mb : SemE gl cf X.K cb tb) (xa : SemX gl cf X ca ta) (xb : SemX gl cf X cb tb) (xc : SemX gl cf X cc tc) {σ : L2.St} {H : Hp} {env : Env} {G : Hp} {ix : List Addr} {S : Store} {k : Nat} {S' : Store} {Q : VK} (r : EnvR X.K G ix σ env) (g : Good X.K G ix S H)
    (e : ev gl cf (.chain o o' ca cb cc) env S = .exc k S') (q : PostX X.K G ix H k S' (WE (Wof X) σ)) : tChain (rCmp X.K o) (rCmp X.K o') ta tb tc σ H Q := by
  simp only [ev] at e
  rcases exc2 e with e1 | ⟨x, e1, e⟩
  · exact xa σ H env G ix S k S' _ r g e1 q
  rcases exc2 e with e2 | ⟨y, e2, e⟩
  · exact ma.data r g (show ev gl cf ca env S = .ok (x.1, x.2) from e1) fun v G1 ix1 H1 s1 g1 r1 => xb σ H1 env G1 ix1 x.2 k S' _ (r.stp s1) g1 e2 (q.from s1)
  rcases exc2 e with e3 | ⟨b, e3, e⟩
  · exact absurd e3 (nx_cmpOp k S')
  refine sem2 ma mb r g e1 e2 fun v u G' ix' H' s g' rv ru => ⟨G', ix', y.2, _, _, _, g', rv, ru, e3, b, rfl, ?_⟩
  cases b with
  | false =>
    simp only [Bool.false_eq_true, if_false] at e
    cases e
  | true =>
    simp only [if_true] at e ⊢
    exact semX1 xc (r.stp s) g' e (fun _ => nx_cmpOp.bind fun _ => nx_ok) (q.from s)
theorem snd_chain (C : Ctx nm gl cf X) {o o' : Cop} {a b c : Expr} {ca cb cc : E} {pos : Pos} (ob : ord b = true) (oc : ord c = true) (ha : SndE gl cf X a ca) (hb : SndE gl cf X b cb) (hc : SndE gl cf X c cc) :
    SndE gl cf X (.Compare a [pyC o, pyC o'] [b, c] pos) (.chain o o' ca cb cc) ∧ SndT gl cf X (.Compare a [pyC o, pyC o'] [b, c] pos) (.chain o o' ca cb cc) := by
  obtain ⟨ta, pa, _, ma, xa⟩ := ha
  obtain ⟨tb, pb, _, mb, xb⟩ := hb
  obtain ⟨tc, pc, _, mc, xc⟩ := hc
  have p : PE X (.Compare a [pyC o, pyC o'] [b, c] pos) _ := pe_chain (op_cmp o C.hu) (op_cmp o' C.hu) pa pb pc (show behindInMarks (pyC o') c = false from ord_mark oc _)
  refine ⟨⟨_, p, asg_ord C.nd rfl rfl p, fun σ H env G ix S w S' Q r g e q => ?_, fun σ H env G ix S k S' Q r g e q => semX_chain C ma mb xa xb xc r g e q⟩, ⟨_, pt_chain (op_cmp o C.hu) (op_cmp o' C.hu) pa pb pc (show behindInMarks (pyC o') c = false from ord_mark oc _), fun σ H env G ix S w S' Q r g e q => ?_, fun σ H env G ix S k S' Q r g e q => semX_chain C ma mb xa xb xc r g e q⟩⟩
  · exact sem_chain C ma mb mc r g e fun b hb G' ix' H' s g' => by subst hb; exact postE_bl q s g'
  · exact sem_chain C ma mb mc r g e fun b hb G' ix' H' s g' => by cases hb; exact ⟨_, rfl, q G' ix' H' s g'⟩
theorem none_iff {K : PySem.W.Frag} {G : Hp} {ix : List Addr} {v : V} {d : D} (r : Rp K G ix v d) : decide (v = .non) = decide (d = .non) := by
  cases r <;> simp
theorem snd_isN (C : Ctx nm gl cf X) {a : Expr} {ca : E} {j : Nat} {pos' pos : Pos} (ha : SndE gl cf X a ca) : SndE gl cf X (.Compare a [.Is] [.Constant .none j pos'] pos) (.isN ca) ∧ SndT gl cf X (.Compare a [.Is] [.Constant .none j pos'] pos) (.isN ca) := by
  obtain ⟨ta, pa, _, ma, xa⟩ := ha
  have p : PE X (.Compare a [.Is] [.Constant .none j pos'] pos) (tIsN ta) := pe_cmp (pc_isN pa) rfl
  refine ⟨⟨_, p, asg_ord C.nd rfl rfl p, fun σ H env G ix S w S' Q r g e q => ?_, fun σ H env G ix S k S' Q r g e q => semX1 xa r g (by simpa only [ev] using e) (fun _ => nx_ok) q⟩, ⟨_, pt_cmp (pc_isN pa) rfl, fun σ H env G ix S w S' Q r g e q => ?_, fun σ H env G ix S k S' Q r g e q => semX1 xa r g (by simpa only [ev] using e) (fun _ => nx_ok) q⟩⟩
  · simp only [ev] at e
    obtain ⟨x, e1, e⟩ := ok2 e
    cases e
    exact ma.data r g (show ev gl cf ca env S = .ok (x.1, x.2) from e1) fun v G' ix' H' s g' rv => by
      show Q (.bl (decide (v = .non))) H'
      rw [none_iff rv]; exact postE_bl q s g'
  · simp only [ev] at e
    obtain ⟨x, e1, e⟩ := ok2 e
    cases e
    exact ma.data r g (show ev gl cf ca env S = .ok (x.1, x.2) from e1) fun v G' ix' H' s g' rv => ⟨_, rfl, by rw [none_iff rv]; exact q G' ix' H' s g'⟩
theorem snd_notN (C : Ctx nm gl cf X) {a : Expr} {ca : E} {j : Nat} {pos' pos : Pos} (ha : SndE gl cf X a ca) : SndE gl cf X (.Compare a [.IsNot] [.Constant .none j pos'] pos) (.notN ca) ∧ SndT gl cf X (.Compare a [.IsNot] [.Constant .none j pos'] pos) (.notN ca) := by
  obtain ⟨ta, pa, _, ma, xa⟩ := ha
  have p : PE X (.Compare a [.IsNot] [.Constant .none j pos'] pos) (tNotN ta) := pe_cmp (pc_notN pa) rfl
  refine ⟨⟨_, p, asg_ord C.nd rfl rfl p, fun σ H env G ix S w S' Q r g e q => ?_, fun σ H env G ix S k S' Q r g e q => semX1 xa r g (by simpa only [ev] using e) (fun _ => nx_ok) q⟩, ⟨_, pt_cmp (pc_notN pa) rfl, fun σ H env G ix S w S' Q r g e q => ?_, fun σ H env G ix S k S' Q r g e q => semX1 xa r g (by simpa only [ev] using e) (fun _ => nx_ok) q⟩⟩
  · simp only [ev] at e
    obtain ⟨x, e1, e⟩ := ok2 e
    cases e
    exact ma.data r g (show ev gl cf ca env S = .ok (x.1, x.2) from e1) fun v G' ix' H' s g' rv => by
      show Q (.bl (!decide (v = .non))) H'
      rw [none_iff rv]; exact postE_bl q s g'
  · simp only [ev] at e
    obtain ⟨x, e1, e⟩ := ok2 e
    cases e
    exact ma.data r g (show ev gl cf ca env S = .ok (x.1, x.2) from e1) fun v G' ix' H' s g' rv => ⟨_, rfl, by rw [none_iff rv]; exact q G' ix' H' s g'⟩

/-! ### and, or, not -/
/-- a truth of an expression that comes to one -/
theorem SemE.bool {K : PySem.W.Frag} {c : E} {t : TE} (h : SemE gl cf K c t) {σ : L2.St} {H : Hp} {env : Env} {G : Hp} {ix : List Addr} {S : Store} {b : Bool} {S' : Store} {Q : VK} (r : EnvR K G ix σ env) (g : Good K G ix S H) (e : ev gl cf c env S = .ok (.d (.bl b), S'))
    (q : ∀ G' ix' H', Stp G ix H G' ix' H' → Good K G' ix' S' H' → Q (.bl b) H') : t σ H Q := h σ H env G ix S _ S' Q r g e fun v G' ix' H' s g' rw => by
  cases (show Rp K G' ix' v (.bl b) from rw)
  exact q G' ix' H' s g'
theorem ev_and {a b : E} {env : Env} {S : Store} {w : W} {S' : Store} (e : ev gl cf (.and a b) env S = .ok (w, S')) : ∃ k, w = .d (.bl k) ∧ ((∃ x2, ev gl cf a env S = .ok (.d (.bl true), x2) ∧ ev gl cf b env x2 = .ok (.d (.bl k), S')) ∨ (k = false ∧ ev gl cf a env S = .ok (.d (.bl false), S'))) := by
  simp only [ev] at e
  obtain ⟨⟨x1, x2⟩, e1, e⟩ := ok2 e
  obtain ⟨k, e2, e⟩ := ok2 e
  cases toB_ok e2
  cases k with
  | true =>
    simp only [if_true] at e
    obtain ⟨⟨y1, y2⟩, e3, e⟩ := ok2 e
    obtain ⟨k', e4, e⟩ := ok2 e
    cases toB_ok e4
    cases e
    exact ⟨k', rfl, .inl ⟨x2, e1, e3⟩⟩
  | false =>
    simp only [Bool.false_eq_true, if_false] at e
    cases e
    exact ⟨false, rfl, .inr ⟨rfl, e1⟩⟩
theorem ev_or {a b : E} {env : Env} {S : Store} {w : W} {S' : Store} (e : ev gl cf (.or a b) env S = .ok (w, S')) : ∃ k, w = .d (.bl k) ∧ ((∃ x2, ev gl cf a env S = .ok (.d (.bl false), x2) ∧ ev gl cf b env x2 = .ok (.d (.bl k), S')) ∨ (k = true ∧ ev gl cf a env S = .ok (.d (.bl true), S'))) := by
  simp only [ev] at e
  obtain ⟨⟨x1, x2⟩, e1, e⟩ := ok2 e
  obtain ⟨k, e2, e⟩ := ok2 e
  cases toB_ok e2
  cases k with
  | false =>
    simp only [Bool.false_eq_true, if_false] at e
    obtain ⟨⟨y1, y2⟩, e3, e⟩ := ok2 e
    obtain ⟨k', e4, e⟩ := ok2 e
    cases toB_ok e4
    cases e
    exact ⟨k', rfl, .inl ⟨x2, e1, e3⟩⟩
  | true =>
    simp only [if_true] at e
    cases e
    exact ⟨true, rfl, .inr ⟨rfl, e1⟩⟩
theorem evx_and {a b : E} {env : Env} {S : Store} {k : Nat} {S' : Store} (e : ev gl cf (.and a b) env S = .exc k S') : ev gl cf a env S = .exc k S' ∨ ∃ x2, ev gl cf a env S = .ok (.d (.bl true), x2) ∧ ev gl cf b env x2 = .exc k S' := by
  simp only [ev] at e
  rcases exc2 e with e1 | ⟨⟨x1, x2⟩, e1, e⟩
  · exact .inl e1
  rcases exc2 e with e2 | ⟨b, e2, e⟩
  · exact absurd e2 (nx_toB k S')
  cases toB_ok e2
  cases b with
  | false => simp only [Bool.false_eq_true, if_false] at e; cases e
  | true =>
    simp only [if_true] at e
    rcases exc2 e with e3 | ⟨y, e3, e⟩
    · exact .inr ⟨x2, e1, e3⟩
    · exact absurd e ((nx_toB.bind fun _ => nx_ok) k S')
theorem evx_or {a b : E} {env : Env} {S : Store} {k : Nat} {S' : Store} (e : ev gl cf (.or a b) env S = .exc k S') : ev gl cf a env S = .exc k S' ∨ ∃ x2, ev gl cf a env S = .ok (.d (.bl false), x2) ∧ ev gl cf b env x2 = .exc k S' := by
  simp only [ev] at e
  rcases exc2 e with e1 | ⟨⟨x1, x2⟩, e1, e⟩
  · exact .inl e1
  rcases exc2 e with e2 | ⟨b, e2, e⟩
  · exact absurd e2 (nx_toB k S')
  cases toB_ok e2
  cases b with
  | true => simp only [if_true] at e; cases e
  | false =>
    simp only [Bool.false_eq_true, if_false] at e
    rcases exc2 e with e3 | ⟨y, e3, e⟩
    · exact .inr ⟨x2, e1, e3⟩
    · exact absurd e ((nx_toB.bind fun _ => nx_ok) k S')
/-- b is one expression, or the rest of the chain -/
def SndW (gl : Nat → Option D) (cf : Cf) (X : Cx) (e : Expr) (c : E) : Prop := ∃ t, PW X e t ∧ SemT gl cf X.K c t ∧ SemXT gl cf X c t
theorem snd_and (C : Ctx nm gl cf X) {a b : Expr} {rest : List Expr} {ca cb : E} {pos : Pos} (ha : SndE gl cf X a ca) (hat : SndT gl cf X a ca) (hb : ∃ t, PE X (.BoolOp .And (b :: rest) pos) t ∧ SemE gl cf X.K cb t ∧ SemX gl cf X cb t) (hbt : SndW gl cf X (.BoolOp .And (b :: rest) pos) cb) :
    SndE gl cf X (.BoolOp .And (a :: b :: rest) pos) (.and ca cb) ∧ SndW gl cf X (.BoolOp .And (a :: b :: rest) pos) (.and ca cb) := by
  obtain ⟨ta, pa, _, ma, xa⟩ := ha
  obtain ⟨tb, pb, mb, xb⟩ := hb
  obtain ⟨ua, qa, na, ya⟩ := hat
  obtain ⟨ub, qb, nb, yb⟩ := hbt
  have p : PE X (.BoolOp .And (a :: b :: rest) pos) (tAndV ta tb) := pe_and pa pb
  refine ⟨⟨_, p, asg_ord C.nd rfl rfl p, fun σ H env G ix S w S' Q r g e q => ?_, fun σ H env G ix S k S' Q r g e q => ?x1⟩, ⟨_, pw_and qa qb, fun σ H env G ix S w S' Q r g e q => ?_, fun σ H env G ix S k S' Q r g e q => ?x2⟩⟩
  case x1 =>
    rcases evx_and e with e1 | ⟨x2, e1, e2⟩
    · exact xa σ H env G ix S k S' _ r g e1 q
    · exact ma.bool r g e1 fun G1 ix1 H1 s1 g1 => ⟨true, rfl, by
        rw [if_pos rfl]
        exact xb σ H1 env G1 ix1 x2 k S' Q (r.stp s1) g1 e2 (q.from s1)⟩
  case x2 =>
    rcases evx_and e with e1 | ⟨x2, e1, e2⟩
    · exact ya σ H env G ix S k S' _ r g e1 q
    · exact na σ H env G ix S true x2 _ r g e1 fun G1 ix1 H1 s1 g1 => by
        rw [if_pos rfl]
        exact yb σ H1 env G1 ix1 x2 k S' Q (r.stp s1) g1 e2 (q.from s1)
  · obtain ⟨k, rfl, ⟨x2, e1, e2⟩ | ⟨rfl, e1⟩⟩ := ev_and e
    · exact ma.bool r g e1 fun G1 ix1 H1 s1 g1 => ⟨true, rfl, by
        rw [if_pos rfl]
        exact mb σ H1 env G1 ix1 x2 _ S' Q (r.stp s1) g1 e2 (q.from s1)⟩
    · exact ma.bool r g e1 fun G1 ix1 H1 s1 g1 => ⟨false, rfl, by
        rw [if_neg Bool.false_ne_true]
        exact postE_bl q s1 g1⟩
  · obtain ⟨k, hk, h⟩ := ev_and e
    cases hk
    rcases h with ⟨x2, e1, e2⟩ | ⟨hw, e1⟩
    · exact na σ H env G ix S true x2 _ r g e1 fun G1 ix1 H1 s1 g1 => by
        rw [if_pos rfl]
        exact nb σ H1 env G1 ix1 x2 _ S' Q (r.stp s1) g1 e2 fun G2 ix2 H2 s2 g2 => q G2 ix2 H2 (s1.trans s2) g2
    · subst hw
      exact na σ H env G ix S false S' _ r g e1 fun G1 ix1 H1 s1 g1 => by
        rw [if_neg Bool.false_ne_true]
        exact q G1 ix1 H1 s1 g1
theorem snd_or (C : Ctx nm gl cf X) {a b : Expr} {rest : List Expr} {ca cb : E} {pos : Pos} (ha : SndE gl cf X a ca) (hat : SndT gl cf X a ca) (hb : ∃ t, PE X (.BoolOp .Or (b :: rest) pos) t ∧ SemE gl cf X.K cb t ∧ SemX gl cf X cb t) (hbt : SndW gl cf X (.BoolOp .Or (b :: rest) pos) cb) :
    SndE gl cf X (.BoolOp .Or (a :: b :: rest) pos) (.or ca cb) ∧ SndW gl cf X (.BoolOp .Or (a :: b :: rest) pos) (.or ca cb) := by
  obtain ⟨ta, pa, _, ma, xa⟩ := ha
  obtain ⟨tb, pb, mb, xb⟩ := hb
  obtain ⟨ua, qa, na, ya⟩ := hat
  obtain ⟨ub, qb, nb, yb⟩ := hbt
  have p : PE X (.BoolOp .Or (a :: b :: rest) pos) (tOrV ta tb) := pe_or pa pb
  refine ⟨⟨_, p, asg_ord C.nd rfl rfl p, fun σ H env G ix S w S' Q r g e q => ?_, fun σ H env G ix S k S' Q r g e q => ?x1⟩, ⟨_, pw_or qa qb, fun σ H env G ix S w S' Q r g e q => ?_, fun σ H env G ix S k S' Q r g e q => ?x2⟩⟩
  case x1 =>
    rcases evx_or e with e1 | ⟨x2, e1, e2⟩
    · exact xa σ H env G ix S k S' _ r g e1 q
    · exact ma.bool r g e1 fun G1 ix1 H1 s1 g1 => ⟨false, rfl, by
        rw [if_neg Bool.false_ne_true]
        exact xb σ H1 env G1 ix1 x2 k S' Q (r.stp s1) g1 e2 (q.from s1)⟩
  case x2 =>
    rcases evx_or e with e1 | ⟨x2, e1, e2⟩
    · exact ya σ H env G ix S k S' _ r g e1 q
    · exact na σ H env G ix S false x2 _ r g e1 fun G1 ix1 H1 s1 g1 => by
        rw [if_neg Bool.false_ne_true]
        exact yb σ H1 env G1 ix1 x2 k S' Q (r.stp s1) g1 e2 (q.from s1)
  · obtain ⟨k, rfl, ⟨x2, e1, e2⟩ | ⟨rfl, e1⟩⟩ := ev_or e
    · exact ma.bool r g e1 fun G1 ix1 H1 s1 g1 => ⟨false, rfl, by
        rw [if_neg Bool.false_ne_true]
        exact mb σ H1 env G1 ix1 x2 _ S' Q (r.stp s1) g1 e2 (q.from s1)⟩
    · exact ma.bool r g e1 fun G1 ix1 H1 s1 g1 => ⟨true, rfl, by
        rw [if_pos rfl]
        exact postE_bl q s1 g1⟩
  · obtain ⟨k, hk, h⟩ := ev_or e
    cases hk
    rcases h with ⟨x2, e1, e2⟩ | ⟨hw, e1⟩
    · exact na σ H env G ix S false x2 _ r g e1 fun G1 ix1 H1 s1 g1 => by
        rw [if_neg Bool.false_ne_true]
        exact nb σ H1 env G1 ix1 x2 _ S' Q (r.stp s1) g1 e2 fun G2 ix2 H2 s2 g2 => q G2 ix2 H2 (s1.trans s2) g2
    · subst hw
      exact na σ H env G ix S true S' _ r g e1 fun G1 ix1 H1 s1 g1 => by
        rw [if_pos rfl]
        exact q G1 ix1 H1 s1 g1
theorem snd_not (C : Ctx nm gl cf X) {a : Expr} {ca : E} {pos : Pos} (ha : SndE gl cf X a ca) (hat : SndT gl cf X a ca) : SndE gl cf X (.UnaryOp .Not a pos) (.not ca) ∧ SndT gl cf X (.UnaryOp .Not a pos) (.not ca) := by
  obtain ⟨ta, pa, _, ma, xa⟩ := ha
  obtain ⟨ua, qa, na, ya⟩ := hat
  have p : PE X (.UnaryOp .Not a pos) (tNotV ta) := pe_not pa
  refine ⟨⟨_, p, asg_ord C.nd rfl rfl p, fun σ H env G ix S w S' Q r g e q => ?_, fun σ H env G ix S k S' Q r g e q => semX1 xa r g (by simpa only [ev] using e) (fun _ => nx_toB.bind fun _ => nx_ok) q⟩, ⟨_, pt_not qa, fun σ H env G ix S w S' Q r g e q => ?_, fun σ H env G ix S k S' Q r g e q => ?x2⟩⟩
  case x2 =>
    simp only [ev] at e
    rcases exc2 e with e1 | ⟨x, e1, e⟩
    · exact ya σ H env G ix S k S' _ r g e1 q
    · exact absurd e ((nx_toB.bind fun _ => nx_ok) k S')
  · simp only [ev] at e
    obtain ⟨⟨x1, x2⟩, e1, e⟩ := ok2 e
    obtain ⟨k, e2, e⟩ := ok2 e
    cases toB_ok e2
    cases e
    exact ma.bool r g e1 fun G1 ix1 H1 s1 g1 => ⟨k, rfl, postE_bl q s1 g1⟩
  · simp only [ev] at e
    obtain ⟨⟨x1, x2⟩, e1, e⟩ := ok2 e
    obtain ⟨k, e2, e⟩ := ok2 e
    cases toB_ok e2
    cases e
    exact na σ H env G ix S k _ _ r g e1 fun G1 ix1 H1 s1 g1 => q G1 ix1 H1 s1 g1
theorem snd_ife (C : Ctx nm gl cf X) {c a b : Expr} {cc ca cb : E} {pos : Pos} (hc : SndT gl cf X c cc) (ha : SndE gl cf X a ca) (hb : SndE gl cf X b cb) : SndE gl cf X (.IfExp c a b pos) (.ife cc ca cb) := by
  obtain ⟨tc, pc, mc, yc⟩ := hc
  obtain ⟨ta, pa, _, ma, xa⟩ := ha
  obtain ⟨tb, pb, _, mb, xb⟩ := hb
  have p : PE X (.IfExp c a b pos) (tIf tc ta tb) := pe_ifExp pc pa pb
  refine ⟨_, p, asg_ord C.nd rfl rfl p, fun σ H env G ix S w S' Q r g e q => ?_, fun σ H env G ix S k S' Q r g e q => ?x⟩
  case x =>
    simp only [ev] at e
    rcases exc2 e with e1 | ⟨⟨x1, x2⟩, e1, e⟩
    · exact yc σ H env G ix S k S' _ r g e1 q
    rcases exc2 e with e2 | ⟨b, e2, e⟩
    · exact absurd e2 (nx_toB k S')
    cases toB_ok e2
    refine mc σ H env G ix S b x2 _ r g e1 fun G1 ix1 H1 s1 g1 => ?_
    cases b with
    | true =>
      simp only [if_true] at e ⊢
      exact xa σ H1 env G1 ix1 x2 k S' Q (r.stp s1) g1 e (q.from s1)
    | false =>
      simp only [Bool.false_eq_true, if_false] at e ⊢
      exact xb σ H1 env G1 ix1 x2 k S' Q (r.stp s1) g1 e (q.from s1)
  simp only [ev] at e
  obtain ⟨⟨x1, x2⟩, e1, e⟩ := ok2 e
  obtain ⟨k, e2, e⟩ := ok2 e
  cases toB_ok e2
  refine mc σ H env G ix S k x2 _ r g e1 fun G1 ix1 H1 s1 g1 => ?_
  cases k with
  | true =>
    simp only [if_true] at e ⊢
    exact ma σ H1 env G1 ix1 x2 w S' Q (r.stp s1) g1 e (q.from s1)
  | false =>
    simp only [Bool.false_eq_true, if_false] at e ⊢
    exact mb σ H1 env G1 ix1 x2 w S' Q (r.stp s1) g1 e (q.from s1)

/-! ### lists of expressions, displays -/
theorem snd_nil : SndA gl cf X [] .nil := ⟨_, pa_nil, fun σ H env G ix S ds S' Q r g e q => by
  simp only [evs] at e
  cases e
  exact q [] G ix H Stp.refl g .nil, fun σ H env G ix S k S' Q r g e q => by
  simp only [evs] at e
  cases e⟩
theorem snd_cons {x : Expr} {xs : List Expr} {c : E} {cs : Es} (ox : ord x = true) (hx : SndE gl cf X x c) (hs : SndA gl cf X xs cs) : SndA gl cf X (x :: xs) (.cons c cs) := by
  obtain ⟨t, p, _, m, mx⟩ := hx
  obtain ⟨u, q, n, nx⟩ := hs
  refine ⟨_, pa_cons p q (ord_star ox xs), fun σ H env G ix S ds S' Q r g e k => ?_, fun σ H env G ix S k S' Q r g e q => ?x⟩
  case x =>
    simp only [evs] at e
    rcases exc2 e with e1 | ⟨x, e1, e⟩
    · exact mx σ H env G ix S k S' _ r g e1 q
    · exact m.data r g (show ev gl cf c env S = .ok (x.1, x.2) from e1) fun v G1 ix1 H1 s1 g1 r1 => semXA1 nx (r.stp s1) g1 e (fun _ => nx_ok) (q.from s1)
  simp only [evs] at e
  obtain ⟨x, e1, e⟩ := ok2 e
  obtain ⟨y, e2, e⟩ := ok2 e
  cases e
  exact m.data r g (show ev gl cf c env S = .ok (x.1, x.2) from e1) fun v G1 ix1 H1 s1 g1 r1 => n σ H1 env G1 ix1 x.2 y.1 y.2 _ (r.stp s1) g1 e2 fun vs G2 ix2 H2 s2 g2 r2 => k (v :: vs) G2 ix2 H2 (s1.trans s2) g2 (.cons (r1.mono s2.g s2.i _ _) r2)
theorem snd_tup (C : Ctx nm gl cf X) {xs : List Expr} {cs : Es} {k : Nat} {pos : Pos} (hs : SndA gl cf X xs cs) : SndE gl cf X (.Tuple xs k pos) (.tup cs) := by
  obtain ⟨u, q, n, nx⟩ := hs
  have p : PE X (.Tuple xs k pos) (tTup u) := pe_tup q
  refine ⟨_, p, asg_ord C.nd rfl rfl p, fun σ H env G ix S w S' Q r g e k => ?_, fun σ H env G ix S k S' Q r g e q => semXA1 nx r g (by simpa only [ev] using e) (fun _ => nx_guard nx_ok) q⟩
  simp only [ev] at e
  obtain ⟨x, e1, e⟩ := ok2 e
  obtain ⟨c, e⟩ := guard_ok e
  cases e
  exact n σ H env G ix S x.1 x.2 _ r g e1 fun vs G1 ix1 H1 s1 g1 r1 => ⟨by rw [r1.length]; exact dec_of c, fun p hp => (k.from s1).newT g1 hp rfl r1⟩
theorem snd_lst (C : Ctx nm gl cf X) {xs : List Expr} {cs : Es} {pos : Pos} (hs : SndA gl cf X xs cs) : SndE gl cf X (.List xs pos) (.lst cs) := by
  obtain ⟨u, q, n, nx⟩ := hs
  have p : PE X (.List xs pos) (tLst u) := pe_lst q
  refine ⟨_, p, asg_ord C.nd rfl rfl p, fun σ H env G ix S w S' Q r g e k => ?_, fun σ H env G ix S k S' Q r g e q => semXA1 nx r g (by simpa only [ev] using e) (fun _ => nx_guard nx_ok) q⟩
  simp only [ev] at e
  obtain ⟨x, e1, e⟩ := ok2 e
  obtain ⟨c, e⟩ := guard_ok e
  cases e
  exact n σ H env G ix S x.1 x.2 _ r g e1 fun vs G1 ix1 H1 s1 g1 r1 => ⟨by rw [r1.length]; exact dec_of c, fun p hp => (k.from s1).newL g1 hp rfl r1⟩
/-! ### subscripts -/
theorem snd_ix (C : Ctx nm gl cf X) {a b : Expr} {ca cb : E} {pos : Pos} (ob : ord b = true) (ha : SndE gl cf X a ca) (hb : SndE gl cf X b cb) : SndE gl cf X (.Subscript a b pos) (.ix ca cb) := by
  obtain ⟨ta, pa, _, ma, xa⟩ := ha
  obtain ⟨tb, pb, _, mb, xb⟩ := hb
  have p : PE X (.Subscript a b pos) (tOp (rIxx X.K) ta tb) := pe_ix ix_all pa pb (ord_ix ob)
  refine ⟨_, p, asg_ord C.nd rfl rfl p, fun σ H env G ix S w S' Q r g e q => ?_, fun σ H env G ix S k S' Q r g e q => semX2 ma xa xb r g (by simpa only [ev] using e) (fun _ _ => nx_ixOp.bind fun _ => nx_ok) q⟩
  simp only [ev] at e
  obtain ⟨x, e1, e⟩ := ok2 e
  obtain ⟨y, e2, e⟩ := ok2 e
  obtain ⟨d, e3, e⟩ := ok2 e
  cases e
  exact sem2 ma mb r g e1 e2 fun v u G' ix' H' s g' rv ru => ⟨G', ix', y.2, _, _, d, g', rv, ru, e3, q.from s⟩
/-- an end of a slice -/
def SemO (gl : Nat → Option D) (cf : Cf) (K : PySem.W.Frag) (c : E) (t : TO) : Prop := ∀ σ H env G ix S x o Q, EnvR K G ix σ env → Good K G ix S H → ev gl cf c env S = .ok x → endOf (isNonE c) x.1.toD = some o → (∀ G' ix' H', Stp G ix H G' ix' H' → Good K G' ix' x.2 H' → Q o H') → t σ H Q
def SemXO (gl : Nat → Option D) (cf : Cf) (X : Cx) (c : E) (t : TO) : Prop := ∀ σ H env G ix S k S' Q, EnvR X.K G ix σ env → Good X.K G ix S H → ev gl cf c env S = .exc k S' → PostX X.K G ix H k S' (WE (Wof X) σ) → t σ H Q
theorem snd_po {l : Option Expr} {c : E} (h : (l = none ∧ c = .non) ∨ ∃ e, l = some e ∧ isNonE c = false ∧ SndE gl cf X e c) : ∃ t, PO X l t ∧ SemO gl cf X.K c t ∧ SemXO gl cf X c t := by
  rcases h with ⟨rfl, rfl⟩ | ⟨e, rfl, hc, t, p, _, m, mx⟩
  · refine ⟨_, po_none, fun σ H env G ix S x o Q r g e ho q => ?_, fun σ H env G ix S k S' Q r g e q => by simp only [ev] at e; cases e⟩
    simp only [ev] at e
    cases e
    cases ho
    exact q G ix H Stp.refl g
  · refine ⟨_, po_some p, fun σ H env G ix S x o Q r g e ho q => ?_, fun σ H env G ix S k S' Q r g e q => mx σ H env G ix S k S' _ r g e q⟩
    refine m.data r g (show ev gl cf c env S = .ok (x.1, x.2) from e) fun v G1 ix1 H1 s1 g1 r1 => ?_
    rw [hc] at ho
    simp only [endOf, Bool.false_eq_true, if_false] at ho
    generalize x.1.toD = d at ho r1
    cases d with
    | int i => cases ho; cases r1; exact ⟨i, rfl, q G1 ix1 H1 s1 g1⟩
    | _ => cases ho
theorem snd_sl (C : Ctx nm gl cf X) {a : Expr} {l h : Option Expr} {ca cl ch : E} {p2 pos : Pos} (ha : SndE gl cf X a ca) (hl : ∃ t, PO X l t ∧ SemO gl cf X.K cl t ∧ SemXO gl cf X cl t) (hh : ∃ t, PO X h t ∧ SemO gl cf X.K ch t ∧ SemXO gl cf X ch t) : SndE gl cf X (.Subscript a (.Slice l h none p2) pos) (.sl ca cl ch) := by
  obtain ⟨ta, pa, _, ma, xa⟩ := ha
  obtain ⟨tl, pl, ml, yl⟩ := hl
  obtain ⟨th, ph, mh, yh⟩ := hh
  have p : PE X (.Subscript a (.Slice l h none p2) pos) (tSl (rSll X.K) ta tl th) := pe_slice sl_all pa pl ph
  refine ⟨_, p, asg_ord C.nd rfl rfl p, fun σ H env G ix S w S' Q r g e q => ?_, fun σ H env G ix S k S' Q r g e q => ?x⟩
  case x =>
    simp only [ev] at e
    rcases exc2 e with e1 | ⟨x, e1, e⟩
    · exact xa σ H env G ix S k S' _ r g e1 q
    · exact absurd e (Res.calm_nx k S')
  simp only [ev] at e
  obtain ⟨x, e1, e⟩ := ok2 e
  obtain ⟨y, e2, e⟩ := ok2 (Res.calm_ok.mp e)
  obtain ⟨z, e3, e⟩ := ok2 e
  split at e
  · rename_i i j hi hj
    obtain ⟨w', e4, e⟩ := ok2 e
    cases e
    exact ma.data r g (show ev gl cf ca env S = .ok (x.1, x.2) from e1) fun v G1 ix1 H1 s1 g1 r1 =>
      ml σ H1 env G1 ix1 x.2 y i _ (r.stp s1) g1 e2 hi fun G2 ix2 H2 s2 g2 =>
        mh σ H2 env G2 ix2 y.2 z j _ (r.stp (s1.trans s2)) g2 e3 hj fun G3 ix3 H3 s3 g3 =>
          ⟨G3, ix3, z.2, _, _, g3, r1.mono (s2.trans s3).g (s2.trans s3).i _ _, e4, q.from (s1.trans (s2.trans s3))⟩
  · cases e
/-! ### calls -/
theorem pe_callS0 {CX : CXT} {k : Nat} {f : Addr} {fd : FuncData} {ps : List Str} {sp : Sp} {E : L2.St → XK} {x : Str} {p pos : Pos} (F : FnOk X.prog X.w X.K X.mg X.base CX k f fd ps sp) (hr : Room k X.A) (hg : Gl X x) (hm : X.mg x = some (.ref f)) (hk : PySem.W.keepIn X.K (.ref f) = true) (hb : Binds X.K fd ps []) (hx : ∀ σ, PassesAt CX X σ (E σ))
    (hdb : (x == ("__debug__" : Str)) = false) : PE X (.Call (.Name x p) [] [] pos) (tCallS sp E tNil) :=
  ⟨fun pins s σ H Q I h => wpAny_Call_Name_kw (ld_glob I hg hm (PySem.W.callWith_K0 I.kIn hk (run_fnS (us := []) F hr hb (hx σ) I .nil h)) hdb)⟩
theorem room1 {k : Nat} {A : Around} (r : Room k A) : Room k A := r
theorem snd_call (C : Ctx nm gl cf X) {f : Nat} {x : Str} {p pos : Pos} {args : List Expr} {cs : Es} (hf : nm.fn[f]? = some (x, none)) (hg : Gl X x) (hn : okN x = true) (hs : SndA gl cf X args cs)
    (h0 : (args = [] ∧ cs = .nil) ∨ ∃ e es, args = e :: es ∧ ord e = true ∧ (backTo pos (starEach es X.env)).any (·.1) = false) : SndE gl cf X (.Call (.Name x p) args [] pos) (.call f cs) := by
  obtain ⟨n1, _, _⟩ := okN_ok hn
  obtain ⟨a, k, fd, ps, hr, hm, hk, hb, F⟩ := C.fn f x hf
  obtain ⟨t, pt, m, mx⟩ := hs
  have pe : PE X (.Call (.Name x p) args [] pos) (tCallS (spF X.K cf f) (WE (Wof X)) t) ∨ (cs = .nil ∧ PE X (.Call (.Name x p) args [] pos) (tCallS (spF X.K cf f) (WE (Wof X)) tNil)) := by
    rcases h0 with ⟨rfl, rfl⟩ | ⟨e, es, rfl, oe, h1⟩
    · exact .inr ⟨rfl, pe_callS0 F hr hg hm hk hb (fun σ => passAt (wof_takes X) σ) n1⟩
    · exact .inl (pe_callS F hr hg hm hk hb (fun σ => passAt (wof_takes X) σ) pt n1 (ord_star oe es) h1)
  rcases pe with pe | ⟨rfl, pe⟩
  · refine ⟨_, pe, asg_ord C.nd rfl rfl pe, fun σ H env G ix S w S' Q r g e q => ?_, fun σ H env G ix S k S' Q r g e q => ?_⟩
    · simp only [ev] at e
      obtain ⟨y, e1, e⟩ := ok2 e
      exact m σ H env G ix S y.1 y.2 _ r g e1 fun vs G1 ix1 H1 s1 g1 r1 => ⟨G1, ix1, y.2, y.1, g1, r1, .inl ⟨w, S', e, q.from s1⟩⟩
    · simp only [ev] at e
      rcases exc2 e with e1 | ⟨y, e1, e⟩
      · exact mx σ H env G ix S k S' _ r g e1 q
      · exact m σ H env G ix S y.1 y.2 _ r g e1 fun vs G1 ix1 H1 s1 g1 r1 => ⟨G1, ix1, y.2, y.1, g1, r1, .inr ⟨k, S', e, q.from s1⟩⟩
  · refine ⟨_, pe, asg_ord C.nd rfl rfl pe, fun σ H env G ix S w S' Q r g e q => ?_, fun σ H env G ix S k S' Q r g e q => ?_⟩
    · simp only [ev, evs] at e
      exact ⟨G, ix, S, [], g, .nil, .inl ⟨w, S', e, q⟩⟩
    · simp only [ev, evs] at e
      exact ⟨G, ix, S, [], g, .nil, .inr ⟨k, S', e, q⟩⟩
end
end Nl

/-! Built-ins, classes, methods, what is walked, comprehensions. -/
namespace Nl
open PySem L2
section
variable {nm : Nms} {gl : Nat → Option D} {cf : Cf} {X : Cx}
theorem boot_bi (b : Bi) (hb : b ≠ .sset) : bootBuiltins (Str.ofString (biName b)) = some (biVal b) := by
  cases b <;> first | exact absurd rfl hb | decide +kernel
theorem bi_in (b : Bi) (hb : b ≠ .sset) : biName b ∈ bNames := by
  cases b <;> first | exact absurd rfl hb | decide
theorem bi_nm (b : Bi) : Str.ofString (biName b) ≠ "__name__" ∧ (Str.ofString (biName b) == ("__debug__" : Str)) = false := by
  cases b <;> decide +kernel
theorem snd_bi (C : Ctx nm gl cf X) {b : Bi} {p pos : Pos} {e : Expr} {es : List Expr} {cs : Es} (hb : b ≠ .sset) (hg : Gl X (Str.ofString (biName b))) (oe : ord e = true) (hpl : (backTo pos (starEach es X.env)).any (·.1) = false) (hs : SndA gl cf X (e :: es) cs) :
    SndE gl cf X (.Call (.Name (Str.ofString (biName b)) p) (e :: es) [] pos) (.bi b cs) := by
  obtain ⟨t, pt, m, mx⟩ := hs
  have k := call_bi (X := X) b hb C.calm
  have hm := C.bi _ (bi_in b hb)
  have hv := boot_bi b hb
  obtain ⟨n1, n2⟩ := bi_nm b
  have pe : PE X (.Call (.Name (Str.ofString (biName b)) p) (e :: es) [] pos) (tCB (rBi X.K b) t) := by
    unfold biVal at k hv
    cases q : biTy b with
    | true =>
      rw [q] at k hv
      exact pe_callTy k hg hm hv pt n1 n2 (ord_star oe es) hpl
    | false =>
      rw [q] at k hv
      exact pe_callB k hg hm hv pt n1 n2 (ord_star oe es) hpl
  refine ⟨_, pe, asg_ord C.nd rfl rfl pe, fun σ H env G ix S w S' Q r g e q => ?_, fun σ H env G ix S k S' Q r g e q => semXA1 mx r g (by simpa only [ev] using e) (fun _ => nx_biOp.bind fun _ => nx_ok) q⟩
  simp only [ev] at e
  obtain ⟨y, e1, e⟩ := ok2 e
  obtain ⟨w', e2, e⟩ := ok2 e
  cases e
  exact m σ H env G ix S y.1 y.2 _ r g e1 fun vs G1 ix1 H1 s1 g1 r1 => ⟨G1, ix1, y.2, y.1, _, g1, r1, e2, q.from s1⟩
/-! ### isinstance -/
theorem boot_ty (t : Ty) : bootBuiltins (Str.ofString (tyName t)) = some (.type (tyName t)) := by
  cases t <;> decide +kernel
theorem ty_in (t : Ty) : tyName t ∈ bNames := by cases t <;> decide
theorem ty_nm (t : Ty) : Str.ofString (tyName t) ≠ "__name__" ∧ (Str.ofString (tyName t) == ("__debug__" : Str)) = false := by
  cases t <;> decide +kernel
theorem pe_ty (C : Ctx nm gl cf X) (t : Ty) {p : Pos} (hg : Gl X (Str.ofString (tyName t))) : PE X (.Name (Str.ofString (tyName t)) p) (tC (.ty (tyName t))) :=
  pe_bltn hg (C.bi _ (ty_in t)) (boot_ty t) rfl (ty_nm t).1 (ty_nm t).2
theorem boot_isi : bootBuiltins (Str.ofString "isinstance") = some (.builtin "isinstance") := by decide +kernel
theorem snd_isi (C : Ctx nm gl cf X) {a : Expr} {ca : E} {t : Ty} {p p2 pos : Pos} (hi : Gl X (Str.ofString "isinstance")) (hg : Gl X (Str.ofString (tyName t))) (oa : ord a = true) (ha : SndE gl cf X a ca) :
    SndE gl cf X (.Call (.Name (Str.ofString "isinstance") p) [a, .Name (Str.ofString (tyName t)) p2] [] pos) (.isi ca t) := by
  obtain ⟨ta, pa, _, ma, xa⟩ := ha
  have pe : PE X (.Call (.Name (Str.ofString "isinstance") p) [a, .Name (Str.ofString (tyName t)) p2] [] pos) (tCB (rIsi X.K) (tCons ta (tCons (tC (.ty (tyName t))) tNil))) :=
    pe_callB call_isi hi (C.bi _ (by decide)) boot_isi (pa_cons pa (pa_cons (pe_ty C t hg) pa_nil rfl) (ord_star oa _)) (by decide +kernel) (by decide +kernel) (ord_star oa _) rfl
  refine ⟨_, pe, asg_ord C.nd rfl rfl pe, fun σ H env G ix S w S' Q r g e q => ?_, fun σ H env G ix S k S' Q r g e q => semX1 xa r g (by simpa only [ev] using e) (fun _ => nx_isTy.bind fun _ => nx_ok) q⟩
  simp only [ev] at e
  obtain ⟨x, e1, e⟩ := ok2 e
  obtain ⟨k, e2, e⟩ := ok2 e
  cases e
  refine ma.data r g (show ev gl cf ca env S = .ok (x.1, x.2) from e1) fun v G1 ix1 H1 s1 g1 r1 => ?_
  obtain ⟨T, h1, h2⟩ := ty_of g1 r1 e2
  exact ⟨v, .ty (tyName t), .type T, .type (tyName t), k, rfl, .ty _, h1, h2 t k e2, postE_bl q s1 g1⟩
theorem snd_isis (C : Ctx nm gl cf X) {a : Expr} {ca : E} {t u : Ty} {p p2 p3 p4 pos : Pos} {kk : Nat} (hi : Gl X (Str.ofString "isinstance")) (hg : Gl X (Str.ofString (tyName t))) (hg2 : Gl X (Str.ofString (tyName u))) (oa : ord a = true) (ha : SndE gl cf X a ca) :
    SndE gl cf X (.Call (.Name (Str.ofString "isinstance") p) [a, .Tuple [.Name (Str.ofString (tyName t)) p2, .Name (Str.ofString (tyName u)) p3] kk p4] [] pos) (.isis ca [t, u]) := by
  obtain ⟨ta, pa, _, ma, xa⟩ := ha
  have pe : PE X (.Call (.Name (Str.ofString "isinstance") p) [a, .Tuple [.Name (Str.ofString (tyName t)) p2, .Name (Str.ofString (tyName u)) p3] kk p4] [] pos)
      (tCB (rIsiT X.K) (tCons ta (tCons (tTup (tCons (tC (.ty (tyName t))) (tCons (tC (.ty (tyName u))) tNil))) tNil))) :=
    pe_callB call_isiT hi (C.bi _ (by decide)) boot_isi (pa_cons pa (pa_cons (pe_tup (pa_cons (pe_ty C t hg) (pa_cons (pe_ty C u hg2) pa_nil rfl) rfl)) pa_nil rfl) (ord_star oa _)) (by decide +kernel) (by decide +kernel) (ord_star oa _) rfl
  refine ⟨_, pe, asg_ord C.nd rfl rfl pe, fun σ H env G ix S w S' Q r g e q => ?_, fun σ H env G ix S k S' Q r g e q => semX1 xa r g (by simpa only [ev] using e) (fun _ => nx_isTy.bind fun _ => nx_isTy.bind fun _ => nx_ok) q⟩
  simp only [ev] at e
  obtain ⟨x, e1, e⟩ := ok2 e
  obtain ⟨k, e2, e⟩ := ok2 e
  obtain ⟨k', e3, e⟩ := ok2 e
  cases e
  refine ma.data r g (show ev gl cf ca env S = .ok (x.1, x.2) from e1) fun v G1 ix1 H1 s1 g1 r1 => ⟨by show 2 ≤ sizeLine; decide, fun tp htp => ?_⟩
  have g2 := g1.lay (o := .tup [.ty (tyName t), .ty (tyName u)]) htp
  obtain ⟨T, h1, h2⟩ := ty_of g2 r1 e2
  refine ⟨v, tp, [.ty (tyName t), .ty (tyName u)], .type T, [.type (tyName t), .type (tyName u)], k || k', rfl, upd_same, .cons (.ty _) (.cons (.ty _) .nil), h1, ?_, postE_bl q (s1.trans (Stp.lay htp)) g2⟩
  have a1 := h2 t k e2
  have a2 := h2 u k' e3
  simp only [PySem.W.kitAny, a1, a2]
  cases k <;> cases k' <;> rfl
/-! ### methods of lists -/
theorem slot_me (m : Me) : Slot "list" (Str.ofString (meName m)) ("list." ++ meName m) ∧ typeOf (.builtin ("list." ++ meName m)) = pure (.type "method_descriptor") := by
  cases m with
  | append => exact ⟨PySem.F.slot_list_append, PySem.F.type_list_append⟩
  | extend => exact ⟨PySem.F.slot_list_extend, PySem.F.type_list_extend⟩
  | insert => exact ⟨PySem.F.slot_list_insert, PySem.F.type_list_insert⟩
  | pop => exact ⟨PySem.F.slot_list_pop, PySem.F.type_list_pop⟩
  | reverse => exact ⟨PySem.F.slot_list_reverse, PySem.F.type_list_reverse⟩
  | count => exact ⟨PySem.F.slot_list_count, PySem.F.type_list_count⟩
theorem snd_me (C : Ctx nm gl cf X) {m : Me} {o : Expr} {co : E} {args : List Expr} {cs : Es} {apos cpos : Pos} (ho : recv o = true) (hl : (apos.endLine == cpos.line) = true) (hn : args.length < 30) (so : SndE gl cf X o co) (hs : SndA gl cf X args cs)
    (h0 : (args = [] ∧ cs = .nil) ∨ ∃ e es, args = e :: es ∧ ord e = true ∧ (backTo cpos (starEach es X.env)).any (·.1) = false ∧ (backTo cpos (starEach args X.env)).all (fun x => !x.1) = true) :
    SndE gl cf X (.Call (.Attribute o (Str.ofString (meName m)) apos) args [] cpos) (.me m co cs) := by
  obtain ⟨to, po, _, mo, xo⟩ := so
  obtain ⟨t, pt, mt, xt⟩ := hs
  obtain ⟨sl, ty⟩ := slot_me m
  have hbase : attributeBase o (Str.ofString (meName m)) X.env (eval o X.env) = eval o X.env := recv_base ho _ _
  have fin : ∀ {σ : L2.St} {H : Hp} {env : Env} {G : Hp} {ix : List Addr} {S : Store} {w : W} {S' : Store}, ev gl cf (.me m co cs) env S = .ok (w, S') → ∃ n x2 ys y, ev gl cf co env S = .ok (.d (.obj n), x2) ∧ x2[n]? = some (.lst ys) ∧ evs gl cf cs env x2 = .ok y ∧ meOp m n y.1 y.2 = .ok (w, S') := fun {σ H env G ix S w S'} e => by
    simp only [ev] at e
    obtain ⟨⟨x1, x2⟩, e1, e⟩ := ok2 e
    simp only at e
    split at e
    · rename_i n
      split at e
      · rename_i ys ey
        obtain ⟨y, e2, e⟩ := ok2 e
        exact ⟨n, x2, ys, y, e1, ey, e2, e⟩
      · cases e
    · cases e
  have finx : ∀ {env : Env} {S : Store} {k : Nat} {S' : Store}, ev gl cf (.me m co cs) env S = .exc k S' → ev gl cf co env S = .exc k S' ∨ ∃ n x2 ys, ev gl cf co env S = .ok (.d (.obj n), x2) ∧ x2[n]? = some (.lst ys) ∧ evs gl cf cs env x2 = .exc k S' := fun {env S k S'} e => by
    simp only [ev] at e
    rcases exc2 e with e1 | ⟨⟨x1, x2⟩, e1, e⟩
    · exact .inl e1
    simp only at e
    split at e
    · rename_i n
      split at e
      · rename_i ys ey
        rcases exc2 e with e2 | ⟨y, e2, e⟩
        · exact .inr ⟨n, x2, ys, e1, ey, e2⟩
        · exact absurd e (nx_meOp k S')
      · cases e
    · cases e
  rcases h0 with ⟨rfl, rfl⟩ | ⟨e, es, rfl, oe, h1, h2⟩
  · have pe : PE X (.Call (.Attribute o (Str.ofString (meName m)) apos) [] [] cpos) (tBM0 X.K "list" (rMe X.K m) to) := pe_bm0 PySem.F.plainAttrs_list sl ty (mt_me m) po hbase hl
    refine ⟨_, pe, asg_ord C.nd rfl rfl pe, fun σ H env G ix S w S' Q r g e q => ?_, fun σ H env G ix S k S' Q r g e q => ?x⟩
    case x =>
      rcases finx e with e1 | ⟨n, x2, ys, e1, ey, e2⟩
      · exact xo σ H env G ix S k S' _ r g e1 q
      · simp only [evs] at e2
        cases e2
    obtain ⟨n, x2, ys, y, e1, ey, e2, e3⟩ := fin (σ := σ) (H := H) (G := G) (ix := ix) e
    simp only [evs] at e2
    cases e2
    refine mo σ H env G ix S _ x2 _ r g e1 fun v G1 ix1 H1 s1 g1 r1 => ?_
    cases (show Rp X.K G1 ix1 v (.obj n) from r1) with
    | @obj a _ ha =>
      obtain ⟨a', vs, f1, f2, f3, f4⟩ := g1.cell n ys ey
      rw [ha] at f1; cases f1
      exact ⟨.inl ⟨rfl, vs, SqL.of f2⟩, G1, ix1, x2, n, a, [], w, S', g1, rfl, ha, .nil, e3, q.from s1⟩
  · have pe : PE X (.Call (.Attribute o (Str.ofString (meName m)) apos) (e :: es) [] cpos) (tBM X.K "list" (rMe X.K m) to t) := pe_bm PySem.F.plainAttrs_list sl ty (mt_me m) po pt hbase (by
        rw [h2]
        simp only [keywordEach, backToKw, List.map_nil, List.all_nil, Bool.true_and, Bool.and_true, List.isEmpty_nil, if_true, decide_eq_true_eq]
        exact hn) hl (ord_star oe es) h1
    refine ⟨_, pe, asg_ord C.nd rfl rfl pe, fun σ H env G ix S w S' Q r g e q => ?_, fun σ H env G ix S k S' Q r g e q => ?x⟩
    case x =>
      rcases finx e with e1 | ⟨n, x2, ys, e1, ey, e2⟩
      · exact xo σ H env G ix S k S' _ r g e1 q
      · refine mo σ H env G ix S _ x2 _ r g e1 fun v G1 ix1 H1 s1 g1 r1 => ?_
        cases (show Rp X.K G1 ix1 v (.obj n) from r1) with
        | @obj a _ ha =>
          obtain ⟨a', vs, f1, f2, f3, f4⟩ := g1.cell n ys ey
          rw [ha] at f1; cases f1
          exact ⟨.inl ⟨rfl, vs, SqL.of f2⟩, xt σ H1 env G1 ix1 x2 k S' _ (r.stp s1) g1 e2 (q.from s1)⟩
    obtain ⟨n, x2, ys, y, e1, ey, e2, e3⟩ := fin (σ := σ) (H := H) (G := G) (ix := ix) e
    refine mo σ H env G ix S _ x2 _ r g e1 fun v G1 ix1 H1 s1 g1 r1 => ?_
    cases (show Rp X.K G1 ix1 v (.obj n) from r1) with
    | @obj a _ ha =>
      obtain ⟨a', vs, f1, f2, f3, f4⟩ := g1.cell n ys ey
      rw [ha] at f1; cases f1
      refine ⟨.inl ⟨rfl, vs, SqL.of f2⟩, ?_⟩
      exact mt σ H1 env G1 ix1 x2 y.1 y.2 _ (r.stp s1) g1 e2 fun vs' G2 ix2 H2 s2 g2 r2 => ⟨G2, ix2, y.2, n, a, y.1, w, S', g2, rfl, s2.i _ _ ha, r2, e3, q.from (s1.trans s2)⟩
/-! ### a list goes into the store, and out of it -/
theorem Good.boxC {K : PySem.W.Frag} {G : Hp} {ix : List Addr} {S : Store} {H : Hp} (g : Good K G ix S H) {p : Addr} {o : HO} {c : Cell} (h2 : H p = some o) (h3 : G p = none) (h4 : Free ix S p) (h6 : CellR K G (ix ++ [p]) (some o) c) :
    Good K G (ix ++ [p]) (S ++ [c]) H where
  le := g.le
  len := by rw [List.length_append, List.length_append, g.len] <;> rfl
  there := fun a h => by
    rcases List.mem_append.mp h with h | h
    · exact g.there a h
    · rw [List.mem_singleton.mp h]; exact ⟨_, h2⟩
  cel := fun n d h hd => by
    by_cases hn : n < S.length
    · rw [List.getElem?_append_left hn] at h
      obtain ⟨a, k1, k3, k4⟩ := g.cel n d h hd
      exact ⟨a, Ixs.app ix p n a k1, k3, k4.mono (Le.refl _) (Ixs.app ix p)⟩
    · rw [List.getElem?_append_right (by omega)] at h
      have e0 : n - S.length = 0 := by
        by_cases z : n - S.length = 0
        · exact z
        · rw [List.getElem?_eq_none (by simp; omega)] at h; cases h
      rw [e0] at h
      cases h
      refine ⟨p, ?_, h3, by rw [h2]; exact h6⟩
      rw [List.getElem?_append_right (by rw [g.len]; omega), g.len, e0]
      rfl
  inj := fun n m a ys zs k1 k2 k3 k4 k5 k6 => by
    have side : ∀ (n : Nat) (d : Cell), (ix ++ [p])[n]? = some a → (S ++ [c])[n]? = some d → (n < S.length ∧ ix[n]? = some a ∧ S[n]? = some d) ∨ (n = S.length ∧ a = p) := fun n d k1 k3 => by
      by_cases hn : n < S.length
      · rw [List.getElem?_append_left hn] at k3
        rw [List.getElem?_append_left (by rw [g.len]; exact hn)] at k1
        exact .inl ⟨hn, k1, k3⟩
      · have hl := (List.getElem?_eq_some_iff.mp k3).1
        rw [List.length_append] at hl
        have e0 : n = S.length := by simp at hl; omega
        subst e0
        rw [List.getElem?_append_right (by rw [g.len]; exact Nat.le_refl _), g.len, Nat.sub_self] at k1
        cases k1
        exact .inr ⟨rfl, rfl⟩
    rcases side n ys k1 k3 with ⟨a1, a2, a3⟩ | ⟨a1, a2⟩ <;> rcases side m zs k2 k4 with ⟨b1, b2, b3⟩ | ⟨b1, b2⟩
    · exact g.inj n m a ys zs a2 b2 a3 b3 k5 k6
    · subst b2; exact absurd (h4 n ys a2 a3) k5
    · subst a2; exact absurd (h4 m zs b2 b3) k6
    · rw [a1, b1]
theorem Good.box {K : PySem.W.Frag} {G : Hp} {ix : List Addr} {S : Store} {H : Hp} (g : Good K G ix S H) {p : Addr} {vs : List V} {xs : List D} (h2 : H p = some (.lst vs)) (h3 : G p = none) (h4 : Free ix S p) (h6 : Rps K G ix vs xs) :
    Good K G (ix ++ [p]) (S ++ [.lst xs]) H := g.boxC h2 h3 h4 ⟨vs, rfl, h6.mono (Le.refl _) (Ixs.app ix p)⟩
theorem obj_last {ix : List Addr} {S : Store} {p : Addr} (h : ix.length = S.length) : (ix ++ [p])[S.length]? = some p := by
  rw [List.getElem?_append_right (by rw [h]; exact Nat.le_refl _), h, Nat.sub_self]
  rfl
theorem snd_box {e : Expr} {c : E} (h : SndE gl cf X e c) : SndE gl cf X e (.box c) := by
  obtain ⟨t, p, a, m, mx⟩ := h
  refine ⟨t, p, a, fun σ H env G ix S w S' Q r g e q => ?_, fun σ H env G ix S k S' Q r g e q => ?x⟩
  case x =>
    simp only [ev] at e
    rcases exc2 e with e1 | ⟨x, e1, e⟩
    · exact mx σ H env G ix S k S' _ r g e1 q
    · exfalso
      split at e
      all_goals first | (cases e; done) | (split at e <;> cases e)
  simp only [ev] at e
  obtain ⟨⟨x1, x2⟩, e1, e⟩ := ok2 e
  simp only at e
  split at e
  · rename_i xs
    cases e
    refine m σ H env G ix S _ x2 Q r g e1 fun v G1 ix1 H1 s1 g1 r1 => ?_
    obtain ⟨p, vs, rfl, h2, h3, h4, h5, h6⟩ := r1
    refine q _ G1 (ix1 ++ [p]) H1 ⟨s1.g, s1.i.trans (Ixs.app ix1 p), s1.keep, s1.there, s1.new, fun b hb => ?_⟩ (g1.box h2 h3 h4 h6) (.obj ?_)
    · rcases List.mem_append.mp hb with hb | hb
      · exact s1.fresh b hb
      · rw [List.mem_singleton.mp hb]; exact h5.symm
    · rw [List.getElem?_append_right (by rw [g1.len]; exact Nat.le_refl _), g1.len, Nat.sub_self]
      rfl
  · cases e
theorem snd_unbox {e : Expr} {c : E} (h : SndE gl cf X e c) : SndE gl cf X e (.unbox c) := by
  obtain ⟨t, p, a, m, mx⟩ := h
  refine ⟨t, p, a, fun σ H env G ix S w S' Q r g e q => ?_, fun σ H env G ix S k S' Q r g e q => ?x⟩
  case x =>
    simp only [ev] at e
    rcases exc2 e with e1 | ⟨x, e1, e⟩
    · exact mx σ H env G ix S k S' _ r g e1 q
    · exfalso
      split at e
      all_goals first | (cases e; done) | (split at e <;> cases e)
  simp only [ev] at e
  obtain ⟨⟨x1, x2⟩, e1, e⟩ := ok2 e
  simp only at e
  split at e
  · rename_i n
    split at e
    · rename_i xs ex
      cases e
      refine m σ H env G ix S _ x2 Q r g e1 fun v G1 ix1 H1 s1 g1 r1 => ?_
      cases (show Rp X.K G1 ix1 v (.obj n) from r1) with
      | @obj a _ ha =>
        obtain ⟨a', vs, f1, f2, f3, f4⟩ := g1.cell n xs ex
        rw [ha] at f1; cases f1
        have hl : n < x2.length := (List.getElem?_eq_some_iff.mp ex).1
        have live : ∀ (k : Nat) (d : Cell), (x2.set n .dead)[k]? = some d → d ≠ .dead → k ≠ n ∧ x2[k]? = some d := fun k d hk hd => by
          by_cases e : n = k
          · subst e
            rw [List.getElem?_set_self hl] at hk
            cases hk
            exact absurd rfl hd
          · rw [List.getElem?_set_ne e] at hk
            exact ⟨fun z => e z.symm, hk⟩
        refine q _ G1 ix1 H1 s1 ⟨g1.le, by rw [List.length_set]; exact g1.len, g1.there, fun k d hk hd => g1.cel k d (live k d hk hd).2 hd, fun k l b zs ws k1 k2 k3 k4 k5 k6 => g1.inj k l b zs ws k1 k2 (live k zs k3 k5).2 (live l ws k4 k6).2 k5 k6⟩
          ⟨a, vs, rfl, f2, f3, fun k d hk hz => ?_, (s1.fresh a (ixs_mem ha)).symm, f4⟩
        by_cases hd : d = .dead
        · exact hd
        · obtain ⟨z1, z2⟩ := live k d hz hd
          exact absurd (g1.inj k n a d _ hk ha z2 ex hd (by intro z; cases z)) z1
    · cases e
  · cases e
end
end Nl

/-! sorted of a set of ints, up to a thousand of them. -/
namespace L2
open PySem PySem.Spec PyProof.Rows
section
variable {P : Program} {w : World} {A : Around} {E : Value → Shared → Prop} {s : Shared} {a : Addr}
theorem set_sortA {S : Int → Bool} {n : Nat} {Q : Value → Shared → Prop} (hset : SetR w s.heap a S n) (calm : A.handled = none) (few : n ≤ 1000)
    (done : ∀ s' p (got : Array Value) (c : Nat) (is : List Int), (∀ b o, s.heap.get? b = some o → s'.heap.get? b = some o) → s'.gens = s.gens → s'.os = s.os → s.heap.objs.size ≤ p → s'.heap.get? p = some (seqObj "list" got c) → IntsAre got.toList is → is.Pairwise (· < ·) → (∀ k, k ∈ is ↔ S k = true) → is.length = n → Q (.ref p) s') :
    wpAny (model P w) A (call (.builtin "sorted") [.ref a]) Q E s := by
  obtain ⟨ob, rows, ep, tb, at_, kind, sto, nums, once, mem, bnd, fit, many, rise, lead⟩ := hset
  refine Calls.call_function_entry kind_sorted plain_sorted entry_sorted (args_sorted1 _) ?_
  unfold Builtin.«sorted»
  refine wpAny_bind (m := checkCount "sorted" 1 1 _) (wpAny_pure ?_)
  refine wpAny_bind (collect_set (A := A.in1) calm ⟨ob, at_, kind.1, sto⟩ fit bnd rise lead fun s1 us old big gen1 os1 same => ?_)
  have lenU : us.length = n := by
    rw [same.length_eq, List.length_map, Array.length_toList, many]
  have areI : IntsAre us (us.map Builtin.Re.reRawOf) := by
    refine ints_of us fun v hv => ?_
    obtain ⟨e, he, q⟩ := List.mem_map.mp (same.mem_iff.mp hv)
    obtain ⟨k, tk, h1, _⟩ := nums e he
    exact ⟨k, tk, q ▸ h1⟩
  have keys : (us.map Builtin.Re.reRawOf).Perm (rows.toList.map keyOf) := by
    have z := same.map Builtin.Re.reRawOf
    rwa [List.map_map] at z
  have room : us.length ≤ sizeLine := by
    rw [lenU, sizeLine_eq]
    omega
  refine wpAny_bind (wpAny_newList ?_ room)
  have fresh : (s1.heap.push (seqObj "list" us.toArray 0)).get? s1.heap.objs.size = some (seqObj "list" us.toArray 0) := Heap.get?_push_size _ rfl
  refine wpAny_bind (wpAny_holding (wpAny_call_entry slot_list_sort ⟨_, fresh, rfl⟩ entry_list_sort
    (SrtO.list_sort_ord SrtO.swo_int fresh room (fun h2 => SrtO.ints_sortable areI h2) fun got g1 g2 => ⟨_, rfl, ?_⟩) (args_list_sort _)))
  obtain ⟨k1, k2, k3⟩ := SrtO.ints_out areI g1 g2
  obtain ⟨c, hc⟩ := sortedHeap_at (vs := us) (out := got.toArray) fresh
  have all := k2.trans keys
  refine wpAny_pure ⟨_, rfl, done _ s1.heap.objs.size got.toArray c (got.map SrtO.iv) (fun b u e => ?_) gen1 os1 big hc k1 (lt_of_le_nodup _ k3 (all.nodup_iff.mpr once)) (fun k => by rw [all.mem_iff, ← mem k]) ?_⟩
  · have q := old b u e
    have lt := Heap.lt_size q
    refine (sortedHeap_old (Nat.ne_of_lt lt) ?_).trans (Heap.get?_push_of_some _ q)
    rw [size_push']
    exact Nat.lt_succ_of_lt lt
  · rw [all.length_eq, List.length_map, Array.length_toList, many]
end
/-- sorted(found), up to a thousand members -/
def rSortA (w : World) : List V → Hp → VK → Prop := fun vs H Q => ∃ (a : Addr) (S : Int → Bool) (n : Nat), vs = [V.ref a] ∧ (H a = some (SetO w a S n) ∧ n ≤ 1000) ∧
  ∀ (is : List Int) (p : Addr), is.Pairwise (· < ·) → (∀ k : Int, k ∈ is ↔ S k = true) → is.length = n → H p = none → Q (.ref p) (upd H p (.lst (is.map V.int)))
theorem cr_sortA {X : Cx} (hc : X.calm = true) : CallR X (.builtin "sorted") (rSortA X.w) := by
  intro pins s σ H vs us Q I r h
  obtain ⟨a, S, n, rfl, ⟨ha, few⟩, q⟩ := h
  rw [Vals.ref1 r]
  refine set_sortA (setO_get I ha) (I.ok.hd hc) few fun s' p got c is k g o hp hg hi hs hm hl => ?_
  have room : (is.map V.int).length ≤ sizeLine := by
    rw [List.length_map, hl, sizeLine_eq]
    omega
  have free : H p = none := I.hok.fresh hp
  have J : Inv X pins σ (upd H p (.lst (is.map V.int))) { s with heap := s'.heap, gens := s'.gens, drawn := s'.drawn, toks := s'.toks } := by
    refine I.call (ch := []) (Un.laid k hp free) (I.hok.laid k hp ⟨room, got.toList, c, vals_of_ints hi, hg⟩) ?_ fun _ z => nomatch z
    rw [g]
    exact I.bare
  have e : s' = { s with heap := s'.heap, gens := s'.gens, drawn := s'.drawn, toks := s'.toks } := by
    cases s'; cases s; cases o; rfl
  rw [e]
  exact ⟨.ref p, _, J, rfl, q is p hs hm hl free⟩
end L2

/-! set(a list of ints), for sorted(set(..)). -/
namespace Nl
open PySem PySem.Spec PyProof.Rows L2
/-- a set just made, the heap with it -/
abbrev oS (w : World) : Obj := { cls := .type "set", dict := none, data := .set #[] 0 (.fresh 0 0 (!w.params.followText "set-order")) }
abbrev hS (w : World) (h : Heap) : Heap := h.push (oS w)
section
variable {P : Program} {w : World} {A : Around} {E : Value → Shared → Prop} {s : Shared}
/-- what is wanted behind the filling -/
def Filled (w : World) (s : Shared) (ns : List Int) (r : Value) (s2 : Shared) : Prop := r = .none ∧ ∃ h' tk c, s2 = { s with heap := h', toks := tk } ∧ SetR w h' s.heap.objs.size (fun j => decide (j ∈ ns)) c ∧ c ≤ ns.length ∧ ∀ b o, s.heap.get? b = some o → h'.get? b = some o
theorem set_of_list {l : Addr} {items : Array Value} {ns : List Int} {Q : Value → Shared → Prop} (hh : A.handled = none) (hl : s.heap.IsList l items) (hit : IntsAre items.toList ns) (hb : ns.length + 1 < scanBound)
    (q : ∀ (h' : Heap) (tk c : Nat), SetR w h' s.heap.objs.size (fun j => decide (j ∈ ns)) c → c ≤ ns.length → (∀ b o, s.heap.get? b = some o → h'.get? b = some o) → Q (.ref s.heap.objs.size) { s with heap := h', toks := tk }) :
    wpAny (model P w) A (PySem.call (.type "set") [.ref l]) Q E s := by
  obtain ⟨c, tl, hmro⟩ := F.called_set.mro
  have hmade := F.called_set.made
  have hsub := F.called_set.sub
  refine wpAny_call (codeAny_of_tree ?_)
  show wpAny _ _ (callAny (.type "set") _) _ _ _
  refine wpAny_pure ⟨Code.quiet_builtin _ (by decide +kernel), codeAny_builtin F.entry_type_call ?_⟩
  rw [Around.under_plain (weight_type_call_type "set" [.ref l] []) rfl]
  have h1 := F.called_set.notType
  have h2 := F.called_set.canCreate
  have hct := F.typeCall_set_1 (.ref l)
  repeat (any_goals (first | assumption | wp_step))
  refine codeAny_mono (code_set_led1 (.ref l) (E := E) (Q₁ := fun obj s1 => obj = .ref s.heap.objs.size ∧ s1 = { s with heap := hS w s.heap }) ⟨rfl, rfl⟩) fun r s1 hr => ?_
  cases r with
  | error e => exact hr
  | ok fl =>
    cases fl with
    | ret obj =>
      obtain ⟨rfl, rfl⟩ := hr
      have hT : Shared.TypeIs { s with heap := hS w s.heap } (.ref s.heap.objs.size) "set" := ⟨_, Heap.get?_push_size _ rfl, rfl⟩
      have hli := F.called_set.init.lookup
      have hbi := F.called_set.init.bind (.ref s.heap.objs.size)
      repeat (any_goals (first | assumption | wp_step))
      refine codeAny_mono (codeAny_call_builtin (R := wants (Filled w s ns) E) F.called_set.init.plain F.entry_set_init (check_set_init_1 hT ?_)) fun r2 s2 h2 => ?_
      · obtain ⟨⟨ocls, odict, odata, oslots⟩, hol, hcl, nl, hdl⟩ := hl
        simp only at hcl hdl
        subst hcl
        subst hdl
        have hol' := Heap.get?_push_of_some (oS w) hol
        have hl1 : (hS w s.heap).IsList l items := ⟨_, hol', rfl, nl, rfl⟩
        have k1 := F.sub_list_set
        have k2 := F.sub_list_frozenset
        have k3 : (Value.type "list" == Value.type "dict") = false := by decide
        unfold Builtin.«set.__init__» noKeywords Builtin.Frozenset.updateFrom
        generalize hPI : pyIter = PI
        wp_walk
        subst hPI
        refine wpAny_pyIter_list hl1 ?_
        refine wpAny_bind (wpAny_runValue ?_)
        have hlt : l < s.heap.objs.size := Heap.lt_size hol
        have hz : (hS w s.heap).objs.size = s.heap.objs.size + 1 := Heap.size_push ..
        have hin : A.in1.in1.in1.handled = none := by simp [hh]
        have hlen : items.size = ns.length := by
          have := IntsAre.length hit
          rwa [Array.length_toList] at this
        have hval : ∀ (i : Nat) (v : Value), items[i]? = some v → ∃ k t, ns[i]? = some k ∧ v = .int k t := fun i v hv => by
          have hi : i < ns.length := hlen ▸ (Array.getElem?_eq_some_iff.mp hv).1
          obtain ⟨t, e⟩ := IntsAre.int_at hit i v (by rw [Array.getElem?_toList]; exact hv)
          rw [List.getD_eq_getElem?_getD, List.getElem?_eq_getElem hi] at e
          exact ⟨_, t, List.getElem?_eq_getElem hi, e⟩
        have n1 : l ≠ (hS w s.heap).objs.size := by
          rw [hz]
          exact Nat.ne_of_lt (Nat.lt_succ_of_lt hlt)
        have n2 : s.heap.objs.size ∉ [(hS w s.heap).objs.size, l] := by
          rw [hz]
          intro h
          rcases List.mem_cons.mp h with h | h
          · exact Nat.ne_of_lt (Nat.lt_succ_self _) h
          · exact Nat.ne_of_gt hlt (List.mem_singleton.mp h)
        refine set_update_ints ((Walks.list hin _ l n1 items).toS) s.heap.objs.size n2 ns hlen hb hval items.size 0 _ (by omega) (Nat.zero_le _) ⟨⟨_, Heap.get?_push_size _ rfl, rfl, rfl⟩, hl1.push _⟩ ⟨0, Nat.le_refl 0, setR_new_at (Heap.get?_push_of_some _ (Heap.get?_push_size _ rfl))⟩ fun s3 c3 hm hc3 h3 => ?_
        obtain ⟨h', g2, d2, tk2, os2⟩ := s3
        cases (show g2 = s.gens from hm.gens)
        cases (show d2 = s.drawn from hm.drawn)
        cases (show os2 = s.os from hm.os)
        show wpAny _ _ _ _ _ _
        refine wpAny_pure ?_
        show wpAny _ _ (ret Value.none) _ _ _
        refine wpAny_pure ⟨rfl, h', tk2, c3, rfl, h3, by omega, fun b o e => ?_⟩
        have hb0 : b < s.heap.objs.size := Heap.lt_size e
        refine hm.heap b o ?_ (Heap.get?_push_of_some _ (Heap.get?_push_of_some _ e))
        rw [hz]
        intro h
        rcases List.mem_cons.mp h with h | h
        · exact Nat.ne_of_lt hb0 h
        · exact Nat.ne_of_lt (Nat.lt_succ_of_lt hb0) (List.mem_singleton.mp h)
      · cases r2 with
        | error e => exact h2
        | ok fl2 =>
          cases fl2 with
          | ret r =>
            obtain ⟨rfl, h', tk, c', rfl, a1, a2, a3⟩ := h2
            repeat (any_goals (first | assumption | wp_step))
            exact q _ _ _ a1 a2 a3
          | _ => exact h2.elim
    | _ => exact hr.elim
theorem setR_len {h : Heap} {a : Addr} {ns : List Int} {c : Nat} (R : SetR w h a (fun j => decide (j ∈ ns)) c) (L : List Int) (nd : L.Nodup) (hL : ∀ k, k ∈ L ↔ k ∈ ns) : c = L.length := by
  obtain ⟨o, es, ep, t, _, _, _, _, n1, n2, _, _, n3, _⟩ := R
  have p : (es.toList.map keyOf).Perm L := (List.perm_ext_iff_of_nodup n1 nd).mpr fun k => by
    rw [hL k, ← n2 k]
    simp
  have := p.length_eq
  rw [List.length_map, Array.length_toList] at this
  omega
variable {X : Cx}
/-- set(a list of ints) -/
def rSetI (K : PySem.W.Frag) (w : World) : List V → Hp → VK → Prop := fun xs H Q => ∃ (p : Addr) (ns : List Int), xs = [V.ref p] ∧ SqL K H p (ns.map V.int) ∧ ns.length ≤ 1000 ∧ ∀ a c, H a = none → (∀ L : List Int, L.Nodup → (∀ k, k ∈ L ↔ k ∈ ns) → c = L.length) → Q (.ref a) (upd H a (SetO w a (fun j => decide (j ∈ ns)) c))
theorem cr_setI (hc : X.calm = true) : CallR X (.type "set") (rSetI X.K X.w) := by
  intro pins s σ H xs us Q I r h
  obtain ⟨p, ns, rfl, hq, hl, q⟩ := h
  obtain ⟨u, rfl, rx⟩ := vals1 r
  cases rx
  obtain ⟨its, r', pl, hz⟩ := I.list hq
  refine set_of_list (ns := ns) (I.ok.hd hc) pl.isList ?_ (by unfold scanBound; omega) fun h' tk c R hcn k => ?_
  · exact intsAre_of r'
  · exact ⟨.ref s.heap.objs.size, _, I.laid (t' := tk) k (Nat.le_refl _) (setO_new R), rfl, q _ c (I.hok.fresh (Nat.le_refl _)) (setR_len R)⟩
end
/-! ### rising, each once -/
theorem insU_mem (x k : Int) : ∀ ys : List Int, k ∈ insU x ys ↔ k = x ∨ k ∈ ys
  | [] => by simp [insU]
  | y :: ys => by
    unfold insU
    split
    · simp
    · split
      · rename_i h
        subst h
        simp
      · rw [List.mem_cons, insU_mem x k ys, List.mem_cons]
        constructor
        · rintro (h | h | h) <;> simp [h]
        · rintro (h | h | h) <;> simp [h]
theorem sortU_mem (k : Int) : ∀ xs : List Int, k ∈ sortU xs ↔ k ∈ xs
  | [] => Iff.rfl
  | x :: xs => by rw [sortU, insU_mem, sortU_mem k xs, List.mem_cons]
theorem insU_lt (x : Int) : ∀ ys : List Int, ys.Pairwise (· < ·) → (insU x ys).Pairwise (· < ·)
  | [], _ => by simp [insU]
  | y :: ys, h => by
    obtain ⟨h1, h2⟩ := List.pairwise_cons.mp h
    unfold insU
    split
    · rename_i hx
      refine List.pairwise_cons.mpr ⟨fun z hz => ?_, h⟩
      rcases List.mem_cons.mp hz with rfl | hz
      · exact hx
      · exact Int.lt_trans hx (h1 z hz)
    · split
      · exact h
      · rename_i n1 n2
        refine List.pairwise_cons.mpr ⟨fun z hz => ?_, insU_lt x ys h2⟩
        rcases (insU_mem x z ys).mp hz with rfl | hz
        · omega
        · exact h1 z hz
theorem sortU_lt : ∀ xs : List Int, (sortU xs).Pairwise (· < ·)
  | [] => List.Pairwise.nil
  | x :: xs => insU_lt x _ (sortU_lt xs)
theorem insU_le (x : Int) : ∀ ys : List Int, (insU x ys).length ≤ ys.length + 1
  | [] => by simp [insU]
  | y :: ys => by
    have := insU_le x ys
    unfold insU
    split
    · simp
    · split
      · simp
      · simp only [List.length_cons]
        omega
theorem sortU_le : ∀ xs : List Int, (sortU xs).length ≤ xs.length
  | [] => by simp [sortU]
  | x :: xs => by
    have a := insU_le x (sortU xs)
    have b := sortU_le xs
    show (insU x (sortU xs)).length ≤ _
    rw [List.length_cons]
    omega
theorem nodup_lt {xs : List Int} (h : xs.Pairwise (· < ·)) : xs.Nodup := h.imp fun a => Int.ne_of_lt a
theorem sortU_unique {ns : List Int} {L : List Int} (h : L.Pairwise (· < ·)) (hm : ∀ k, k ∈ L ↔ k ∈ ns) : L = sortU ns := by
  have p : L.Perm (sortU ns) := (List.perm_ext_iff_of_nodup (nodup_lt h) (nodup_lt (sortU_lt ns))).mpr fun k => by rw [hm, sortU_mem]
  exact sorted_unique p (h.imp fun a => Int.le_of_lt a) ((sortU_lt ns).imp fun a => Int.le_of_lt a)
section
variable {nm : Nms} {gl : Nat → Option D} {cf : Cf} {X : Cx}
theorem snd_sset (C : Ctx nm gl cf X) {p pos p2 pos2 : Pos} {e : Expr} {cs : Es} (hg : Gl X (Str.ofString "sorted")) (hg2 : Gl X (Str.ofString "set")) (oe : ord e = true) (hs : SndA gl cf X [e] cs) :
    SndE gl cf X (.Call (.Name (Str.ofString "sorted") p) [.Call (.Name (Str.ofString "set") p2) [e] [] pos2] [] pos) (.bi .sset cs) := by
  obtain ⟨t, pt, m, mx⟩ := hs
  have pi : PE X (.Call (.Name (Str.ofString "set") p2) [e] [] pos2) (tCB (rSetI X.K X.w) t) := pe_callTy (cr_setI C.calm) hg2 (C.bi _ (by decide)) (by decide +kernel) pt (by decide +kernel) (by decide +kernel) (ord_star oe []) rfl
  have pe : PE X (.Call (.Name (Str.ofString "sorted") p) [.Call (.Name (Str.ofString "set") p2) [e] [] pos2] [] pos) (tCB (rSortA X.w) (tCons (tCB (rSetI X.K X.w) t) tNil)) := pe_callB (cr_sortA C.calm) hg (C.bi _ (by decide)) (by decide +kernel) (pa_cons pi pa_nil rfl) (by decide +kernel) (by decide +kernel) rfl rfl
  refine ⟨_, pe, asg_ord C.nd rfl rfl pe, fun σ H env G ix S w S' Q r g e q => ?_, fun σ H env G ix S k S' Q r g e q => semXA1 mx r g (by simpa only [ev] using e) (fun _ => nx_biOp.bind fun _ => nx_ok) q⟩
  simp only [ev] at e
  obtain ⟨y, e1, e⟩ := ok2 e
  obtain ⟨w', e2, e⟩ := ok2 e
  cases e
  refine m σ H env G ix S y.1 y.2 _ r g e1 fun vs G1 ix1 H1 s1 g1 r1 => ?_
  obtain ⟨y1, y2⟩ := y
  dsimp only at *
  unfold biOp at e2
  split at e2 <;> first | (rename_i z _; cases z; done) | skip
  all_goals try (rename_i z; cases z; done)
  all_goals try contradiction
  rename_i xs _ em
  split at e2
  · rename_i ns en
    obtain ⟨c, e2⟩ := guard_ok e2
    cases e2
    rw [decide_eq_true_eq] at c
    obtain ⟨d, rfl, ed⟩ := map1 em
    obtain ⟨v, rfl, rv⟩ := rps1 r1
    obtain ⟨a, us, rfl, h1, r2⟩ := pk_lst g1 rv ed
    have hu := r2.ints en
    subst hu
    refine ⟨a, ns, rfl, SqL.of h1, c, fun b k hb hk => ?_⟩
    have hk' := hk (sortU ns) (nodup_lt (sortU_lt ns)) fun z => sortU_mem z ns
    have hle := sortU_le ns
    refine ⟨b, _, k, rfl, ⟨upd_same, by omega⟩, fun L p' h2 h3 h4 h5 => ?_⟩
    have hL : L = sortU ns := sortU_unique h2 fun z => by rw [h3 z]; simp
    subst hL
    exact (q.from (s1.trans (Stp.lay hb))).newL (g1.lay hb) h5 rfl (Rps.ofInts _)
  · cases e2
end
end Nl

/-! enumerate(a tuple). -/
namespace Nl
open PySem PySem.Spec PyProof.Rows L2
open AutoSeq1 (wpAny_loadPart')
theorem enumT_new (l : Addr) (items : Array Value) (n : Nat) (dct : Option Addr) (sl : Array (Option Value)) :
    Meets (Builtin.«enumerate.__new__» ⟨[.type "enumerate", .ref l], []⟩) (fun _ R s => s.heap.get? l = some { cls := .type "tuple", dict := dct, data := .seq items n, slots := sl } ∧
      R (.ok (.ret (.ref (s.heap.push { cls := .type "tuple_iterator", data := .fields #[.ref l, .int 0 0] }).objs.size)))
        { s with heap := (s.heap.push { cls := .type "tuple_iterator", data := .fields #[.ref l, .int 0 0] }).push { cls := .type "enumerate", data := .fields #[.none, .bool false, .ref s.heap.objs.size, rawInt 0, .none, .none] } }) :=
  .of_wp fun prog w A R s h => by
    obtain ⟨hp, g, d, tk, os⟩ := s; obtain ⟨hl, h⟩ := h
    have hsub := sub_enumerate
    have hL : Heap.IsTuple (Shared.heap ⟨hp, g, d, tk, os⟩) l items := ⟨_, hl, rfl, n, rfl⟩
    wp_walk using wpAny_loadPart' hl
    refine wpAny_stack_any fun st => wpAny_pure ?_
    split
    · rename_i c _ _ _ _ _
      cases (c == Value.type "enumerate")
      · wp_walk using wpAny_loadPart' hl, wpAny_pyIter_tuple hL
        exact ⟨_, rfl, h⟩
      · wp_walk using wpAny_loadPart' hl, wpAny_pyIter_tuple hL
        exact ⟨_, rfl, h⟩
    · wp_walk using wpAny_loadPart' hl, wpAny_pyIter_tuple hL
      exact ⟨_, rfl, h⟩
section
variable {prog : Program} {w : World} {A : Around} {E : Value → Shared → Prop} {s : Shared}
theorem call_enumT {l : Addr} {items : Array Value} {Q : Value → Shared → Prop} (hL : s.heap.IsTuple l items)
    (h : ∀ h', IsEnum h' (s.heap.objs.size + 1) s.heap.objs.size 0 .none → h'.IsTupleIter s.heap.objs.size l 0 → h'.objs.size = s.heap.objs.size + 2 →
      (∀ b o, s.heap.get? b = some o → h'.get? b = some o) → Q (.ref (s.heap.objs.size + 1)) { s with heap := h' }) :
    wpAny (model prog w) A (PySem.call (.type "enumerate") [.ref l]) Q E s := by
  obtain ⟨⟨c, dct, dt, sl⟩, hl, hc, n, hd⟩ := hL
  replace hc : c = .type "tuple" := hc
  replace hd : dt = .seq items n := hd
  subst hc hd
  refine callType_new F.called_enumerate (by decide) (F.typeCall_enumerate_1 _) (F.newCall_enumerate_1 _) (fun obj => F.args_object_init_2 obj _) F.entry_enumerate_new
    (enumT_new l items n dct sl) ⟨hl, ?_⟩
  have hz : (s.heap.push { cls := .type "tuple_iterator", data := .fields #[.ref l, .int 0 0] }).objs.size = s.heap.objs.size + 1 := Heap.size_push ..
  show _ ∧ _
  rw [hz]
  have he : IsEnum ((s.heap.push { cls := .type "tuple_iterator", data := .fields #[.ref l, .int 0 0] }).push
      { cls := .type "enumerate", data := .fields #[.none, .bool false, .ref s.heap.objs.size, rawInt 0, .none, .none] }) (s.heap.objs.size + 1) s.heap.objs.size 0 .none := by
    have := Heap.get?_push_size (s.heap.push { cls := .type "tuple_iterator", data := .fields #[.ref l, .int 0 0] })
      (o := { cls := .type "enumerate", data := .fields #[.none, .bool false, .ref s.heap.objs.size, rawInt 0, .none, .none] }) rfl
    rw [hz] at this; exact this
  refine ⟨⟨_, he, rfl⟩, h _ he ⟨_, Heap.get?_push_of_some _ (Heap.get?_push_size _ rfl), rfl, rfl⟩ (by rw [Heap.size_push, hz]) fun b o x => Heap.get?_push_of_some _ (Heap.get?_push_of_some _ x)⟩
end
/-- the tuple at a, each item in a new pair -/
def IteT (K : PySem.W.Frag) (a : Addr) : It :=
  ⟨fun i H => ∃ (xs : List V) (x : V), SqT K H a xs ∧ xs[i]? = some x, fun i H v H' => ∃ T x, v = .ref T ∧ H T = none ∧ H' = L2.upd H T (.tup [.int (i : Nat), x]) ∧ ∀ xs, SqT K H a xs → xs[i]? = some x, fun i H => ∃ xs : List V, SqT K H a xs ∧ xs.length = i⟩
theorem turn_enumT {P : Program} {w : World} {K : PySem.W.Frag} {elts : List Expr} {kk : Nat} {tpos : Pos} (a e it : Addr) :
    Turn P w K (.Tuple elts kk tpos) (IteT K a) [e, it] e (fun i h => (∃ old, IsEnum h e it ((i : Nat) : Int) old) ∧ h.IsTupleIter it a i ∧ e ≠ it ∧ a ≠ it ∧ a ≠ e) where
  mem := by simp
  obj := fun i h st b hb => by
    obtain ⟨⟨old, he⟩, ⟨o, ho, hc, hd⟩, _⟩ := st
    have e' : b = e ∨ b = it := by simpa using hb
    rcases e' with z | z
    · rw [z]; exact ⟨_, he, fun v q => nomatch q⟩
    · rw [z]; exact ⟨o, ho, fun v q => by rw [hd] at q; cases q⟩
  keep := fun i h h' st k => let ⟨⟨old, he⟩, hi, hne⟩ := st; ⟨⟨old, k e (by simp) _ he⟩, hi.at fun o q => k it (by simp) o q, hne⟩
  item := by
    intro X hP hw hK hc i pins s σ H E I hf st hg
    subst hP hw hK
    obtain ⟨⟨old, he⟩, hit, hne, hai, hae⟩ := st
    obtain ⟨xs, x, hq, hx⟩ := hg
    obtain ⟨its, rv, p, hz⟩ := I.tuple hq
    obtain ⟨u, hu, ru⟩ := rv.get hx
    have p' : s.heap.IsTuple a its.toArray := p
    have hil : i < its.toArray.size := by
      have := (List.getElem?_eq_some_iff.mp hu).1
      simpa using this
    have hel : e < s.heap.objs.size := Heap.lt_size he
    have hil2 : it < s.heap.objs.size := by obtain ⟨_, q, _⟩ := hit; exact Heap.lt_size q
    refine wpAny_pyNext_enum_itemD (Draws.tuple (A := X.A.in1) (I.ok.hd hc) it a hai its.toArray) he ⟨hit, p'⟩ hil hne (by simp [hne, Ne.symm hae]) fun y h' tk hy ho hst hT hsz hk => ?_
    have hy' : y = u := by
      have : its.toArray[i]? = some y := hy
      rw [show its.toArray[i]? = its[i]? by simp, hu] at this
      exact (Option.some.inj this).symm
    subst hy'
    refine ⟨_, rfl, wpAny_letOwnedTupleGo_enum (s := { s with heap := h', toks := tk + 1 }) ho fun h'' he' sb => ?_⟩
    have hT2 : h''.get? s.heap.objs.size = some { cls := .type "tuple", data := .seq #[.int i tk, y] } := (sb.2 _ (Nat.ne_of_gt hel)).trans hT
    have new : ObjOk X.prog X.w (L2.upd H s.heap.objs.size (.tup [.int (i : Nat), x])) h'' s.heap.objs.size (.tup [.int (i : Nat), x]) :=
      ⟨by show 2 ≤ sizeLine; decide, [.int i tk, y], .cons ⟨_, rfl⟩ (.cons ru .nil), ⟨_, hT2, rfl, _, rfl⟩⟩
    have I1 : Inv X pins σ (L2.upd H s.heap.objs.size (.tup [.int (i : Nat), x])) { s with heap := h'', toks := tk + 1 } :=
      I.turnedNew (ch := [e, it]) (fun b ob hb q => (sb.2 b (fun z => hb (by simp [z]))).trans (hk b ob (fun z => hb (by simp [z])) (fun z => hb (by simp [z])) q)) hf (Nat.le_refl _) new
    refine ⟨.ref s.heap.objs.size, _, I1, rfl, ⟨_, x, rfl, I.hok.fresh (Nat.le_refl _), rfl, fun ys hy => by rw [I.tuple_inj hy hq]; exact hx⟩, ⟨⟨y, ?_⟩, hst.1.at fun o q => (sb.2 it (Ne.symm hne)).trans q, hne, hai, hae⟩, fun b hb => ?_⟩
    · have e1 : ((i + 1 : Nat) : Int) = (i : Int) + 1 := by omega
      rw [e1]; exact he'
    · have hb' : b < s.heap.objs.size := by
        have e' : b = e ∨ b = it := by simpa using hb
        rcases e' with z | z
        · rw [z]; exact hel
        · rw [z]; exact hil2
      rw [upd_ne (Nat.ne_of_lt hb')]
      exact (hf b hb).1
  done := by
    intro X hP hw hK hc i pins s σ H E I hf st hg
    subst hP hw hK
    obtain ⟨⟨old, he⟩, hit, hne, hai, hae⟩ := st
    obtain ⟨xs, hq, hx⟩ := hg
    obtain ⟨its, rv, p, hz⟩ := I.tuple hq
    have p' : s.heap.IsTuple a its.toArray := p
    obtain ⟨f0, f1, f2, f3, f4, f5⟩ := hf it (by simp)
    have hl := rv.length
    have hi : i = its.toArray.size := by rw [List.size_toArray]; omega
    subst hi
    exact wpAny_pyNext_enum_endD (Draws.tuple (A := X.A.in1) (I.ok.hd hc) it a hai its.toArray) he ⟨hit, p'⟩ fun h' eb => ⟨rfl, I.turned (t' := s.toks) (fun b o hb q => eb b o hb q) f0 f1 f3 f4 f5⟩
  self := fun A i s Q E st h => let ⟨⟨_, he⟩, _⟩ := st; wpAny_pyIter_enum he h
def iEnumA (K : PySem.W.Frag) (ta : TA) : TI := fun σ H R => ta σ H fun vs H1 => ∃ a xs, vs = [.ref a] ∧ ((SqL K H1 a xs ∧ R (Ite K a) H1) ∨ (SqT K H1 a xs ∧ R (IteT K a) H1))
theorem pi_enumA {X : Cx} {e : Expr} {ta : TA} {p pos tpos : Pos} {elts : List Expr} {kk : Nat} (hg : Gl X "enumerate") (hm : X.mg "enumerate" = none) (ha : PA X [e] ta) (hs : starEach [e] X.env = [(false, PySem.eval e X.env)] := by rfl) :
    PI X (.Tuple elts kk tpos) (.Call (.Name "enumerate" p) [e] [] pos) (iEnumA X.K ta) := by
  refine ⟨fun pins s σ H R I h => ?_⟩
  refine Call_ (ld_blt I hg hm boot_enumerate (PyProof.Rows.callWith_type1 (thn (ha.run pos pins s σ H _ I h) fun us s1 ⟨vs, H1, I1, r1, q1⟩ => ?_) hs rfl))
  obtain ⟨a, xs, ex, q1⟩ := q1
  subst ex
  cases r1 with
  | cons r rr =>
    cases rr
    cases r
    have fresh2 : ∀ b, b ∈ [s1.heap.objs.size + 1, s1.heap.objs.size] → FpOk X pins H1 b := fun b hb => by
      have e' : b = s1.heap.objs.size + 1 ∨ b = s1.heap.objs.size := by simpa using hb
      have hle : s1.heap.objs.size ≤ b := by
        rcases e' with z | z
        · rw [z]; exact Nat.le_add_right _ _
        · rw [z]; exact Nat.le_refl _
      exact I1.fpOk hle (I1.hok.fresh hle)
    rcases q1 with ⟨hq, q⟩ | ⟨hq, q⟩
    · obtain ⟨its, rv, p', hz⟩ := I1.list hq
      refine call_enumerate_list p'.isList fun h' he hit hsz hk => wpAny_pyIter_enum he ?_
      have I2 : Inv X pins σ H1 { s1 with heap := h' } := I1.kept (t' := s1.toks) hk
      exact ⟨s1.heap.objs.size + 1, [s1.heap.objs.size + 1, s1.heap.objs.size], _, _, H1, rfl, I2, turn_enum a (s1.heap.objs.size + 1) s1.heap.objs.size, ⟨⟨.none, he⟩, hit, Nat.succ_ne_self _⟩, fresh2, q⟩
    · obtain ⟨its, rv, p', hz⟩ := I1.tuple hq
      have p2 : s1.heap.IsTuple a its.toArray := p'
      obtain ⟨o1, ho1, _⟩ := id p'
      have hlt : a < s1.heap.objs.size := Heap.lt_size ho1
      refine call_enumT p2 fun h' he hit hsz hk => wpAny_pyIter_enum he ?_
      have I2 : Inv X pins σ H1 { s1 with heap := h' } := I1.kept (t' := s1.toks) hk
      exact ⟨s1.heap.objs.size + 1, [s1.heap.objs.size + 1, s1.heap.objs.size], _, _, H1, rfl, I2, turn_enumT a (s1.heap.objs.size + 1) s1.heap.objs.size, ⟨⟨.none, he⟩, hit, Nat.succ_ne_self _, Nat.ne_of_lt hlt, Nat.ne_of_lt (Nat.lt_succ_of_lt hlt)⟩, fresh2, q⟩
end Nl

/-! t[::-1] of a tuple. -/
namespace Nl
open PySem PySem.Spec PyProof.Rows L2
section
variable {prog : Program} {w : World} {A : Around} {E : Value → Shared → Prop} {s : Shared}
theorem adj_rev (n : Nat) : Builtin.Slice.sliceAdjust none none (-1) (n : Int) = ((n : Int) - 1, -1) := by
  unfold Builtin.Slice.sliceAdjust
  simp
theorem places_rev (n : Nat) : Builtin.Slice.slicePlaces ((n : Int) - 1) (-1) (-1) = n := by
  unfold Builtin.Slice.slicePlaces
  by_cases h : n = 0
  · subst h
    simp
  · have h1 : (-1 : Int) < (n : Int) - 1 := by omega
    simp [h1]
theorem fm_congr {α β : Type} {f g : α → Option β} : ∀ {l : List α}, (∀ x ∈ l, f x = g x) → l.filterMap f = l.filterMap g
  | [], _ => rfl
  | x :: xs, h => by
    rw [List.filterMap_cons, List.filterMap_cons, h x List.mem_cons_self, fm_congr fun y hy => h y (List.mem_cons_of_mem _ hy)]
theorem applied_rev {sl : Addr} {vs : Value} {n : Nat} {Q : Int × Int × Nat → Shared → Prop} (hs : s.heap.IsSliceOf sl .none .none vs) (ps : IsPart vs (some (-1)))
    (h : Q ((n : Int) - 1, -1, n) s) : wpAny (model prog w) A (Builtin.Slice.sliceApplied (.ref sl) (pure (n : Int))) Q E s := by
  obtain ⟨os, hos, hcs, hds⟩ := id hs
  unfold Builtin.Slice.sliceApplied Builtin.Slice.sliceFields
  refine wpAny_bind (wpAny_bind (wpAny_field hos hds (x := .none) rfl (wpAny_bind (wpAny_field hos hds (x := .none) rfl (wpAny_bind (wpAny_field hos hds (x := vs) rfl (wpAny_pure ?_)))))))
  refine wpAny_bind (HT.slicePart_ ps ?_)
  show wpAny _ _ (if ((-1 : Int) == 0) = true then _ else _) _ _ s
  rw [if_neg (by decide)]
  refine wpAny_bind (HT.slicePart_ IsPart.none (wpAny_bind (HT.slicePart_ IsPart.none (wpAny_bind (wpAny_pure ?_)))))
  show wpAny _ _ (match Builtin.Slice.sliceAdjust none none (-1) (n : Int) with | (lo, hi) => pure (lo, (-1 : Int), Builtin.Slice.slicePlaces lo hi (-1))) _ _ s
  rw [adj_rev n]
  show wpAny _ _ (pure ((n : Int) - 1, (-1 : Int), Builtin.Slice.slicePlaces ((n : Int) - 1) (-1) (-1))) _ _ s
  rw [places_rev]
  exact wpAny_pure h
theorem pick_rev (xs : Array Value) : ((List.range xs.size).filterMap fun (m : Nat) => xs[((xs.size : Int) - 1 + (m : Int) * (-1)).toNat]?).toArray = xs.toList.reverse.toArray := by
  have h1 : (List.range xs.size).filterMap (fun (m : Nat) => xs[((xs.size : Int) - 1 + (m : Int) * (-1)).toNat]?) = ((List.range xs.size).map fun k => xs.size - 1 - k).filterMap (xs[·]?) := by
    rw [List.filterMap_map]
    refine fm_congr fun m hm => ?_
    have := List.mem_range.mp hm
    have e2 : ((xs.size : Int) - 1 + (m : Int) * (-1)).toNat = xs.size - 1 - m := by omega
    rw [e2]
    rfl
  rw [h1, PySem.W.krv_range, List.filterMap_reverse, PySem.W.krv_all]
theorem getItem_tuple_rev {t sl : Addr} {items : Array Value} {vs : Value} {Q : Value → Shared → Prop} (ht : IsTup s.heap t items) (hs : s.heap.IsSliceOf sl .none .none vs) (ps : IsPart vs (some (-1)))
    (h : Q (.ref s.heap.objs.size) { s with heap := s.heap.push { cls := .type "tuple", data := .seq items.toList.reverse.toArray } })
    (hsz : items.size ≤ sizeLine) : wpAny (model prog w) A (getItem (.ref t) (.ref sl)) Q E s := by
  have htake : sizeOk (.seq items.toList.reverse.toArray) := by
    show items.toList.reverse.toArray.size ≤ sizeLine
    rw [List.size_toArray, List.length_reverse, Array.length_toList]
    exact hsz
  obtain ⟨os, hos, hcs, hds⟩ := id hs
  have hTs : s.TypeIs (.ref sl) "slice" := ⟨os, hos, hcs⟩
  unfold getItem
  try with_reducible refine wpAny_holding ?_
  first | refine wpAny_bind (wpAny_pure ?_) | skip
  refine wpAny_bind (wpAny_sequenceKey ht.typeIs (by decide) ?_)
  refine wpAny_bind (wpAny_callSpecial?_slot (name := Str.ofString "__getitem__") ht.typeIs PyProof.Rows.slot_tuple_getitem
    (wpAny_call_entry PyProof.Rows.slot_tuple_getitem ht.typeIs entry_tuple_getitem ?_ (args_tuple_getitem _ _)))
  show wpAny _ _ (Builtin.Tuple.tupleItemsOf (.ref t) >>= _) _ _ s
  refine wpAny_bind (tupleItemsOf_ ht ?_)
  refine wpAny_bind (wpAny_typeOf hTs ?_)
  rw [if_pos (by decide)]
  refine wpAny_bind (applied_rev hs ps ?_)
  have hno : ¬ ((((items.size : Int) - 1) == 0 && (-1 : Int) == 1 && items.size == items.size) = true) := by
    intro q
    rw [Bool.and_eq_true, Bool.and_eq_true] at q
    have := eq_of_beq q.1.2
    omega
  show wpAny _ _ (if (((items.size : Int) - 1) == 0 && (-1 : Int) == 1 && items.size == items.size) = true then _ else _) _ _ s
  rw [if_neg hno, pick_rev]
  first
    | exact wpAny_bind (m := Builtin.Tuple.tupleExact _) (wpAny_newObj_type (wpAny_pure ⟨_, rfl, wpAny_pure h⟩) htake)
    | exact wpAny_bind (m := Builtin.Tuple.tupleExact _) (wpAny_newObj_type (wpAny_bind (wpAny_pure (wpAny_pure ⟨_, rfl, wpAny_pure h⟩))) htake)
    | exact wpAny_bind (wpAny_bind (m := Builtin.Tuple.tupleExact _) (wpAny_newObj_type (wpAny_pure (wpAny_pure ⟨_, rfl, wpAny_pure h⟩)) htake))
    | exact wpAny_bind (wpAny_bind (m := Builtin.Tuple.tupleExact _) (wpAny_newObj_type (wpAny_pure ⟨_, rfl, wpAny_pure h⟩) htake))
end
section
variable {X : Cx}
def tRevA (K : PySem.W.Frag) (te : TE) : TE := fun σ H Q => te σ H fun x H1 => (∃ a xs, x = .ref a ∧ SqL K H1 a xs ∧ ∀ p, H1 p = none → Q (.ref p) (L2.upd H1 p (.lst xs.reverse))) ∨ ∃ a xs, x = .ref a ∧ SqT K H1 a xs ∧ ∀ p, H1 p = none → Q (.ref p) (L2.upd H1 p (.tup xs.reverse))
theorem pe_revA {e : Expr} {te : TE} {k : Nat} {p1 p2 p3 pos : Pos} (he : PE X e te) : PE X (.Subscript e (.Slice none none (some (.UnaryOp .USub (.Constant (.int 1) k p1) p2)) p3) pos) (tRevA X.K te) := by
  refine ⟨fun pins s σ H Q I h => ?_⟩
  refine Subscript_ (thn (he.run pins s σ H _ I h) fun v s1 ⟨x, H1, I1, r1, q1⟩ => ?_)
  have hst : PO X (some (.UnaryOp .USub (.Constant (.int 1) k p1) p2)) (tPart (tUn (rU fun i => .int (-i)) (tC (.int 1)))) := po_some (pe_un un_neg pe_int)
  refine wpAny_Slice (thn (po_none.run pins s1 σ H1 (fun o H2 => o = none ∧ H2 = H1) I1 ⟨rfl, rfl⟩) fun vl s2 ⟨l, H2, I2, pl, el, e2⟩ => ?_)
  subst el e2
  refine thn (po_none.run pins s2 σ H2 (fun o H3 => o = none ∧ H3 = H2) I2 ⟨rfl, rfl⟩) fun vu s3 ⟨u, H3, I3, pu, eu, e3⟩ => ?_
  subst eu e3
  refine thn (hst.run pins s3 σ H3 (fun o H4 => o = some (-1) ∧ H4 = H3) I3 ⟨1, rfl, -1, rfl, rfl, rfl⟩) fun vs s4 ⟨o, H4, I4, ps, eo, e4⟩ => ?_
  subst eo e4
  have I5 : Inv X pins σ H4 { s4 with heap := s4.heap.push { cls := .type "slice", data := .fields #[vl, vu, vs] } } := I4.kept (t' := s4.toks) fun b ob q => Heap.get?_push_of_some _ q
  rcases q1 with ⟨a, xs, ex, hx, q⟩ | ⟨a, xs, ex, hx, q⟩
  · subst ex
    cases r1
    obtain ⟨its, r, ht, hz⟩ := I5.list hx
    have hlen := r.length
    show wpAny (model X.prog X.w) X.A (subscriptTail e (.Slice none none (some (.UnaryOp .USub (.Constant (.int 1) k p1) p2)) p3) (.ref a) (.ref s4.heap.objs.size)) (EP X pins σ Q) X.xe { s4 with heap := s4.heap.push { cls := .type "slice", data := .fields #[vl, vu, vs] } }
    refine tail_any (ops := [.ref a, .ref s4.heap.objs.size]) ht.isList.typeIs (PySem.slot_list_getitem.lookup) ?_ (by with_unfolding_all rfl)
    refine wpAny_getItem_list_slice ht.isList (Heap.IsSliceOf.new _ vl vu vs) pl pu ps (by decide) ?_ (by rw [List.size_toArray]; omega)
    rw [PySem.W.krv_pick]
    refine ⟨.ref _, _, I5.laid (t' := s4.toks) (o := .lst xs.reverse) (fun b ob q => Heap.get?_push_of_some _ q) (Nat.le_refl _) ?_, rfl, q _ (I5.hok.fresh (Nat.le_refl _))⟩
    exact ⟨by rw [List.length_reverse]; exact hz, _, 0, r.reverse, Heap.get?_push_size _ rfl⟩
  · subst ex
    cases r1
    obtain ⟨its, r, ht, hz⟩ := I5.tuple hx
    have hlen := r.length
    cases pl
    cases pu
    show wpAny (model X.prog X.w) X.A (subscriptTail e (.Slice none none (some (.UnaryOp .USub (.Constant (.int 1) k p1) p2)) p3) (.ref a) (.ref s4.heap.objs.size)) (EP X pins σ Q) X.xe { s4 with heap := s4.heap.push { cls := .type "slice", data := .fields #[.none, .none, vs] } }
    refine tail_any (ops := [.ref a, .ref s4.heap.objs.size]) ht.typeIs (PyProof.Rows.slot_tuple_getitem.lookup) ?_ (by with_unfolding_all rfl)
    refine getItem_tuple_rev ht (Heap.IsSliceOf.new _ .none .none vs) ps ?_ (by rw [List.size_toArray]; omega)
    refine ⟨.ref _, _, I5.laid (t' := s4.toks) (o := .tup xs.reverse) (fun b ob q => Heap.get?_push_of_some _ q) (Nat.le_refl _) ?_, rfl, q _ (I5.hok.fresh (Nat.le_refl _))⟩
    exact ⟨by rw [List.length_reverse]; exact hz, _, r.reverse, IsTup.new _ _⟩
end
end Nl

/-! What is walked, and comprehensions. -/
namespace Nl
open PySem L2
/-- J walks the items ds, as long as the sources are as they were -/
structure Wlk (K : PySem.W.Frag) (G0 : Hp) (ix0 : List Addr) (S0 : Store) (a b : D) (J : It) (ds : List D) : Prop where
  go : ∀ i G ix S H, Le G0 G → Ixs ix0 ix → Good K G ix S H → kept a S0 S = true → kept b S0 S = true → i < ds.length → J.go i H
  stop : ∀ G ix S H, Le G0 G → Ixs ix0 ix → Good K G ix S H → kept a S0 S = true → kept b S0 S = true → J.stop ds.length H
  yld : ∀ i G ix S H x H', Le G0 G → Ixs ix0 ix → Good K G ix S H → kept a S0 S = true → kept b S0 S = true → i < ds.length → J.yld i H x H' →
    ∃ G' d, Stp G ix H G' ix H' ∧ Good K G' ix S H' ∧ ds[i]? = some d ∧ Rp K G' ix x d
theorem kept_pk {a : D} {S0 S : Store} (h : kept a S0 S = true) : pk S a = pk S0 a := by
  unfold kept at h
  split at h
  · rename_i n
    have e := of_decide_eq_true h
    simp only [pk, e]
  · rename_i hn
    cases a with
    | obj n => exact absurd rfl (hn n)
    | _ => rfl
theorem kept_refl (a : D) (S : Store) : kept a S S = true := by
  unfold kept
  split
  · exact decide_eq_true rfl
  · rfl
section
variable {K : PySem.W.Frag} {G0 : Hp} {ix0 : List Addr} {S0 : Store} {a b : D}
/-- the list that is walked, at any later moment -/
theorem src_lst {v : V} {xs : List D} (r : Rp K G0 ix0 v a) (h : pk S0 a = .lst xs) : ∃ p, v = .ref p ∨ True := ⟨0, .inr trivial⟩
theorem later_lst {p : Addr} {xs : List D} (r : Rp K G0 ix0 (.ref p) a) (h : pk S0 a = .lst xs) {G : Hp} {ix : List Addr} {S : Store} {H : Hp} (l : Le G0 G) (i : Ixs ix0 ix) (g : Good K G ix S H) (k : kept a S0 S = true) : ∃ vs, H p = some (.lst vs) ∧ Rps K G ix vs xs := by
  obtain ⟨q, vs, e, h1, h2⟩ := pk_lst g (r.mono l i _ _) (by rw [kept_pk k]; exact h)
  cases e
  exact ⟨vs, h1, h2⟩
theorem later_tup {p : Addr} {xs : List D} (r : Rp K G0 ix0 (.ref p) a) (h : pk S0 a = .tup xs) {G : Hp} {ix : List Addr} {S : Store} {H : Hp} (l : Le G0 G) (i : Ixs ix0 ix) (g : Good K G ix S H) (k : kept a S0 S = true) : ∃ vs, H p = some (.tup vs) ∧ Rps K G ix vs xs := by
  obtain ⟨q, vs, e, h1, _, h2, _⟩ := pk_tup g (r.mono l i _ _) (by rw [kept_pk k]; exact h)
  cases e
  exact ⟨vs, h1, h2⟩
theorem sql_inj {H : Hp} {p : Addr} {vs us : List V} (h : H p = some (.lst vs)) (k : ∀ xs, SqL K H p xs → xs = xs) : True := trivial
/-- a new pair is laid -/
theorem pair_new {G : Hp} {ix : List Addr} {S : Store} {H : Hp} (g : Good K G ix S H) {T : Addr} (hT : H T = none) {x y : V} {d e : D} (rx : Rp K G ix x d) (ry : Rp K G ix y e) :
    ∃ G', Stp G ix H G' ix (upd H T (.tup [x, y])) ∧ Good K G' ix S (upd H T (.tup [x, y])) ∧ Rp K G' ix (.ref T) (.tup [d, e]) :=
  ⟨_, Stp.newG g hT, g.newG hT, .tup upd_same (.cons (rx.mono (Le.upd (g.notG hT)) (Ixs.refl _) _ _) (.cons (ry.mono (Le.upd (g.notG hT)) (Ixs.refl _) _ _) .nil))⟩
theorem pairs_len : ∀ xs ys : List D, (pairs xs ys).length = min xs.length ys.length
  | [], _ => by simp [pairs]
  | _ :: _, [] => by simp [pairs]
  | x :: xs, y :: ys => by simp [pairs, pairs_len xs ys]
theorem pairs_get : ∀ {xs ys : List D} {i : Nat} {x y : D}, xs[i]? = some x → ys[i]? = some y → (pairs xs ys)[i]? = some (.tup [x, y])
  | [], _, _, _, _, h, _ => by simp at h
  | _ :: _, [], _, _, _, _, h => by simp at h
  | a :: xs, b :: ys, 0, x, y, h, k => by simp at h k; subst h k; simp [pairs]
  | a :: xs, b :: ys, i + 1, x, y, h, k => by
    simp only [pairs, List.getElem?_cons_succ]
    exact pairs_get (by simpa using h) (by simpa using k)
theorem up_len : ∀ (n : Nat) (lo : Int), (upFrom lo n).length = n
  | 0, _ => rfl
  | n + 1, lo => by simp [upFrom, up_len n]
theorem up_get : ∀ (n : Nat) (lo : Int) (i : Nat), i < n → (upFrom lo n)[i]? = some (.int (lo + i))
  | 0, _, _, h => by omega
  | n + 1, lo, 0, _ => by simp [upFrom]
  | n + 1, lo, i + 1, h => by
    simp only [upFrom, List.getElem?_cons_succ]
    rw [up_get n (lo + 1) i (by omega)]
    congr 2
    omega
theorem wlk_list {p : Addr} {xs : List D} (r : Rp K G0 ix0 (.ref p) a) (h : pk S0 a = .lst xs) : Wlk K G0 ix0 S0 a b (Itl K p) xs where
  go := fun i G ix S H l x g k _ hi => by
    obtain ⟨vs, h1, h2⟩ := later_lst r h l x g k
    exact ⟨vs, vs[i]'(by rw [h2.length]; exact hi), SqL.of h1, by simp [h2.length, hi]⟩
  stop := fun G ix S H l x g k _ => by
    obtain ⟨vs, h1, h2⟩ := later_lst r h l x g k
    exact ⟨vs, SqL.of h1, by rw [h2.length]; exact Nat.le_refl _⟩
  yld := fun i G ix S H v H' l x g k _ hi y => by
    obtain ⟨vs, h1, h2⟩ := later_lst r h l x g k
    obtain ⟨rfl, y⟩ := y
    obtain ⟨d, e1, e2⟩ := h2.get' (y vs (SqL.of h1))
    exact ⟨G, d, Stp.refl, g, e1, e2⟩
theorem wlk_tup {p : Addr} {xs : List D} (r : Rp K G0 ix0 (.ref p) a) (h : pk S0 a = .tup xs) : Wlk K G0 ix0 S0 a b (Itt K p) xs where
  go := fun i G ix S H l x g k _ hi => by
    obtain ⟨vs, h1, h2⟩ := later_tup r h l x g k
    exact ⟨vs, vs[i]'(by rw [h2.length]; exact hi), SqT.of h1, by simp [h2.length, hi]⟩
  stop := fun G ix S H l x g k _ => by
    obtain ⟨vs, h1, h2⟩ := later_tup r h l x g k
    exact ⟨vs, SqT.of h1, by rw [h2.length]; exact Nat.le_refl _⟩
  yld := fun i G ix S H v H' l x g k _ hi y => by
    obtain ⟨vs, h1, h2⟩ := later_tup r h l x g k
    obtain ⟨rfl, y⟩ := y
    obtain ⟨d, e1, e2⟩ := h2.get' (y vs (SqT.of h1))
    exact ⟨G, d, Stp.refl, g, e1, e2⟩
theorem wlk_scr {p : Addr} {ns : List Int} (r : SqL K G0 p (ns.map V.int)) : Wlk K G0 ix0 S0 a b (Itl K p) (ns.map D.int) where
  go := fun i G ix S H l x g k _ hi => ⟨_, (ns.map V.int)[i]'(by simpa using hi), (l.trans g.le).sql r, by rw [List.length_map] at hi; simp [hi]⟩
  stop := fun G ix S H l x g k _ => ⟨_, (l.trans g.le).sql r, by simp⟩
  yld := fun i G ix S H v H' l x g k _ hi y => by
    obtain ⟨rfl, y⟩ := y
    have e := y _ ((l.trans g.le).sql r)
    rw [List.getElem?_map] at e
    cases q : ns[i]? with
    | none => rw [q] at e; cases e
    | some z =>
      rw [q] at e
      cases e
      exact ⟨G, .int z, Stp.refl, g, by rw [List.getElem?_map, q]; rfl, .int z⟩
theorem wlk_str {s : List Nat} : Wlk K G0 ix0 S0 a b (Its (toS s)) (s.map fun c => D.str [c]) where
  go := fun i G ix S H l x g k _ hi => by
    show i < (toS s).cps.size
    simpa [toS] using hi
  stop := fun G ix S H l x g k _ => by
    show (toS s).cps.size ≤ _
    simp [toS]
  yld := fun i G ix S H v H' l x g k _ hi y => by
    obtain ⟨rfl, c, e, rfl⟩ := y
    refine ⟨G, .str [c], Stp.refl, g, ?_, .str [c]⟩
    have e2 : s[i]? = some c := by simpa [toS] using e
    rw [List.getElem?_map, e2]
    rfl
theorem wlk_range {lo : Int} {n : Nat} : Wlk K G0 ix0 S0 a b (Itr lo n) (upFrom lo n) where
  go := fun i G ix S H l x g k _ hi => by rw [up_len] at hi; exact hi
  stop := fun G ix S H l x g k _ => by rw [up_len]; exact Nat.le_refl _
  yld := fun i G ix S H v H' l x g k _ hi y => by
    rw [up_len] at hi
    obtain ⟨rfl, rfl⟩ := y
    exact ⟨G, _, Stp.refl, g, up_get n lo i hi, .int _⟩
theorem wlk_enum {p : Addr} {xs : List D} (r : Rp K G0 ix0 (.ref p) a) (h : pk S0 a = .lst xs) : Wlk K G0 ix0 S0 a b (Ite K p) (pairs (upFrom 0 xs.length) xs) where
  go := fun i G ix S H l x g k _ hi => by
    rw [pairs_len, up_len, Nat.min_self] at hi
    obtain ⟨vs, h1, h2⟩ := later_lst r h l x g k
    exact ⟨vs, vs[i]'(by rw [h2.length]; exact hi), SqL.of h1, by simp [h2.length, hi]⟩
  stop := fun G ix S H l x g k _ => by
    obtain ⟨vs, h1, h2⟩ := later_lst r h l x g k
    exact ⟨vs, SqL.of h1, by rw [pairs_len, up_len, Nat.min_self, h2.length]; exact Nat.le_refl _⟩
  yld := fun i G ix S H v H' l x g k _ hi y => by
    rw [pairs_len, up_len, Nat.min_self] at hi
    obtain ⟨vs, h1, h2⟩ := later_lst r h l x g k
    obtain ⟨T, u, rfl, hT, rfl, y⟩ := y
    obtain ⟨d, e1, e2⟩ := h2.get' (y vs (SqL.of h1))
    obtain ⟨G', s', g', r'⟩ := pair_new g hT (.int ((i : Nat) : Int)) e2
    exact ⟨G', _, s', g', pairs_get (by rw [up_get xs.length 0 i hi, Int.zero_add]) e1, r'⟩
theorem wlk_enumT {p : Addr} {xs : List D} (r : Rp K G0 ix0 (.ref p) a) (h : pk S0 a = .tup xs) : Wlk K G0 ix0 S0 a b (IteT K p) (pairs (upFrom 0 xs.length) xs) where
  go := fun i G ix S H l x g k _ hi => by
    rw [pairs_len, up_len, Nat.min_self] at hi
    obtain ⟨vs, h1, h2⟩ := later_tup r h l x g k
    exact ⟨vs, vs[i]'(by rw [h2.length]; exact hi), SqT.of h1, by simp [h2.length, hi]⟩
  stop := fun G ix S H l x g k _ => by
    obtain ⟨vs, h1, h2⟩ := later_tup r h l x g k
    exact ⟨vs, SqT.of h1, by rw [pairs_len, up_len, Nat.min_self, h2.length]⟩
  yld := fun i G ix S H v H' l x g k _ hi y => by
    rw [pairs_len, up_len, Nat.min_self] at hi
    obtain ⟨vs, h1, h2⟩ := later_tup r h l x g k
    obtain ⟨T, u, rfl, hT, rfl, y⟩ := y
    obtain ⟨d, e1, e2⟩ := h2.get' (y vs (SqT.of h1))
    obtain ⟨G', s', g', r'⟩ := pair_new g hT (.int ((i : Nat) : Int)) e2
    exact ⟨G', _, s', g', pairs_get (by rw [up_get xs.length 0 i hi, Int.zero_add]) e1, r'⟩
theorem wlk_zip {p q : Addr} {xs ys : List D} (r : Rp K G0 ix0 (.ref p) a) (h : pk S0 a = .lst xs) (r' : Rp K G0 ix0 (.ref q) b) (h' : pk S0 b = .lst ys) : Wlk K G0 ix0 S0 a b (Itz K p q) (pairs xs ys) where
  go := fun i G ix S H l x g k k' hi => by
    rw [pairs_len] at hi
    obtain ⟨vs, h1, h2⟩ := later_lst r h l x g k
    obtain ⟨us, f1, f2⟩ := later_lst r' h' l x g k'
    exact ⟨vs, us, vs[i]'(by rw [h2.length]; omega), us[i]'(by rw [f2.length]; omega), SqL.of h1, SqL.of f1, by simp [h2.length], by simp [f2.length]⟩
  stop := fun G ix S H l x g k k' => by
    obtain ⟨vs, h1, h2⟩ := later_lst r h l x g k
    obtain ⟨us, f1, f2⟩ := later_lst r' h' l x g k'
    exact ⟨vs, us, SqL.of h1, SqL.of f1, by rw [pairs_len, h2.length, f2.length]; omega⟩
  yld := fun i G ix S H v H' l x g k k' hi y => by
    obtain ⟨vs, h1, h2⟩ := later_lst r h l x g k
    obtain ⟨us, f1, f2⟩ := later_lst r' h' l x g k'
    obtain ⟨T, u, w, rfl, hT, rfl, y1, y2⟩ := y
    obtain ⟨d, e1, e2⟩ := h2.get' (y1 vs (SqL.of h1))
    obtain ⟨d', e1', e2'⟩ := f2.get' (y2 us (SqL.of f1))
    obtain ⟨G', s', g', r'⟩ := pair_new g hT e2 e2'
    exact ⟨G', _, s', g', pairs_get e1 e1', r'⟩
theorem wlk_zipT {p q : Addr} {xs ys : List D} (r : Rp K G0 ix0 (.ref p) a) (h : pk S0 a = .tup xs) (r' : Rp K G0 ix0 (.ref q) b) (h' : pk S0 b = .tup ys) : Wlk K G0 ix0 S0 a b (RZ.ItzT K p q) (pairs xs ys) where
  go := fun i G ix S H l x g k k' hi => by
    rw [pairs_len] at hi
    obtain ⟨vs, h1, h2⟩ := later_tup r h l x g k
    obtain ⟨us, f1, f2⟩ := later_tup r' h' l x g k'
    exact ⟨vs, us, vs[i]'(by rw [h2.length]; omega), us[i]'(by rw [f2.length]; omega), SqT.of h1, SqT.of f1, by simp [h2.length], by simp [f2.length]⟩
  stop := fun G ix S H l x g k k' => by
    obtain ⟨vs, h1, h2⟩ := later_tup r h l x g k
    obtain ⟨us, f1, f2⟩ := later_tup r' h' l x g k'
    exact ⟨vs, us, SqT.of h1, SqT.of f1, by rw [pairs_len, h2.length, f2.length]; omega⟩
  yld := fun i G ix S H v H' l x g k k' hi y => by
    obtain ⟨vs, h1, h2⟩ := later_tup r h l x g k
    obtain ⟨us, f1, f2⟩ := later_tup r' h' l x g k'
    obtain ⟨T, u, w, rfl, hT, rfl, y1, y2⟩ := y
    obtain ⟨d, e1, e2⟩ := h2.get' (y1 vs (SqT.of h1))
    obtain ⟨d', e1', e2'⟩ := f2.get' (y2 us (SqT.of f1))
    obtain ⟨G', s', g', r'⟩ := pair_new g hT e2 e2'
    exact ⟨G', _, s', g', pairs_get e1 e1', r'⟩
theorem rev_get {α : Type} {xs : List α} {i : Nat} {x : α} (hi : i < xs.length) (h : xs[xs.length - 1 - i]? = some x) : xs.reverse[i]? = some x := by
  rw [List.getElem?_reverse hi]
  exact h
theorem wlk_rev {p : Addr} {xs : List D} (r : Rp K G0 ix0 (.ref p) a) (h : pk S0 a = .lst xs) : Wlk K G0 ix0 S0 a b (Itv K p xs.length) xs.reverse where
  go := fun i G ix S H l x g k _ hi => by
    rw [List.length_reverse] at hi
    obtain ⟨vs, h1, h2⟩ := later_lst r h l x g k
    exact ⟨hi, vs, vs[xs.length - 1 - i]'(by rw [h2.length]; omega), SqL.of h1, by simp [h2.length]⟩
  stop := fun G ix S H l x g k _ => by
    show xs.length ≤ xs.reverse.length
    rw [List.length_reverse]; exact Nat.le_refl _
  yld := fun i G ix S H v H' l x g k _ hi y => by
    rw [List.length_reverse] at hi
    obtain ⟨vs, h1, h2⟩ := later_lst r h l x g k
    obtain ⟨rfl, y⟩ := y
    obtain ⟨d, e1, e2⟩ := h2.get' (y vs (SqL.of h1))
    exact ⟨G, d, Stp.refl, g, rev_get hi e1, e2⟩
theorem wlk_revT {p : Addr} {xs : List D} (r : Rp K G0 ix0 (.ref p) a) (h : pk S0 a = .tup xs) : Wlk K G0 ix0 S0 a b (RT.ItvT K p xs.length) xs.reverse where
  go := fun i G ix S H l x g k _ hi => by
    rw [List.length_reverse] at hi
    obtain ⟨vs, h1, h2⟩ := later_tup r h l x g k
    exact ⟨hi, vs, vs[xs.length - 1 - i]'(by rw [h2.length]; omega), SqT.of h1, by simp [h2.length]⟩
  stop := fun G ix S H l x g k _ => by
    show xs.length ≤ xs.reverse.length
    rw [List.length_reverse]; exact Nat.le_refl _
  yld := fun i G ix S H v H' l x g k _ hi y => by
    rw [List.length_reverse] at hi
    obtain ⟨vs, h1, h2⟩ := later_tup r h l x g k
    obtain ⟨rfl, y⟩ := y
    obtain ⟨d, e1, e2⟩ := h2.get' (y vs (SqT.of h1))
    exact ⟨G, d, Stp.refl, g, rev_get hi e1, e2⟩
end
section
variable {nm : Nms} {gl : Nat → Option D} {cf : Cf} {X : Cx} {tg : Expr}
theorem PI.or {iter : Expr} {w1 w2 : TI} (h : PI X tg iter w1) (k : PI X tg iter w2) : PI X tg iter (fun σ H R => w1 σ H R ∨ w2 σ H R) := ⟨fun pins s σ H R I q => by
  rcases q with q | q
  · exact h.run pins s σ H R I q
  · exact k.run pins s σ H R I q⟩
/-- what an iterable's coming to some items makes true -/
def SemI (gl : Nat → Option D) (cf : Cf) (K : PySem.W.Frag) (k : Ik) (ca cb : E) (wi : TI) : Prop := ∀ σ H env G ix S x y ds R, EnvR K G ix σ env → Good K G ix S H → ev gl cf ca env S = .ok x → ev gl cf cb env x.2 = .ok y → items k (pk y.2 x.1.toD) (pk y.2 y.1.toD) = .ok ds →
  (∀ J G' ix' H', Stp G ix H G' ix' H' → Good K G' ix' y.2 H' → Wlk K G' ix' y.2 x.1.toD y.1.toD J ds → R J H') → wi σ H R
/-- .. that its raising something makes true -/
def SemXI (gl : Nat → Option D) (cf : Cf) (X : Cx) (ca cb : E) (wi : TI) : Prop := ∀ σ H env G ix S k S' R, EnvR X.K G ix σ env → Good X.K G ix S H → (ev gl cf ca env S = .exc k S' ∨ ∃ x, ev gl cf ca env S = .ok x ∧ ev gl cf cb env x.2 = .exc k S') → PostX X.K G ix H k S' (WE (Wof X) σ) → wi σ H R
def SndI (gl : Nat → Option D) (cf : Cf) (X : Cx) (tg iter : Expr) (k : Ik) (ca cb : E) : Prop := ∃ wi, PI X tg iter wi ∧ SemI gl cf X.K k ca cb wi ∧ SemXI gl cf X ca cb wi
theorem xi1 {a : E} {ta : TE} (xa : SemX gl cf X a ta) {σ : L2.St} {H : Hp} {env : Env} {G : Hp} {ix : List Addr} {S : Store} {k : Nat} {S' : Store} {R : VK} (r : EnvR X.K G ix σ env) (g : Good X.K G ix S H)
    (e : ev gl cf a env S = .exc k S' ∨ ∃ x, ev gl cf a env S = .ok x ∧ ev gl cf .non env x.2 = .exc k S') (q : PostX X.K G ix H k S' (WE (Wof X) σ)) : ta σ H R := by
  rcases e with e | ⟨x, _, e⟩
  · exact xa σ H env G ix S k S' _ r g e q
  · simp only [ev] at e; cases e
theorem xi2 {a b : E} {ta tb : TE} (ma : SemE gl cf X.K a ta) (xa : SemX gl cf X a ta) (xb : SemX gl cf X b tb) {σ : L2.St} {H : Hp} {env : Env} {G : Hp} {ix : List Addr} {S : Store} {k : Nat} {S' : Store} {R : V → V → Hp → Prop} (r : EnvR X.K G ix σ env) (g : Good X.K G ix S H)
    (e : ev gl cf a env S = .exc k S' ∨ ∃ x, ev gl cf a env S = .ok x ∧ ev gl cf b env x.2 = .exc k S') (q : PostX X.K G ix H k S' (WE (Wof X) σ)) : ta σ H fun v H1 => tb σ H1 fun u H2 => R v u H2 := by
  rcases e with e | ⟨x, e1, e⟩
  · exact xa σ H env G ix S k S' _ r g e q
  · exact ma.data r g (show ev gl cf a env S = .ok (x.1, x.2) from e1) fun v G1 ix1 H1 s1 g1 r1 => xb σ H1 env G1 ix1 x.2 k S' _ (r.stp s1) g1 e (q.from s1)
/-- one source, nothing beside it -/
theorem sem1 {K : PySem.W.Frag} {a : E} {ta : TE} (ha : SemE gl cf K a ta) {σ : L2.St} {H : Hp} {env : Env} {G : Hp} {ix : List Addr} {S : Store} {x y : W × Store} {R : V → Hp → Prop} (r : EnvR K G ix σ env) (g : Good K G ix S H) (ea : ev gl cf a env S = .ok x) (eb : ev gl cf .non env x.2 = .ok y)
    (q : ∀ v G' ix' H', Stp G ix H G' ix' H' → Good K G' ix' y.2 H' → Rp K G' ix' v x.1.toD → R v H') : ta σ H R := by
  simp only [ev] at eb
  cases eb
  exact ha.data r g (show ev gl cf a env S = .ok (x.1, x.2) from ea) q
theorem isNon_eq {b : E} (h : isNonE b = true) : b = .non := by
  cases b <;> first | rfl | cases h
theorem snd_seq {a : Expr} {ca cb : E} (ha : SndE gl cf X a ca) (hb : isNonE cb = true) : SndI gl cf X tg a .seq ca cb := by
  obtain ⟨ta, pa, _, ma, xa⟩ := ha
  cases isNon_eq hb
  refine ⟨_, PI.or (pi_list pa) (PI.or (pi_tup pa) (pi_str pa)), fun σ H env G ix S x y ds R r g e1 e2 e3 q => ?_, fun σ H env G ix S k S' R r g e q => .inl (xi1 xa r g e q)⟩
  have e3 : seqItems (pk y.2 x.1.toD) = .ok ds := e3
  unfold seqItems at e3
  split at e3
  · rename_i xs e4
    cases e3
    refine .inl (sem1 ma r g e1 e2 fun v G' ix' H' s g' rv => ?_)
    obtain ⟨p, vs, rfl, h1, _⟩ := pk_lst g' rv e4
    exact ⟨p, rfl, ⟨vs, SqL.of h1⟩, q _ G' ix' H' s g' (wlk_list rv e4)⟩
  · rename_i xs e4
    cases e3
    refine .inr (.inl (sem1 ma r g e1 e2 fun v G' ix' H' s g' rv => ?_))
    obtain ⟨p, vs, rfl, h1, _⟩ := pk_tup g' rv e4
    exact ⟨p, rfl, ⟨vs, SqT.of h1⟩, q _ G' ix' H' s g' (wlk_tup rv e4)⟩
  · rename_i xs e4
    cases e3
    refine .inl (sem1 ma r g e1 e2 fun v G' ix' H' s g' rv => ?_)
    have e5 : x.1.toD = .scr xs := by
      generalize x.1.toD = d at e4
      cases d with
      | obj n =>
        simp only [pk] at e4
        split at e4 <;> cases e4
      | _ => exact e4
    have rv2 := rv
    rw [e5] at rv2
    cases rv2 with
    | @scr p _ h1 => exact ⟨p, rfl, ⟨_, g'.le.sql h1⟩, q _ G' ix' H' s g' (wlk_scr h1)⟩
  · rename_i z e4
    cases e3
    refine .inr (.inr (sem1 ma r g e1 e2 fun v G' ix' H' s g' rv => ?_))
    cases pk_str rv e4
    exact ⟨toS z, rfl, q _ G' ix' H' s g' wlk_str⟩
  · cases e3
theorem nm_range : (Str.ofString "range") = ("range" : Str) := rfl
theorem small_ok {i : Int} (h : small i = true) : -(2 ^ 62) ≤ i ∧ i < 2 ^ 62 := by
  unfold small at h
  simp only [Bool.and_eq_true, decide_eq_true_eq] at h
  exact h
theorem snd_rng1 (C : Ctx nm gl cf X) {a : Expr} {ca cb : E} {p pos : Pos} (hg : Gl X "range") (oa : ord a = true) (ha : SndE gl cf X a ca) (hb : isNonE cb = true) : SndI gl cf X tg (.Call (.Name "range" p) [a] [] pos) .rng1 ca cb := by
  obtain ⟨ta, pa, _, ma, xa⟩ := ha
  cases isNon_eq hb
  refine ⟨_, pi_range1 hg (C.bi "range" (by decide)) (pa_cons pa pa_nil (ord_star oa [])) (ord_star oa []), fun σ H env G ix S x y ds R r g e1 e2 e3 q => ?_, fun σ H env G ix S k S' R r g e q => xi1 xa r g e q⟩
  have e3 : rng1Items (pk y.2 x.1.toD) = .ok ds := e3
  unfold rng1Items at e3
  split at e3
  · rename_i n e4
    obtain ⟨c, e3⟩ := guard_ok e3
    cases e3
    refine sem1 ma r g e1 e2 fun v G' ix' H' s g' rv => ?_
    cases pk_int rv e4
    exact ⟨n, rfl, (small_ok c).1, (small_ok c).2, q _ G' ix' H' s g' wlk_range⟩
  · cases e3
theorem snd_rng2 (C : Ctx nm gl cf X) {a b : Expr} {ca cb : E} {p pos : Pos} (hg : Gl X "range") (oa : ord a = true) (ob : ord b = true) (ha : SndE gl cf X a ca) (hb : SndE gl cf X b cb) : SndI gl cf X tg (.Call (.Name "range" p) [a, b] [] pos) .rng2 ca cb := by
  obtain ⟨ta, pa, _, ma, xa⟩ := ha
  obtain ⟨tb, pb, _, mb, xb⟩ := hb
  refine ⟨_, pi_range2 hg (C.bi "range" (by decide)) (pa_cons pa (pa_cons pb pa_nil (ord_star ob [])) (ord_star oa [b])) (by rw [ord_star oa, ord_star ob]; rfl) (by rw [ord_star ob]; rfl), fun σ H env G ix S x y ds R r g e1 e2 e3 q => ?_, fun σ H env G ix S k S' R r g e q => xi2 ma xa xb r g e q⟩
  have e3 : rng2Items (pk y.2 x.1.toD) (pk y.2 y.1.toD) = .ok ds := e3
  unfold rng2Items at e3
  split at e3
  · rename_i m n e4 e5
    obtain ⟨c, e3⟩ := guard_ok e3
    cases e3
    simp only [Bool.and_eq_true] at c
    refine sem2 ma mb r g e1 e2 fun v u G' ix' H' s g' rv ru => ?_
    cases pk_int rv e4
    cases pk_int ru e5
    exact ⟨m, n, rfl, ⟨(small_ok c.1).1, (small_ok c.1).2, (small_ok c.2).1, (small_ok c.2).2⟩, q _ G' ix' H' s g' wlk_range⟩
  · cases e3
theorem upV (a : Int) (K : PySem.W.Frag) (G : Hp) (ix : List Addr) : ∀ n : Nat, Rps K G ix ((List.range n).map fun i => V.int (a + (i : Nat))) (upFrom a n)
  | 0 => .nil
  | n + 1 => by
    rw [List.range_succ_eq_map, List.map_cons, List.map_map, upFrom]
    refine .cons (by simpa using Rp.int a) ?_
    have := upV (a + 1) K G ix n
    have e : ((fun i : Nat => V.int (a + (i : Nat))) ∘ Nat.succ) = fun i : Nat => V.int (a + 1 + (i : Nat)) := by
      funext i
      simp only [Function.comp]
      congr 1
      omega
    rw [e]
    exact this
theorem upFrom_length (a : Int) : ∀ n : Nat, (upFrom a n).length = n
  | 0 => rfl
  | n + 1 => by rw [upFrom, List.length_cons, upFrom_length (a + 1) n]
/-- a is True, xs[::-1] -/
theorem snd_isB (C : Ctx nm gl cf X) {neg b : Bool} {a : Expr} {ca : E} {j : Nat} {pos' pos : Pos} (ha : SndE gl cf X a ca) : SndE gl cf X (.Compare a [if neg then .IsNot else .Is] [.Constant (.bool b) j pos'] pos) (.isB neg b ca) ∧ SndT gl cf X (.Compare a [if neg then .IsNot else .Is] [.Constant (.bool b) j pos'] pos) (.isB neg b ca) := by
  obtain ⟨ta, pa, _, ma, xa⟩ := ha
  cases neg with
  | true =>
    have pe : PE X (.Compare a [.IsNot] [.Constant (.bool b) j pos'] pos) (tOp rNotB ta (tC (.bl b))) := pe_cmpR op_notBl pa pe_bl rfl
    refine ⟨⟨_, pe, asg_ord C.nd rfl rfl pe, fun σ H env G ix S w S' Q r g e q => ?_, fun σ H env G ix S k S' Q r g e q => by simp only [ev] at e; exact semX1 xa r g e (fun _ => by split <;> first | exact nx_ok | exact nx_err) q⟩, ⟨_, pt_cmpR op_notBl pa pe_bl rfl, fun σ H env G ix S w S' Q r g e q => ?_, fun σ H env G ix S k S' Q r g e q => by simp only [ev] at e; exact semX1 xa r g e (fun _ => by split <;> first | exact nx_ok | exact nx_err) q⟩⟩
    · simp only [ev] at e
      obtain ⟨x, e1, e⟩ := ok2 e
      refine ma.data r g (show ev gl cf ca env S = .ok (x.1, x.2) from e1) fun v G' ix' H' s g' rv => ?_
      split at e
      · rename_i c hc
        cases e
        rw [hc] at rv
        cases (show Rp X.K G' ix' v (.bl c) from rv)
        exact ⟨c, b, rfl, rfl, postE_bl q s g'⟩
      · cases e
    · simp only [ev] at e
      obtain ⟨x, e1, e⟩ := ok2 e
      refine ma.data r g (show ev gl cf ca env S = .ok (x.1, x.2) from e1) fun v G' ix' H' s g' rv => ?_
      split at e
      · rename_i c hc
        cases e
        rw [hc] at rv
        cases (show Rp X.K G' ix' v (.bl c) from rv)
        exact ⟨c, b, rfl, rfl, _, rfl, q G' ix' H' s g'⟩
      · cases e
  | false =>
    have pe : PE X (.Compare a [.Is] [.Constant (.bool b) j pos'] pos) (tOp rIsB ta (tC (.bl b))) := pe_cmpR op_isBl pa pe_bl rfl
    refine ⟨⟨_, pe, asg_ord C.nd rfl rfl pe, fun σ H env G ix S w S' Q r g e q => ?_, fun σ H env G ix S k S' Q r g e q => by simp only [ev] at e; exact semX1 xa r g e (fun _ => by split <;> first | exact nx_ok | exact nx_err) q⟩, ⟨_, pt_cmpR op_isBl pa pe_bl rfl, fun σ H env G ix S w S' Q r g e q => ?_, fun σ H env G ix S k S' Q r g e q => by simp only [ev] at e; exact semX1 xa r g e (fun _ => by split <;> first | exact nx_ok | exact nx_err) q⟩⟩
    · simp only [ev] at e
      obtain ⟨x, e1, e⟩ := ok2 e
      refine ma.data r g (show ev gl cf ca env S = .ok (x.1, x.2) from e1) fun v G' ix' H' s g' rv => ?_
      split at e
      · rename_i c hc
        cases e
        rw [hc] at rv
        cases (show Rp X.K G' ix' v (.bl c) from rv)
        exact ⟨c, b, rfl, rfl, postE_bl q s g'⟩
      · cases e
    · simp only [ev] at e
      obtain ⟨x, e1, e⟩ := ok2 e
      refine ma.data r g (show ev gl cf ca env S = .ok (x.1, x.2) from e1) fun v G' ix' H' s g' rv => ?_
      split at e
      · rename_i c hc
        cases e
        rw [hc] at rv
        cases (show Rp X.K G' ix' v (.bl c) from rv)
        exact ⟨c, b, rfl, rfl, _, rfl, q G' ix' H' s g'⟩
      · cases e
theorem snd_rev1 (C : Ctx nm gl cf X) {a : Expr} {ca : E} {k : Nat} {p1 p2 p3 pos : Pos} (ha : SndE gl cf X a ca) : SndE gl cf X (.Subscript a (.Slice none none (some (.UnaryOp .USub (.Constant (.int 1) k p1) p2)) p3) pos) (.rev1 ca) := by
  obtain ⟨ta, pa, _, ma, xa⟩ := ha
  have pe := pe_revA (X := X) (k := k) (p1 := p1) (p2 := p2) (p3 := p3) (pos := pos) pa
  refine ⟨_, pe, asg_ord C.nd rfl rfl pe, fun σ H env G ix S w S' Q r g e q => ?_, fun σ H env G ix S k S' Q r g e q => ?x⟩
  case x =>
    simp only [ev] at e
    exact semX1 xa r g e (fun _ => by split <;> first | exact nx_ok | exact nx_err) q
  simp only [ev] at e
  obtain ⟨x, e1, e⟩ := ok2 e
  refine ma.data r g (show ev gl cf ca env S = .ok (x.1, x.2) from e1) fun v G' ix' H' s g' rv => ?_
  split at e
  · rename_i xs hx
    cases e
    obtain ⟨b, vs, rfl, h1, r1⟩ := pk_lst g' rv hx
    exact .inl ⟨b, vs, rfl, SqL.of h1, fun p hp => (q.from s).newL g' hp rfl r1.reverse⟩
  · rename_i xs hx
    cases e
    obtain ⟨b, vs, rfl, h1, g1, r1, e1'⟩ := pk_tup g' rv hx
    exact .inr ⟨b, vs, rfl, SqT.of h1, fun p hp => (q.from s).newT g' hp rfl r1.reverse⟩
  · cases e
/-- list(range(..)) -/
theorem snd_lrng1 (C : Ctx nm gl cf X) {a : Expr} {ca cb : E} {p pos p2 pos2 : Pos} (hl : Gl X "list") (hg : Gl X "range") (oa : ord a = true) (ha : SndE gl cf X a ca) (hb : isNonE cb = true) : SndE gl cf X (.Call (.Name "list" p2) [.Call (.Name "range" p) [a] [] pos] [] pos2) (.lrng .rng1 ca cb) := by
  obtain ⟨ta, pa, _, ma, xa⟩ := ha
  cases isNon_eq hb
  have pe := pe_listRg (p := p2) (pos := pos2) C.calm hl (C.bi "list" (by decide)) (prg_1 (p := p) (pos := pos) hg (C.bi "range" (by decide)) pa (ord_star oa []))
  refine ⟨_, pe, asg_ord C.nd rfl rfl pe, fun σ H env G ix S w S' Q r g e q => ?_, fun σ H env G ix S k S' Q r g e q => ?x⟩
  case x =>
    simp only [ev] at e
    exact semX1 xa r g e (fun _ => by simp only [Res.bind_ok]; exact nx_rgItems.bind fun _ => nx_guard nx_ok) q
  simp only [ev] at e
  obtain ⟨x, e1, e⟩ := ok2 e
  obtain ⟨y, e2, e⟩ := ok2 e
  cases e2
  obtain ⟨ds, e3, e⟩ := ok2 e
  obtain ⟨cl, e⟩ := guard_ok e
  cases e
  have e3 : rng1Items (pk x.2 x.1.toD) = .ok ds := e3
  unfold rng1Items at e3
  split at e3
  · rename_i n e4
    obtain ⟨c, e3⟩ := guard_ok e3
    cases e3
    refine ma.data r g (show ev gl cf ca env S = .ok (x.1, x.2) from e1) fun v G' ix' H' s g' rv => ?_
    cases pk_int rv e4
    have cl' : n.toNat ≤ most := by simpa [upFrom_length] using cl
    refine ⟨n, rfl, ⟨by decide, by decide, (small_ok c).1, (small_ok c).2, by rw [Int.sub_zero]; exact cl'⟩, fun b hb => (q.from s).newL g' hb rfl ?_⟩
    have := upV 0 X.K G' ix' n.toNat
    unfold rgV
    rw [Int.sub_zero]
    exact this
  · cases e3
theorem snd_lrng2 (C : Ctx nm gl cf X) {a b : Expr} {ca cb : E} {p pos p2 pos2 : Pos} (hl : Gl X "list") (hg : Gl X "range") (oa : ord a = true) (ob : ord b = true) (ha : SndE gl cf X a ca) (hb : SndE gl cf X b cb) : SndE gl cf X (.Call (.Name "list" p2) [.Call (.Name "range" p) [a, b] [] pos] [] pos2) (.lrng .rng2 ca cb) := by
  obtain ⟨ta, pa, _, ma, xa⟩ := ha
  obtain ⟨tb, pb, _, mb, xb⟩ := hb
  have pe := pe_listRg (p := p2) (pos := pos2) C.calm hl (C.bi "list" (by decide)) (prg_2 (p := p) (pos := pos) hg (C.bi "range" (by decide)) pa pb (ord_star oa [b]) (ord_star ob []) (by rw [ord_star ob]; rfl))
  refine ⟨_, pe, asg_ord C.nd rfl rfl pe, fun σ H env G ix S w S' Q r g e q => ?_, fun σ H env G ix S k S' Q r g e q => ?x⟩
  case x =>
    simp only [ev] at e
    exact semX2 ma xa xb r g e (fun _ _ => nx_rgItems.bind fun _ => nx_guard nx_ok) q
  simp only [ev] at e
  obtain ⟨x, e1, e⟩ := ok2 e
  obtain ⟨y, e2, e⟩ := ok2 e
  obtain ⟨ds, e3, e⟩ := ok2 e
  obtain ⟨cl, e⟩ := guard_ok e
  cases e
  have e3 : rng2Items (pk y.2 x.1.toD) (pk y.2 y.1.toD) = .ok ds := e3
  unfold rng2Items at e3
  split at e3
  · rename_i m n e4 e5
    obtain ⟨c, e3⟩ := guard_ok e3
    cases e3
    simp only [Bool.and_eq_true] at c
    refine sem2 ma mb r g e1 e2 fun v u G' ix' H' s g' rv ru => ?_
    cases pk_int rv e4
    cases pk_int ru e5
    have cl' : (n - m).toNat ≤ most := by simpa [upFrom_length] using cl
    exact ⟨m, n, rfl, rfl, ⟨(small_ok c.1).1, (small_ok c.1).2, (small_ok c.2).1, (small_ok c.2).2, cl'⟩, fun b hb => (q.from s).newL g' hb rfl (upV m X.K G' ix' _)⟩
  · cases e3
theorem snd_enm (C : Ctx nm gl cf X) {a : Expr} {ca cb : E} {p pos : Pos} (hg : Gl X "enumerate") (ht : isTupX tg = true) (oa : ord a = true) (ha : SndE gl cf X a ca) (hb : isNonE cb = true) : SndI gl cf X tg (.Call (.Name "enumerate" p) [a] [] pos) .enm ca cb := by
  obtain ⟨ta, pa, _, ma, xa⟩ := ha
  cases isNon_eq hb
  cases tg with
  | Tuple elts kk tpos =>
    refine ⟨_, pi_enumA hg (C.bi "enumerate" (by decide)) (pa_cons pa pa_nil (ord_star oa [])) (ord_star oa []), fun σ H env G ix S x y ds R r g e1 e2 e3 q => ?_, fun σ H env G ix S k S' R r g e q => xi1 xa r g e q⟩
    have e3 : enmItems (pk y.2 x.1.toD) = .ok ds := e3
    unfold enmItems at e3
    split at e3
    · rename_i xs e4
      cases e3
      refine sem1 ma r g e1 e2 fun v G' ix' H' s g' rv => ?_
      obtain ⟨p, vs, rfl, h1, _⟩ := pk_lst g' rv e4
      exact ⟨p, vs, rfl, .inl ⟨SqL.of h1, q _ G' ix' H' s g' (wlk_enum rv e4)⟩⟩
    · rename_i xs e4
      cases e3
      refine sem1 ma r g e1 e2 fun v G' ix' H' s g' rv => ?_
      obtain ⟨p, vs, rfl, h1, _⟩ := pk_tup g' rv e4
      exact ⟨p, vs, rfl, .inr ⟨SqT.of h1, q _ G' ix' H' s g' (wlk_enumT rv e4)⟩⟩
    · cases e3
  | _ => cases ht
theorem snd_zp (C : Ctx nm gl cf X) {a b : Expr} {ca cb : E} {p pos : Pos} (hg : Gl X "zip") (ht : isTupX tg = true) (oa : ord a = true) (ob : ord b = true) (ha : SndE gl cf X a ca) (hb : SndE gl cf X b cb) : SndI gl cf X tg (.Call (.Name "zip" p) [a, b] [] pos) .zp ca cb := by
  obtain ⟨ta, pa, _, ma, xa⟩ := ha
  obtain ⟨tb, pb, _, mb, xb⟩ := hb
  cases tg with
  | Tuple elts kk tpos =>
    refine ⟨_, RZ.pi_zipA hg (C.bi "zip" (by decide)) (pa_cons pa (pa_cons pb pa_nil (ord_star ob [])) (ord_star oa [b])) (ord_star oa [b]) (by rw [ord_star ob]; rfl), fun σ H env G ix S x y ds R r g e1 e2 e3 q => ?_, fun σ H env G ix S k S' R r g e q => xi2 ma xa xb r g e q⟩
    have e3 : zpItems (pk y.2 x.1.toD) (pk y.2 y.1.toD) = .ok ds := e3
    unfold zpItems at e3
    split at e3
    · rename_i xs ys e4 e5
      cases e3
      refine sem2 ma mb r g e1 e2 fun v u G' ix' H' s g' rv ru => ?_
      obtain ⟨p, vs, rfl, h1, _⟩ := pk_lst g' rv e4
      obtain ⟨p', us, rfl, h1', _⟩ := pk_lst g' ru e5
      exact ⟨p, p', vs, us, rfl, .inl ⟨SqL.of h1, SqL.of h1', q _ G' ix' H' s g' (wlk_zip rv e4 ru e5)⟩⟩
    · rename_i xs ys e4 e5
      cases e3
      refine sem2 ma mb r g e1 e2 fun v u G' ix' H' s g' rv ru => ?_
      obtain ⟨p, vs, rfl, h1, _⟩ := pk_tup g' rv e4
      obtain ⟨p', us, rfl, h1', _⟩ := pk_tup g' ru e5
      exact ⟨p, p', vs, us, rfl, .inr ⟨SqT.of h1, SqT.of h1', q _ G' ix' H' s g' (wlk_zipT rv e4 ru e5)⟩⟩
    · cases e3
  | _ => cases ht
theorem snd_rev (C : Ctx nm gl cf X) {a : Expr} {ca cb : E} {p pos : Pos} (hg : Gl X "reversed") (oa : ord a = true) (ha : SndE gl cf X a ca) (hb : isNonE cb = true) : SndI gl cf X tg (.Call (.Name "reversed" p) [a] [] pos) .rev ca cb := by
  obtain ⟨ta, pa, _, ma, xa⟩ := ha
  cases isNon_eq hb
  refine ⟨_, RT.pi_revA hg (C.bi "reversed" (by decide)) pa (ord_star oa []), fun σ H env G ix S x y ds R r g e1 e2 e3 q => ?_, fun σ H env G ix S k S' R r g e q => xi1 xa r g e q⟩
  have e3 : revItems (pk y.2 x.1.toD) = .ok ds := e3
  unfold revItems at e3
  split at e3
  · rename_i xs e4
    cases e3
    refine sem1 ma r g e1 e2 fun v G' ix' H' s g' rv => ?_
    obtain ⟨p, vs, rfl, h1, h2⟩ := pk_lst g' rv e4
    exact ⟨p, vs, rfl, .inl ⟨SqL.of h1, by rw [h2.length]; exact q _ G' ix' H' s g' (wlk_rev rv e4)⟩⟩
  · rename_i xs e4
    cases e3
    refine sem1 ma r g e1 e2 fun v G' ix' H' s g' rv => ?_
    obtain ⟨p, vs, rfl, h1, _, h2, _⟩ := pk_tup g' rv e4
    exact ⟨p, vs, rfl, .inr ⟨SqT.of h1, by rw [h2.length]; exact q _ G' ix' H' s g' (wlk_revT rv e4)⟩⟩
  · cases e3
/-! ### targets -/
def SemG (K : PySem.W.Frag) (tg : Tg) (g : TG) : Prop := ∀ v d σ H env env' G ix S Q, EnvR K G ix σ env → Good K G ix S H → Rp K G ix v d → setTg tg d env = .ok env' → (∀ σ', EnvR K G ix σ' env' → (∀ own : List Nat, (∀ i ∈ (match tg with | .n i => [i] | .t is => is), i ∈ own) → L2.wipe σ' own = L2.wipe σ own) → Q σ' H) → g v σ H Q
theorem wipe_set {σ : L2.St} {o : Option V} {i : Nat} : ∀ {own : List Nat}, i ∈ own → L2.wipe (σ.set i o) own = L2.wipe σ own
  | [], h => by simp at h
  | v :: vs, h => by
    unfold L2.wipe
    by_cases e : v = i
    · subst e
      by_cases m : v ∈ vs
      · rw [wipe_set m]
      · have e2 : ∀ (vs : List Nat), v ∉ vs → L2.wipe (σ.set v o) vs = (L2.wipe σ vs).set v o := fun vs => by
          induction vs with
          | nil => intro _; rfl
          | cons w ws ih =>
            intro hw
            simp only [List.mem_cons, not_or] at hw
            unfold L2.wipe
            rw [ih hw.2, List.set_comm _ _ hw.1]
        rw [e2 vs m, List.set_set]
    · rcases List.mem_cons.mp h with z | z
      · exact absurd z.symm e
      · rw [wipe_set z]
theorem names_ok {sc0 : Scope} (hN : X.N.Nodup) (hf : ∀ x, loc sc0 x = true → Loc X.env.scope x ∧ (X.fn x = true ∨ X.env.scope.names.lookup x = some .local)) : ∀ (is : List Nat) (xs : List Expr), chkNames X.N sc0 is xs = true → ∃ t, PGs X xs t ∧ xs.length = is.length ∧
    (∀ vs ds σ H env G ix S Q, EnvR X.K G ix σ env → Good X.K G ix S H → Rps X.K G ix vs ds → ds.length = is.length → (∀ σ', EnvR X.K G ix σ' ((is.zip ds).foldl (fun e p => e.set p.1 (some p.2)) env) → (∀ own : List Nat, (∀ i ∈ is, i ∈ own) → L2.wipe σ' own = L2.wipe σ own) → Q σ' H) → t vs σ H Q) ∧
    ((assignEach xs X.env).length = is.length) ∧ ((assignEach xs X.env).findIdx? (·.1) = none)
  | [], [], _ => ⟨_, pgs_nil, rfl, fun vs ds σ H env G ix S Q r g rs hl q => by
      cases rs with
      | nil => exact ⟨rfl, q σ r fun _ _ => rfl⟩
      | cons _ _ => simp at hl, rfl, rfl⟩
  | [], _ :: _, h => by simp [chkNames] at h
  | i :: is, [], h => by simp [chkNames] at h
  | i :: is, x :: xs, h => by
    cases x with
    | Name x p =>
      simp only [chkNames, Bool.and_eq_true, decide_eq_true_eq] at h
      obtain ⟨h1, h2, h3⟩ := h
      obtain ⟨t, p1, p2, p3, p4, p5⟩ := names_ok hN hf is xs h3
      refine ⟨_, pgs_cons (pg_name hN h1 (hf x h2).1 (hf x h2).2) p1 rfl, by simp [p2], fun vs ds σ H env G ix S Q r g rs hlen q => ?_, by simp [assignEach, p4], ?_⟩
      · cases rs with
        | nil => simp at hlen
        | cons a rs =>
          refine ⟨_, _, rfl, ?_⟩
          refine p3 _ _ (σ.set i (some _)) H (env.set i (some _)) G ix S Q (r.set a i) g rs (by simpa using hlen) fun σ' r' hw => q σ' (by simpa using r') fun own ho => ?_
          rw [hw own (fun j hj => ho j (List.mem_cons_of_mem _ hj)), wipe_set (ho i List.mem_cons_self)]
      · show List.findIdx? _ ((false, assign (.Name x p) X.env) :: assignEach xs X.env) = none
        rw [List.findIdx?_cons]
        simp [p5]
    | _ => simp [chkNames] at h
theorem pg_or {X : Cx} {e : Expr} {t1 t2 : TG} (h : PG X e t1) (k : PG X e t2) : PG X e (fun v σ H Q => t1 v σ H Q ∨ t2 v σ H Q) := ⟨fun pins s σ H v u Q I r q => by
  rcases q with q | q
  · exact h.run pins s σ H v u Q I r q
  · exact k.run pins s σ H v u Q I r q⟩
/-- a or b, as a number -/
theorem snd_orv (C : Ctx nm gl cf X) {a b : Expr} {ca cb : E} {pos : Pos} (ha : SndE gl cf X a ca) (hb : SndE gl cf X b cb) : SndE gl cf X (.BoolOp .Or [a, b] pos) (.orv ca cb) := by
  obtain ⟨ta, pa, _, ma, xa⟩ := ha
  obtain ⟨tb, pb, _, mb, xb⟩ := hb
  have pe : PE X (.BoolOp .Or [a, b] pos) (tOrT X.K ta tb) := pe_orT pa (pe_one pb)
  refine ⟨_, pe, asg_ord C.nd rfl rfl pe, fun σ H env G ix S w S' Q r g e q => ?_, fun σ H env G ix S k S' Q r g e q => ?x⟩
  case x =>
    simp only [ev] at e
    rcases exc2 e with e1 | ⟨⟨x1, x2⟩, e1, e⟩
    · exact xa σ H env G ix S k S' _ r g e1 q
    refine ma.data r g (show ev gl cf ca env S = .ok (x1, x2) from e1) fun v G' ix' H' s g' rv => ?_
    have nx : ∀ y : W × Store, ((match y.1 with
      | .d (.int j) => Res.ok (W.d (.int j), y.2)
      | _ => .err)).NX := fun y => by split <;> first | exact nx_ok | exact nx_err
    dsimp only at e
    split at e
    · rename_i i
      cases (show Rp X.K G' ix' v (.int i) from rv)
      split at e
      · rename_i hi
        subst hi
        exact ⟨false, rfl, by rw [if_neg Bool.false_ne_true]; exact semX1 xb (r.stp s) g' e nx (q.from s)⟩
      · cases e
    · cases (show Rp X.K G' ix' v .non from rv)
      exact ⟨false, rfl, by rw [if_neg Bool.false_ne_true]; exact semX1 xb (r.stp s) g' e nx (q.from s)⟩
    · cases e
  have snd : ∀ {G1 : Hp} {ix1 : List Addr} {H1 : Hp} {T : Store}, Stp G ix H G1 ix1 H1 → Good X.K G1 ix1 T H1 → ((ev gl cf cb env T).bind fun y => (match y.1 with
      | .d (.int j) => Res.ok (W.d (.int j), y.2)
      | _ => .err)) = .ok (w, S') → tb σ H1 Q := fun {G1 ix1 H1 T} s1 g1 e => by
    obtain ⟨⟨y1, y2⟩, e2, e⟩ := ok2 e
    dsimp only at e
    split at e
    · rename_i j
      cases e
      exact mb σ H1 env G1 ix1 T _ _ Q (r.stp s1) g1 e2 (q.from s1)
    · cases e
  simp only [ev] at e
  obtain ⟨⟨x1, x2⟩, e1, e⟩ := ok2 e
  refine ma.data r g (show ev gl cf ca env S = .ok (x1, x2) from e1) fun v G' ix' H' s g' rv => ?_
  dsimp only at e
  split at e
  · rename_i i
    cases (show Rp X.K G' ix' v (.int i) from rv)
    split at e
    · rename_i hi
      subst hi
      exact ⟨false, rfl, by rw [if_neg Bool.false_ne_true]; exact snd s g' e⟩
    · rename_i hi
      cases e
      refine ⟨true, ?_, ?_⟩
      · show true = (i != 0)
        exact (bne_iff_ne.mpr hi).symm
      · rw [if_pos rfl]
        exact (q.from s).same g' (show RpW X.K ix' H' G' ix' _ H' (.int i) (.d (.int i)) from Rp.int i)
  · cases (show Rp X.K G' ix' v .non from rv)
    exact ⟨false, rfl, by rw [if_neg Bool.false_ne_true]; exact snd s g' e⟩
  · cases e
theorem snd_tg {sc0 : Scope} (C : Ctx nm gl cf X) (hf : ∀ x, loc sc0 x = true → Loc X.env.scope x ∧ (X.fn x = true ∨ X.env.scope.names.lookup x = some .local)) {t : Tg} {e : Expr} (h : chkTg X.N sc0 t e = true) : ∃ g, PG X e g ∧ SemG X.K t g := by
  unfold chkTg at h
  split at h
  · rename_i i x p
    simp only [Bool.and_eq_true, decide_eq_true_eq] at h
    refine ⟨_, pg_name C.nd h.1 (hf x h.2).1 (hf x h.2).2, fun v d σ H env env' G ix S Q r g rv e q => ?_⟩
    cases e
    exact q _ (r.set rv i) fun own ho => wipe_set (ho i (by simp))
  · rename_i is xs kk p
    obtain ⟨t, p1, p2, p3, p4, p5⟩ := names_ok C.nd hf is xs h
    refine ⟨_, pg_or (pg_tup C.calm p1 p4 p5) (pg_unl C.calm p1 p4 p5), fun v d σ H env env' G ix S Q r g rv e q => ?_⟩
    unfold setTg at e
    simp only at e
    split at e
    · rename_i ds
      obtain ⟨c, e⟩ := guard_ok e
      cases e
      cases rv with
      | @tup a vs _ ga rs => exact .inl ⟨a, vs, rfl, SqT.of (g.le _ _ ga), by rw [rs.length]; exact dec_of c, p3 vs ds σ H env G ix S Q r g rs (dec_of c) q⟩
    · rename_i ds
      obtain ⟨c, e⟩ := guard_ok e
      cases e
      cases rv with
      | @lst a vs _ ga rs => exact .inr ⟨a, vs, rfl, SqL.of (g.le _ _ ga), by rw [rs.length]; exact dec_of c, p3 vs ds σ H env G ix S Q r g rs (dec_of c) q⟩
    · cases e
  · cases h
end
end Nl

/-! Comprehensions, and all expressions. -/
namespace Nl
open PySem L2
/-- the readings by what comes of the texts: they do not lean on where the text runs -/
def tE (gl : Nat → Option D) (cf : Cf) (K : PySem.W.Frag) (c : E) : TE := fun σ H Q => ∃ env G ix S w S', EnvR K G ix σ env ∧ Good K G ix S H ∧ ev gl cf c env S = .ok (w, S') ∧ PostE K G ix H w S' Q
def tT (gl : Nat → Option D) (cf : Cf) (K : PySem.W.Frag) (c : E) : TT := fun σ H Q => ∃ env G ix S b S', EnvR K G ix σ env ∧ Good K G ix S H ∧ ev gl cf c env S = .ok (.d (.bl b), S') ∧ ∀ G' ix' H', Stp G ix H G' ix' H' → Good K G' ix' S' H' → Q b H'
def tG (K : PySem.W.Frag) (t : Tg) : TG := fun v σ H Q => ∃ d env env' G ix S, EnvR K G ix σ env ∧ Good K G ix S H ∧ Rp K G ix v d ∧ setTg t d env = .ok env' ∧
  ∀ σ', EnvR K G ix σ' env' → (∀ own : List Nat, (∀ i ∈ tgIs t, i ∈ own) → L2.wipe σ' own = L2.wipe σ own) → Q σ' H
section
variable {nm : Nms} {gl : Nat → Option D} {cf : Cf} {X : Cx}
theorem SndE.pe {e : Expr} {c : E} (h : SndE gl cf X e c) : PE X e (tE gl cf X.K c) := by
  obtain ⟨t, p, _, m, _⟩ := h
  exact ⟨fun pins s σ H Q I ⟨env, G, ix, S, w, S', h1, h2, h3, h4⟩ => p.run pins s σ H Q I (m σ H env G ix S w S' Q h1 h2 h3 h4)⟩
theorem SndT.pt {e : Expr} {c : E} (h : SndT gl cf X e c) : PT X e (tT gl cf X.K c) := by
  obtain ⟨t, p, m, _⟩ := h
  exact ⟨fun pins s σ H Q I ⟨env, G, ix, S, b, S', h1, h2, h3, h4⟩ => p.run pins s σ H Q I (m σ H env G ix S b S' Q h1 h2 h3 h4)⟩
theorem pg_all {t : Tg} {e : Expr} (h : ∃ g, PG X e g ∧ SemG X.K t g) : PG X e (tG X.K t) := by
  obtain ⟨g, p, m⟩ := h
  refine ⟨fun pins s σ H v u Q I r ⟨d, env, env', G, ix, S, h1, h2, h3, h4, h5⟩ => p.run pins s σ H v u Q I r (m v d σ H env env' G ix S Q h1 h2 h3 h4 fun σ' r' hw => h5 σ' r' fun own ho => hw own ?_)⟩
  cases t <;> exact ho
/-- an object that neither the store nor what is frozen has is changed -/
theorem Good.other {K : PySem.W.Frag} {G : Hp} {ix : List Addr} {S : Store} {H : Hp} (g : Good K G ix S H) {p : Addr} {o : HO} (h1 : G p = none) (h2 : p ∉ ix) : Good K G ix S (L2.upd H p o) where
  le := fun a u h => by rw [upd_ne (fun z => by subst z; rw [h1] at h; cases h)]; exact g.le a u h
  len := g.len
  there := fun a h => by
    have ne : a ≠ p := fun z => h2 (by rw [← z]; exact h)
    rw [upd_ne ne]; exact g.there a h
  cel := fun n c h hc => by
    obtain ⟨a, k1, k3, k4⟩ := g.cel n c h hc
    have ne : a ≠ p := fun z => h2 (by rw [← z]; exact ixs_mem k1)
    exact ⟨a, k1, k3, by rw [upd_ne ne]; exact k4⟩
  inj := g.inj
/-- the turns of a comprehension -/
structure LcInv (K : PySem.W.Frag) (G1 : Hp) (ix1 : List Addr) (H1 : Hp) (S0 : Store) (a b : D) (f : D → Store → Res (Option D × Store)) (ds : List D) (fin : List D) (S' : Store) (p : Addr) (i : Nat) (H : Hp) : Prop where
  ex : ∃ G ix S acc vacc rest, Stp G1 ix1 H1 G ix H ∧ Good K G ix S H ∧ H p = some (.lst vacc) ∧ G p = none ∧ p ∉ ix ∧ Rps K G ix vacc acc ∧ kept a S0 S = true ∧ kept b S0 S = true ∧
    compL (fun S' => kept a S0 S' && kept b S0 S') f (ds.drop i) S = .ok (rest, S') ∧ acc ++ rest = fin ∧ acc.length ≤ i
def LcQ (D : Addr) (Nx : Hp → Prop) : Option V → Hp → Prop
  | some y, H4 => ∃ acc, H4 D = some (.lst acc) ∧ acc.length < sizeLine ∧ Nx (upd H4 D (.lst (acc ++ [y])))
  | none, H4 => Nx H4
/-- what a turn gives -/
def RpO (K : PySem.W.Frag) (G : Hp) (ix : List Addr) : Option V → Option D → Prop
  | some v, some d => Rp K G ix v d
  | none, none => True
  | _, _ => False
theorem lc_sem {K : PySem.W.Frag} {k : Ik} {ca cb : E} {tg : Tg} {own : List Nat} {wi : TI} {tt : TT} {te : TE} (hi : SemI gl cf K k ca cb wi) {f : Env → D → Store → Res (Option D × Store)}
    (hf : ∀ (σ : L2.St) (H : Hp) (env : Env) (G : Hp) (ix : List Addr) (S : Store) (x : V) (d : D) (r : Option D × Store) (Q : Option V → Hp → Prop), EnvR K G ix σ env → Good K G ix S H → Rp K G ix x d → f env d S = .ok r →
      (∀ o G' ix' H', Stp G ix H G' ix' H' → Good K G' ix' r.2 H' → RpO K G' ix' o r.1 → Q o H') →
      tG K tg x (L2.wipe σ own) H fun σ2 H2 => L2.wipe σ2 own = L2.wipe σ own ∧ tt σ2 H2 fun b H3 => if b = true then te σ2 H3 fun y H4 => Q (some y) H4 else Q none H3)
    {σ : L2.St} {H : Hp} {env : Env} {G : Hp} {ix : List Addr} {S : Store} {x y : W × Store} {ds fin : List D} {S' : Store} {Q : VK} (r : EnvR K G ix σ env) (g : Good K G ix S H) (e1 : ev gl cf ca env S = .ok x) (e2 : ev gl cf cb env x.2 = .ok y) (e3 : items k (pk y.2 x.1.toD) (pk y.2 y.1.toD) = .ok ds)
    (e4 : compL (fun S' => kept x.1.toD y.2 S' && kept y.1.toD y.2 S') (f env) ds y.2 = .ok (fin, S')) (hn : ds.length ≤ most) (q : PostE K G ix H (.fl fin) S' Q) : tLc wi (tG K tg) tt te own σ H Q := by
  refine hi σ H env G ix S x y ds _ r g e1 e2 e3 fun J G1 ix1 H1 s1 g1 w1 => ?_
  intro p hp
  refine ⟨fun i m H' => m = ds.length - i ∧ i ≤ ds.length ∧ LcInv K G1 ix1 H1 y.2 x.1.toD y.1.toD (f env) ds fin S' p i H', ⟨ds.length, rfl, Nat.zero_le _, ⟨G1, ix1, y.2, [], [], fin, Stp.lay hp, g1.lay hp, upd_same, g1.notG hp, g1.notIx hp, .nil, kept_refl _ _, kept_refl _ _, e4, rfl, Nat.le_refl _⟩⟩, ?_⟩
  rintro i m H2 ⟨rfl, hi2, G2, ix2, S2, acc, vacc, rest, s2, g2, hp2, gp2, np2, r2, k1, k2, e5, e6, hl2⟩
  by_cases hlt : i < ds.length
  · refine .inr ⟨w1.go i G2 ix2 S2 H2 s2.g s2.i g2 k1 k2 hlt, LcInv K G1 ix1 H1 y.2 x.1.toD y.1.toD (f env) ds fin S' p (i + 1), fun H' h => ⟨ds.length - (i + 1), by omega, rfl, hlt, h⟩, fun v H3 hy => ?_⟩
    obtain ⟨G3, d, s3, g3, hd, rv⟩ := w1.yld i G2 ix2 S2 H2 v H3 s2.g s2.i g2 k1 k2 hlt hy
    have ed : ds.drop i = d :: ds.drop (i + 1) := by
      rw [List.drop_eq_getElem_cons hlt]
      congr 1
      exact (List.getElem?_eq_some_iff.mp hd).2
    rw [ed] at e5
    simp only [compL] at e5
    obtain ⟨t, f1, e5⟩ := ok2 e5
    obtain ⟨ck, e5⟩ := guard_ok e5
    obtain ⟨z, f2, e5⟩ := ok2 e5
    cases e5
    simp only [Bool.and_eq_true] at ck
    have r3 := (r.stp (s1.trans (s2.trans s3)))
    refine hf σ H3 env G3 ix2 S2 v d t (LcQ p (LcInv K G1 ix1 H1 y.2 x.1.toD y.1.toD (f env) ds fin z.2 p (i + 1))) r3 g3 rv f1 fun o G4 ix4 H4 s4 g4 ro => ?_
    have s34 := s3.trans s4
    have hp4 : H4 p = some (.lst vacc) := s34.keep p _ hp2 np2
    have np4 : p ∉ ix4 := fun z => (s34.fresh p z).elim np2 fun e => by rw [hp2] at e; cases e
    have gp4 : G4 p = none := by
      cases e : G4 p with
      | none => rfl
      | some u =>
        rcases s34.new p u e with h | h | h | ⟨_, h⟩
        · rw [gp2] at h; cases h
        · rw [hp2] at h; cases h
        · exact absurd h np2
        · rw [hp2] at h; cases h
    obtain ⟨t1, t2⟩ := t
    cases o with
    | none =>
      cases t1 with
      | some d' => exact ro.elim
      | none => exact ⟨G4, ix4, t2, acc, vacc, z.1, s2.trans s34, g4, hp4, gp4, np4, r2.mono s34.g s34.i, ck.1, ck.2, f2, e6, by omega⟩
    | some w =>
      cases t1 with
      | none => exact ro.elim
      | some d' =>
        refine ⟨vacc, hp4, ?_, G4, ix4, t2, acc ++ [d'], vacc ++ [w], z.1, ?_, g4.other gp4 np4, upd_same, gp4, np4, (r2.mono s34.g s34.i).append (.cons ro .nil), ck.1, ck.2, f2, ?_, ?_⟩
        · rw [r2.length]
          have : most = sizeLine := rfl
          omega
        · have s := s2.trans s34
          refine ⟨s.g, s.i, fun a o h hn => ?_, fun a h => ?_, s.new, s.fresh⟩
          · rw [upd_ne (fun e => by subst e; rw [hp] at h; cases h)]
            exact s.keep a o h hn
          · by_cases e : a = p
            · subst e; exact hp
            · rw [upd_ne e] at h; exact s.there a h
        · rw [← e6]
          simp
        · rw [List.length_append]
          have : [d'].length = 1 := rfl
          omega
  · have e : i = ds.length := by omega
    subst e
    rw [List.drop_length] at e5
    simp only [compL] at e5
    cases e5
    rw [List.append_nil] at e6
    subst e6
    refine .inl ⟨w1.stop G2 ix2 S' H2 s2.g s2.i g2 k1 k2, ?_⟩
    exact q _ G2 ix2 H2 (s1.trans s2) g2 ⟨p, vacc, rfl, hp2, gp2, fun n c h _ => absurd (ixs_mem h) np2, .inl (s1.there p hp), r2⟩
/-- a turn without a test -/
theorem turn_lc {K : PySem.W.Frag} {tg : Tg} {own : List Nat} {el : E} (htg : ∀ i ∈ tgIs tg, i ∈ own) (σ : L2.St) (H : Hp) (env : Env) (G : Hp) (ix : List Addr) (S : Store) (x : V) (d : D) (r : Option D × Store) (Q : Option V → Hp → Prop) (re : EnvR K G ix σ env) (g : Good K G ix S H) (rx : Rp K G ix x d)
    (e : ((setTg tg d (wipe env own)).bind fun env' => (ev gl cf el env' S).bind fun z => .ok (some z.1.toD, z.2)) = .ok r) (q : ∀ o G' ix' H', Stp G ix H G' ix' H' → Good K G' ix' r.2 H' → RpO K G' ix' o r.1 → Q o H') :
    tG K tg x (L2.wipe σ own) H fun σ2 H2 => L2.wipe σ2 own = L2.wipe σ own ∧ tYes σ2 H2 fun b H3 => if b = true then tE gl cf K el σ2 H3 fun y H4 => Q (some y) H4 else Q none H3 := by
  obtain ⟨env', f1, e⟩ := ok2 e
  obtain ⟨z, f2, e⟩ := ok2 e
  cases e
  have ww : L2.wipe (L2.wipe σ own) own = L2.wipe σ own := by
    have all : ∀ vs : List Nat, (∀ v ∈ vs, v ∈ own) → L2.wipe (L2.wipe σ vs) own = L2.wipe σ own := fun vs => by
      induction vs with
      | nil => intro _; rfl
      | cons v vs ih =>
        intro h
        show L2.wipe ((L2.wipe σ vs).set v none) own = _
        rw [wipe_set (h v List.mem_cons_self)]
        exact ih fun w hw => h w (List.mem_cons_of_mem _ hw)
    exact all own fun _ h => h
  refine ⟨d, wipe env own, env', G, ix, S, re.wipe own, g, rx, f1, fun σ' r' hw => ⟨(hw own htg).trans ww, ?_⟩⟩
  show if true = true then tE gl cf K el σ' H (fun y H4 => Q (some y) H4) else Q none H
  rw [if_pos rfl]
  refine ⟨env', G, ix, S, z.1, z.2, r', g, f2, fun v G' ix' H' s g' rw => ?_⟩
  obtain ⟨G2, s2, g2, r2⟩ := rw.data s g'
  exact q (some v) G2 ix' H' s2 g2 r2
theorem turn_lcIf {K : PySem.W.Frag} {tg : Tg} {own : List Nat} {el c : E} (htg : ∀ i ∈ tgIs tg, i ∈ own) (σ : L2.St) (H : Hp) (env : Env) (G : Hp) (ix : List Addr) (S : Store) (x : V) (d : D) (r : Option D × Store) (Q : Option V → Hp → Prop) (re : EnvR K G ix σ env) (g : Good K G ix S H) (rx : Rp K G ix x d)
    (e : ((setTg tg d (wipe env own)).bind fun env' => (ev gl cf c env' S).bind fun t => (toB t.1).bind fun b => if b then (ev gl cf el env' t.2).bind fun z => .ok (some z.1.toD, z.2) else .ok (none, t.2)) = .ok r) (q : ∀ o G' ix' H', Stp G ix H G' ix' H' → Good K G' ix' r.2 H' → RpO K G' ix' o r.1 → Q o H') :
    tG K tg x (L2.wipe σ own) H fun σ2 H2 => L2.wipe σ2 own = L2.wipe σ own ∧ tT gl cf K c σ2 H2 fun b H3 => if b = true then tE gl cf K el σ2 H3 fun y H4 => Q (some y) H4 else Q none H3 := by
  obtain ⟨env', f1, e⟩ := ok2 e
  obtain ⟨⟨t1, t2⟩, f2, e⟩ := ok2 e
  obtain ⟨b, f3, e⟩ := ok2 e
  cases toB_ok f3
  have ww : L2.wipe (L2.wipe σ own) own = L2.wipe σ own := by
    have all : ∀ vs : List Nat, (∀ v ∈ vs, v ∈ own) → L2.wipe (L2.wipe σ vs) own = L2.wipe σ own := fun vs => by
      induction vs with
      | nil => intro _; rfl
      | cons v vs ih =>
        intro h
        show L2.wipe ((L2.wipe σ vs).set v none) own = _
        rw [wipe_set (h v List.mem_cons_self)]
        exact ih fun w hw => h w (List.mem_cons_of_mem _ hw)
    exact all own fun _ h => h
  refine ⟨d, wipe env own, env', G, ix, S, re.wipe own, g, rx, f1, fun σ' r' hw => ⟨(hw own htg).trans ww, ?_⟩⟩
  refine ⟨env', G, ix, S, b, t2, r', g, f2, fun G' ix' H' s g' => ?_⟩
  cases b with
  | false =>
    simp only [Bool.false_eq_true, if_false] at e ⊢
    cases e
    exact q none G' ix' H' s g' trivial
  | true =>
    simp only [if_true] at e ⊢
    obtain ⟨z, f4, e⟩ := ok2 e
    cases e
    refine ⟨env', G', ix', t2, z.1, z.2, r'.stp s, g', f4, fun v G2 ix2 H2 s2 g2 rw => ?_⟩
    obtain ⟨G3, s3, g3, r3⟩ := rw.data s2 g2
    exact q (some v) G3 ix2 H2 (s.trans s3) g3 r3
/-- where a comprehension's parts run -/
abbrev Blk (X : Cx) (scope : Scope) (s : Shared) (H : Hp) (C : Addr) (cl : List (Str × Addr)) (fp : List Addr) : Cx := X.blk s H scope (compEnvC scope cl C X.env) fp
theorem snd_lc (C : Ctx nm gl cf X) {elt target iter : Expr} {scope : Scope} {pos : Pos} {el ca cb : E} {tg : Tg} {k : Ik} {own : List Nat} (hb : blkC X.N X.env.scope scope (ownOf X.N own) = true) (htg : ∀ i ∈ tgIs tg, i ∈ own) (oi : ord iter = true) (hi : SndI gl cf X target iter k ca cb)
    (ht : ∀ s H C cl fp, ∃ g, PG (Blk X scope s H C cl fp) target g ∧ SemG X.K tg g) (he : ∀ s H C cl fp, SndE gl cf (Blk X scope s H C cl fp) elt el) : SndE gl cf X (.ListComp elt [⟨target, iter, [], 0⟩] scope pos) (.lc el tg k ca cb own) := by
  obtain ⟨wi, pi, mi, xi⟩ := hi
  have e0 := ownOf_snd X.N own
  have pe : PE X (.ListComp elt [⟨target, iter, [], 0⟩] scope pos) (tLc wi (tG X.K tg) tYes (tE gl cf X.K el) ((ownOf X.N own).map (·.2))) :=
    pe_lc C.calm C.nd pi (blkOk_by hb) (fun s H C cl fp => pg_all (X := Blk X scope s H C cl fp) (ht s H C cl fp)) (fun s H C cl fp => pts_nil) (fun s H C cl fp => (he s H C cl fp).pe) (fun x => ord_fold oi x)
  refine ⟨_, pe, asg_lc C.nd pe fun i y py spos hi hy hs => ps_setLc C.calm C.nd hi hy hs pi (blkOk_by hb) (fun s H C cl fp => pg_all (X := Blk X scope s H C cl fp) (ht s H C cl fp)) (fun s H C cl fp => pts_nil) (fun s H C cl fp => (he s H C cl fp).pe) (fun x => ord_fold oi x), fun σ H env G ix S w S' Q r g e q => ?_, fun σ H env G ix S k S' Q r g e q => ?x⟩
  case x =>
    simp only [ev] at e
    rcases exc2 e with e1 | ⟨x, e1, e⟩
    · exact xi σ H env G ix S k S' _ r g (.inl e1) q
    rcases exc2 e with e2 | ⟨y, e2, e⟩
    · exact xi σ H env G ix S k S' _ r g (.inr ⟨x, e1, e2⟩) q
    exact absurd e ((nx_items.bind fun _ => Res.calm_nx.bind fun _ => nx_guard nx_ok) k S')
  rw [e0]
  simp only [ev] at e
  obtain ⟨x, e1, e⟩ := ok2 e
  obtain ⟨y, e2, e⟩ := ok2 e
  obtain ⟨ds, e3, e⟩ := ok2 e
  obtain ⟨z, e4, e⟩ := ok2 e
  replace e4 := Res.calm_ok.mp e4
  obtain ⟨c, e⟩ := guard_ok e
  cases e
  exact lc_sem mi (f := fun env d S' => (setTg tg d (wipe env own)).bind fun env' => (ev gl cf el env' S').bind fun z => .ok (some z.1.toD, z.2)) (fun σ H env G ix S x d r Q re g rx e q => turn_lc htg σ H env G ix S x d r Q re g rx e q) r g e1 e2 e3 e4 (dec_of c) q
theorem snd_lcIf (C : Ctx nm gl cf X) {elt target iter i : Expr} {scope : Scope} {pos : Pos} {el ca cb cc : E} {tg : Tg} {k : Ik} {own : List Nat} (hb : blkC X.N X.env.scope scope (ownOf X.N own) = true) (htg : ∀ i ∈ tgIs tg, i ∈ own) (oi : ord iter = true) (hi : SndI gl cf X target iter k ca cb)
    (ht : ∀ s H C cl fp, ∃ g, PG (Blk X scope s H C cl fp) target g ∧ SemG X.K tg g) (hc : ∀ s H C cl fp, SndT gl cf (Blk X scope s H C cl fp) i cc) (he : ∀ s H C cl fp, SndE gl cf (Blk X scope s H C cl fp) elt el) : SndE gl cf X (.ListComp elt [⟨target, iter, [i], 0⟩] scope pos) (.lcIf el tg k ca cb cc own) := by
  obtain ⟨wi, pi, mi, xi⟩ := hi
  have e0 := ownOf_snd X.N own
  have pe : PE X (.ListComp elt [⟨target, iter, [i], 0⟩] scope pos) (tLc wi (tG X.K tg) (tT gl cf X.K cc) (tE gl cf X.K el) ((ownOf X.N own).map (·.2))) :=
    pe_lc C.calm C.nd pi (blkOk_by hb) (fun s H C cl fp => pg_all (X := Blk X scope s H C cl fp) (ht s H C cl fp)) (fun s H C cl fp => pts_one (hc s H C cl fp).pt) (fun s H C cl fp => (he s H C cl fp).pe) (fun x => ord_fold oi x)
  refine ⟨_, pe, asg_lc C.nd pe fun i y py spos hi hy hs => ps_setLc C.calm C.nd hi hy hs pi (blkOk_by hb) (fun s H C cl fp => pg_all (X := Blk X scope s H C cl fp) (ht s H C cl fp)) (fun s H C cl fp => pts_one (hc s H C cl fp).pt) (fun s H C cl fp => (he s H C cl fp).pe) (fun x => ord_fold oi x), fun σ H env G ix S w S' Q r g e q => ?_, fun σ H env G ix S k S' Q r g e q => ?x⟩
  case x =>
    simp only [ev] at e
    rcases exc2 e with e1 | ⟨x, e1, e⟩
    · exact xi σ H env G ix S k S' _ r g (.inl e1) q
    rcases exc2 e with e2 | ⟨y, e2, e⟩
    · exact xi σ H env G ix S k S' _ r g (.inr ⟨x, e1, e2⟩) q
    exact absurd e ((nx_items.bind fun _ => Res.calm_nx.bind fun _ => nx_guard nx_ok) k S')
  rw [e0]
  simp only [ev] at e
  obtain ⟨x, e1, e⟩ := ok2 e
  obtain ⟨y, e2, e⟩ := ok2 e
  obtain ⟨ds, e3, e⟩ := ok2 e
  obtain ⟨z, e4, e⟩ := ok2 e
  replace e4 := Res.calm_ok.mp e4
  obtain ⟨c, e⟩ := guard_ok e
  cases e
  exact lc_sem mi (f := fun env d S' => (setTg tg d (wipe env own)).bind fun env' => (ev gl cf cc env' S').bind fun t => (toB t.1).bind fun b => if b then (ev gl cf el env' t.2).bind fun z => .ok (some z.1.toD, z.2) else .ok (none, t.2))
    (fun σ H env G ix S x d r Q re g rx e q => turn_lcIf htg σ H env G ix S x d r Q re g rx e q) r g e1 e2 e3 e4 (dec_of c) q
end
end Nl

/-! Dicts, fields, methods, new instances, isinstance of refusals, str of a number. -/
namespace Nl
open PySem L2
/-! ### keys -/
section
variable {K : PySem.W.Frag} {G : Hp} {ix : List Addr}
theorem ky_v {v : V} {d : D} {q : Ky} (r : Rp K G ix v d) (h : kyOf d = some q) : v = kV (kyK q) := by
  cases r <;> simp [kyOf] at h <;> subst h <;> rfl
theorem kys_v : ∀ {vs : List V} {ds : List D} {qs : List Ky}, Rps K G ix vs ds → kysOf ds = some qs → vs = (qs.map kyK).map kV
  | _, _, qs, .nil, h => by simp [kysOf] at h; subst h; rfl
  | _, _, qs, .cons (d := d) (ds := ds) a r, h => by
    simp only [kysOf, Option.bind_eq_some_iff, Option.map_eq_some_iff] at h
    obtain ⟨k, h1, ks, h2, rfl⟩ := h
    rw [ky_v a h1, kys_v r h2]
    rfl
theorem map_kyK_inj : ∀ {a b : List Ky}, a.map kyK = b.map kyK → a = b
  | [], [], _ => rfl
  | [], _ :: _, h => by simp at h
  | _ :: _, [], h => by simp at h
  | a :: as, b :: bs, h => by
    simp only [List.map_cons, List.cons.injEq] at h
    rw [kyK_inj h.1, map_kyK_inj h.2]
section
variable {α β : Type} [DecidableEq α] [DecidableEq β] {f : β → α}
theorem prs_val (inj : ∀ {a b}, f a = f b → a = b) {us : List (α × V)} {kvs : List (β × D)} (h : PRs (fun a b => a = f b) K G ix us kvs) (q : β) : (∀ d, valK kvs q = some d → ∃ v, valV us (f q) = some v ∧ Rp K G ix v d) ∧ (valK kvs q = none → valV us (f q) = none) := by
  induction h with
  | nil => exact ⟨fun d e => by simp [valK] at e, fun _ => rfl⟩
  | @cons u k us kvs r t ih =>
    by_cases e : k.1 = q
    · have e' : u.1 = f q := by rw [r.1, e]
      refine ⟨fun d hd => ⟨u.2, valV_pos e', ?_⟩, fun hd => ?_⟩
      · have : valK (k :: kvs) q = some k.2 := by simp [valK, List.find?_cons, e]
        rw [this] at hd
        cases hd
        exact r.2
      · have : valK (k :: kvs) q = some k.2 := by simp [valK, List.find?_cons, e]
        rw [this] at hd
        cases hd
    · have e' : ¬ u.1 = f q := fun z => e (inj (by rw [← r.1, z]))
      have e2 : valK (k :: kvs) q = valK kvs q := by simp [valK, List.find?_cons, e]
      rw [valV_neg e', e2]
      exact ih
theorem prs_any (inj : ∀ {a b}, f a = f b → a = b) {us : List (α × V)} {kvs : List (β × D)} (h : PRs (fun a b => a = f b) K G ix us kvs) (q : β) : (us.any fun kv => decide (kv.1 = f q)) = kvs.any fun kv => decide (kv.1 = q) := by
  induction h with
  | nil => rfl
  | @cons u k us kvs r t ih =>
    rw [List.any_cons, List.any_cons, ih, r.1]
    congr 1
    by_cases e : k.1 = q
    · simp [e]
    · rw [decide_eq_false e, decide_eq_false fun z => e (inj z)]
theorem prs_repl (inj : ∀ {a b}, f a = f b → a = b) (q : β) {v : V} {d : D} (r : Rp K G ix v d) {us : List (α × V)} {kvs : List (β × D)} (h : PRs (fun a b => a = f b) K G ix us kvs) : PRs (fun a b => a = f b) K G ix (us.map fun kv => if kv.1 = f q then (kv.1, v) else kv) (kvs.map fun kv => if kv.1 = q then (kv.1, d) else kv) := by
  induction h with
  | nil => exact .nil
  | @cons u k us kvs s t ih =>
    simp only [List.map_cons]
    refine .cons ?_ ih
    by_cases e : k.1 = q
    · have e' : u.1 = f q := by rw [s.1, e]
      rw [if_pos e', if_pos e]
      exact ⟨s.1, r⟩
    · have e' : ¬ u.1 = f q := fun z => e (inj (by rw [← s.1, z]))
      rw [if_neg e', if_neg e]
      exact s
theorem prs_snoc (q : β) {v : V} {d : D} (r : Rp K G ix v d) {us : List (α × V)} {kvs : List (β × D)} (h : PRs (fun a b => a = f b) K G ix us kvs) : PRs (fun a b => a = f b) K G ix (us ++ [(f q, v)]) (kvs ++ [(q, d)]) := by
  induction h with
  | nil => exact .cons ⟨rfl, r⟩ .nil
  | cons s t ih => exact .cons s ih
theorem prs_put (inj : ∀ {a b}, f a = f b → a = b) {us : List (α × V)} {kvs : List (β × D)} (h : PRs (fun a b => a = f b) K G ix us kvs) (q : β) {v : V} {d : D} (r : Rp K G ix v d) : PRs (fun a b => a = f b) K G ix (putK us (f q) v) (setK kvs q d) := by
  unfold putK setK
  rw [prs_any inj h q]
  split
  · exact prs_repl inj q r h
  · exact prs_snoc q r h
end
/-! ### what a dict has -/
theorem dGet_ok {S : Store} {H : Hp} (g : Good K G ix S H) {n : Nat} {a : Addr} {c : Cell} {y : V} {k : D} {o : Option D} (hn : ix[n]? = some a) (hs : S[n]? = some c) (r : Rp K G ix y k) (h : dGet c k = some o) :
    ∃ ov, DGet H a y ov ∧ ov.isSome = o.isSome ∧ ∀ d, o = some d → ∃ v, ov = some v ∧ Rp K G ix v d := by
  have fin : ∀ {ov : Option V}, ((∀ d, o = some d → ∃ v, ov = some v ∧ Rp K G ix v d) ∧ (o = none → ov = none)) → ov.isSome = o.isSome ∧ ∀ d, o = some d → ∃ v, ov = some v ∧ Rp K G ix v d := fun {ov} h => by
    refine ⟨?_, h.1⟩
    cases o with
    | none => rw [h.2 rfl]; rfl
    | some d =>
      obtain ⟨v, e, _⟩ := h.1 d rfl
      rw [e]; rfl
  unfold dGet at h
  split at h
  · rename_i kvs
    obtain ⟨a', e1, e2, us, e3, e4⟩ := g.cel n _ hs (by intro z; cases z)
    rw [hn] at e1; cases e1
    simp only [Option.map_eq_some_iff] at h
    obtain ⟨q, h1, rfl⟩ := h
    cases ky_v r h1
    exact ⟨_, DGet.k e3, fin (prs_val (f := kyK) kyK_inj e4 q)⟩
  · rename_i kvs
    obtain ⟨a', e1, e2, us, e3, e4⟩ := g.cel n _ hs (by intro z; cases z)
    rw [hn] at e1; cases e1
    split at h
    · rename_i ds
      simp only [Option.map_eq_some_iff] at h
      obtain ⟨q, h1, rfl⟩ := h
      cases r with
      | @tup b vs _ gb rs =>
        have hb := g.le _ _ gb
        rw [kys_v rs h1] at hb
        exact ⟨_, DGet.t e3 hb, fin (prs_val (f := List.map kyK) map_kyK_inj e4 q)⟩
    · cases h
  · cases h
theorem putK_len {κ : Type} [DecidableEq κ] (us : List (κ × V)) : True := trivial
theorem PRs.length {α β : Type} {R : α → β → Prop} {us : List (α × V)} {kvs : List (β × D)} (h : PRs R K G ix us kvs) : us.length = kvs.length := Paired.length h
theorem dPut_ok {S : Store} {H : Hp} (g : Good K G ix S H) {n : Nat} {a : Addr} {c c' : Cell} {y v : V} {k d : D} (hn : ix[n]? = some a) (hs : S[n]? = some c) (r : Rp K G ix y k) (rv : Rp K G ix v d) (h : dPut c k d = some c') :
    ∃ o', DPut H a y v (upd H a o') ∧ Good K G ix (S.set n c') (upd H a o') := by
  unfold dPut at h
  split at h
  · rename_i kvs
    obtain ⟨a', e1, e2, us, e3, e4⟩ := g.cel n _ hs (by intro z; cases z)
    rw [hn] at e1; cases e1
    split at h
    · rename_i hl
      simp only [Option.map_eq_some_iff] at h
      obtain ⟨q, h1, rfl⟩ := h
      cases ky_v r h1
      exact ⟨_, DPut.k e3 (by rw [e4.length]; exact hl), g.updC hn hs (by intro z; cases z) (by intro z; cases z) ⟨_, rfl, prs_put (f := kyK) kyK_inj e4 q rv⟩⟩
    · cases h
  · rename_i kvs
    obtain ⟨a', e1, e2, us, e3, e4⟩ := g.cel n _ hs (by intro z; cases z)
    rw [hn] at e1; cases e1
    split at h
    · rename_i ds
      split at h
      · rename_i hl
        simp only [Option.map_eq_some_iff] at h
        obtain ⟨q, h1, rfl⟩ := h
        cases r with
        | @tup b vs _ gb rs =>
          have hb := g.le _ _ gb
          rw [kys_v rs h1] at hb
          exact ⟨_, DPut.t e3 hb (by rw [e4.length]; exact hl), g.updC hn hs (by intro z; cases z) (by intro z; cases z) ⟨_, rfl, prs_put (f := List.map kyK) map_kyK_inj e4 q rv⟩⟩
      · cases h
    · cases h
  · cases h
theorem dKeys_is {S : Store} {H : Hp} (g : Good K G ix S H) {n : Nat} {a : Addr} {c : Cell} {ks : List D} (hn : ix[n]? = some a) (hs : S[n]? = some c) (h : dKeys c = some ks) : IsD H a := by
  unfold dKeys at h
  split at h
  · obtain ⟨a', e1, e2, us, e3, e4⟩ := g.cel n _ hs (by intro z; cases z)
    rw [hn] at e1; cases e1
    exact .inl ⟨us, .inl e3⟩
  · obtain ⟨a', e1, e2, us, e3, e4⟩ := g.cel n _ hs (by intro z; cases z)
    rw [hn] at e1; cases e1
    exact .inr ⟨us, .inl e3⟩
  · cases h
/-! ### fields -/
theorem str_of_inj {a b : String} (h : Str.ofString a = Str.ofString b) : a = b := by
  rw [Str.ofString_eq_toList, Str.ofString_eq_toList] at h
  have h2 : (a.toList.map Char.toNat) = b.toList.map Char.toNat := by
    have := congrArg (fun z : Str => z.cps.toList) h
    simpa using this
  have : ∀ {xs ys : List Char}, xs.map Char.toNat = ys.map Char.toNat → xs = ys := fun {xs} => by
    induction xs with
    | nil => intro ys h; cases ys with
      | nil => rfl
      | cons _ _ => simp at h
    | cons x xs ih =>
      intro ys h
      cases ys with
      | nil => simp at h
      | cons y ys =>
        simp only [List.map_cons, List.cons.injEq] at h
        rw [ih h.2, Char.toNat_inj.mp h.1]
  exact String.toList_inj.mp (this h2)
theorem fd_inj {a b : Nat} (ha : a < fdNames.length) (hb : b < fdNames.length) (h : Str.ofString (fdName a) = Str.ofString (fdName b)) : a = b := by
  have h2 := str_of_inj h
  have all : ∀ a < 14, ∀ b < 14, fdNames.getD a "" = fdNames.getD b "" → a = b := by decide
  exact all a ha b hb h2
theorem getF_ok : ∀ {us : List (Str × V)} {fs : List (Nat × D)} {f : Nat} {d : D}, PRs rF K G ix us fs → f < fdNames.length → getF f fs = some d → ∃ v, us.lookup (Str.ofString (fdName f)) = some v ∧ Rp K G ix v d
  | _, _, f, d, .nil, _, h => by simp [getF] at h
  | _, _, f, d, .cons (a := u) (b := k) r t, hf, h => by
    obtain ⟨u1, u2⟩ := u
    obtain ⟨k1, k2⟩ := k
    obtain ⟨⟨r1, r2⟩, r3⟩ := r
    simp only at r1 r2 r3
    simp only [getF] at h
    split at h
    · rename_i e
      cases h
      subst e
      exact ⟨u2, by rw [List.lookup_cons, r1]; simp, r3⟩
    · rename_i e
      obtain ⟨v, h1, h2⟩ := getF_ok t hf h
      refine ⟨v, ?_, h2⟩
      rw [List.lookup_cons, r1]
      have : (Str.ofString (fdName f) == Str.ofString (fdName k1)) = false := by
        rw [beq_eq_false_iff_ne]
        exact fun z => e (fd_inj hf r2 z).symm
      rw [this]
      exact h1
theorem putF_ok {f : Nat} (hf : f < fdNames.length) {v : V} {d : D} (rv : Rp K G ix v d) : ∀ {us : List (Str × V)} {fs : List (Nat × D)}, PRs rF K G ix us fs → PRs rF K G ix (L2.putF (Str.ofString (fdName f)) v us) (Nl.putF f d fs)
  | _, _, .nil => .cons ⟨⟨rfl, hf⟩, rv⟩ .nil
  | _, _, .cons (a := u) (b := k) r t => by
    obtain ⟨u1, u2⟩ := u
    obtain ⟨k1, k2⟩ := k
    obtain ⟨⟨r1, r2⟩, r3⟩ := r
    simp only at r1 r2 r3
    unfold L2.putF Nl.putF
    by_cases e : k1 = f
    · subst e
      rw [if_pos r1, if_pos rfl]
      exact .cons ⟨⟨r1, r2⟩, rv⟩ t
    · have e' : ¬ u1 = Str.ofString (fdName f) := fun z => e (fd_inj r2 hf (r1 ▸ z))
      rw [if_neg e', if_neg e]
      exact .cons ⟨⟨r1, r2⟩, r3⟩ (putF_ok hf rv t)
theorem noF_ok {m : Str} (hm : (fdNames.any fun g => Str.ofString g == m) = false) : ∀ {us : List (Str × V)} {fs : List (Nat × D)}, PRs rF K G ix us fs → us.lookup m = none
  | _, _, .nil => rfl
  | _, _, .cons (a := u) (b := k) r t => by
    obtain ⟨u1, u2⟩ := u
    obtain ⟨⟨r1, r2⟩, r3⟩ := r
    simp only at r1 r2
    rw [List.lookup_cons]
    have : (m == u1) = false := by
      rw [beq_eq_false_iff_ne]
      intro z
      have h1 : (fdNames.any fun g => Str.ofString g == m) = true := by
        rw [List.any_eq_true]
        refine ⟨fdName k.1, ?_, by rw [beq_iff_eq, z, r1]⟩
        unfold fdName
        rw [List.getD_eq_getElem?_getD, List.getElem?_eq_getElem r2]
        exact List.getElem_mem r2
      rw [hm] at h1
      cases h1
    rw [this]
    exact noF_ok hm t
end
end Nl

/-! What is shown of the texts with dicts, fields, methods, instances. -/
namespace Nl
open PySem L2
/-- a new thing of the store is laid -/
theorem newCell {K : PySem.W.Frag} {G : Hp} {ix : List Addr} {S : Store} {H : Hp} (g : Good K G ix S H) {p : Addr} {o : HO} {c : Cell} (hp : H p = none) (r : CellR K G (ix ++ [p]) (some o) c) :
    Stp G ix H G (ix ++ [p]) (upd H p o) ∧ Good K G (ix ++ [p]) (S ++ [c]) (upd H p o) ∧ Rp K G (ix ++ [p]) (.ref p) (.obj S.length) := by
  have g1 := g.lay (o := o) hp
  have s1 : Stp G ix H G ix (upd H p o) := Stp.lay hp
  refine ⟨⟨s1.g, Ixs.app ix p, s1.keep, s1.there, s1.new, fun b hb => ?_⟩, g1.boxC upd_same (g.notG hp) (g.free hp) r, .obj (obj_last g.len)⟩
  rcases List.mem_append.mp hb with hb | hb
  · exact .inl hb
  · rw [List.mem_singleton.mp hb]; exact .inr hp
/-- the keys of a dict that are tuples are frozen -/
theorem keys_frozen {K : PySem.W.Frag} {ix : List Addr} {S : Store} {H : Hp} {G0 : Hp} {ix0 : List Addr} {H0 : Hp} : ∀ {us : List (List Key × V)} {bs : List Addr} {kvs : List (List Ky × D)} {G : Hp}, Stp G0 ix0 H0 G ix H → Good K G ix S H → IsKeys H us bs → PRs rT K G ix us kvs → (∀ b ∈ bs, ∀ vs, H b = some (.tup vs) → H0 b = some (.tup vs) ∨ H0 b = none ∨ b ∈ ix0) →
    ∃ G', Stp G0 ix0 H0 G' ix H ∧ Good K G' ix S H ∧ Le G G' ∧ Rps K G' ix (bs.map V.ref) (kvs.map fun kv => .tup (kv.1.map kyD))
  | _, _, _, G, s, g, .nil, .nil, _ => ⟨G, s, g, Le.refl _, .nil⟩
  | _, _, _, G, s, g, .cons (a := u) (b := b) h1 t1, .cons (b := kv) h2 t2, hb => by
    have one : ∃ G1, Stp G0 ix0 H0 G1 ix H ∧ Good K G1 ix S H ∧ Le G G1 ∧ G1 b = some (.tup (u.1.map kV)) := by
      cases e : G b with
      | some o =>
        have := g.le _ _ e
        rw [h1] at this
        cases this
        exact ⟨G, s, g, Le.refl _, e⟩
      | none =>
        refine ⟨L2.upd G b (.tup (u.1.map kV)), s.freeze e ?_, g.freeze h1 e fun n c e1 e2 => ?_, Le.upd e, upd_same⟩
        · rcases hb b List.mem_cons_self _ h1 with h | h | h
          · exact .inr (.inr ⟨_, h⟩)
          · exact .inl h
          · exact .inr (.inl h)
        · cases c with
          | dead => rfl
          | lst xs =>
            obtain ⟨a', f1, f2, vs, f3, f4⟩ := g.cel n _ e2 (by intro z; cases z)
            rw [e1] at f1; cases f1; rw [h1] at f3; cases f3
          | dK xs =>
            obtain ⟨a', f1, f2, vs, f3, f4⟩ := g.cel n _ e2 (by intro z; cases z)
            rw [e1] at f1; cases f1; rw [h1] at f3; cases f3
          | dT xs =>
            obtain ⟨a', f1, f2, vs, f3, f4⟩ := g.cel n _ e2 (by intro z; cases z)
            rw [e1] at f1; cases f1; rw [h1] at f3; cases f3
          | ins c xs =>
            obtain ⟨a', f1, f2, dx, vs, f3, f4⟩ := g.cel n _ e2 (by intro z; cases z)
            rw [e1] at f1; cases f1; rw [h1] at f3; cases f3
    obtain ⟨G1, s1, g1, l1, e1⟩ := one
    obtain ⟨G2, s2, g2, l2, r2⟩ := keys_frozen s1 g1 t1 (PRs.mono t2 l1 (Ixs.refl _)) fun b' hb' => hb b' (List.mem_cons_of_mem _ hb')
    refine ⟨G2, s2, g2, l1.trans l2, .cons (.tup (l2 _ _ e1) ?_) r2⟩
    rw [show u.1 = kv.1.map kyK from h2.1]
    have : ∀ ks : List Ky, Rps K G2 ix ((ks.map kyK).map kV) (ks.map kyD) := fun ks => by
      induction ks with
      | nil => exact .nil
      | cons k ks ih =>
        refine .cons ?_ ih
        cases k with
        | i n => exact .int n
        | s x => exact .str x
    exact this kv.1
section
variable {nm : Nms} {gl : Nat → Option D} {cf : Cf} {X : Cx}
theorem snd_dnew (C : Ctx nm gl cf X) {t : Bool} {pos : Pos} : SndE gl cf X (.Dict [] [] pos) (.dnew t) := by
  cases t with
  | true =>
    refine ⟨_, pe_dnewT, asg_ord C.nd rfl rfl pe_dnewT, fun σ H env G ix S w S' Q r g e q => ?_, semX0 fun env S => by simp only [ev]; exact nx_ok⟩
    simp only [ev] at e
    cases e
    intro p hp
    obtain ⟨s, g', r'⟩ := newCell (c := .dT []) (o := .dT []) g hp ⟨[], rfl, .nil⟩
    exact q _ G _ _ s g' r'
  | false =>
    refine ⟨_, pe_dnewK, asg_ord C.nd rfl rfl pe_dnewK, fun σ H env G ix S w S' Q r g e q => ?_, semX0 fun env S => by simp only [ev]; exact nx_ok⟩
    simp only [ev] at e
    cases e
    intro p hp
    obtain ⟨s, g', r'⟩ := newCell (c := .dK []) (o := .dK []) g hp ⟨[], rfl, .nil⟩
    exact q _ G _ _ s g' r'
theorem ev_din {neg : Bool} {k d : E} {env : Env} {S : Store} {w : W} {S' : Store} (e : ev gl cf (.din neg k d) env S = .ok (w, S')) : ∃ x n c o, ev gl cf k env S = .ok x ∧ ev gl cf d env x.2 = .ok (.d (.obj n), S') ∧ S'[n]? = some c ∧ dGet c x.1.toD = some o ∧ w = .d (.bl (if neg then !o.isSome else o.isSome)) := by
  simp only [ev] at e
  obtain ⟨x, e1, e⟩ := ok2 e
  obtain ⟨⟨y1, y2⟩, e2, e⟩ := ok2 e
  dsimp only at e
  split at e
  · rename_i n
    split at e
    · rename_i o ho
      cases e
      obtain ⟨c, h1, h2⟩ := Option.bind_eq_some_iff.mp ho
      exact ⟨x, n, c, o, e1, e2, h1, h2, rfl⟩
    · cases e
  · cases e
theorem nx_din {neg : Bool} (x y : W × Store) : ((match y.1 with
    | .d (.obj n) => (match (y.2[n]?).bind fun c => dGet c x.1.toD with
      | some o => Res.ok (W.d (.bl (if neg then !o.isSome else o.isSome)), y.2)
      | none => .err)
    | _ => .err) : Res (W × Store)).NX := by
  split
  · split <;> first | exact nx_ok | exact nx_err
  · exact nx_err
theorem snd_din (C : Ctx nm gl cf X) {neg : Bool} {a b : Expr} {ca cb : E} {pos : Pos} (ob : ord b = true) (ha : SndE gl cf X a ca) (hb : SndE gl cf X b cb) : SndE gl cf X (.Compare a [if neg then .NotIn else .In] [b] pos) (.din neg ca cb) ∧ SndT gl cf X (.Compare a [if neg then .NotIn else .In] [b] pos) (.din neg ca cb) := by
  obtain ⟨ta, pa, _, ma, xa⟩ := ha
  obtain ⟨tb, pb, _, mb, xb⟩ := hb
  have hu : X.A.units + 1 < cLine := by have := C.hu; omega
  have sem : ∀ {σ : L2.St} {H : Hp} {env : Env} {G : Hp} {ix : List Addr} {S : Store} {w : W} {S' : Store} {R : Bool → Hp → Prop}, EnvR X.K G ix σ env → Good X.K G ix S H → ev gl cf (.din neg ca cb) env S = .ok (w, S') → (∀ k, w = .d (.bl (if neg then !k else k)) → ∀ G' ix' H', Stp G ix H G' ix' H' → Good X.K G' ix' S' H' → R k H') →
      ta σ H fun y H1 => tb σ H1 fun x H2 => ∃ a o, x = .ref a ∧ DGet H2 a y o ∧ R o.isSome H2 := fun {σ H env G ix S w S' R} r g e q => by
    obtain ⟨x, n, c, o, e1, e2, h1, h2, hw⟩ := ev_din e
    refine ma.data r g (show ev gl cf ca env S = .ok (x.1, x.2) from e1) fun v G1 ix1 H1 s1 g1 r1 => mb σ H1 env G1 ix1 x.2 _ S' _ (r.stp s1) g1 e2 fun u G2 ix2 H2 s2 g2 r2 => ?_
    cases (show Rp X.K G2 ix2 u (.obj n) from r2) with
    | @obj a _ hn =>
      obtain ⟨ov, d1, d2, d3⟩ := dGet_ok g2 hn h1 (r1.mono s2.g s2.i _ _) h2
      exact ⟨a, ov, rfl, d1, by rw [d2]; exact q o.isSome hw G2 ix2 H2 (s1.trans s2) g2⟩
  have semx : ∀ {σ : L2.St} {H : Hp} {env : Env} {G : Hp} {ix : List Addr} {S : Store} {k : Nat} {S' : Store} {R : V → V → Hp → Prop}, EnvR X.K G ix σ env → Good X.K G ix S H → ev gl cf (.din neg ca cb) env S = .exc k S' → PostX X.K G ix H k S' (WE (Wof X) σ) → ta σ H fun y H1 => tb σ H1 fun x H2 => R y x H2 := fun {σ H env G ix S k S' R} r g e q => by
    simp only [ev] at e
    exact semX2 ma xa xb r g e nx_din q
  cases neg with
  | true =>
    have p : PE X (.Compare a [.NotIn] [b] pos) (tDNotIn ta tb) := pe_cmp (pc_dnotin hu pa pb) (ord_mark ob _)
    refine ⟨⟨_, p, asg_ord C.nd rfl rfl p, fun σ H env G ix S w S' Q r g e q => ?_, fun σ H env G ix S k S' Q r g e q => semx r g e q⟩, ⟨_, pt_cmp (pc_dnotin hu pa pb) (ord_mark ob _), fun σ H env G ix S w S' Q r g e q => ?_, fun σ H env G ix S k S' Q r g e q => semx r g e q⟩⟩
    · exact sem (R := fun k H' => Q (.bl (!k)) H') r g e fun k hw G' ix' H' s g' => by subst hw; exact postE_bl q s g'
    · exact sem (R := fun k H' => ∃ b, V.bl (!k) = .bl b ∧ Q b H') r g e fun k hw G' ix' H' s g' => by cases hw; exact ⟨_, rfl, q G' ix' H' s g'⟩
  | false =>
    have p : PE X (.Compare a [.In] [b] pos) (tDIn ta tb) := pe_cmp (pc_din hu pa pb) (ord_mark ob _)
    refine ⟨⟨_, p, asg_ord C.nd rfl rfl p, fun σ H env G ix S w S' Q r g e q => ?_, fun σ H env G ix S k S' Q r g e q => semx r g e q⟩, ⟨_, pt_cmp (pc_din hu pa pb) (ord_mark ob _), fun σ H env G ix S w S' Q r g e q => ?_, fun σ H env G ix S k S' Q r g e q => semx r g e q⟩⟩
    · exact sem (R := fun k H' => Q (.bl k) H') r g e fun k hw G' ix' H' s g' => by subst hw; exact postE_bl q s g'
    · exact sem (R := fun k H' => ∃ b, V.bl k = .bl b ∧ Q b H') r g e fun k hw G' ix' H' s g' => by cases hw; exact ⟨_, rfl, q G' ix' H' s g'⟩
theorem snd_dget (C : Ctx nm gl cf X) {a b : Expr} {ca cb : E} {pos : Pos} (ob : ord b = true) (ha : SndE gl cf X a ca) (hb : SndE gl cf X b cb) : SndE gl cf X (.Subscript a b pos) (.dget ca cb) := by
  obtain ⟨ta, pa, _, ma, xa⟩ := ha
  obtain ⟨tb, pb, _, mb, xb⟩ := hb
  have hu : X.A.units + 1 < cLine := by have := C.hu; omega
  have hs : NoSl b := fun ov iv => by cases b <;> first | rfl | cases ob
  have p : PE X (.Subscript a b pos) (tDGet ta tb) := pe_dget hu pa pb hs
  refine ⟨_, p, asg_ord C.nd rfl rfl p, fun σ H env G ix S w S' Q r g e q => ?_, fun σ H env G ix S k S' Q r g e q => ?x⟩
  case x =>
    simp only [ev] at e
    refine semX2 ma xa xb r g e (fun x y => ?_) q
    split
    · split <;> first | exact nx_ok | exact nx_err
    · exact nx_err
  simp only [ev] at e
  obtain ⟨⟨x1, x2⟩, e1, e'⟩ := ok2 e
  obtain ⟨y, e2, e3⟩ := ok2 e'
  dsimp only at e3 e2
  clear e e'
  split at e3
  · rename_i n
    split at e3
    · rename_i d ho
      cases e3
      obtain ⟨c, h1, h2⟩ := Option.bind_eq_some_iff.mp ho
      refine ma σ H env G ix S _ x2 _ r g e1 fun u G1 ix1 H1 s1 g1 r1 => mb.data (r.stp s1) g1 (show ev gl cf cb env x2 = .ok (y.1, y.2) from e2) fun v G2 ix2 H2 s2 g2 r2 => ?_
      cases (show Rp X.K G1 ix1 u (.obj n) from r1) with
      | @obj a _ hn =>
        obtain ⟨ov, d1, d2, d3⟩ := dGet_ok g2 (s2.i _ _ hn) h1 r2 h2
        obtain ⟨z, rfl, rz⟩ := d3 d rfl
        exact ⟨a, z, rfl, d1, q _ G2 ix2 H2 (s1.trans s2) g2 rz⟩
    · cases e3
  · cases e3
theorem snd_dgetD (C : Ctx nm gl cf X) {o a b : Expr} {co ca cb : E} {apos cpos : Pos} (ho : recv o = true) (hl : (apos.endLine == cpos.line) = true) (oa : ord a = true) (ob : ord b = true) (so : SndE gl cf X o co) (ha : SndE gl cf X a ca) (hb : SndE gl cf X b cb) : SndE gl cf X (.Call (.Attribute o "get" apos) [a, b] [] cpos) (.dgetD co ca cb) := by
  obtain ⟨to, po, _, mo, xo⟩ := so
  obtain ⟨ta, pa, _, ma, xa⟩ := ha
  obtain ⟨tb, pb, _, mb, xb⟩ := hb
  have hu : X.A.units + 1 < cLine := by have := C.hu; omega
  have m2 : M2 X o "get" apos a b cpos := ⟨recv_base ho _ _, by rw [ord_star oa, ord_star ob]; rfl, hl, by rw [ord_star oa, ord_star ob]; rfl⟩
  have p : PE X (.Call (.Attribute o "get" apos) [a, b] [] cpos) (tDGet2 to ta tb) := pe_dget2 hu po pa pb m2
  have fin : ∀ {env : Env} {S : Store} {res : Res (W × Store)}, ev gl cf (.dgetD co ca cb) env S = res → res ≠ .err → (∃ k T, res = .exc k T ∧ ev gl cf co env S = .exc k T) ∨ ∃ n x2 c ks, ev gl cf co env S = .ok (.d (.obj n), x2) ∧ x2[n]? = some c ∧ dKeys c = some ks ∧ ((ev gl cf ca env x2).bind fun y => (ev gl cf cb env y.2).bind fun u => (match (u.2[n]?).bind fun c => dGet c y.1.toD with
        | some o => .ok (.d (o.getD u.1.toD), u.2)
        | none => .err)) = res := fun {env S res} e hne => by
    simp only [ev] at e
    cases h1 : ev gl cf co env S with
    | err => rw [h1] at e; exact absurd e.symm hne
    | exc k T => rw [h1] at e; exact .inl ⟨k, T, e.symm, rfl⟩
    | ok x =>
      rw [h1] at e
      obtain ⟨x1, x2⟩ := x
      rw [Res.bind_ok] at e
      dsimp only at e
      split at e
      · rename_i n
        split at e
        · rename_i ks hk
          obtain ⟨c, k1, k2⟩ := Option.bind_eq_some_iff.mp hk
          exact .inr ⟨n, x2, c, ks, rfl, k1, k2, e⟩
        · exact absurd e.symm hne
      · exact absurd e.symm hne
  refine ⟨_, p, asg_ord C.nd rfl rfl p, fun σ H env G ix S w S' Q r g e q => ?_, fun σ H env G ix S k S' Q r g e q => ?x⟩
  case x =>
    rcases fin e (by intro z; cases z) with ⟨k', T, z, e1⟩ | ⟨n, x2, c, ks, e1, h1, h2, e⟩
    · cases z
      exact xo σ H env G ix S k S' _ r g e1 q
    · refine mo σ H env G ix S _ x2 _ r g e1 fun u G1 ix1 H1 s1 g1 r1 => ?_
      cases (show Rp X.K G1 ix1 u (.obj n) from r1) with
      | @obj a _ hn =>
        refine ⟨a, rfl, dKeys_is g1 hn h1 h2, semX2 ma xa xb (r.stp s1) g1 e (fun x y => ?_) (q.from s1)⟩
        split <;> first | exact nx_ok | exact nx_err
  rcases fin e (by intro z; cases z) with ⟨k', T, z, e1⟩ | ⟨n, x2, c, ks, e1, h1, h2, e⟩
  · cases z
  · obtain ⟨y, e2, e⟩ := ok2 e
    obtain ⟨u, e3, e⟩ := ok2 e
    split at e
    · rename_i od hod
      cases e
      obtain ⟨c', k1, k2⟩ := Option.bind_eq_some_iff.mp hod
      refine mo σ H env G ix S _ x2 _ r g e1 fun v G1 ix1 H1 s1 g1 r1 => ?_
      cases (show Rp X.K G1 ix1 v (.obj n) from r1) with
      | @obj a _ hn =>
        refine ⟨a, rfl, dKeys_is g1 hn h1 h2, ?_⟩
        refine sem2 ma mb (r.stp s1) g1 e2 e3 fun v1 v2 G2 ix2 H2 s2 g2 r2 r3 => ?_
        obtain ⟨ov, d1, d2, d3⟩ := dGet_ok g2 (s2.i _ _ hn) k1 r2 k2
        refine ⟨ov, d1, q _ G2 ix2 H2 (s1.trans s2) g2 ?_⟩
        show Rp X.K G2 ix2 (ov.getD v2) (od.getD u.1.toD)
        cases od with
        | none =>
          cases ov with
          | none => exact r3
          | some z => simp at d2
        | some d =>
          obtain ⟨z, rfl, rz⟩ := d3 d rfl
          exact rz
    · cases e
end
end Nl

/-! .. further: len and list of dicts, fields, methods, new instances, isinstance of refusals, str of a number. -/
namespace Nl
open PySem L2
section
variable {nm : Nms} {gl : Nat → Option D} {cf : Cf} {X : Cx}
/-- a CallR of either of two kinds -/
theorem callR_or {f : Value} {r1 r2 : List V → Hp → VK → Prop} (h1 : CallR X f r1) (h2 : CallR X f r2) : CallR X f (fun xs H Q => r1 xs H Q ∨ r2 xs H Q) := fun pins s σ H xs us Q I r h => h.elim (h1 pins s σ H xs us Q I r) (h2 pins s σ H xs us Q I r)
theorem nx_dkey {α : Type} {x : W × Store} {f : List D → Res α} (hf : ∀ ks, (f ks).NX) : ((match x.1 with
    | .d (.obj n) => (match (x.2[n]?).bind dKeys with
      | some ks => f ks
      | none => .err)
    | _ => .err) : Res α).NX := by
  split
  · split <;> first | exact hf _ | exact nx_err
  · exact nx_err
theorem ev_dkey {α : Type} {x : W × Store} {f : List D → Res α} {a : α} (h : (match x.1 with
    | .d (.obj n) => (match (x.2[n]?).bind dKeys with
      | some ks => f ks
      | none => .err)
    | _ => .err) = Res.ok a) : ∃ n c ks, x.1 = .d (.obj n) ∧ x.2[n]? = some c ∧ dKeys c = some ks ∧ f ks = .ok a := by
  split at h
  · rename_i n hn
    split at h
    · rename_i ks hk
      obtain ⟨c, h1, h2⟩ := Option.bind_eq_some_iff.mp hk
      exact ⟨n, c, ks, hn, h1, h2, h⟩
    · cases h
  · cases h
theorem snd_dlen (C : Ctx nm gl cf X) {a : Expr} {ca : E} {p pos : Pos} (hg : Gl X "len") (oa : ord a = true) (ha : SndE gl cf X a ca) : SndE gl cf X (.Call (.Name "len" p) [a] [] pos) (.dlen ca) := by
  obtain ⟨ta, pa, _, ma, xa⟩ := ha
  have pe := pe_callB (p := p) (pos := pos) (callR_or (X := X) call_lenD call_len_dT) hg (C.bi "len" (by decide)) (by decide +kernel) (pa_cons pa pa_nil (ord_star oa [])) (by decide +kernel) (by decide +kernel) (ord_star oa []) rfl
  refine ⟨_, pe, asg_ord C.nd rfl rfl pe, fun σ H env G ix S w S' Q r g e q => ?_, fun σ H env G ix S k S' Q r g e q => ?x⟩
  case x =>
    simp only [ev] at e
    exact semX1 xa r g e (fun x => nx_dkey (x := x) (f := fun ks => Res.ok (W.d (D.int ks.length), x.2)) fun _ => nx_ok) q
  simp only [ev] at e
  obtain ⟨⟨x1, x2⟩, e1, e⟩ := ok2 e
  obtain ⟨n, c, ks, hx, h1, h2, e⟩ := ev_dkey (x := (x1, x2)) (f := fun ks => Res.ok (W.d (D.int ks.length), x2)) e
  cases e
  cases (show x1 = .d (.obj n) from hx)
  refine ma σ H env G ix S _ _ _ r g e1 fun u G1 ix1 H1 s1 g1 r1 => ?_
  cases (show Rp X.K G1 ix1 u (.obj n) from r1) with
  | @obj b _ hn =>
    unfold dKeys at h2
    split at h2
    · cases h2
      obtain ⟨a', f1, f2, us, f3, f4⟩ := g1.cel n _ h1 (by intro z; cases z)
      rw [hn] at f1; cases f1
      refine .inl ⟨b, us, rfl, f3, ?_⟩
      have := q _ G1 ix1 H1 s1 g1 (.int _)
      simpa [f4.length] using this
    · cases h2
      obtain ⟨a', f1, f2, us, f3, f4⟩ := g1.cel n _ h1 (by intro z; cases z)
      rw [hn] at f1; cases f1
      refine .inr ⟨b, us, rfl, f3, ?_⟩
      have := q _ G1 ix1 H1 s1 g1 (.int _)
      simpa [f4.length] using this
    · cases h2
theorem keysK_rel {K : PySem.W.Frag} {G : Hp} {ix : List Addr} : ∀ {us : List (Key × V)} {kvs : List (Ky × D)}, PRs rK K G ix us kvs → Rps K G ix (us.map fun kv => kV kv.1) (kvs.map fun kv => kyD kv.1)
  | _, _, .nil => .nil
  | _, _, .cons (a := u) (b := k) r t => by
    refine .cons ?_ (keysK_rel t)
    show Rp K G ix (kV u.1) (kyD k.1)
    rw [show u.1 = kyK k.1 from r.1]
    cases k.1 with
    | i n => exact .int n
    | s x => exact .str x
theorem snd_dlist (C : Ctx nm gl cf X) {a : Expr} {ca : E} {p pos : Pos} (hg : Gl X "list") (oa : ord a = true) (ha : SndE gl cf X a ca) : SndE gl cf X (.Call (.Name "list" p) [a] [] pos) (.dlist ca) := by
  obtain ⟨ta, pa, _, ma, xa⟩ := ha
  have pe := pe_callTy (p := p) (pos := pos) (callR_or (X := X) (call_listD C.calm) (call_list_dT C.calm)) hg (C.bi "list" (by decide)) (by decide +kernel) (pa_cons pa pa_nil (ord_star oa [])) (by decide +kernel) (by decide +kernel) (ord_star oa []) rfl
  refine ⟨_, pe, asg_ord C.nd rfl rfl pe, fun σ H env G ix S w S' Q r g e q => ?_, fun σ H env G ix S k S' Q r g e q => ?x⟩
  case x =>
    simp only [ev] at e
    exact semX1 xa r g e (fun x => nx_dkey (x := x) (f := fun ks => Res.ok (W.fl ks, x.2)) fun _ => nx_ok) q
  simp only [ev] at e
  obtain ⟨⟨x1, x2⟩, e1, e⟩ := ok2 e
  obtain ⟨n, c, ks, hx, h1, h2, e⟩ := ev_dkey (x := (x1, x2)) (f := fun ks => Res.ok (W.fl ks, x2)) e
  cases e
  cases (show x1 = .d (.obj n) from hx)
  refine ma σ H env G ix S _ _ _ r g e1 fun u G1 ix1 H1 s1 g1 r1 => ?_
  cases (show Rp X.K G1 ix1 u (.obj n) from r1) with
  | @obj b _ hn =>
    unfold dKeys at h2
    split at h2
    · cases h2
      obtain ⟨a', f1, f2, us, f3, f4⟩ := g1.cel n _ h1 (by intro z; cases z)
      rw [hn] at f1; cases f1
      exact .inl ⟨b, us, rfl, .inl f3, fun p hp => (q.from s1).newL g1 hp rfl (keysK_rel f4)⟩
    · rename_i kvs
      cases h2
      obtain ⟨a', f1, f2, us, f3, f4⟩ := g1.cel n _ h1 (by intro z; cases z)
      rw [hn] at f1; cases f1
      refine .inr ⟨b, us, rfl, .inl f3, fun p bs hp hk => ?_⟩
      obtain ⟨G2, s2, g2, l2, r2⟩ := keys_frozen (G0 := G1) (ix0 := ix1) (H0 := H1) Stp.refl g1 hk f4 fun b' _ vs h => .inl h
      exact (q.from (s1.trans s2)).newL g2 hp rfl r2
    · cases h2
/-! ### fields, methods, new instances -/
theorem ev_fld {c : Nat} {a : E} {f : Nat} {env : Env} {S : Store} {w : W} {S' : Store} (e : ev gl cf (.fld c a f) env S = .ok (w, S')) : ∃ n fs d, ev gl cf a env S = .ok (.d (.obj n), S') ∧ S'[n]? = some (.ins c fs) ∧ getF f fs = some d ∧ w = .d d := by
  simp only [ev] at e
  obtain ⟨⟨x1, x2⟩, e1, e⟩ := ok2 e
  dsimp only at e
  split at e
  · rename_i n
    split at e
    · rename_i c' fs hc
      obtain ⟨k, e2⟩ := guard_ok e
      cases eq_of_beq k
      clear e
      split at e2
      · rename_i d hd
        cases e2
        exact ⟨n, fs, d, e1, hc, hd, rfl⟩
      · cases e2
    · cases e
  · cases e
theorem snd_fld (C : Ctx nm gl cf X) {c f : Nat} {a : Expr} {ca : E} {pos : Pos} (hc : c ∈ nm.cl) (hf : f < fdNames.length) (ho : recv a = true) (ha : SndE gl cf X a ca) : SndE gl cf X (.Attribute a (Str.ofString (fdName f)) pos) (.fld c ca f) := by
  obtain ⟨ta, pa, _, ma, xa⟩ := ha
  have pe : PE X (.Attribute a (Str.ofString (fdName f)) pos) _ := pe_fld pa (recv_base ho _ _)
  refine ⟨_, pe, asg_ord C.nd rfl rfl pe, fun σ H env G ix S w S' Q r g e q => ?_, fun σ H env G ix S k S' Q r g e q => ?x⟩
  case x =>
    simp only [ev] at e
    refine semX1 xa r g e (fun x => ?_) q
    split
    · split
      · refine nx_guard ?_
        split <;> first | exact nx_ok | exact nx_err
      · exact nx_err
    · exact nx_err
  obtain ⟨n, fs, d, e1, h1, h2, rfl⟩ := ev_fld e
  refine ma σ H env G ix S _ S' _ r g e1 fun u G1 ix1 H1 s1 g1 r1 => ?_
  cases (show Rp X.K G1 ix1 u (.obj n) from r1) with
  | @obj b _ hn =>
    obtain ⟨a', f1, f2, dx, us, f3, f4⟩ := g1.cel n _ h1 (by intro z; cases z)
    rw [hn] at f1; cases f1
    obtain ⟨v, k1, k2⟩ := getF_ok f4 hf h2
    obtain ⟨C1, C2⟩ := C.cl c hc
    exact ⟨b, _, dx, us, v, rfl, f3, C1, C2 f hf, k1, q _ G1 ix1 H1 s1 g1 k2⟩
/-- o.m(..), where what is raised is wished for at the caller's names -/
def tMethS (C : Addr) (m : Str) (sp : Sp) (E : L2.St → XK) (ta : TE) (t : TA) : TE := fun σ H Q => ta σ H fun x H1 => ∃ a dx fs, x = .ref a ∧ H1 a = some (.ins C dx fs) ∧ fs.lookup m = none ∧ t σ H1 fun vs H2 => sp (x :: vs) H2 Q (E σ)
theorem eval_meth {o : Expr} {m : Str} {apos pos : Pos} {args : List Expr} {env : PySem.Env} (hb : attributeBase o m env (eval o env) = eval o env) (hf : methodCallForm (args.length + ([] : List Keyword).length) (backTo pos (starEach args env)) (backToKw pos (keywordEach [] env)) = true) (hl : (apos.endLine == pos.line) = true) :
    eval (.Call (.Attribute o m apos) args [] pos) env = (do
      let ov ← eval o env
      standAt apos.atName
      let fx ← holding [ov] (getMethod ov m (do return (← importBound o env).getD true))
      callWith pos fx.1 fx.2 (backTo pos (starEach args env)) (backToKw pos (keywordEach [] env))) := by
  have h2 : methodCallPos true o env apos pos = pure pos := by
    unfold methodCallPos
    simp [hl]
  rw [arm_eval_Call, hb]
  unfold methodCall calleeOf
  simp only [hf, if_true, h2, pure_bind]
theorem pe_methS {CX : CXT} {k : Nat} {f C : Addr} {fd : FuncData} {ps : List Str} {sp : Sp} {E : L2.St → XK} {m : Str} {pos apos : Pos} {o : Expr} {args : List Expr} {ta : TE} {t : TA} (he : PE X o ta) (c : Cls X.K C) (hm : Meth X.K C m f) (F : FnOk X.prog X.w X.K X.mg X.base CX k f fd ps sp) (hr : Room k X.A) (hb : Binds X.K fd ps [])
    (hx : ∀ σ, PassesAt CX X σ (E σ)) (hbase : attributeBase o m X.env (eval o X.env) = eval o X.env) (hform : methodCallForm (args.length + ([] : List Keyword).length) (backTo pos (starEach args X.env)) (backToKw pos (keywordEach [] X.env)) = true) (hline : (apos.endLine == pos.line) = true)
    (ha : (args = [] ∧ t = tNil) ∨ ∃ e es, args = e :: es ∧ PA X (e :: es) t ∧ starEach (e :: es) X.env = (false, eval e X.env) :: starEach es X.env ∧ (backTo pos (starEach es X.env)).any (·.1) = false) :
    PE X (.Call (.Attribute o m apos) args [] pos) (tMethS C m sp E ta t) := ⟨fun pins s σ H Q I h => by
  rw [eval_meth hbase hform hline]
  refine wpAny_bind (thn (he.run pins s σ H _ I h) fun u s1 z => wpAny_bind (wpAny_standAt (wpAny_bind (wpAny_holding ?_))))
  obtain ⟨x, H1, I1, rx, a, dx, fs, ex, ea, l, q⟩ := z
  subst ex
  cases (show u = Value.ref a from rx)
  refine getmeth_ok I1 ea c hm l ?_
  rcases ha with ⟨rfl, rfl⟩ | ⟨e, es, rfl, pa, k1, k2⟩
  · exact PySem.W.callWith_K0 (first := [.ref a]) I1.kIn hm.kp (run_fnS (us := [.ref a]) (vs := [.ref a]) F hr hb (hx σ) I1 (.cons rfl .nil) q)
  · exact PySem.W.callWith_K (first := [.ref a]) (h₀ := X.base) I.ok.mod.kin hm.kp (thn (pa.run pos pins s1 σ H1 _ I1 q) fun us s2 z2 => by
      obtain ⟨vs, H2, I2, r2, q2⟩ := z2
      exact ⟨I2.kIn, run_fnS (us := .ref a :: us) (vs := .ref a :: vs) F hr hb (hx σ) I2 (.cons rfl r2) q2⟩) k1 k2⟩
theorem ev_meth {f c : Nat} {a : E} {es : Es} {env : Env} {S : Store} {res : Res (W × Store)} (h : ev gl cf (.meth f c a es) env S = res) (hne : res ≠ .err) : (∃ k T, res = .exc k T ∧ ev gl cf a env S = .exc k T) ∨ ∃ n x2 fs, ev gl cf a env S = .ok (.d (.obj n), x2) ∧ x2[n]? = some (.ins c fs) ∧ ((evs gl cf es env x2).bind fun y => cf f (.obj n :: y.1) y.2) = res := by
  simp only [ev] at h
  cases h1 : ev gl cf a env S with
  | err => rw [h1] at h; exact absurd h.symm hne
  | exc k T => rw [h1] at h; exact .inl ⟨k, T, h.symm, rfl⟩
  | ok x =>
    rw [h1] at h
    obtain ⟨x1, x2⟩ := x
    rw [Res.bind_ok] at h
    dsimp only at h
    split at h
    · rename_i n
      split at h
      · rename_i c' fs hc
        unfold guard' at h
        split at h
        · rename_i k
          cases eq_of_beq k
          exact .inr ⟨n, x2, fs, rfl, hc, h⟩
        · exact absurd h.symm hne
      · exact absurd h.symm hne
    · exact absurd h.symm hne
theorem snd_meth (C : Ctx nm gl cf X) {f c : Nat} {m : Str} {o : Expr} {co : E} {args : List Expr} {cs : Es} {apos cpos : Pos} (hc : c ∈ nm.cl) (hf : nm.fn[f]? = some (clStr c, some m)) (hm : (fdNames.any fun g => Str.ofString g == m) = false) (ho : recv o = true) (hl : (apos.endLine == cpos.line) = true) (hn : args.length < 30) (so : SndE gl cf X o co) (hs : SndA gl cf X args cs)
    (h0 : (args = [] ∧ cs = .nil) ∨ ∃ e es, args = e :: es ∧ ord e = true ∧ (backTo cpos (starEach es X.env)).any (·.1) = false ∧ (backTo cpos (starEach args X.env)).all (fun x => !x.1) = true) :
    SndE gl cf X (.Call (.Attribute o m apos) args [] cpos) (.meth f c co cs) := by
  obtain ⟨to, po, _, mo, xo⟩ := so
  obtain ⟨t, pt, mt, xt⟩ := hs
  obtain ⟨C1, C2⟩ := C.cl c hc
  obtain ⟨fa, k, fd, ps, M, hr, hb, F⟩ := C.mt f _ m hf
  have hall : (backTo cpos (starEach args X.env)).all (fun x => !x.1) = true := by
    rcases h0 with ⟨rfl, rfl⟩ | ⟨e, es, rfl, oe, h1, h2⟩
    · rfl
    · exact h2
  have hform : methodCallForm (args.length + ([] : List Keyword).length) (backTo cpos (starEach args X.env)) (backToKw cpos (keywordEach [] X.env)) = true := by
    unfold methodCallForm
    rw [hall]
    simp only [keywordEach, backToKw, List.map_nil, List.all_nil, Bool.true_and, Bool.and_true, List.isEmpty_nil, if_true, decide_eq_true_eq, List.length_nil, Nat.add_zero]
    exact hn
  have fin : ∀ {σ : L2.St} {H : Hp} {env : Env} {G : Hp} {ix : List Addr} {S : Store} {res : Res (W × Store)} {tt : TA} {Q : VK}, SemA gl cf X.K cs tt → SemXA gl cf X cs tt → EnvR X.K G ix σ env → Good X.K G ix S H → ev gl cf (.meth f c co cs) env S = res → ((∃ w S', res = .ok (w, S') ∧ PostE X.K G ix H w S' Q) ∨ ∃ k S', res = .exc k S' ∧ PostX X.K G ix H k S' (WE (Wof X) σ)) →
      tMethS (clsA X.K (clName c)) m (spF X.K cf f) (WE (Wof X)) to tt σ H Q := fun {σ H env G ix S res tt Q} mt xt r g e q => by
    rcases ev_meth e (by rcases q with ⟨w, S', z, _⟩ | ⟨k, S', z, _⟩ <;> rw [z] <;> intro z <;> cases z) with ⟨k, T, rfl, e1⟩ | ⟨n, x2, fs, e1, h1, e2⟩
    · rcases q with ⟨w, S', z, _⟩ | ⟨k', S', z, q⟩
      · cases z
      · cases z
        exact xo σ H env G ix S k T _ r g e1 q
    · refine mo σ H env G ix S _ x2 _ r g e1 fun u G1 ix1 H1 s1 g1 r1 => ?_
      cases (show Rp X.K G1 ix1 u (.obj n) from r1) with
      | @obj b _ hn =>
        obtain ⟨a', f1, f2, dx, us, f3, f4⟩ := g1.cel n _ h1 (by intro z; cases z)
        rw [hn] at f1; cases f1
        refine ⟨b, dx, us, rfl, f3, noF_ok hm f4, ?_⟩
        rcases q with ⟨w, S', rfl, q⟩ | ⟨k, S', rfl, q⟩
        · obtain ⟨y, e3, e4⟩ := ok2 e2
          exact mt σ H1 env G1 ix1 x2 y.1 y.2 _ (r.stp s1) g1 e3 fun vs G2 ix2 H2 s2 g2 r2 => ⟨G2, ix2, y.2, _, g2, .cons (.obj (s2.i _ _ hn)) r2, .inl ⟨w, S', e4, q.from (s1.trans s2)⟩⟩
        · rcases exc2 e2 with e3 | ⟨y, e3, e4⟩
          · exact xt σ H1 env G1 ix1 x2 k S' _ (r.stp s1) g1 e3 (q.from s1)
          · exact mt σ H1 env G1 ix1 x2 y.1 y.2 _ (r.stp s1) g1 e3 fun vs G2 ix2 H2 s2 g2 r2 => ⟨G2, ix2, y.2, _, g2, .cons (.obj (s2.i _ _ hn)) r2, .inr ⟨k, S', e4, q.from (s1.trans s2)⟩⟩
  rcases h0 with ⟨rfl, rfl⟩ | ⟨e, es, rfl, oe, h1, h2⟩
  · have pe : PE X (.Call (.Attribute o m apos) [] [] cpos) _ := pe_methS po C1 M F hr hb (fun σ => passAt (wof_takes X) σ) (recv_base ho _ _) hform hl (t := tNil) (.inl ⟨rfl, rfl⟩)
    obtain ⟨t0, p0, m0, x0⟩ := snd_nil (gl := gl) (cf := cf) (X := X)
    have mn : SemA gl cf X.K .nil tNil := fun σ H env G ix S ds S' Q r g e q => by
      simp only [evs] at e
      cases e
      exact q [] G ix H Stp.refl g .nil
    have xn : SemXA gl cf X .nil tNil := fun σ H env G ix S k S' Q r g e q => by
      simp only [evs] at e
      cases e
    exact ⟨_, pe, asg_ord C.nd rfl rfl pe, fun σ H env G ix S w S' Q r g e q => fin mn xn r g e (.inl ⟨w, S', rfl, q⟩), fun σ H env G ix S k S' Q r g e q => fin mn xn r g e (.inr ⟨k, S', rfl, q⟩)⟩
  · have pe : PE X (.Call (.Attribute o m apos) (e :: es) [] cpos) _ := pe_methS po C1 M F hr hb (fun σ => passAt (wof_takes X) σ) (recv_base ho _ _) hform hl (t := t) (.inr ⟨e, es, rfl, pt, ord_star oe es, h1⟩)
    exact ⟨_, pe, asg_ord C.nd rfl rfl pe, fun σ H env G ix S w S' Q r g e q => fin mt xt r g e (.inl ⟨w, S', rfl, q⟩), fun σ H env G ix S k S' Q r g e q => fin mt xt r g e (.inr ⟨k, S', rfl, q⟩)⟩
end
end Nl

/-! .. new instances, isinstance of refusals, str of a number. -/
namespace Nl
open PySem L2
section
variable {nm : Nms} {gl : Nat → Option D} {cf : Cf} {X : Cx}
theorem snd_make (C : Ctx nm gl cf X) {f c : Nat} {p pos : Pos} {args : List Expr} {cs : Es} (hf : nm.fn[f]? = some (clStr c, some (Str.ofString "__init__"))) (hg : Gl X (clStr c)) (hn : okN (clStr c) = true) (hs : SndA gl cf X args cs)
    (h0 : (args = [] ∧ cs = .nil) ∨ ∃ e es, args = e :: es ∧ ord e = true ∧ (backTo pos (starEach es X.env)).any (·.1) = false) : SndE gl cf X (.Call (.Name (clStr c) p) args [] pos) (.make f c cs) := by
  obtain ⟨n1, _, _⟩ := okN_ok hn
  obtain ⟨fa, k, fd, ps, M, hm, hr, hb, F⟩ := C.mkr f _ hf
  obtain ⟨t, pt, mt, xt⟩ := hs
  have fin : ∀ {σ : L2.St} {H : Hp} {env : Env} {G : Hp} {ix : List Addr} {S : Store} {w : W} {S' : Store} {tt : TA} {Q : VK}, SemA gl cf X.K cs tt → EnvR X.K G ix σ env → Good X.K G ix S H → ev gl cf (.make f c cs) env S = .ok (w, S') → PostE X.K G ix H w S' Q → tMake (clsA X.K (clName c)) (spF X.K cf f) [] E0 tt σ H Q := fun {σ H env G ix S w S' tt Q} mt r g e q => by
    simp only [ev] at e
    obtain ⟨y, e1, e2⟩ := ok2 e
    obtain ⟨⟨z1, z2⟩, e3, e4⟩ := ok2 e2
    replace e3 := Res.calm_ok.mp e3
    clear e e2
    dsimp only at e4
    split at e4
    · cases e4
      refine mt σ H env G ix S y.1 y.2 _ r g e1 fun vs G1 ix1 H1 s1 g1 r1 x dx hx hdx ne => ?_
      rw [List.append_nil]
      have g2 := g1.lay (o := .own x) hdx
      have hx2 : L2.upd H1 dx (.own x) x = none := by rw [upd_ne (Ne.symm ne)]; exact hx
      obtain ⟨s3, g3, r3⟩ := newCell (c := .ins c []) (o := .ins (clsA X.K (clName c)) dx []) g2 hx2 ⟨dx, [], rfl, .nil⟩
      have s13 := s1.trans ((Stp.lay (o := .own x) hdx).trans s3)
      refine ⟨G1, ix1 ++ [x], _, _, g3, .cons r3 (r1.mono (Le.refl _) (Ixs.app _ _)), .inl ⟨_, _, e3, fun v G4 ix4 H4 s4 g4 r4 => ?_⟩⟩
      cases (show Rp X.K G4 ix4 v .non from r4)
      exact ⟨rfl, q _ G4 ix4 H4 (s13.trans s4) g4 (r3.mono s4.g s4.i _ _)⟩
    · cases e4
  have nx : ∀ (y : List D × Store), (((cf f (.obj y.2.length :: y.1) (y.2 ++ [.ins c []])).calm).bind fun r => (match r.1 with
    | .d .non => Res.ok (W.d (.obj y.2.length), r.2)
    | _ => .err)).NX := fun y => Res.calm_nx.bind fun r => by split <;> first | exact nx_ok | exact nx_err
  rcases h0 with ⟨rfl, rfl⟩ | ⟨e, es, rfl, oe, h1⟩
  · have pe : PE X (.Call (.Name (clStr c) p) [] [] pos) _ := pe_make0 M F hr hg hm hb .nil passL n1
    have mn : SemA gl cf X.K .nil tNil := fun σ H env G ix S ds S' Q r g e q => by
      simp only [evs] at e
      cases e
      exact q [] G ix H Stp.refl g .nil
    have xn : SemXA gl cf X .nil tNil := fun σ H env G ix S k S' Q r g e q => by
      simp only [evs] at e
      cases e
    refine ⟨_, pe, asg_ord C.nd rfl rfl pe, fun σ H env G ix S w S' Q r g e q => fin mn r g e q, fun σ H env G ix S k S' Q r g e q => ?_⟩
    simp only [ev] at e
    exact semXA1 xn r g e nx q
  · have pe : PE X (.Call (.Name (clStr c) p) (e :: es) [] pos) _ := pe_make M F hr hg hm hb .nil passL pt n1 (ord_star oe es) h1
    refine ⟨_, pe, asg_ord C.nd rfl rfl pe, fun σ H env G ix S w S' Q r g e q => fin mt r g e q, fun σ H env G ix S k S' Q r g e q => ?_⟩
    simp only [ev] at e
    exact semXA1 xt r g e nx q
/-! ### isinstance of a refusal that was caught -/
theorem evo_inst {pins : List (Addr × Obj)} {σ : L2.St} {H : Hp} {s : Shared} {a Dc : Addr} (I : Inv X pins σ H s) (h : H a = some (EvO (.ref Dc) a)) : ∃ oe, PySem.W.InstAt s.heap a oe Dc none := by
  obtain ⟨⟨oe, vs, h1, ⟨h2, h3⟩, h4⟩, _⟩ := (show ObjOk X.prog X.w H s.heap a (EvO (.ref Dc) a) from I.hok a _ h)
  obtain ⟨oc, od, oda, osl⟩ := oe
  dsimp only at h2 h3 h4
  subst h2 h3 h4
  exact ⟨_, h1, rfl, rfl, trivial⟩
/-- one class -/
def rIsV (K : PySem.W.Frag) : List V → Hp → VK → Prop := fun xs H Q => ∃ (a Dc : Addr) (c : V) (cv : Value) (b : Bool), xs = [.ref a, c] ∧ H a = some (EvO (.ref Dc) a) ∧ ExcC K Dc ∧ (∀ u, RelV c u → u = cv) ∧ PySem.W.kitOne K (.ref Dc) cv = some b ∧ Q (.bl b) H
theorem call_isV : CallR X (.builtin "isinstance") (rIsV X.K) := fun pins s σ H xs us Q I r h => by
  obtain ⟨a, Dc, c, cv, b, rfl, ha, C, hcv, e, q⟩ := h
  obtain ⟨u1, u2, rfl, r1, r2⟩ := vals2 r
  cases (show u1 = Value.ref a from r1)
  cases hcv _ r2
  obtain ⟨oe, J⟩ := evo_inst I ha
  exact PySem.W.kia_one (PySem.W.handS_kitx_exc C.hg C.hk C.hs C.hd C.ha C.hn C.ht C.hm) I.kIn J e (fun z => nomatch z) fun tk => ⟨.bl b, H, I.tok tk, rfl, q⟩
/-- classes in a tuple -/
def rIsVT (K : PySem.W.Frag) : List V → Hp → VK → Prop := fun xs H Q => ∃ (a Dc tp : Addr) (cs : List V) (ws : List Value) (b : Bool), xs = [.ref a, .ref tp] ∧ H a = some (EvO (.ref Dc) a) ∧ H tp = some (.tup cs) ∧ ExcC K Dc ∧ (∀ us, Vals cs us → us = ws) ∧ PySem.W.kitAny K (.ref Dc) ws = some b ∧ Q (.bl b) H
theorem call_isVT : CallR X (.builtin "isinstance") (rIsVT X.K) := fun pins s σ H xs us Q I r h => by
  obtain ⟨a, Dc, tp, cs, ws, b, rfl, ha, hT, C, hws, e, q⟩ := h
  obtain ⟨u1, u2, rfl, r1, r2⟩ := vals2 r
  cases (show u1 = Value.ref a from r1)
  cases (show u2 = Value.ref tp from r2)
  obtain ⟨oe, J⟩ := evo_inst I ha
  obtain ⟨_, its, rv, ot, k1, k2, n, k3⟩ := (show ObjOk X.prog X.w H s.heap tp (.tup cs) from I.hok tp _ hT)
  cases hws its rv
  obtain ⟨oc, od, dt, sl⟩ := ot
  dsimp only at k2 k3
  subst k2 k3
  exact PySem.W.kia_tup (PySem.W.handS_kitx_exc C.hg C.hk C.hs C.hd C.ha C.hn C.ht C.hm) I.kIn J k1 e (fun z => nomatch z) fun tk => ⟨.bl b, H, I.tok tk, rfl, q⟩
theorem boot_VE : bootBuiltins (Str.ofString "ValueError") = some (.type "ValueError") := by decide +kernel
/-- the class that a name stands for -/
theorem cls_pe (C : Ctx nm gl cf X) {k : Nat} {e : Expr} (h : chkX nm X.env.scope k e = true) : ∃ v, PE X e (tC v) ∧ (∀ u, RelV v u → u = exV X.K k) ∧ ord e = true ∧ (k ∈ nm.xc ∨ k = exVE) := by
  unfold chkX at h
  split at h
  · rename_i x p
    split at h
    · rename_i hk
      subst hk
      unfold isB at h
      simp only [Bool.and_eq_true, beq_iff_eq] at h
      obtain ⟨rfl, h2⟩ := h
      exact ⟨.ty "ValueError", pe_bltn (glb_ok h2) (C.bi "ValueError" (by decide)) boot_VE rfl (by decide +kernel) (by decide +kernel), fun u r => r, rfl, .inr rfl⟩
    · rename_i hk
      simp only [Bool.and_eq_true, decide_eq_true_eq, List.contains_iff_mem] at h
      obtain ⟨rfl, h2, h3, h4⟩ := h
      obtain ⟨n1, n2, _⟩ := okN_ok h4
      refine ⟨.ref (clsA X.K (exName k)), pe_glob (glb_ok h3) (C.xc.mg k h2) rfl n1, fun u r => ?_, rfl, .inl h2⟩
      unfold exV
      rw [if_neg hk]
      exact r
  · cases h
def tCs (vs : List V) : TA := fun _ H Q => Q vs H
theorem clss_pa (C : Ctx nm gl cf X) : ∀ {ks : List Nat} {es : List Expr}, chkXs nm X.env.scope ks es = true → ∃ vs, PA X es (tCs vs) ∧ (∀ us, Vals vs us → us = ks.map (exV X.K)) ∧ (∀ k ∈ ks, k ∈ nm.xc ∨ k = exVE) ∧ vs.length = ks.length ∧ ks.length = es.length
  | [], [], _ => ⟨[], pa_nil, fun us r => (by cases r; rfl), fun _ h => (by cases h), rfl, rfl⟩
  | [], _ :: _, h => by simp [chkXs] at h
  | _ :: _, [], h => by simp [chkXs] at h
  | k :: ks, e :: es, h => by
    simp only [chkXs, Bool.and_eq_true] at h
    obtain ⟨v, p, hv, oe, hk⟩ := cls_pe C h.1
    obtain ⟨vs, pa, hvs, hks, hl, hl2⟩ := clss_pa C h.2
    refine ⟨v :: vs, pa_cons p pa (ord_star oe es), fun us r => ?_, fun j hj => ?_, by simp [hl], by simp [hl2]⟩
    · cases r with
      | cons r1 r2 => rw [hv _ r1, hvs _ r2]; rfl
    · rcases List.mem_cons.mp hj with rfl | hj
      · exact hk
      · exact hks j hj
theorem kit_any {K : PySem.W.Frag} {mg : Str → Option Value} {xr xc : List Nat} (F : XFacts K mg xr xc) {k : Nat} (hk : k ∈ xr) : ∀ {cs : List Nat}, (∀ c ∈ cs, c ∈ xc ∨ c = exVE) → PySem.W.kitAny K (.ref (clsA K (exName k))) (cs.map (exV K)) = some (cs.any fun c => isSub k c)
  | [], _ => rfl
  | c :: cs, h => by
    rw [List.map_cons, List.any_cons]
    refine kitAny_cons (F.kit k hk c (h c List.mem_cons_self)) (fun hb => ?_) (fun hb => ?_)
    · rw [hb, Bool.false_or]
      exact kit_any F hk fun c' hc' => h c' (List.mem_cons_of_mem _ hc')
    · rw [hb, Bool.true_or]
theorem ev_isx {al : List Nat} {a : E} {ks : List Nat} {env : Env} {S : Store} {w : W} {S' : Store} (e : ev gl cf (.isx al a ks) env S = .ok (w, S')) : ∃ k, ev gl cf a env S = .ok (.d (.ex k), S') ∧ k ∈ al ∧ w = .d (.bl (ks.any fun c => isSub k c)) := by
  simp only [ev] at e
  obtain ⟨⟨x1, x2⟩, e1, e2⟩ := ok2 e
  clear e
  dsimp only at e2
  split at e2
  · rename_i k
    obtain ⟨h1, e3⟩ := guard_ok e2
    cases e3
    exact ⟨k, e1, by simpa using h1, rfl⟩
  · cases e2
theorem nx_isx {al ks : List Nat} (x : W × Store) : ((match x.1 with
    | .d (.ex k) => guard' (al.contains k) <| Res.ok (W.d (.bl (ks.any fun c => isSub k c)), x.2)
    | _ => .err) : Res (W × Store)).NX := by
  split
  · exact nx_guard nx_ok
  · exact nx_err
theorem snd_isx1 (C : Ctx nm gl cf X) {al : List Nat} {k : Nat} {a z : Expr} {ca : E} {p pos : Pos} (hi : Gl X (Str.ofString "isinstance")) (hal : ∀ j ∈ al, j ∈ nm.xr) (hz : chkX nm X.env.scope k z = true) (oa : ord a = true) (ha : SndE gl cf X a ca) :
    SndE gl cf X (.Call (.Name (Str.ofString "isinstance") p) [a, z] [] pos) (.isx al ca [k]) := by
  obtain ⟨ta, pa, _, ma, xa⟩ := ha
  obtain ⟨v, pz, hv, oz, hk⟩ := cls_pe C hz
  have pe : PE X (.Call (.Name (Str.ofString "isinstance") p) [a, z] [] pos) (tCB (rIsV X.K) (tCons ta (tCons (tC v) tNil))) :=
    pe_callB call_isV hi (C.bi _ (by decide)) boot_isi (pa_cons pa (pa_cons pz pa_nil (ord_star oz [])) (ord_star oa [z])) (by decide +kernel) (by decide +kernel) (ord_star oa [z]) (by rw [ord_star oz]; rfl)
  refine ⟨_, pe, asg_ord C.nd rfl rfl pe, fun σ H env G ix S w S' Q r g e q => ?_, fun σ H env G ix S j S' Q r g e q => ?x⟩
  case x =>
    simp only [ev] at e
    exact semX1 xa r g e nx_isx q
  obtain ⟨j, e1, hj, rfl⟩ := ev_isx e
  refine ma σ H env G ix S _ S' _ r g e1 fun u G1 ix1 H1 s1 g1 r1 => ?_
  cases (show Rp X.K G1 ix1 u (.ex j) from r1) with
  | @ex b _ hb =>
    refine ⟨b, _, v, exV X.K k, isSub j k, rfl, g1.le _ _ hb, C.xc.is j (hal j hj), hv, C.xc.kit j (hal j hj) k hk, ?_⟩
    have := postE_bl q s1 g1
    simpa using this
theorem snd_isxT (C : Ctx nm gl cf X) {al ks : List Nat} {a : Expr} {zs : List Expr} {kk : Nat} {ca : E} {p p2 pos : Pos} (hi : Gl X (Str.ofString "isinstance")) (hal : ∀ j ∈ al, j ∈ nm.xr) (hz : chkXs nm X.env.scope ks zs = true) (oa : ord a = true) (ha : SndE gl cf X a ca) (hlen : ks.length ≤ 100) :
    SndE gl cf X (.Call (.Name (Str.ofString "isinstance") p) [a, .Tuple zs kk p2] [] pos) (.isx al ca ks) := by
  obtain ⟨ta, pa, _, ma, xa⟩ := ha
  obtain ⟨vs, pz, hv, hk, hl, hl2⟩ := clss_pa C hz
  have pe : PE X (.Call (.Name (Str.ofString "isinstance") p) [a, .Tuple zs kk p2] [] pos) (tCB (rIsVT X.K) (tCons ta (tCons (tTup (tCs vs)) tNil))) :=
    pe_callB call_isVT hi (C.bi _ (by decide)) boot_isi (pa_cons pa (pa_cons (pe_tup pz) pa_nil rfl) (ord_star oa _)) (by decide +kernel) (by decide +kernel) (ord_star oa _) rfl
  refine ⟨_, pe, asg_ord C.nd rfl rfl pe, fun σ H env G ix S w S' Q r g e q => ?_, fun σ H env G ix S j S' Q r g e q => ?x⟩
  case x =>
    simp only [ev] at e
    exact semX1 xa r g e nx_isx q
  obtain ⟨j, e1, hj, rfl⟩ := ev_isx e
  refine ma σ H env G ix S _ S' _ r g e1 fun u G1 ix1 H1 s1 g1 r1 => ?_
  cases (show Rp X.K G1 ix1 u (.ex j) from r1) with
  | @ex b _ hb =>
    refine ⟨by rw [hl]; exact Nat.le_trans hlen (by decide), fun tp htp => ?_⟩
    have hb1 := g1.le _ _ hb
    refine ⟨b, _, tp, vs, ks.map (exV X.K), ks.any fun c => isSub j c, rfl, by rw [upd_ne (ne_of_none hb1 htp)]; exact hb1, upd_same, C.xc.is j (hal j hj), hv, kit_any C.xc (hal j hj) hk, ?_⟩
    exact postE_bl q (s1.trans (Stp.lay htp)) (g1.lay htp)
/-! ### str of a number -/
theorem figs_str (i : Int) : toS (figs i) = Str.ofString (toString i) := by
  rw [Str.ofString_eq_toList]
  rfl
theorem log2_lt {n : Nat} (h : n < 2 ^ 1920) : n.log2 < 1920 := by
  by_cases h0 : n = 0
  · subst h0; decide
  · exact (Nat.log2_lt h0).mpr h
theorem snd_strI (C : Ctx nm gl cf X) {a : Expr} {ca : E} {p pos : Pos} (hg : Gl X (Str.ofString "str")) (oa : ord a = true) (ha : SndE gl cf X a ca) : SndE gl cf X (.Call (.Name (Str.ofString "str") p) [a] [] pos) (.strI ca) := by
  obtain ⟨ta, pa, _, ma, xa⟩ := ha
  have pe := pe_callTy (p := p) (pos := pos) (call_str_int (X := X)) hg (C.bi "str" (by decide)) (by decide +kernel) (pa_cons pa pa_nil (ord_star oa [])) (by decide +kernel) (by decide +kernel) (ord_star oa []) rfl
  refine ⟨_, pe, asg_ord C.nd rfl rfl pe, fun σ H env G ix S w S' Q r g e q => ?_, fun σ H env G ix S k S' Q r g e q => ?x⟩
  case x =>
    simp only [ev] at e
    refine semX1 xa r g e (fun x => ?_) q
    split
    · exact nx_guard nx_ok
    · exact nx_err
  simp only [ev] at e
  obtain ⟨⟨x1, x2⟩, e1, e2⟩ := ok2 e
  clear e
  dsimp only at e2
  split at e2
  · rename_i i
    obtain ⟨h1, e3⟩ := guard_ok e2
    cases e3
    refine ma σ H env G ix S _ _ _ r g e1 fun u G1 ix1 H1 s1 g1 r1 => ?_
    cases (show Rp X.K G1 ix1 u (.int i) from r1)
    refine ⟨i, rfl, log2_lt (dec_of h1), ?_⟩
    show Q (.str (Str.ofString (toString i))) H1
    rw [← figs_str]
    exact q _ G1 ix1 H1 s1 g1 (.str _)
  · cases e2
end
end Nl

/-! t[:0:-1] of a tuple. -/
namespace Nl
open PySem PySem.Spec PyProof.Rows L2
section
variable {prog : Program} {w : World} {A : Around} {E : Value → Shared → Prop} {s : Shared}
theorem adj_rv0 (n : Nat) (h : 0 < n) : Builtin.Slice.sliceAdjust none (some 0) (-1) (n : Int) = ((n : Int) - 1, 0) := by
  unfold Builtin.Slice.sliceAdjust
  have h2 : min (0 : Int) ((n : Int) - 1) = 0 := by omega
  simp [h2]
theorem places_rv0 (n : Nat) (h : 0 < n) : Builtin.Slice.slicePlaces ((n : Int) - 1) 0 (-1) = n - 1 := by
  unfold Builtin.Slice.slicePlaces
  by_cases h1 : n = 1
  · subst h1
    simp
  · have h2 : (0 : Int) < (n : Int) - 1 := by omega
    simp [h2]
    omega
theorem applied_rv0 {sl : Addr} {vu vs : Value} {n : Nat} {Q : Int × Int × Nat → Shared → Prop} (hn : 0 < n) (hs : s.heap.IsSliceOf sl .none vu vs) (pu : IsPart vu (some 0)) (ps : IsPart vs (some (-1)))
    (h : Q ((n : Int) - 1, -1, n - 1) s) : wpAny (model prog w) A (Builtin.Slice.sliceApplied (.ref sl) (pure (n : Int))) Q E s := by
  obtain ⟨os, hos, hcs, hds⟩ := id hs
  unfold Builtin.Slice.sliceApplied Builtin.Slice.sliceFields
  refine wpAny_bind (wpAny_bind (wpAny_field hos hds (x := .none) rfl (wpAny_bind (wpAny_field hos hds (x := vu) rfl (wpAny_bind (wpAny_field hos hds (x := vs) rfl (wpAny_pure ?_)))))))
  refine wpAny_bind (HT.slicePart_ ps ?_)
  show wpAny _ _ (if ((-1 : Int) == 0) = true then _ else _) _ _ s
  rw [if_neg (by decide)]
  refine wpAny_bind (HT.slicePart_ IsPart.none (wpAny_bind (HT.slicePart_ pu (wpAny_bind (wpAny_pure ?_)))))
  show wpAny _ _ (match Builtin.Slice.sliceAdjust none (some 0) (-1) (n : Int) with | (lo, hi) => pure (lo, (-1 : Int), Builtin.Slice.slicePlaces lo hi (-1))) _ _ s
  rw [adj_rv0 n hn]
  show wpAny _ _ (pure ((n : Int) - 1, (-1 : Int), Builtin.Slice.slicePlaces ((n : Int) - 1) 0 (-1))) _ _ s
  rw [places_rv0 n hn]
  exact wpAny_pure h
theorem pick_rv0 (xs : Array Value) (h : 0 < xs.size) : ((List.range (xs.size - 1)).filterMap fun (m : Nat) => xs[((xs.size : Int) - 1 + (m : Int) * (-1)).toNat]?).toArray = (xs.toList.drop 1).reverse.toArray := by
  have h0 := pick_rev xs
  have h1 := congrArg Array.toList h0
  simp only [List.toList_toArray] at h1
  obtain ⟨n, hn⟩ : ∃ n, xs.size = n + 1 := ⟨xs.size - 1, by omega⟩
  congr 1
  have e1 : xs.toList.reverse = (xs.toList.drop 1).reverse ++ [xs.toList[0]'(by simpa using h)] := by
    have : xs.toList = xs.toList[0]'(by simpa using h) :: xs.toList.drop 1 := by
      have := List.drop_eq_getElem_cons (l := xs.toList) (i := 0) (by simpa using h)
      simpa using this
    conv => lhs; rw [this, List.reverse_cons]
  rw [hn, List.range_succ, List.filterMap_append] at h1
  rw [e1] at h1
  have hlast : ([n] : List Nat).filterMap (fun (m : Nat) => xs[(((n + 1 : Nat) : Int) - 1 + (m : Int) * (-1)).toNat]?) = [xs.toList[0]'(by simpa using h)] := by
    have e2 : (((n + 1 : Nat) : Int) - 1 + (n : Int) * (-1)).toNat = 0 := by omega
    have e3 : xs[0]? = some (xs.toList[0]'(by simpa using h)) := by simp [h]
    rw [List.filterMap_cons]
    simp only [e2, e3]
    rfl
  rw [hlast] at h1
  rw [hn, Nat.add_sub_cancel]
  exact List.append_cancel_right h1
theorem getItem_tuple_rv0 {t sl : Addr} {items : Array Value} {vu vs : Value} {Q : Value → Shared → Prop} (hn : 0 < items.size) (ht : IsTup s.heap t items) (hs : s.heap.IsSliceOf sl .none vu vs) (pu : IsPart vu (some 0)) (ps : IsPart vs (some (-1)))
    (h : Q (.ref s.heap.objs.size) { s with heap := s.heap.push { cls := .type "tuple", data := .seq (items.toList.drop 1).reverse.toArray } })
    (hsz : items.size ≤ sizeLine) : wpAny (model prog w) A (getItem (.ref t) (.ref sl)) Q E s := by
  have htake : sizeOk (.seq (items.toList.drop 1).reverse.toArray) := by
    show (items.toList.drop 1).reverse.toArray.size ≤ sizeLine
    rw [List.size_toArray, List.length_reverse, List.length_drop, Array.length_toList]
    omega
  obtain ⟨os, hos, hcs, hds⟩ := id hs
  have hTs : s.TypeIs (.ref sl) "slice" := ⟨os, hos, hcs⟩
  unfold getItem
  try with_reducible refine wpAny_holding ?_
  first | refine wpAny_bind (wpAny_pure ?_) | skip
  refine wpAny_bind (wpAny_sequenceKey ht.typeIs (by decide) ?_)
  refine wpAny_bind (wpAny_callSpecial?_slot (name := Str.ofString "__getitem__") ht.typeIs PyProof.Rows.slot_tuple_getitem
    (wpAny_call_entry PyProof.Rows.slot_tuple_getitem ht.typeIs entry_tuple_getitem ?_ (args_tuple_getitem _ _)))
  show wpAny _ _ (Builtin.Tuple.tupleItemsOf (.ref t) >>= _) _ _ s
  refine wpAny_bind (tupleItemsOf_ ht ?_)
  refine wpAny_bind (wpAny_typeOf hTs ?_)
  rw [if_pos (by decide)]
  refine wpAny_bind (applied_rv0 hn hs pu ps ?_)
  have hno : ¬ ((((items.size : Int) - 1) == 0 && (-1 : Int) == 1 && items.size - 1 == items.size) = true) := by
    intro q
    rw [Bool.and_eq_true, Bool.and_eq_true] at q
    have := eq_of_beq q.1.2
    omega
  show wpAny _ _ (if (((items.size : Int) - 1) == 0 && (-1 : Int) == 1 && items.size - 1 == items.size) = true then _ else _) _ _ s
  rw [if_neg hno, pick_rv0 _ hn]
  first
    | exact wpAny_bind (m := Builtin.Tuple.tupleExact _) (wpAny_newObj_type (wpAny_pure ⟨_, rfl, wpAny_pure h⟩) htake)
    | exact wpAny_bind (m := Builtin.Tuple.tupleExact _) (wpAny_newObj_type (wpAny_bind (wpAny_pure (wpAny_pure ⟨_, rfl, wpAny_pure h⟩))) htake)
    | exact wpAny_bind (wpAny_bind (m := Builtin.Tuple.tupleExact _) (wpAny_newObj_type (wpAny_pure (wpAny_pure ⟨_, rfl, wpAny_pure h⟩)) htake))
    | exact wpAny_bind (wpAny_bind (m := Builtin.Tuple.tupleExact _) (wpAny_newObj_type (wpAny_pure ⟨_, rfl, wpAny_pure h⟩) htake))
end
section
variable {X : Cx}
def tRevC (K : PySem.W.Frag) (te : TE) : TE := fun σ H Q => te σ H fun x H1 => ∃ a xs, x = .ref a ∧ SqT K H1 a xs ∧ 0 < xs.length ∧ ∀ p, H1 p = none → Q (.ref p) (L2.upd H1 p (.tup (xs.drop 1).reverse))
theorem vals_drop {xs : List V} {us : List Value} (r : Vals xs us) : Vals (xs.drop 1).reverse (us.drop 1).reverse := (Vals.drop 1 r).reverse
theorem pe_revC {e : Expr} {te : TE} {k j : Nat} {p0 p1 p2 p3 pos : Pos} (he : PE X e te) : PE X (.Subscript e (.Slice none (some (.Constant (.int 0) j p0)) (some (.UnaryOp .USub (.Constant (.int 1) k p1) p2)) p3) pos) (tRevC X.K te) := by
  refine ⟨fun pins s σ H Q I h => ?_⟩
  refine Subscript_ (thn (he.run pins s σ H _ I h) fun v s1 ⟨x, H1, I1, r1, q1⟩ => ?_)
  have hup : PO X (some (.Constant (.int 0) j p0)) (tPart (tC (.int 0))) := po_some pe_int
  have hst : PO X (some (.UnaryOp .USub (.Constant (.int 1) k p1) p2)) (tPart (tUn (rU fun i => .int (-i)) (tC (.int 1)))) := po_some (pe_un un_neg pe_int)
  refine wpAny_Slice (thn (po_none.run pins s1 σ H1 (fun o H2 => o = none ∧ H2 = H1) I1 ⟨rfl, rfl⟩) fun vl s2 ⟨l, H2, I2, pl, el, e2⟩ => ?_)
  subst el e2
  refine thn (hup.run pins s2 σ H2 (fun o H3 => o = some 0 ∧ H3 = H2) I2 ⟨0, rfl, rfl, rfl⟩) fun vu s3 ⟨u, H3, I3, pu, eu, e3⟩ => ?_
  subst eu e3
  refine thn (hst.run pins s3 σ H3 (fun o H4 => o = some (-1) ∧ H4 = H3) I3 ⟨1, rfl, -1, rfl, rfl, rfl⟩) fun vs s4 ⟨o, H4, I4, ps, eo, e4⟩ => ?_
  subst eo e4
  have I5 : Inv X pins σ H4 { s4 with heap := s4.heap.push { cls := .type "slice", data := .fields #[vl, vu, vs] } } := I4.kept (t' := s4.toks) fun b ob q => Heap.get?_push_of_some _ q
  obtain ⟨a, xs, ex, hx, hpos, q⟩ := q1
  subst ex
  cases r1
  obtain ⟨its, r, ht, hz⟩ := I5.tuple hx
  have hlen := r.length
  cases pl
  show wpAny (model X.prog X.w) X.A (subscriptTail e (.Slice none (some (.Constant (.int 0) j p0)) (some (.UnaryOp .USub (.Constant (.int 1) k p1) p2)) p3) (.ref a) (.ref s4.heap.objs.size)) (EP X pins σ Q) X.xe { s4 with heap := s4.heap.push { cls := .type "slice", data := .fields #[.none, vu, vs] } }
  refine tail_any (ops := [.ref a, .ref s4.heap.objs.size]) ht.typeIs (PyProof.Rows.slot_tuple_getitem.lookup) ?_ (by with_unfolding_all rfl)
  refine getItem_tuple_rv0 (by rw [List.size_toArray]; omega) ht (Heap.IsSliceOf.new _ .none vu vs) pu ps ?_ (by rw [List.size_toArray]; omega)
  refine ⟨.ref _, _, I5.laid (t' := s4.toks) (o := .tup (xs.drop 1).reverse) (fun b ob q => Heap.get?_push_of_some _ q) (Nat.le_refl _) ?_, rfl, q _ (I5.hok.fresh (Nat.le_refl _))⟩
  exact ⟨by rw [List.length_reverse, List.length_drop]; omega, _, vals_drop r, IsTup.new _ _⟩
end
section
variable {nm : Nms} {gl : Nat → Option D} {cf : Cf} {X : Cx}
theorem snd_revc (C : Ctx nm gl cf X) {a : Expr} {ca : E} {k j : Nat} {p0 p1 p2 p3 pos : Pos} (ha : SndE gl cf X a ca) : SndE gl cf X (.Subscript a (.Slice none (some (.Constant (.int 0) j p0)) (some (.UnaryOp .USub (.Constant (.int 1) k p1) p2)) p3) pos) (.revc ca) := by
  obtain ⟨ta, pa, _, ma, xa⟩ := ha
  have pe := pe_revC (X := X) (k := k) (j := j) (p0 := p0) (p1 := p1) (p2 := p2) (p3 := p3) (pos := pos) pa
  refine ⟨_, pe, asg_ord C.nd rfl rfl pe, fun σ H env G ix S w S' Q r g e q => ?_, fun σ H env G ix S k S' Q r g e q => ?x⟩
  case x =>
    simp only [ev] at e
    exact semX1 xa r g e (fun _ => by split <;> first | exact nx_guard nx_ok | exact nx_err) q
  simp only [ev] at e
  obtain ⟨x, e1, e2⟩ := ok2 e
  clear e
  refine ma.data r g (show ev gl cf ca env S = .ok (x.1, x.2) from e1) fun v G' ix' H' s g' rv => ?_
  split at e2
  · rename_i xs hx
    obtain ⟨h1, e3⟩ := guard_ok e2
    cases e3
    obtain ⟨b, vs, rfl, k1, g1, r1, e1'⟩ := pk_tup g' rv hx
    refine ⟨b, vs, rfl, SqT.of k1, ?_, fun p hp => (q.from s).newT g' hp rfl (r1.drop 1).reverse⟩
    rw [r1.length]
    cases xs with
    | nil => simp at h1
    | cons _ _ => simp
  · cases e2
end
end Nl

/-! tuple(range(..)), reversed(range(..)), len(set(..)), xs.index(i). -/
namespace L2
open PySem PySem.Spec PyProof.Rows
section
variable {X : Cx}
/-- len(a set of ints) -/
def rLenSet (w : World) : List V → Hp → VK → Prop := fun xs H Q => ∃ (a : Addr) (S : Int → Bool) (n : Nat), xs = [V.ref a] ∧ H a = some (SetO w a S n) ∧ Q (.int (n : Nat)) H
theorem cr_lenSet : CallR X (.builtin "len") (rLenSet X.w) := by
  intro pins s σ H xs us Q I r h
  obtain ⟨a, S, n, rfl, hH, q⟩ := h
  obtain ⟨u, rfl, rx⟩ := vals1 r
  cases rx
  have R : SetR X.w s.heap a S n := setO_get I hH
  obtain ⟨o, es, ep, t, ho, hx, hd, g, nd, hm, hb, hf, hn, _⟩ := R
  refine call_len_set ho hx hd hf (by unfold scanBound at hb; omega) ⟨.int (n : Nat), H, I.tok _, ⟨s.toks + 1, ?_⟩, q⟩
  rw [hn]
end
end L2
namespace Nl
open PySem L2
section
variable {nm : Nms} {gl : Nat → Option D} {cf : Cf} {X : Cx} {tg : Expr}
theorem snd_trng1 (C : Ctx nm gl cf X) {a : Expr} {ca cb : E} {p pos p2 pos2 : Pos} (hl : Gl X "tuple") (hg : Gl X "range") (oa : ord a = true) (ha : SndE gl cf X a ca) (hb : isNonE cb = true) : SndE gl cf X (.Call (.Name "tuple" p2) [.Call (.Name "range" p) [a] [] pos] [] pos2) (.trng .rng1 ca cb) := by
  obtain ⟨ta, pa, _, ma, xa⟩ := ha
  cases isNon_eq hb
  have pe := pe_tupRg (p := p2) (pos := pos2) C.calm hl (C.bi "tuple" (by decide)) (prg_1 (p := p) (pos := pos) hg (C.bi "range" (by decide)) pa (ord_star oa []))
  refine ⟨_, pe, asg_ord C.nd rfl rfl pe, fun σ H env G ix S w S' Q r g e q => ?_, fun σ H env G ix S k S' Q r g e q => ?x⟩
  case x =>
    simp only [ev] at e
    exact semX1 xa r g e (fun _ => by simp only [Res.bind_ok]; exact nx_rgItems.bind fun _ => nx_guard nx_ok) q
  simp only [ev] at e
  obtain ⟨x, e1, e⟩ := ok2 e
  obtain ⟨y, e2, e⟩ := ok2 e
  cases e2
  obtain ⟨ds, e3, e⟩ := ok2 e
  obtain ⟨cl, e⟩ := guard_ok e
  cases e
  have e3 : rng1Items (pk x.2 x.1.toD) = .ok ds := e3
  unfold rng1Items at e3
  split at e3
  · rename_i n e4
    obtain ⟨c, e3⟩ := guard_ok e3
    cases e3
    refine ma.data r g (show ev gl cf ca env S = .ok (x.1, x.2) from e1) fun v G' ix' H' s g' rv => ?_
    cases pk_int rv e4
    have cl' : n.toNat ≤ most := by simpa [upFrom_length] using cl
    refine ⟨n, rfl, ⟨by decide, by decide, (small_ok c).1, (small_ok c).2, by rw [Int.sub_zero]; exact cl'⟩, fun b hb => (q.from s).newT g' hb rfl ?_⟩
    have := upV 0 X.K G' ix' n.toNat
    unfold rgV
    rw [Int.sub_zero]
    exact this
  · cases e3
theorem snd_trng2 (C : Ctx nm gl cf X) {a b : Expr} {ca cb : E} {p pos p2 pos2 : Pos} (hl : Gl X "tuple") (hg : Gl X "range") (oa : ord a = true) (ob : ord b = true) (ha : SndE gl cf X a ca) (hb : SndE gl cf X b cb) : SndE gl cf X (.Call (.Name "tuple" p2) [.Call (.Name "range" p) [a, b] [] pos] [] pos2) (.trng .rng2 ca cb) := by
  obtain ⟨ta, pa, _, ma, xa⟩ := ha
  obtain ⟨tb, pb, _, mb, xb⟩ := hb
  have pe := pe_tupRg (p := p2) (pos := pos2) C.calm hl (C.bi "tuple" (by decide)) (prg_2 (p := p) (pos := pos) hg (C.bi "range" (by decide)) pa pb (ord_star oa [b]) (ord_star ob []) (by rw [ord_star ob]; rfl))
  refine ⟨_, pe, asg_ord C.nd rfl rfl pe, fun σ H env G ix S w S' Q r g e q => ?_, fun σ H env G ix S k S' Q r g e q => ?x⟩
  case x =>
    simp only [ev] at e
    exact semX2 ma xa xb r g e (fun _ _ => nx_rgItems.bind fun _ => nx_guard nx_ok) q
  simp only [ev] at e
  obtain ⟨x, e1, e⟩ := ok2 e
  obtain ⟨y, e2, e⟩ := ok2 e
  obtain ⟨ds, e3, e⟩ := ok2 e
  obtain ⟨cl, e⟩ := guard_ok e
  cases e
  have e3 : rng2Items (pk y.2 x.1.toD) (pk y.2 y.1.toD) = .ok ds := e3
  unfold rng2Items at e3
  split at e3
  · rename_i m n e4 e5
    obtain ⟨c, e3⟩ := guard_ok e3
    cases e3
    simp only [Bool.and_eq_true] at c
    refine sem2 ma mb r g e1 e2 fun v u G' ix' H' s g' rv ru => ?_
    cases pk_int rv e4
    cases pk_int ru e5
    have cl' : (n - m).toNat ≤ most := by simpa [upFrom_length] using cl
    exact ⟨m, n, rfl, rfl, ⟨(small_ok c.1).1, (small_ok c.1).2, (small_ok c.2).1, (small_ok c.2).2, cl'⟩, fun b hb => (q.from s).newT g' hb rfl (upV m X.K G' ix' _)⟩
  · cases e3
theorem up_rev_get {lo : Int} {n i : Nat} (hi : i < n) : (upFrom lo n).reverse[i]? = some (.int (lo + (n : Nat) - 1 + (i : Nat) * (-1))) := by
  rw [List.getElem?_reverse (by rw [upFrom_length]; exact hi), upFrom_length, up_get n lo (n - 1 - i) (by omega)]
  congr 2
  omega
theorem wlk_revR {K : PySem.W.Frag} {G0 : Hp} {ix0 : List Addr} {S0 : Store} {a b : D} {lo : Int} {n : Nat} : Wlk K G0 ix0 S0 a b (Itc (lo + ((n : Nat) : Int) - 1) (-1) n) (upFrom lo n).reverse where
  go := fun i G ix S H l x g k _ hi => by rw [List.length_reverse, upFrom_length] at hi; exact hi
  stop := fun G ix S H l x g k _ => by rw [List.length_reverse, upFrom_length]; exact Nat.le_refl _
  yld := fun i G ix S H v H' l x g k _ hi y => by
    rw [List.length_reverse, upFrom_length] at hi
    obtain ⟨rfl, rfl⟩ := y
    exact ⟨G, _, Stp.refl, g, up_rev_get hi, .int _⟩
theorem snd_rr1 (C : Ctx nm gl cf X) {a : Expr} {ca cb : E} {p pos p2 pos2 : Pos} (hr : Gl X "reversed") (hg : Gl X "range") (oa : ord a = true) (ha : SndE gl cf X a ca) (hb : isNonE cb = true) : SndI gl cf X tg (.Call (.Name "reversed" p2) [.Call (.Name "range" p) [a] [] pos] [] pos2) .rr1 ca cb := by
  obtain ⟨ta, pa, _, ma, xa⟩ := ha
  cases isNon_eq hb
  refine ⟨_, pi_revR (p := p2) (pos := pos2) hr (C.bi "reversed" (by decide)) (prg_1 (p := p) (pos := pos) hg (C.bi "range" (by decide)) pa (ord_star oa [])), fun σ H env G ix S x y ds R r g e1 e2 e3 q => ?_, fun σ H env G ix S k S' R r g e q => xi1 xa r g e q⟩
  have e3 : ((rng1Items (pk y.2 x.1.toD)).bind fun ds => .ok ds.reverse) = .ok ds := e3
  obtain ⟨us, e5, e6⟩ := ok2 e3
  clear e3
  cases e6
  have e3 := e5
  clear e5
  unfold rng1Items at e3
  split at e3
  · rename_i n e4
    obtain ⟨c, e3⟩ := guard_ok e3
    cases e3
    refine sem1 ma r g e1 e2 fun v G' ix' H' s g' rv => ?_
    cases pk_int rv e4
    refine ⟨n, rfl, by decide, by decide, (small_ok c).1, (small_ok c).2, ?_⟩
    rw [Int.sub_zero]
    exact q _ G' ix' H' s g' wlk_revR
  · cases e3
theorem snd_rr2 (C : Ctx nm gl cf X) {a b : Expr} {ca cb : E} {p pos p2 pos2 : Pos} (hr : Gl X "reversed") (hg : Gl X "range") (oa : ord a = true) (ob : ord b = true) (ha : SndE gl cf X a ca) (hb : SndE gl cf X b cb) : SndI gl cf X tg (.Call (.Name "reversed" p2) [.Call (.Name "range" p) [a, b] [] pos] [] pos2) .rr2 ca cb := by
  obtain ⟨ta, pa, _, ma, xa⟩ := ha
  obtain ⟨tb, pb, _, mb, xb⟩ := hb
  refine ⟨_, pi_revR (p := p2) (pos := pos2) hr (C.bi "reversed" (by decide)) (prg_2 (p := p) (pos := pos) hg (C.bi "range" (by decide)) pa pb (ord_star oa [b]) (ord_star ob []) (by rw [ord_star ob]; rfl)), fun σ H env G ix S x y ds R r g e1 e2 e3 q => ?_, fun σ H env G ix S k S' R r g e q => xi2 ma xa xb r g e q⟩
  have e3 : ((rng2Items (pk y.2 x.1.toD) (pk y.2 y.1.toD)).bind fun ds => .ok ds.reverse) = .ok ds := e3
  obtain ⟨us, e5, e6⟩ := ok2 e3
  clear e3
  cases e6
  have e3 := e5
  clear e5
  unfold rng2Items at e3
  split at e3
  · rename_i m n e4 e5
    obtain ⟨c, e3⟩ := guard_ok e3
    cases e3
    simp only [Bool.and_eq_true] at c
    refine sem2 ma mb r g e1 e2 fun v u G' ix' H' s g' rv ru => ?_
    cases pk_int rv e4
    cases pk_int ru e5
    exact ⟨m, n, rfl, rfl, (small_ok c.1).1, (small_ok c.1).2, (small_ok c.2).1, (small_ok c.2).2, q _ G' ix' H' s g' wlk_revR⟩
  · cases e3
/-- len(set(xs)) -/
theorem snd_lsn (C : Ctx nm gl cf X) {p pos p2 pos2 : Pos} {e : Expr} {ca : E} (hg : Gl X (Str.ofString "len")) (hg2 : Gl X (Str.ofString "set")) (oe : ord e = true) (ha : SndE gl cf X e ca) :
    SndE gl cf X (.Call (.Name (Str.ofString "len") p) [.Call (.Name (Str.ofString "set") p2) [e] [] pos2] [] pos) (.lsn ca) := by
  obtain ⟨ta, pa, _, ma, xa⟩ := ha
  have pi : PE X (.Call (.Name (Str.ofString "set") p2) [e] [] pos2) (tCB (rSetI X.K X.w) (tCons ta tNil)) := pe_callTy (cr_setI C.calm) hg2 (C.bi _ (by decide)) (by decide +kernel) (pa_cons pa pa_nil (ord_star oe [])) (by decide +kernel) (by decide +kernel) (ord_star oe []) rfl
  have pe : PE X (.Call (.Name (Str.ofString "len") p) [.Call (.Name (Str.ofString "set") p2) [e] [] pos2] [] pos) (tCB (rLenSet X.w) (tCons (tCB (rSetI X.K X.w) (tCons ta tNil)) tNil)) := pe_callB cr_lenSet hg (C.bi _ (by decide)) (by decide +kernel) (pa_cons pi pa_nil rfl) (by decide +kernel) (by decide +kernel) rfl rfl
  refine ⟨_, pe, asg_ord C.nd rfl rfl pe, fun σ H env G ix S w S' Q r g e q => ?_, fun σ H env G ix S k S' Q r g e q => ?x⟩
  case x =>
    simp only [ev] at e
    refine semX1 xa r g e (fun x => ?_) q
    split
    · split
      · exact nx_guard nx_ok
      · exact nx_err
    · exact nx_err
  simp only [ev] at e
  obtain ⟨x, e1, e2⟩ := ok2 e
  clear e
  split at e2
  · rename_i xs ed
    split at e2
    · rename_i ns en
      obtain ⟨c, e2⟩ := guard_ok e2
      cases e2
      rw [decide_eq_true_eq] at c
      refine ma.data r g (show ev gl cf ca env S = .ok (x.1, x.2) from e1) fun v G1 ix1 H1 s1 g1 rv => ?_
      obtain ⟨a, us, rfl, h1, r2⟩ := pk_lst g1 rv ed
      have hu := r2.ints en
      subst hu
      refine ⟨a, ns, rfl, SqL.of h1, c, fun b k hb hk => ?_⟩
      have hk' := hk (sortU ns) (nodup_lt (sortU_lt ns)) fun z => sortU_mem z ns
      refine ⟨b, _, k, rfl, upd_same, ?_⟩
      rw [hk']
      exact (q.from (s1.trans (Stp.lay hb))).same (g1.lay hb) (.int _)
    · cases e2
  · cases e2
theorem idx_min : ∀ (ns : List Int) (i : Int) (m : Nat), ns[m]? = some i → ns.idxOf i ≤ m
  | [], i, m, h => by simp at h
  | n :: ns, i, 0, h => by
    simp at h
    subst h
    simp
  | n :: ns, i, m + 1, h => by
    rw [List.idxOf_cons]
    have := idx_min ns i m (by simpa using h)
    cases n == i <;> simp <;> omega
theorem eqV_int (i j : Int) : eqV (.int i) (.int j) = (i == j) := rfl
/-- xs.index(i) -/
theorem snd_lidx (C : Ctx nm gl cf X) {o a : Expr} {co ca : E} {apos cpos : Pos} (ho : recv o = true) (hl : (apos.endLine == cpos.line) = true) (oa : ord a = true) (so : SndE gl cf X o co) (sa : SndE gl cf X a ca) :
    SndE gl cf X (.Call (.Attribute o (Str.ofString "index") apos) [a] [] cpos) (.lidx co ca) := by
  obtain ⟨to, po, _, mo, xo⟩ := so
  obtain ⟨ta, pa, _, ma, xa⟩ := sa
  have pe : PE X (.Call (.Attribute o (Str.ofString "index") apos) [a] [] cpos) (tBM X.K "list" (rIndex X.K) to (tCons ta tNil)) := pe_bm PySem.F.plainAttrs_list PySem.F.slot_list_index PySem.F.type_list_index mt_index po (pa_cons pa pa_nil (ord_star oa [])) (recv_base ho _ _) (by
    rw [ord_star oa]
    rfl) hl (ord_star oa []) rfl
  refine ⟨_, pe, asg_ord C.nd rfl rfl pe, fun σ H env G ix S w S' Q r g e q => ?_, fun σ H env G ix S k S' Q r g e q => ?x⟩
  case x =>
    simp only [ev] at e
    rcases exc2 e with e1 | ⟨x, e1, e2⟩
    · exact xo σ H env G ix S k S' _ r g e1 q
    · split at e2
      · rename_i xs ed
        rcases exc2 e2 with e3 | ⟨y, e3, e4⟩
        · refine mo.data r g (show ev gl cf co env S = .ok (x.1, x.2) from e1) fun v G1 ix1 H1 s1 g1 rv => ?_
          obtain ⟨a', vs, rfl, h1, _⟩ := pk_lst g1 rv ed
          exact ⟨.inl ⟨rfl, vs, SqL.of h1⟩, xa σ H1 env G1 ix1 x.2 k S' _ (r.stp s1) g1 e3 (q.from s1)⟩
        · exact absurd e4 ((show Res.NX _ by
            split
            · split
              · exact nx_guard nx_ok
              · exact nx_err
            · exact nx_err) k S')
      · cases e2
  simp only [ev] at e
  obtain ⟨x, e1, e4⟩ := ok2 e
  clear e
  split at e4
  · rename_i xs0 ed0
    obtain ⟨y, e2, e3⟩ := ok2 e4
    clear e4
    split at e3
    · rename_i xs i ed ei
      split at e3
      · rename_i ns en
        obtain ⟨c, e3⟩ := guard_ok e3
        cases e3
        refine mo.data r g (show ev gl cf co env S = .ok (x.1, x.2) from e1) fun v G1 ix1 H1 s1 g1 rv => ?_
        obtain ⟨a', vs, rfl, h1, _⟩ := pk_lst g1 rv ed0
        refine ⟨.inl ⟨rfl, vs, SqL.of h1⟩, ma.data (r.stp s1) g1 (show ev gl cf ca env x.2 = .ok (y.1, y.2) from e2) fun u G2 ix2 H2 s2 g2 ru => ?_⟩
        rw [ei] at ru
        cases ru
        obtain ⟨a2, us, ea, h2, r2⟩ := pk_lst g2 (rv.mono s2.g s2.i _ _) ed
        cases ea
        have hu := r2.ints en
        subst hu
        have hc : i ∈ ns := by simpa using c
        have hlt : ns.idxOf i < ns.length := List.idxOf_lt_length_of_mem hc
        refine ⟨a', ns.map V.int, .int i, ns.idxOf i, .int i, rfl, rfl, SqL.of h2, rfl, by simp [flatV], by rw [List.getElem?_map, List.getElem?_eq_getElem hlt, List.getElem_idxOf]; rfl, by simp [eqV], fun m z hm hz => ?_, (q.from (s1.trans s2)).same g2 (.int _)⟩
        rw [List.getElem?_map] at hz
        obtain ⟨j, hj, rfl⟩ := Option.map_eq_some_iff.mp hz
        obtain ⟨hj1, hj2⟩ := List.getElem?_eq_some_iff.mp hj
        rw [eqV_int]
        refine Classical.byContradiction fun hh => ?_
        have hji : j = i := by simpa using hh
        have := idx_min ns i m (by rw [hj, hji])
        omega
      · cases e3
    · cases e3
  · cases e4
end
end Nl

/-! All expressions that are looked at. -/
namespace Nl
open PySem L2
section
variable {nm : Nms} {gl : Nat → Option D} {cf : Cf}
/-- what is shown of an expression -/
structure Al (gl : Nat → Option D) (cf : Cf) (X : Cx) (e : Expr) (c : E) : Prop where
  v : SndE gl cf X e c
  t : okT c e = true → SndT gl cf X e c
  w : tstE c = true → ∀ op vs p, e = .BoolOp op vs p → SndW gl cf X e c
theorem isB_ok {sc : Scope} {s : String} {x : Str} (h : isB sc s x = true) : x = Str.ofString s ∧ sc.names.lookup (Str.ofString s) = some .globalImplicit := by
  unfold isB at h
  simp only [Bool.and_eq_true, beq_iff_eq] at h
  obtain ⟨rfl, h2⟩ := h
  exact ⟨rfl, glb_ok h2⟩
theorem al_val {X : Cx} {e : Expr} {c : E} (v : SndE gl cf X e c) (he : ∀ whole, isTrue e X.env whole = (do let v ← whole; standAt e.pos; holding [v] (truthy v))) (hb : ∀ op vs p, e ≠ .BoolOp op vs p) : Al gl cf X e c := ⟨v, fun _ => snd_t_val v he, fun _ op vs p h => absurd h (hb op vs p)⟩
theorem al_of {X : Cx} {e : Expr} {c : E} (h : SndE gl cf X e c ∧ SndT gl cf X e c) (hb : ∀ op vs p, e ≠ .BoolOp op vs p) : Al gl cf X e c := ⟨h.1, fun _ => h.2, fun _ op vs p h => absurd h (hb op vs p)⟩
/-- one operand at the end of and, or -/
theorem one_and {X : Cx} {e : Expr} {c : E} {p : Pos} (v : SndE gl cf X e c) (t : SndT gl cf X e c) : (∃ t, PE X (.BoolOp .And [e] p) t ∧ SemE gl cf X.K c t ∧ SemX gl cf X c t) ∧ SndW gl cf X (.BoolOp .And [e] p) c := by
  obtain ⟨t1, p1, _, m1, x1⟩ := v
  obtain ⟨t2, p2, m2, x2⟩ := t
  exact ⟨⟨_, pe_one p1, m1, x1⟩, ⟨_, pw_and1 p2, m2, x2⟩⟩
theorem one_or {X : Cx} {e : Expr} {c : E} {p : Pos} (v : SndE gl cf X e c) (t : SndT gl cf X e c) : (∃ t, PE X (.BoolOp .Or [e] p) t ∧ SemE gl cf X.K c t ∧ SemX gl cf X c t) ∧ SndW gl cf X (.BoolOp .Or [e] p) c := by
  obtain ⟨t1, p1, _, m1, x1⟩ := v
  obtain ⟨t2, p2, m2, x2⟩ := t
  exact ⟨⟨_, pe_one p1, m1, x1⟩, ⟨_, pw_or1 p2, m2, x2⟩⟩
theorem SndW.t {X : Cx} {e : Expr} {c : E} (h : SndW gl cf X e c) : SndT gl cf X e c := by
  obtain ⟨t, p, m, x⟩ := h
  exact ⟨t, p.pt, m, x⟩
theorem SndE.ex {X : Cx} {e : Expr} {c : E} (h : SndE gl cf X e c) : ∃ t, PE X e t ∧ SemE gl cf X.K c t ∧ SemX gl cf X c t := by
  obtain ⟨t, p, _, m, x⟩ := h
  exact ⟨t, p, m, x⟩
theorem blk_loc {X : Cx} {scope : Scope} {s : Shared} {H : Hp} {C : Addr} {cl : List (Str × Addr)} {fp : List Addr} (x : Str) (h : loc scope x = true) : Loc (Blk X scope s H C cl fp).env.scope x ∧ ((Blk X scope s H C cl fp).fn x = true ∨ (Blk X scope s H C cl fp).env.scope.names.lookup x = some .local) := by
  rcases loc_ok h with k | k
  · have e : (relS scope X.env.scope).names.lookup x = some .local := lookup_relS_keep (by decide) k
    exact ⟨.inl e, .inr e⟩
  · have e : (relS scope X.env.scope).names.lookup x = some .cell := lookup_relS_keep (by decide) k
    refine ⟨.inr e, .inl ?_⟩
    show (scope.names.lookup x == some .cell) = true
    rw [k]
    rfl
theorem po_of {X : Cx} {l : Option Expr} {c : E} (ih : ∀ e, chk nm X.N c X.env.scope e = true → Al gl cf X e c) (h : (match l with
        | none => isNonE c
        | some y => !isNonE c && chk nm X.N c X.env.scope y) = true) : ∃ t, PO X l t ∧ SemO gl cf X.K c t ∧ SemXO gl cf X c t := by
  cases l with
  | none => exact snd_po (.inl ⟨rfl, isNon_eq h⟩)
  | some y =>
    simp only [Bool.and_eq_true, Bool.not_eq_true'] at h
    exact snd_po (.inr ⟨y, rfl, h.1, (ih y h.2).v⟩)
theorem ord_it {nm : Nms} {N : List Str} {k : Ik} {a b : E} {sc : Scope} {target iter : Expr} (h : (match k, iter with
        | .seq, it => chk nm N a sc it && isNonE b
        | .rng1, .Call (.Name x _) [y] [] _ => isB sc "range" x && (chk nm N a sc y && isNonE b)
        | .rng2, .Call (.Name x _) [y, z] [] _ => isB sc "range" x && (chk nm N a sc y && chk nm N b sc z)
        | .enm, .Call (.Name x _) [y] [] _ => isB sc "enumerate" x && (isTupX target && (chk nm N a sc y && isNonE b))
        | .zp, .Call (.Name x _) [y, z] [] _ => isB sc "zip" x && (isTupX target && (chk nm N a sc y && chk nm N b sc z))
        | .rev, .Call (.Name x _) [y] [] _ => isB sc "reversed" x && (chk nm N a sc y && isNonE b)
        | .rr1, .Call (.Name x _) [.Call (.Name y _) [z] [] _] [] _ => isB sc "reversed" x && (isB sc "range" y && (chk nm N a sc z && isNonE b))
        | .rr2, .Call (.Name x _) [.Call (.Name y _) [z, u] [] _] [] _ => isB sc "reversed" x && (isB sc "range" y && (chk nm N a sc z && chk nm N b sc u))
        | _, _ => false) = true) : ord iter = true := by
  split at h <;> first | rfl | skip
  · simp only [Bool.and_eq_true] at h
    exact chk_ord _ _ _ h.1
  · cases h
theorem snd_it {X : Cx} (C : Ctx nm gl cf X) {k : Ik} {a b : E} {target iter : Expr} (iha : ∀ e, chk nm X.N a X.env.scope e = true → Al gl cf X e a) (ihb : ∀ e, chk nm X.N b X.env.scope e = true → Al gl cf X e b) (h : (match k, iter with
        | .seq, it => chk nm X.N a X.env.scope it && isNonE b
        | .rng1, .Call (.Name x _) [y] [] _ => isB X.env.scope "range" x && (chk nm X.N a X.env.scope y && isNonE b)
        | .rng2, .Call (.Name x _) [y, z] [] _ => isB X.env.scope "range" x && (chk nm X.N a X.env.scope y && chk nm X.N b X.env.scope z)
        | .enm, .Call (.Name x _) [y] [] _ => isB X.env.scope "enumerate" x && (isTupX target && (chk nm X.N a X.env.scope y && isNonE b))
        | .zp, .Call (.Name x _) [y, z] [] _ => isB X.env.scope "zip" x && (isTupX target && (chk nm X.N a X.env.scope y && chk nm X.N b X.env.scope z))
        | .rev, .Call (.Name x _) [y] [] _ => isB X.env.scope "reversed" x && (chk nm X.N a X.env.scope y && isNonE b)
        | .rr1, .Call (.Name x _) [.Call (.Name y _) [z] [] _] [] _ => isB X.env.scope "reversed" x && (isB X.env.scope "range" y && (chk nm X.N a X.env.scope z && isNonE b))
        | .rr2, .Call (.Name x _) [.Call (.Name y _) [z, u] [] _] [] _ => isB X.env.scope "reversed" x && (isB X.env.scope "range" y && (chk nm X.N a X.env.scope z && chk nm X.N b X.env.scope u))
        | _, _ => false) = true) : SndI gl cf X target iter k a b := by
  split at h
  · simp only [Bool.and_eq_true] at h
    exact snd_seq (iha _ h.1).v h.2
  · simp only [Bool.and_eq_true] at h
    obtain ⟨rfl, h1⟩ := isB_ok h.1
    exact snd_rng1 C h1 (chk_ord _ _ _ h.2.1) (iha _ h.2.1).v h.2.2
  · simp only [Bool.and_eq_true] at h
    obtain ⟨rfl, h1⟩ := isB_ok h.1
    exact snd_rng2 C h1 (chk_ord _ _ _ h.2.1) (chk_ord _ _ _ h.2.2) (iha _ h.2.1).v (ihb _ h.2.2).v
  · simp only [Bool.and_eq_true] at h
    obtain ⟨rfl, h1⟩ := isB_ok h.1
    exact snd_enm C h1 h.2.1 (chk_ord _ _ _ h.2.2.1) (iha _ h.2.2.1).v h.2.2.2
  · simp only [Bool.and_eq_true] at h
    obtain ⟨rfl, h1⟩ := isB_ok h.1
    exact snd_zp C h1 h.2.1 (chk_ord _ _ _ h.2.2.1) (chk_ord _ _ _ h.2.2.2) (iha _ h.2.2.1).v (ihb _ h.2.2.2).v
  · simp only [Bool.and_eq_true] at h
    obtain ⟨rfl, h1⟩ := isB_ok h.1
    exact snd_rev C h1 (chk_ord _ _ _ h.2.1) (iha _ h.2.1).v h.2.2
  · simp only [Bool.and_eq_true] at h
    obtain ⟨rfl, h1⟩ := isB_ok h.1
    obtain ⟨rfl, h2⟩ := isB_ok h.2.1
    exact snd_rr1 C h1 h2 (chk_ord _ _ _ h.2.2.1) (iha _ h.2.2.1).v h.2.2.2
  · simp only [Bool.and_eq_true] at h
    obtain ⟨rfl, h1⟩ := isB_ok h.1
    obtain ⟨rfl, h2⟩ := isB_ok h.2.1
    exact snd_rr2 C h1 h2 (chk_ord _ _ _ h.2.2.1) (chk_ord _ _ _ h.2.2.2) (iha _ h.2.2.1).v (ihb _ h.2.2.2).v
  · cases h
theorem call_args {N : List Str} {sc : Scope} {pos : Pos} {env : PySem.Env} {cs : Es} {args : List Expr} (h : chks nm N cs sc args = true) : (args = [] ∧ cs = .nil) ∨ ∃ e es, args = e :: es ∧ ord e = true ∧ (backTo pos (starEach es env)).any (·.1) = false := by
  cases args with
  | nil =>
    cases cs with
    | nil => exact .inl ⟨rfl, rfl⟩
    | cons c cs => simp [chks] at h
  | cons e es =>
    cases cs with
    | nil => simp [chks] at h
    | cons c cs =>
      simp only [chks, Bool.and_eq_true] at h
      exact .inr ⟨e, es, rfl, chk_ord _ _ _ h.1, chks_star cs es h.2 pos⟩
mutual
theorem all_E : ∀ (c : E) (X : Cx) (e : Expr), Ctx nm gl cf X → chk nm X.N c X.env.scope e = true → Al gl cf X e c
  | .var i, X, e, C, h => by
    unfold chk at h
    split at h
    · simp only [Bool.and_eq_true, decide_eq_true_eq] at h
      exact al_val (snd_var C h.1 (vis_ok h.2.1) h.2.2) (fun _ => rfl) (fun _ _ _ z => by cases z)
    · cases h
  | .non, X, e, C, h => by
    unfold chk at h
    split at h
    · exact al_val (snd_const C pe_non (fun _ _ => .non) (fun _ _ => rfl)) (fun _ => rfl) (fun _ _ _ z => by cases z)
    · cases h
  | .bl b, X, e, C, h => by
    unfold chk at h
    split at h
    · cases beq_iff_eq.mp h
      exact al_val (snd_const C pe_bl (fun _ _ => .bl _) (fun _ _ => rfl)) (fun _ => rfl) (fun _ _ _ z => by cases z)
    · cases h
  | .int i, X, e, C, h => by
    unfold chk at h
    split at h
    · cases of_decide_eq_true h
      exact al_val (snd_const C pe_int (fun _ _ => .int _) (fun _ _ => rfl)) (fun _ => rfl) (fun _ _ _ z => by cases z)
    · cases h
  | .str s, X, e, C, h => by
    unfold chk at h
    split at h
    · cases of_decide_eq_true h
      exact al_val (snd_const C pe_str (fun _ _ => .str s) (fun _ _ => rfl)) (fun _ => rfl) (fun _ _ _ z => by cases z)
    · cases h
  | .glob g, X, e, C, h => by
    unfold chk at h
    split at h
    · simp only [Bool.and_eq_true, decide_eq_true_eq] at h
      exact al_val (snd_glob C h.1 (glb_ok h.2.1) h.2.2) (fun _ => rfl) (fun _ _ _ z => by cases z)
    · cases h
  | .bin o a b, X, e, C, h => by
    unfold chk at h
    split at h
    · simp only [Bool.and_eq_true, decide_eq_true_eq] at h
      obtain ⟨rfl, h1, h2⟩ := h
      exact al_val (snd_bin C (all_E a X _ C h1).v (all_E b X _ C h2).v) (fun _ => rfl) (fun _ _ _ z => by cases z)
    · cases h
  | .neg a, X, e, C, h => by
    unfold chk at h
    split at h
    · exact al_val (snd_neg C (all_E a X _ C h).v) (fun _ => rfl) (fun _ _ _ z => by cases z)
    · cases h
  | .cmp o a b, X, e, C, h => by
    unfold chk at h
    split at h
    · simp only [Bool.and_eq_true, decide_eq_true_eq] at h
      obtain ⟨rfl, h1, h2⟩ := h
      exact al_of (snd_cmp C (chk_ord _ _ _ h2) (all_E a X _ C h1).v (all_E b X _ C h2).v) (fun _ _ _ z => by cases z)
    · cases h
  | .chain o o' a b c, X, e, C, h => by
    unfold chk at h
    split at h
    · simp only [Bool.and_eq_true, decide_eq_true_eq] at h
      obtain ⟨rfl, rfl, h1, h2, h3⟩ := h
      exact al_of (snd_chain C (chk_ord _ _ _ h2) (chk_ord _ _ _ h3) (all_E a X _ C h1).v (all_E b X _ C h2).v (all_E c X _ C h3).v) (fun _ _ _ z => by cases z)
    · cases h
  | .isN a, X, e, C, h => by
    unfold chk at h
    split at h
    · exact al_of (snd_isN C (all_E a X _ C h).v) (fun _ _ _ z => by cases z)
    · cases h
  | .notN a, X, e, C, h => by
    unfold chk at h
    split at h
    · exact al_of (snd_notN C (all_E a X _ C h).v) (fun _ _ _ z => by cases z)
    · cases h
  | .and a b, X, e, C, h => by
    unfold chk at h
    split at h
    · simp only [Bool.and_eq_true] at h
      obtain ⟨h0, h1, h2, h3⟩ := h
      have A := all_E a X _ C h2
      have B := all_E b X _ C h3
      obtain ⟨k1, k2⟩ := one_and B.v (B.t h1)
      obtain ⟨q1, q2⟩ := snd_and C A.v (A.t h0) k1 k2
      exact ⟨q1, fun _ => q2.t, fun _ _ _ _ _ => q2⟩
    · simp only [Bool.and_eq_true] at h
      obtain ⟨⟨h0, h1⟩, h2, h3⟩ := h
      have A := all_E a X _ C h2
      have B := all_E b X _ C h3
      obtain ⟨q1, q2⟩ := snd_and C A.v (A.t h0) B.v.ex (B.w h1 _ _ _ rfl)
      exact ⟨q1, fun _ => q2.t, fun _ _ _ _ _ => q2⟩
    · cases h
  | .or a b, X, e, C, h => by
    unfold chk at h
    split at h
    · simp only [Bool.and_eq_true] at h
      obtain ⟨h0, h1, h2, h3⟩ := h
      have A := all_E a X _ C h2
      have B := all_E b X _ C h3
      obtain ⟨k1, k2⟩ := one_or B.v (B.t h1)
      obtain ⟨q1, q2⟩ := snd_or C A.v (A.t h0) k1 k2
      exact ⟨q1, fun _ => q2.t, fun _ _ _ _ _ => q2⟩
    · simp only [Bool.and_eq_true] at h
      obtain ⟨⟨h0, h1⟩, h2, h3⟩ := h
      have A := all_E a X _ C h2
      have B := all_E b X _ C h3
      obtain ⟨q1, q2⟩ := snd_or C A.v (A.t h0) B.v.ex (B.w h1 _ _ _ rfl)
      exact ⟨q1, fun _ => q2.t, fun _ _ _ _ _ => q2⟩
    · cases h
  | .not a, X, e, C, h => by
    unfold chk at h
    split at h
    · simp only [Bool.and_eq_true] at h
      have A := all_E a X _ C h.2
      exact al_of (snd_not C A.v (A.t h.1)) (fun _ _ _ z => by cases z)
    · cases h
  | .ife c a b, X, e, C, h => by
    unfold chk at h
    split at h
    · simp only [Bool.and_eq_true] at h
      obtain ⟨h0, h1, h2, h3⟩ := h
      exact ⟨snd_ife C ((all_E c X _ C h1).t h0) (all_E a X _ C h2).v (all_E b X _ C h3).v, fun z => absurd (okT_ok z).1 (by simp [isIfX]), fun _ _ _ _ z => (by cases z)⟩
    · cases h
  | .tup es, X, e, C, h => by
    unfold chk at h
    split at h
    · exact al_val (snd_tup C (all_Es es X _ C h)) (fun _ => rfl) (fun _ _ _ z => by cases z)
    · cases h
  | .lst es, X, e, C, h => by
    unfold chk at h
    split at h
    · exact al_val (snd_lst C (all_Es es X _ C h)) (fun _ => rfl) (fun _ _ _ z => by cases z)
    · cases h
  | .ix a b, X, e, C, h => by
    unfold chk at h
    split at h
    · simp only [Bool.and_eq_true] at h
      exact al_val (snd_ix C (chk_ord _ _ _ h.2) (all_E a X _ C h.1).v (all_E b X _ C h.2).v) (fun _ => rfl) (fun _ _ _ z => by cases z)
    · cases h
  | .sl a lo hi, X, e, C, h => by
    unfold chk at h
    split at h
    · rw [Bool.and_eq_true, Bool.and_eq_true] at h
      obtain ⟨h1, h2, h3⟩ := h
      exact al_val (snd_sl C (all_E a X _ C h1).v (po_of (fun e he => all_E lo X e C he) h2) (po_of (fun e he => all_E hi X e C he) h3)) (fun _ => rfl) (fun _ _ _ z => by cases z)
    · cases h
  | .call f es, X, e, C, h => by
    unfold chk at h
    split at h
    · simp only [Bool.and_eq_true, decide_eq_true_eq] at h
      obtain ⟨h1, h2, h3, h4⟩ := h
      refine al_val (snd_call C h1 (glb_ok h2) h3 (all_Es es X _ C h4) (call_args h4)) (fun _ => rfl) (fun _ _ _ z => by cases z)
    · cases h
  | .bi b es, X, e, C, h => by
    unfold chk at h
    split at h
    · split at h
      · rw [Bool.and_eq_true] at h
        obtain ⟨h0, h⟩ := h
        obtain ⟨rfl, h1⟩ := isB_ok h0
        split at h
        · rename_i y _ c cs _ 
          simp only [Bool.and_eq_true, List.isEmpty_iff] at h
          obtain ⟨h2, rfl, h3⟩ := h
          obtain ⟨rfl, h4⟩ := isB_ok h2
          rcases call_args (pos := ⟨0, 0, 0, 0⟩) (env := X.env) h3 with ⟨z, _⟩ | ⟨e', es', z, o1, o2⟩
          · cases z
          · cases z
            exact al_val (snd_sset C h1 h4 o1 (all_Es es X _ C h3)) (fun _ => rfl) (fun _ _ _ z => by cases z)
        · cases h
      · rename_i hb
        simp only [Bool.and_eq_true] at h
        obtain ⟨rfl, h1⟩ := isB_ok h.1
        rcases call_args (pos := _) (env := X.env) h.2 with ⟨z, _⟩ | ⟨e', es', z, o1, o2⟩
        · cases z
        · cases z
          exact al_val (snd_bi C (fun z => hb z) h1 o1 o2 (all_Es es X _ C h.2)) (fun _ => rfl) (fun _ _ _ z => by cases z)
    · cases h
  | .isB neg b a, X, e, C, h => by
    unfold chk at h
    split at h
    · simp only [Bool.and_eq_true, decide_eq_true_eq, beq_iff_eq] at h
      obtain ⟨rfl, rfl, h3⟩ := h
      exact al_of (snd_isB C (all_E a X _ C h3).v) (fun _ _ _ z => by cases z)
    · cases h
  | .orv a b, X, e, C, h => by
    unfold chk at h
    split at h
    · simp only [Bool.and_eq_true] at h
      exact ⟨snd_orv C (all_E a X _ C h.1).v (all_E b X _ C h.2).v, fun z => absurd (okT_ok z).2 (by simp [tstE]), fun z => absurd z (by simp [tstE])⟩
    · cases h
  | .dnew t, X, e, C, h => by
    unfold chk at h
    split at h
    · exact al_val (snd_dnew C) (fun _ => rfl) (fun _ _ _ z => by cases z)
    · cases h
  | .din neg k d, X, e, C, h => by
    unfold chk at h
    split at h
    · simp only [Bool.and_eq_true, decide_eq_true_eq] at h
      obtain ⟨rfl, h1, h2⟩ := h
      exact al_of (snd_din C (chk_ord _ _ _ h2) (all_E k X _ C h1).v (all_E d X _ C h2).v) (fun _ _ _ z => by cases z)
    · cases h
  | .dget d k, X, e, C, h => by
    unfold chk at h
    split at h
    · simp only [Bool.and_eq_true] at h
      exact al_val (snd_dget C (chk_ord _ _ _ h.2) (all_E d X _ C h.1).v (all_E k X _ C h.2).v) (fun _ => rfl) (fun _ _ _ z => by cases z)
    · cases h
  | .dgetD d k z, X, e, C, h => by
    unfold chk at h
    split at h
    · simp only [Bool.and_eq_true, decide_eq_true_eq] at h
      obtain ⟨rfl, ⟨h1, h2⟩, h3, h4, h5⟩ := h
      exact al_val (snd_dgetD C h1 h2 (chk_ord _ _ _ h4) (chk_ord _ _ _ h5) (all_E d X _ C h3).v (all_E k X _ C h4).v (all_E z X _ C h5).v) (fun _ => rfl) (fun _ _ _ z => by cases z)
    · cases h
  | .dlen d, X, e, C, h => by
    unfold chk at h
    split at h
    · simp only [Bool.and_eq_true] at h
      obtain ⟨rfl, h1⟩ := isB_ok h.1
      exact al_val (snd_dlen C h1 (chk_ord _ _ _ h.2) (all_E d X _ C h.2).v) (fun _ => rfl) (fun _ _ _ z => by cases z)
    · cases h
  | .dlist d, X, e, C, h => by
    unfold chk at h
    split at h
    · simp only [Bool.and_eq_true] at h
      obtain ⟨rfl, h1⟩ := isB_ok h.1
      exact al_val (snd_dlist C h1 (chk_ord _ _ _ h.2) (all_E d X _ C h.2).v) (fun _ => rfl) (fun _ _ _ z => by cases z)
    · cases h
  | .fld c a f, X, e, C, h => by
    unfold chk at h
    split at h
    · simp only [Bool.and_eq_true, decide_eq_true_eq, List.contains_iff_mem] at h
      obtain ⟨⟨h0, rfl⟩, h1, h2, h3⟩ := h
      exact al_val (snd_fld C h0 h1 h2 (all_E a X _ C h3).v) (fun _ => rfl) (fun _ _ _ z => by cases z)
    · cases h
  | .meth f c a es, X, e, C, h => by
    unfold chk at h
    split at h
    · simp only [Bool.and_eq_true, decide_eq_true_eq, List.contains_iff_mem, Bool.not_eq_true'] at h
      obtain ⟨⟨h0, h1⟩, h2, ⟨h3, h4⟩, h5, h6, h7⟩ := h
      refine al_val (snd_meth C h0 h1 h2 h3 h4 h5 (all_E a X _ C h6).v (all_Es es X _ C h7) ?_) (fun _ => rfl) (fun _ _ _ z => by cases z)
      rcases call_args (pos := _) (env := X.env) h7 with z | ⟨e', es', z, o1, o2⟩
      · exact .inl z
      · exact .inr ⟨e', es', z, o1, o2, chks_few es _ h7 _⟩
    · cases h
  | .make f c es, X, e, C, h => by
    unfold chk at h
    split at h
    · simp only [Bool.and_eq_true, decide_eq_true_eq] at h
      obtain ⟨rfl, h1, h2, h3, h4⟩ := h
      exact al_val (snd_make C h1 (glb_ok h2) h3 (all_Es es X _ C h4) (call_args h4)) (fun _ => rfl) (fun _ _ _ z => by cases z)
    · cases h
  | .isx al a ks, X, e, C, h => by
    unfold chk at h
    split at h
    · rename_i x _ y z _
      simp only [Bool.and_eq_true] at h
      obtain ⟨⟨h1, h2⟩, h3, h4⟩ := h
      obtain ⟨rfl, h5⟩ := isB_ok h1
      have hal : ∀ j ∈ al, j ∈ nm.xr := fun j hj => by simpa using List.all_eq_true.mp h2 j hj
      split at h4
      · rw [Bool.and_eq_true, decide_eq_true_eq] at h4
        exact al_val (snd_isxT C h5 hal h4.2 (chk_ord _ _ _ h3) (all_E a X _ C h3).v h4.1) (fun _ => rfl) (fun _ _ _ z => by cases z)
      · split at h4
        · exact al_val (snd_isx1 C h5 hal h4 (chk_ord _ _ _ h3) (all_E a X _ C h3).v) (fun _ => rfl) (fun _ _ _ z => by cases z)
        · cases h4
    · cases h
  | .strI a, X, e, C, h => by
    unfold chk at h
    split at h
    · simp only [Bool.and_eq_true] at h
      obtain ⟨rfl, h1⟩ := isB_ok h.1
      exact al_val (snd_strI C h1 (chk_ord _ _ _ h.2) (all_E a X _ C h.2).v) (fun _ => rfl) (fun _ _ _ z => by cases z)
    · cases h
  | .revc a, X, e, C, h => by
    unfold chk at h
    split at h
    · simp only [Bool.and_eq_true, decide_eq_true_eq] at h
      obtain ⟨rfl, rfl, h3⟩ := h
      exact al_val (snd_revc C (all_E a X _ C h3).v) (fun _ => rfl) (fun _ _ _ z => by cases z)
    · cases h
  | .rev1 a, X, e, C, h => by
    unfold chk at h
    split at h
    · simp only [Bool.and_eq_true, decide_eq_true_eq] at h
      obtain ⟨rfl, h3⟩ := h
      exact al_val (snd_rev1 C (all_E a X _ C h3).v) (fun _ => rfl) (fun _ _ _ z => by cases z)
    · cases h
  | .lrng k a b, X, e, C, h => by
    unfold chk at h
    split at h
    · simp only [Bool.and_eq_true] at h
      obtain ⟨h1, h2, h3⟩ := h
      obtain ⟨rfl, h4⟩ := isB_ok h1
      obtain ⟨rfl, h5⟩ := isB_ok h2
      split at h3
      · rw [Bool.and_eq_true] at h3
        exact al_val (snd_lrng1 C h4 h5 (chk_ord _ _ _ h3.1) (all_E a X _ C h3.1).v h3.2) (fun _ => rfl) (fun _ _ _ z => by cases z)
      · rw [Bool.and_eq_true] at h3
        exact al_val (snd_lrng2 C h4 h5 (chk_ord _ _ _ h3.1) (chk_ord _ _ _ h3.2) (all_E a X _ C h3.1).v (all_E b X _ C h3.2).v) (fun _ => rfl) (fun _ _ _ z => by cases z)
      · cases h3
    · cases h
  | .trng k a b, X, e, C, h => by
    unfold chk at h
    split at h
    · simp only [Bool.and_eq_true] at h
      obtain ⟨h1, h2, h3⟩ := h
      obtain ⟨rfl, h4⟩ := isB_ok h1
      obtain ⟨rfl, h5⟩ := isB_ok h2
      split at h3
      · rw [Bool.and_eq_true] at h3
        exact al_val (snd_trng1 C h4 h5 (chk_ord _ _ _ h3.1) (all_E a X _ C h3.1).v h3.2) (fun _ => rfl) (fun _ _ _ z => by cases z)
      · rw [Bool.and_eq_true] at h3
        exact al_val (snd_trng2 C h4 h5 (chk_ord _ _ _ h3.1) (chk_ord _ _ _ h3.2) (all_E a X _ C h3.1).v (all_E b X _ C h3.2).v) (fun _ => rfl) (fun _ _ _ z => by cases z)
      · cases h3
    · cases h
  | .lsn a, X, e, C, h => by
    unfold chk at h
    split at h
    · simp only [Bool.and_eq_true] at h
      obtain ⟨h1, h2, h3⟩ := h
      obtain ⟨rfl, h4⟩ := isB_ok h1
      obtain ⟨rfl, h5⟩ := isB_ok h2
      exact al_val (snd_lsn C h4 h5 (chk_ord _ _ _ h3) (all_E a X _ C h3).v) (fun _ => rfl) (fun _ _ _ z => by cases z)
    · cases h
  | .lidx a b, X, e, C, h => by
    unfold chk at h
    split at h
    · simp only [Bool.and_eq_true, decide_eq_true_eq] at h
      obtain ⟨rfl, ⟨h1, h2⟩, h3, h4⟩ := h
      exact al_val (snd_lidx C h1 h2 (chk_ord _ _ _ h4) (all_E a X _ C h3).v (all_E b X _ C h4).v) (fun _ => rfl) (fun _ _ _ z => by cases z)
    · cases h
  | .isi a t, X, e, C, h => by
    unfold chk at h
    split at h
    · rename_i x _ y z _
      simp only [Bool.and_eq_true] at h
      obtain ⟨h1, h2, h3⟩ := h
      obtain ⟨rfl, h4⟩ := isB_ok h1
      cases z with
      | Name z p =>
        obtain ⟨rfl, h5⟩ := isB_ok (show isB X.env.scope (tyName t) z = true from h3)
        exact al_val (snd_isi C h4 h5 (chk_ord _ _ _ h2) (all_E a X _ C h2).v) (fun _ => rfl) (fun _ _ _ z => by cases z)
      | _ => cases h3
    · cases h
  | .isis a ts, X, e, C, h => by
    unfold chk at h
    split at h
    · rename_i x _ y z u _ _ _
      simp only [Bool.and_eq_true] at h
      obtain ⟨h1, h2, h3⟩ := h
      obtain ⟨rfl, h4⟩ := isB_ok h1
      split at h3
      · rename_i t t'
        simp only [Bool.and_eq_true] at h3
        obtain ⟨h5, h6⟩ := h3
        cases z with
        | Name z p =>
          cases u with
          | Name u p' =>
            obtain ⟨rfl, h7⟩ := isB_ok (show isB X.env.scope (tyName t) z = true from h5)
            obtain ⟨rfl, h8⟩ := isB_ok (show isB X.env.scope (tyName t') u = true from h6)
            exact al_val (snd_isis C h4 h7 h8 (chk_ord _ _ _ h2) (all_E a X _ C h2).v) (fun _ => rfl) (fun _ _ _ z => by cases z)
          | _ => cases h6
        | _ => cases h5
      · cases h3
    · cases h
  | .me m a es, X, e, C, h => by
    unfold chk at h
    split at h
    · simp only [Bool.and_eq_true, decide_eq_true_eq] at h
      obtain ⟨rfl, ⟨h1, h2⟩, h3, h4, h5⟩ := h
      refine al_val (snd_me C h1 h2 h3 (all_E a X _ C h4).v (all_Es es X _ C h5) ?_) (fun _ => rfl) (fun _ _ _ z => by cases z)
      rcases call_args (pos := _) (env := X.env) h5 with z | ⟨e', es', z, o1, o2⟩
      · exact .inl z
      · exact .inr ⟨e', es', z, o1, o2, chks_few es _ h5 _⟩
    · cases h
  | .lc el tg k a b own, X, e, C, h => by
    unfold chk at h
    split at h
    · rw [Bool.and_eq_true, Bool.and_eq_true, Bool.and_eq_true, Bool.and_eq_true] at h
      obtain ⟨h1, ⟨h2, h3⟩, h4, h5⟩ := h
      refine al_val (snd_lc C h1 (fun i hi => by simpa using List.all_eq_true.mp h2 i hi) (ord_it h4) (snd_it C (fun e he => all_E a X e C he) (fun e he => all_E b X e C he) h4)
        (fun s H D cl fp => snd_tg (nm := nm) (gl := gl) (cf := cf) (X := Blk X _ s H D cl fp) (C.blk s H _ _ fp) (fun x hx => blk_loc x hx) h3) (fun s H D cl fp => (all_E el (Blk X _ s H D cl fp) _ (C.blk s H _ _ fp) h5).v)) (fun _ => rfl) (fun _ _ _ z => by cases z)
    · cases h
  | .lcIf el tg k a b c own, X, e, C, h => by
    unfold chk at h
    split at h
    · rw [Bool.and_eq_true, Bool.and_eq_true, Bool.and_eq_true, Bool.and_eq_true, Bool.and_eq_true, Bool.and_eq_true] at h
      obtain ⟨h1, ⟨h2, h3⟩, h4, ⟨h6, h7⟩, h5⟩ := h
      refine al_val (snd_lcIf C h1 (fun i hi => by simpa using List.all_eq_true.mp h2 i hi) (ord_it h4) (snd_it C (fun e he => all_E a X e C he) (fun e he => all_E b X e C he) h4)
        (fun s H D cl fp => snd_tg (nm := nm) (gl := gl) (cf := cf) (X := Blk X _ s H D cl fp) (C.blk s H _ _ fp) (fun x hx => blk_loc x hx) h3) (fun s H D cl fp => (all_E c (Blk X _ s H D cl fp) _ (C.blk s H _ _ fp) h7).t h6) (fun s H D cl fp => (all_E el (Blk X _ s H D cl fp) _ (C.blk s H _ _ fp) h5).v)) (fun _ => rfl) (fun _ _ _ z => by cases z)
    · cases h
  | .box a, X, e, C, h => by
    have A := all_E a X e C (by simpa [chk] using h)
    exact ⟨snd_box A.v, fun z => absurd (okT_ok z).2 (by simp [tstE]), fun z => absurd z (by simp [tstE])⟩
  | .unbox a, X, e, C, h => by
    have A := all_E a X e C (by simpa [chk] using h)
    exact ⟨snd_unbox A.v, fun z => absurd (okT_ok z).2 (by simp [tstE]), fun z => absurd z (by simp [tstE])⟩
theorem all_Es : ∀ (c : Es) (X : Cx) (es : List Expr), Ctx nm gl cf X → chks nm X.N c X.env.scope es = true → SndA gl cf X es c
  | .nil, X, [], C, h => snd_nil
  | .nil, X, _ :: _, C, h => by simp [chks] at h
  | .cons c cs, X, [], C, h => by simp [chks] at h
  | .cons c cs, X, e :: es, C, h => by
    simp only [chks, Bool.and_eq_true] at h
    exact snd_cons (chk_ord _ _ _ h.1) (all_E c X e C h.1).v (all_Es cs X es C h.2)
end
end
end Nl

/-! try .. except .. as e: x = e, where x is looked at behind it: the exception's object is kept track of. -/
namespace Nl
open PySem PySem.Spec PyProof.Rows L2
section
variable {X : Cx} {pins : List (Addr × Obj)} {σ : L2.St} {H : Hp} {s : Shared}
/-- a pinned object that was not there at the entry is tracked from now on -/
theorem Inv.track {a : Addr} {oe : Obj} {o : HO} (J : Inv X ((a, oe) :: pins) σ H s) (new : ∀ b u, X.s_0.heap.get? b = some u → b ≠ a) (apart : ∀ p ∈ X.pn ++ pins, p.1 ≠ a) (ok : ObjOk X.prog X.w (L2.upd H a o) s.heap a o) : Inv X pins σ (L2.upd H a o) s := by
  obtain ⟨p1, p2, p3, p4, p5⟩ := J.pin (a, oe) (List.mem_append_right _ List.mem_cons_self)
  have neS : ∀ {b : Addr} {u : HO}, H b = some u → b ≠ a := fun e => ne_of_none e p2
  refine ⟨J.ok, J.os, J.bare, ⟨J.base.keep, J.base.slot, fun b u e n hx => ?_, J.base.there, fun b xs e => ?_, fun b u v e => ?_, fun b ps e => ?_⟩, J.loc, J.cell, ?_, fun x c e => ?_, fun p hp => ?_, fun b u e => ?_, J.len⟩
  · rw [upd_ne (new b u e)]
    exact J.base.free b u e n hx
  · have k := J.base.tups b xs e
    rw [upd_ne (neS k)]
    exact k
  · have k := J.base.frzs b u v e
    rw [upd_ne (neS k)]
    exact k
  · obtain ⟨m, k⟩ := J.base.tbls b ps e
    exact ⟨m, by rw [upd_ne (neS k)]; exact k⟩
  · rw [upd_ne (Ne.symm p3)]
    exact J.free
  · have ne : c ≠ a := fun z => by
      obtain ⟨v, ob, k1, k2⟩ := J.cell x c e
      rw [z] at k1
      rw [p1] at k1
      cases k1
      exact p5 _ k2
    rw [upd_ne ne]
    exact J.freeC x c e
  · obtain ⟨q1, q2, q3⟩ := J.pin p (by
      rcases List.mem_append.mp hp with h | h
      · exact List.mem_append_left _ h
      · exact List.mem_append_right _ (List.mem_cons_of_mem _ h))
    exact ⟨q1, by rw [upd_ne (apart p hp)]; exact q2, q3⟩
  · by_cases eb : b = a
    · subst eb
      rw [upd_same] at e
      cases e
      exact ok
    · rw [upd_ne eb] at e
      exact (J.hok b u e).stay (fun c v _ k => k) (fun c k => by rw [upd_ne (neS k)]; exact k) fun c xs k => by rw [upd_ne (neS k)]; exact k
/-- out of the suite, the exception's object still pinned -/
theorem Inv.unsuiteK {a : Addr} {oe : Obj} {pn' : List (Addr × Obj)} (J : Inv (X.suite a ((a, oe) :: (X.pn ++ pins))) pn' σ H s) (ok : X.Ok) : Inv X ((a, oe) :: pins) σ H s :=
  ⟨ok, J.os, J.bare, J.base, J.loc, J.cell, J.free, J.freeC, fun p hp => J.pin p (List.mem_append_left _ (by
    rcases List.mem_append.mp hp with h | h
    · exact List.mem_cons_of_mem _ (List.mem_append_left _ h)
    · rcases List.mem_cons.mp h with h | h
      · rw [h]; exact List.mem_cons_self
      · exact List.mem_cons_of_mem _ (List.mem_append_right _ h))), J.hok, J.len⟩
end
/-- what the clause wishes: the class fits, and what follows holds with the exception kept in j -/
def wKeep (K : PySem.W.Frag) (c : Value) (i j : Nat) (Wout : WX) (D : Ends) : WX := fun cls d σ H =>
  ∃ b, PySem.W.exmOne K cls c = some b ∧ (b = true → d = none ∧ ∀ a, H a = none → D.nx (((σ.set i (some (.ref a))).set j (some (.ref a))).set i none) (L2.upd H a (EvO cls a))) ∧ (b = false → Wout cls d σ H)
theorem evo_ok {P : Program} {w : World} {H : Hp} {h : Heap} {a : Addr} {cls : Value} {oe : Obj} {vs : Array Value} (e : h.get? a = some oe) (z : Zc cls none oe) (d : oe.data = .fields vs) : ObjOk P w H h a (EvO cls a) :=
  ⟨⟨oe, vs, e, z, d⟩, ⟨oe, e⟩, fun _ _ ⟨o, v, q, r⟩ k => ⟨o, v, k o q, r⟩⟩
section
variable {X : Cx} {x n y : Str} {c : Value} {i j : Nat} {body : List Stmt} {np py pz pa pos pos' : Pos} {tb : WX → TS} {Wout : WX}
theorem ps_try_keep (hs : X.stack = X.env :: X.outer) (hf : X.env.frame = some X.env.locals) (hex : X.ex = []) (hN : X.N.Nodup) (hi : X.N[i]? = some n) (hj : X.N[j]? = some y) (hln : X.env.kindOf n = some .local) (hly : Loc X.env.scope y) (hfn : ∀ z, X.fn z = true) (hn1 : (n == ("__debug__" : Str)) = false) (hn2 : (n == ("__classdict__" : Str)) = false) (hil : i < X.N.length) (hc : Names X x c) (tk : Takes X Wout)
    (hb : ∀ (W : WX) (pn : List (Addr × Obj)) (xe : Value → Shared → Prop), Takes (X.tr pn xe) W → PassesOwn (model X.prog X.w) X.A X.env xe → PSs (X.tr pn xe) body (tb W)) :
    PS X (.Try body [.ExceptHandler (some (.Name x np)) (some n) [.Assign [.Name y py] (.Name n pz) pa] pos'] [] [] pos) (fun D σ H => tb (wKeep X.K c i j Wout D) D σ H) := ⟨fun pins s σ H D I h => by
  have okX := I.ok
  have frX : X.A.frames = some (X.env :: X.outer) := by
    rw [okX.frames]
    exact congrArg some hs
  refine wpAny_Try_except (wpAny_mono ((hb (wKeep X.K c i j Wout D) (X.pn ++ pins) _ (fun u s' xx => ?cat) PassesOwn.looking).run [] s σ H D (I.toTry _) h) (fun fl s1 hsp => ?done) fun _ _ he => he)
  case done =>
    cases fl with
    | next => obtain ⟨a1, a2, a3, a4⟩ := hsp; exact wpAny_execs_nil ⟨a1, a2, a3.ofTry okX, a4⟩
    | brk => obtain ⟨a1, a2, a3, a4⟩ := hsp; exact ⟨a1, a2, a3.ofTry okX, a4⟩
    | cont => obtain ⟨a1, a2, a3, a4⟩ := hsp; exact ⟨a1, a2, a3.ofTry okX, a4⟩
    | ret u => obtain ⟨a0, a1, a2, a3, a4, a5⟩ := hsp; exact ⟨a0, a1, a2, a3.ofTry okX, a4, a5⟩
  case cat =>
    obtain ⟨a, B, sI, pq, σ1, H1, cls, d, eu, J1, nb, up, sky, na, os, ag, b, hb1, yes, no⟩ := xx
    subst eu
    have J : Inv X pins σ1 H1 sI := J1.ofTry okX
    rw [show (X.tr (X.pn ++ pins) _).stack = X.env :: X.outer from hs] at sky
    show wpAny (model X.prog X.w) X.A (noteFrame (.ref a) X.env) _ _ s'
    refine Sky.land (L := X.env.locals) Zc.steady frX hf sky fun h3 fl3 up3 => ?_
    have J3 : Inv X pins σ1 H1 { s' with heap := h3 } := J.landed nb fl3.1 (up.trans up3) os ag
    obtain ⟨o3, v3, e3, z3, d3⟩ := fl3.there
    have aFr : ∀ {hh : Heap} {ob : Obj} {vv : Array Value}, hh.FunFrames B (X.env :: X.outer) → hh.get? a = some ob → ob.data = .fields vv → a ∉ frs (X.env :: X.outer) := fun ff k1 k2 km => by
      obtain ⟨_, ob', k3, k4⟩ := ff.mem km
      rw [k1] at k3
      cases k3
      exact k4 _ k2
    have aN := aFr fl3.2.2.1 e3 d3
    have aL : a ≠ X.env.locals := fun z => aN (List.mem_filterMap.mpr ⟨X.env, List.mem_cons_self, hf.trans (congrArg some z.symm)⟩)
    have aF : a ∉ X.fs := fun km => by
      obtain ⟨q, k1, k2⟩ := List.mem_filterMap.mp km
      exact aN (List.mem_filterMap.mpr ⟨q, List.mem_cons_of_mem _ k1, k2⟩)
    have aI : sI.heap.get? a = none := by
      cases k : sI.heap.get? a with
      | none => rfl
      | some ob =>
        have k2 := nb a ob k (by rw [hs]; exact aN)
        rw [fl3.2.1] at k2
        cases k2
    have a0 : ∀ b u, X.s_0.heap.get? b = some u → b ≠ a := fun b u k z => by
      obtain ⟨ob, k2⟩ := J.base.there b u k (by rw [hex]; exact fun z => nomatch z)
      rw [z, aI] at k2
      cases k2
    have aP : ∀ p ∈ X.pn ++ pins, p.1 ≠ a := fun p hp z => by
      have k := (J.pin p hp).1
      rw [z, aI] at k
      cases k
    have S3 := J3.suite e3 d3 na aL aF
    have LT : PySem.W.Looks (model X.prog X.w) h3 (typeOf (.ref a)) cls := fun A Q E s k q => wpAny_typeOf_ref (k _ _ e3) (by rw [show o3.cls = cls from z3.1]; exact q)
    have LM := PySem.W.exm_one (M := model X.prog X.w) J3.kIn LT hb1
    have tst : ∀ {Q : Value → Shared → Prop} {E : Value → Shared → Prop}, Q c { s' with heap := h3 } → wpAny (model X.prog X.w) (X.A.mark (some (.ref a))) (eval (.Name x np) X.env) Q E { s' with heap := h3 } := fun {Q E} q => by
      obtain ⟨hg, hdb, hm⟩ := hc
      rcases hm with hm | ⟨hm, hv, hq⟩
      · exact ld_glob (X := X.suite a ((a, o3) :: (X.pn ++ pins))) S3 hg hm q hdb
      · exact ld_blt (X := X.suite a ((a, o3) :: (X.pn ++ pins))) S3 hg hm hv q hq hdb
    refine wpAny_handleBy_cons (codeAny_handlers_test (tst (LM.here ?_))) (fun z => nomatch z)
    cases b with
    | true =>
      obtain ⟨rfl, go⟩ := yes rfl
      refine codeAny_handlers_suite_as (HandSPX.lands_againZ fl3 fun h4 fl4 up4 => ?_)
      have J4 : Inv X pins σ1 H1 { s' with heap := h4 } := J.landed nb fl4.1 ((up.trans up3).trans up4) os ag
      obtain ⟨o4, v4, e4, z4, d4⟩ := fl4.there
      refine store_ok (X := X.suite a ((a, o4) :: (X.pn ++ pins))) (v := .ref a) (J4.suite e4 d4 na aL aF) hN hi (.inl hln) rfl (fun s5 S5 => ?_) (.inr hln)
      have one : PSs (X.suite a ((a, o4) :: (X.pn ++ pins))) [.Assign [.Name y py] (.Name n pz) pa] _ := pss_one (ps_set (i := j) hN hj hly (pe_var hi (.inl hln) hn1 hn2) rfl (.inl (hfn y)))
      have hlen : i < σ1.length := by rw [J.len]; exact hil
      refine wpAny_mono (one.run [] s5 _ H1 { nx := fun σ' H' => σ' = ((σ1.set i (some (.ref a))).set j (some (.ref a))) ∧ H' = H1, rt := fun _ _ => False, bk := fun _ _ => False, ct := fun _ _ => False } S5 ⟨.ref a, List.getElem?_set_self hlen, rfl, rfl⟩) (fun fl s6 hsp => ?_) (fun _ _ z => False.elim z)
      cases fl with
      | next =>
        obtain ⟨σ6, H6, S6, eσ, eH⟩ := hsp
        subst eσ eH
        have K6 := Inv.unsuiteK S6 okX
        refine gone_ok K6 hN hi hln fun s7 K7 => ⟨_, _, Inv.track K7 a0 aP ?_, go a na⟩
        obtain ⟨p1, _⟩ := K7.pin (a, o4) (List.mem_append_right _ List.mem_cons_self)
        exact evo_ok p1 z4 d4
      | brk => obtain ⟨_, _, _, z⟩ := hsp; exact z.elim
      | cont => obtain ⟨_, _, _, z⟩ := hsp; exact z.elim
      | ret u => obtain ⟨_, _, _, _, _, z⟩ := hsp; exact z.elim
    | false =>
      refine wpAny_handleBy_nil ?_
      obtain ⟨_, _, _, oe, vv, T, oT, tt, k1, _, k2, k3, _⟩ := id fl3
      have fin : wpAny (model X.prog X.w) X.A (setFlight (.ref a) X.env.frame) (fun _ s4 => wpAny (model X.prog X.w) X.A (throw (.ref a) : Sem Flow) (SP X pins D) X.xe s4) X.xe { s' with heap := h3 } := by
        rw [hf]
        exact HandSPX.setFlight_upZ fl3 fun h4 hh4 up4 => wpAny_throw (tk _ _ ⟨a, B, sI, pins, σ1, H1, cls, d, rfl, J, nb, (up.trans up3).trans up4, .inr (.inr (by rw [hs]; exact hh4)), na, os, ag, no rfl⟩)
      unfold PySem.passOn
      refine wpAny_bind (wpAny_field k1 k2 k3 ?_)
      rw [if_neg (show ¬ ((Value.ref T == Value.none) = true) from by simp)]
      first
        | exact wpAny_bind (wpAny_pure (wpAny_bind fin))
        | exact wpAny_bind fin⟩
end
end Nl

/-! Statements, defs, a whole text. -/
namespace Nl
open PySem L2
theorem zip_lookup : ∀ {ps : List Str} {us : List Value} {x : Str}, x ∈ ps → us.length = ps.length → ((ps.zip us).lookup x).isSome = true
  | [], _, _, h, _ => by simp at h
  | p :: ps, [], _, _, hl => by simp at hl
  | p :: ps, u :: us, x, h, hl => by
    rw [List.zip_cons_cons, List.lookup_cons]
    cases e : x == p with
    | true => rfl
    | false =>
      simp only
      rcases List.mem_cons.mp h with rfl | h
      · simp at e
      · exact zip_lookup h (by simpa using hl)
theorem zip_back : ∀ {ps : List Str} {us : List Value} (pre : List (Str × Value)), ps.Nodup → us.length = ps.length → (∀ p ∈ ps, ∀ q ∈ pre, q.1 ≠ p) → ps.filterMap (fun n => ((pre ++ ps.zip us).lookup n).map fun v => (n, v)) = ps.zip us
  | [], _, _, _, _, _ => by simp
  | p :: ps, [], _, _, hl, _ => by simp at hl
  | p :: ps, u :: us, pre, nd, hl, hp => by
    obtain ⟨n1, n2⟩ := List.nodup_cons.mp nd
    have e1 : (pre ++ (p, u) :: ps.zip us).lookup p = some u := by
      have : ∀ (pre : List (Str × Value)), (∀ q ∈ pre, q.1 ≠ p) → (pre ++ (p, u) :: ps.zip us).lookup p = some u := fun pre => by
        induction pre with
        | nil => intro _; simp
        | cons q pre ih =>
          intro h
          obtain ⟨q1, q2⟩ := q
          rw [List.cons_append, List.lookup_cons]
          have : (p == q1) = false := by
            have := h (q1, q2) List.mem_cons_self
            simpa using fun e => this e.symm
          rw [this]
          exact ih fun q hq => h q (List.mem_cons_of_mem _ hq)
      exact this pre (hp p List.mem_cons_self)
    rw [List.zip_cons_cons, List.filterMap_cons, e1]
    simp only [Option.map_some]
    congr 1
    have e2 := zip_back (ps := ps) (us := us) (pre ++ [(p, u)]) n2 (by simpa using hl) (fun p' hp' q hq => by
      rcases List.mem_append.mp hq with hq | hq
      · exact hp p' (List.mem_cons_of_mem _ hp') q hq
      · cases List.mem_singleton.mp hq
        exact fun e => n1 (by have e : p = p' := e; rw [e]; exact hp'))
    rw [List.append_assoc] at e2
    exact e2
theorem bind_plain {x qual : Str} {args : List Arg} {body : List Stmt} {scope : Scope} (nd : (args.map (·.arg)).Nodup) (kV doc pm : Value) (an : Option Addr) (cdv ct : Value) (us : List Value) (hl : us.length = (args.map (·.arg)).length) :
    bindArgs (PySem.W.fnOf x qual ⟨[], args, none, [], [], none, []⟩ body scope .none kV doc pm an cdv ct) ⟨us, []⟩ = pure ((args.map (·.arg)).zip us) := by
  have hm : ((args.map (·.arg)).filter fun n => (((args.map (·.arg)).zip us).lookup n).isNone) = [] := by
    rw [List.filter_eq_nil_iff]
    intro n hn
    have := zip_lookup (us := us) hn hl
    cases e : ((args.map (·.arg)).zip us).lookup n with
    | none => rw [e] at this; cases this
    | some v => simp
  have hz := zip_back (us := us) [] nd hl (fun _ _ _ h => by cases h)
  rw [List.nil_append] at hz
  have hg : ¬ us.length > (args.map (·.arg)).length := by omega
  unfold bindArgs PySem.W.fnOf
  simp only [List.map_nil, List.nil_append, List.forIn_nil, pure_bind, List.append_nil]
  have e0 : seqItems? Value.none = pure none := rfl
  rw [e0, pure_bind, if_neg (by simp; simpa using Nat.le_of_eq hl)]
  simp only [Option.getD_none, List.drop_nil, List.length_nil, Nat.sub_zero, List.take_length]
  rw [hm]
  rw [if_neg (by simp), List.zip_nil_right, List.forIn_nil, pure_bind, if_neg (by simp), hz]

/-! ### which statement of the model a statement stands for -/
section
variable (nm : Nms) (N : List Str) (sc : Scope)
def chkI (k : Ik) (a b : E) (target iter : Expr) : Bool := match k, iter with
  | .seq, it => chk nm N a sc it && isNonE b
  | .rng1, .Call (.Name x _) [y] [] _ => isB sc "range" x && (chk nm N a sc y && isNonE b)
  | .rng2, .Call (.Name x _) [y, z] [] _ => isB sc "range" x && (chk nm N a sc y && chk nm N b sc z)
  | .enm, .Call (.Name x _) [y] [] _ => isB sc "enumerate" x && (isTupX target && (chk nm N a sc y && isNonE b))
  | .zp, .Call (.Name x _) [y, z] [] _ => isB sc "zip" x && (isTupX target && (chk nm N a sc y && chk nm N b sc z))
  | .rev, .Call (.Name x _) [y] [] _ => isB sc "reversed" x && (chk nm N a sc y && isNonE b)
  | .rr1, .Call (.Name x _) [.Call (.Name y _) [z] [] _] [] _ => isB sc "reversed" x && (isB sc "range" y && (chk nm N a sc z && isNonE b))
  | .rr2, .Call (.Name x _) [.Call (.Name y _) [z, u] [] _] [] _ => isB sc "reversed" x && (isB sc "range" y && (chk nm N a sc z && chk nm N b sc u))
  | _, _ => false
/-- what leaves all names as they were, if it raises -/
def simpS : S → Bool
  | .asg (.n _) _ => true
  | .ex _ => true
  | .ret _ => true
  | _ => false
def cstE : E → Bool
  | .bl _ => true
  | .str _ => true
  | .non => true
  | .int _ => true
  | _ => false
mutual
def chkS : S → Stmt → Bool
  | .asg tg e, st => (match st with
    | .Assign [t] v _ => (match tg, t with
      | .n i, .Name x _ => decide (N[i]? = some x) && (loc sc x && chk nm N e sc v)
      | .t is, t => chkTg N sc (.t is) t && (!isTupX v && (!isLc v && chk nm N e sc v))
      | _, _ => false)
    | _ => false)
  | .setix o i e, st => (match st with
    | .Assign [.Subscript ox ix _] v _ => chk nm N o sc ox && (chk nm N i sc ix && (!isLc v && chk nm N e sc v))
    | _ => false)
  | .ex e, st => (match st with
    | .Expr v _ => !isLc v && chk nm N e sc v
    | _ => false)
  | .ret e, st => (match st with
    | .Return (some v) _ => chk nm N e sc v
    | _ => false)
  | .retN, st => (match st with
    | .Return none _ => true
    | _ => false)
  | .ife c a b, st => (match st with
    | .If t xs ys _ => okT c t && (chk nm N c sc t && (chkSs a xs && chkSs b ys))
    | _ => false)
  | .forr tg k a b body, st => (match st with
    | .For target iter xs [] _ => chkTg N sc tg target && (chkI nm N sc k a b target iter && chkSs body xs)
    | _ => false)
  | .whl _ c body, st => (match st with
    | .While t xs [] _ => okT c t && (chk nm N c sc t && chkSs body xs)
    | _ => false)
  | .pass, st => (match st with
    | .Pass _ => true
    | _ => false)
  | .brk, st => (match st with
    | .Break _ => true
    | _ => false)
  | .cnt, st => (match st with
    | .Continue _ => true
    | _ => false)
  | .raise k, st => (match st with
    | .Raise (some (.Call (.Name x _) [] [] _)) none _ => decide (x = Str.ofString (exName k)) && (nm.xr.contains k && (glb sc x && okN x))
    | _ => false)
  | .setfld c o f e, st => (match st with
    | .Assign [.Attribute ox name _] v _ => decide (name = Str.ofString (fdName f)) && (nm.cl.contains c && (chk nm N o sc ox && (!isLc v && chk nm N e sc v)))
    | _ => false)
  | .dput d k e, st => (match st with
    | .Assign [.Subscript ox ix _] v _ => chk nm N d sc ox && (chk nm N k sc ix && (!isLc v && chk nm N e sc v))
    | _ => false)
  | .triA al s c i j, st => (match st with
    | .Try [b] [.ExceptHandler (some (.Name x _)) (some n) [.Assign [.Name y _] (.Name z _) _] _] [] [] _ => (al.all fun k => nm.xr.contains k) && (decide (x = Str.ofString (exName c)) && (nm.xc.contains c && (glb sc x && (okN x && (decide (N[i]? = some n) && (decide (N[j]? = some y) && (decide (z = n) && (decide (i ≠ j) && (decide (sc.names.lookup n = some .local) && (loc sc y && (okN n && (simpS s && chkS s b))))))))))))
    | _ => false)
  | .triC al s c e, st => (match st with
    | .Try [b] [.ExceptHandler (some (.Name x _)) none [.Return (some v) _] _] [] [] _ => (al.all fun k => nm.xr.contains k) && (decide (x = Str.ofString (exName c)) && (nm.xc.contains c && (glb sc x && (okN x && (cstE e && (chk nm N e sc v && (simpS s && chkS s b)))))))
    | _ => false)
  | .triB _ _ _ _ _ _ _ _, _ => false
def chkSs : Ss → List Stmt → Bool
  | .nil, xs => xs.isEmpty
  | .cons s ss, xs => (match xs with
    | x :: xs => chkS s x && chkSs ss xs
    | [] => false)
end
end
/-! ### what comes of statements -/
def PostS (K : PySem.W.Frag) (G : Hp) (ix : List Addr) (H : Hp) (r : Fl) (S' : Store) (D : Ends) : Prop := match r with
  | .nx env' => ∀ σ' G' ix' H', Stp G ix H G' ix' H' → Good K G' ix' S' H' → EnvR K G' ix' σ' env' → D.nx σ' H'
  | .brk env' => ∀ σ' G' ix' H', Stp G ix H G' ix' H' → Good K G' ix' S' H' → EnvR K G' ix' σ' env' → D.bk σ' H'
  | .cnt env' => ∀ σ' G' ix' H', Stp G ix H G' ix' H' → Good K G' ix' S' H' → EnvR K G' ix' σ' env' → D.ct σ' H'
  | .ret w => PostE K G ix H w S' D.rt
theorem PostS.from {K : PySem.W.Frag} {G : Hp} {ix : List Addr} {H : Hp} {r : Fl} {S' : Store} {D : Ends} (q : PostS K G ix H r S' D) {G1 : Hp} {ix1 : List Addr} {H1 : Hp} (s : Stp G ix H G1 ix1 H1) : PostS K G1 ix1 H1 r S' D := by
  cases r with
  | nx env => exact fun σ' G' ix' H' s' => q σ' G' ix' H' (s.trans s')
  | brk env => exact fun σ' G' ix' H' s' => q σ' G' ix' H' (s.trans s')
  | cnt env => exact fun σ' G' ix' H' s' => q σ' G' ix' H' (s.trans s')
  | ret w => exact PostE.from q s
def SemS (gl : Nat → Option D) (cf : Cf) (K : PySem.W.Frag) (c : S) (t : TS) : Prop := ∀ σ H env G ix S r S' D, EnvR K G ix σ env → Good K G ix S H → ex gl cf c env S = .ok (r, S') → PostS K G ix H r S' D → t D σ H
/-- what a raise of a statement makes true: wherever its names stand, or as they stood -/
def SemXS (gl : Nat → Option D) (cf : Cf) (X : Cx) (c : S) (t : TS) : Prop := ∀ σ H env G ix S k S' D, EnvR X.K G ix σ env → Good X.K G ix S H → ex gl cf c env S = .exc k S' → (∀ σ', PostX X.K G ix H k S' (WE (Wof X) σ')) → t D σ H
def SemX1 (gl : Nat → Option D) (cf : Cf) (X : Cx) (c : S) (t : TS) : Prop := ∀ σ H env G ix S k S' D, EnvR X.K G ix σ env → Good X.K G ix S H → ex gl cf c env S = .exc k S' → PostX X.K G ix H k S' (WE (Wof X) σ) → t D σ H
def SndS (gl : Nat → Option D) (cf : Cf) (X : Cx) (st : Stmt) (c : S) : Prop := ∃ t, PS X st t ∧ SemS gl cf X.K c t ∧ SemXS gl cf X c t ∧ (simpS c = true → SemX1 gl cf X c t)
theorem sndS_of {gl : Nat → Option D} {cf : Cf} {X : Cx} {st : Stmt} {c : S} {t : TS} (p : PS X st t) (m : SemS gl cf X.K c t) (x : SemX1 gl cf X c t) : SndS gl cf X st c := ⟨t, p, m, fun σ H env G ix S k S' D r g e q => x σ H env G ix S k S' D r g e (q σ), fun _ => x⟩
def SemSs (gl : Nat → Option D) (cf : Cf) (K : PySem.W.Frag) (c : Ss) (t : TS) : Prop := ∀ σ H env G ix S r S' D, EnvR K G ix σ env → Good K G ix S H → exs gl cf c env S = .ok (r, S') → PostS K G ix H r S' D → t D σ H
def SemXSs (gl : Nat → Option D) (cf : Cf) (X : Cx) (c : Ss) (t : TS) : Prop := ∀ σ H env G ix S k S' D, EnvR X.K G ix σ env → Good X.K G ix S H → exs gl cf c env S = .exc k S' → (∀ σ', PostX X.K G ix H k S' (WE (Wof X) σ')) → t D σ H
def SndSs (gl : Nat → Option D) (cf : Cf) (X : Cx) (st : List Stmt) (c : Ss) : Prop := ∃ t, PSs X st t ∧ SemSs gl cf X.K c t ∧ SemXSs gl cf X c t
section
variable {nm : Nms} {gl : Nat → Option D} {cf : Cf} {X : Cx}
theorem snd_seqs {st : Stmt} {sts : List Stmt} {c : S} {cs : Ss} (h1 : SndS gl cf X st c) (h2 : SndSs gl cf X sts cs) : SndSs gl cf X (st :: sts) (.cons c cs) := by
  obtain ⟨t, p, m, x, _⟩ := h1
  obtain ⟨u, p2, m2, x2⟩ := h2
  refine ⟨_, pss_cons p p2, fun σ H env G ix S r S' D re g e q => ?_, fun σ H env G ix S k S' D re g e q => ?x⟩
  case x =>
    simp only [exs] at e
    rcases exc2 e with e1 | ⟨⟨r1, r2⟩, e1, e2⟩
    · exact x σ H env G ix S k S' _ re g e1 q
    · cases r1 with
      | nx env' => exact m σ H env G ix S _ r2 _ re g e1 fun σ' G' ix' H' s g' r' => x2 σ' H' env' G' ix' r2 k S' D r' g' e2 fun σ'' => (q σ'').from s
      | brk env' => cases e2
      | cnt env' => cases e2
      | ret w => cases e2
  simp only [exs] at e
  obtain ⟨⟨r1, r2⟩, e1, e⟩ := ok2 e
  show t { D with nx := u D } σ H
  refine m σ H env G ix S r1 r2 _ re g e1 ?_
  cases r1 with
  | nx env' => exact fun σ' G' ix' H' s g' r' => m2 σ' H' env' G' ix' r2 r S' D r' g' e (q.from s)
  | brk env' => cases e; exact q
  | cnt env' => cases e; exact q
  | ret w => cases e; exact q
theorem snd_asgN (C : Ctx nm gl cf X) (hf : ∀ x, X.fn x = true) {i : Nat} {x : Str} {v : Expr} {c : E} {p pos : Pos} (hN : X.N[i]? = some x) (hx : Loc X.env.scope x) (hv : SndE gl cf X v c) : SndS gl cf X (.Assign [.Name x p] v pos) (.asg (.n i) c) := by
  obtain ⟨t, pe, a, m, mx⟩ := hv
  refine sndS_of (a i x p pos hN hx (hf x)) (fun σ H env G ix S r S' D re g e q => ?_) fun σ H env G ix S k S' D re g e q => by
    simp only [ex] at e
    exact semX1 mx re g e (fun _ => nx_setTg.bind fun _ => nx_ok) q
  simp only [ex] at e
  obtain ⟨y, e1, e⟩ := ok2 e
  obtain ⟨env', e2, e⟩ := ok2 e
  cases e2
  cases e
  exact m.data re g (show ev gl cf c env S = .ok (y.1, y.2) from e1) fun v G' ix' H' s g' rv => q _ G' ix' H' s g' ((re.stp s).set rv i)
theorem snd_asgT (C : Ctx nm gl cf X) {is : List Nat} {t v : Expr} {c : E} {pos : Pos} (ht : ∃ g, PG X t g ∧ SemG X.K (.t is) g) (hT : isTupX t = true) (ov : ord v = true) (nv : isTupX v = false) (nl : isLc v = false) (hv : SndE gl cf X v c) : SndS gl cf X (.Assign [t] v pos) (.asg (.t is) c) := by
  obtain ⟨te, pe, a, m, mx⟩ := hv
  obtain ⟨gt, pg, mg⟩ := ht
  have hs : swapsWithSole [t] v pos.line X.env = pure false := by
    show swapsWith v (some t) pos.line X.env = pure false
    exact ord_swap ov nl _ _
  have hw : swappedStores [t] v X.env = pure none := by
    cases v <;> first | cases nv; done | (cases t <;> rfl)
  have h1 : (assignEach [t] X.env).map (·.2) = [assign t X.env] := by
    cases t <;> first | rfl | cases hT
  refine sndS_of (ps_asg pe pg hs hw h1) (fun σ H env G ix S r S' D re g e q => ?_) fun σ H env G ix S k S' D re g e q => by
    simp only [ex] at e
    exact semX1 mx re g e (fun _ => nx_setTg.bind fun _ => nx_ok) q
  simp only [ex] at e
  obtain ⟨y, e1, e⟩ := ok2 e
  obtain ⟨env', e2, e⟩ := ok2 e
  cases e
  exact m.data re g (show ev gl cf c env S = .ok (y.1, y.2) from e1) fun v G' ix' H' s g' rv => mg v _ σ H' env env' G' ix' _ _ (re.stp s) g' rv e2 fun σ' r' _ => q σ' G' ix' H' s g' r'
/-- three operands -/
theorem semX3 {a b c : E} {ta tb tc : TE} (ma : SemE gl cf X.K a ta) (mb : SemE gl cf X.K b tb) (xa : SemX gl cf X a ta) (xb : SemX gl cf X b tb) (xc : SemX gl cf X c tc) {σ : L2.St} {H : Hp} {env : Env} {G : Hp} {ix : List Addr} {S : Store} {k : Nat} {S' : Store} {α : Type} {f : W × Store → W × Store → W × Store → Res α} {R : V → V → V → Hp → Prop} (r : EnvR X.K G ix σ env) (g : Good X.K G ix S H)
    (e : ((ev gl cf a env S).bind fun x => (ev gl cf b env x.2).bind fun y => (ev gl cf c env y.2).bind (f x y)) = .exc k S') (hf : ∀ x y z, (f x y z).NX) (q : PostX X.K G ix H k S' (WE (Wof X) σ)) : ta σ H fun v H1 => tb σ H1 fun u H2 => tc σ H2 fun w H3 => R v u w H3 := by
  rcases exc2 e with e1 | ⟨x, e1, e2⟩
  · exact xa σ H env G ix S k S' _ r g e1 q
  · exact ma.data r g (show ev gl cf a env S = .ok (x.1, x.2) from e1) fun v G1 ix1 H1 s1 g1 r1 => semX2 mb xb xc (r.stp s1) g1 e2 (hf x) (q.from s1)
theorem snd_setix (C : Ctx nm gl cf X) {o i v : Expr} {co ci c : E} {p pos : Pos} (oi : ord i = true) (ov : ord v = true) (nl : isLc v = false) (ho : SndE gl cf X o co) (hi : SndE gl cf X i ci) (hv : SndE gl cf X v c) : SndS gl cf X (.Assign [.Subscript o i p] v pos) (.setix co ci c) := by
  obtain ⟨tv, pv, _, mv, xv⟩ := hv
  obtain ⟨to, po, _, mo, xo⟩ := ho
  obtain ⟨ti, pi, _, mi, xi⟩ := hi
  have ha : ∀ u, assign (.Subscript o i p) X.env u = (do
      let ov ← holding [u] (eval o X.env)
      let iv ← holding [u, ov] (eval i X.env)
      standAt p
      holding [u, ov, iv] (setItem ov iv u)
      release [u, ov, iv] []) := fun u => by
    cases i <;> first | rfl | cases oi
  have hs : swapsWithSole [.Subscript o i p] v pos.line X.env = pure false := by
    show swapsWith v (some (.Subscript o i p)) pos.line X.env = pure false
    exact ord_swap ov nl _ _
  have hw : swappedStores [.Subscript o i p] v X.env = pure none := by
    cases v <;> rfl
  refine sndS_of (ps_asg pv (pg_sub po pi set_list ha) hs hw rfl) (fun σ H env G ix S r S' D re g e q => ?_) fun σ H env G ix S k S' D re g e q => by
    simp only [ex] at e
    exact semX3 mv mo xv xo xi re g e (fun x y z => by
      split
      · split
        · split <;> first | exact nx_ok | exact nx_err
        · exact nx_err
      · exact nx_err) q
  simp only [ex] at e
  obtain ⟨x, e1, e⟩ := ok2 e
  obtain ⟨⟨y1, y2⟩, e2, e⟩ := ok2 e
  obtain ⟨⟨z1, z2⟩, e3, e⟩ := ok2 e
  simp only at e
  split at e
  · rename_i n k _he
    split at e
    · rename_i xs ex'
      split at e
      · rename_i j ej
        cases e
        refine mv.data re g (show ev gl cf c env S = .ok (x.1, x.2) from e1) fun v G1 ix1 H1 s1 g1 r1 => ?_
        refine mo σ H1 env G1 ix1 x.2 _ y2 _ (re.stp s1) g1 e2 fun u G2 ix2 H2 s2 g2 r2 => ?_
        refine mi σ H2 env G2 ix2 y2 _ z2 _ (re.stp (s1.trans s2)) g2 e3 fun u' G3 ix3 H3 s3 g3 r3 => ?_
        cases (show Rp X.K G3 ix3 u' (.int k) from r3)
        cases (show Rp X.K G2 ix2 u (.obj n) from r2) with
        | @obj a _ hn =>
          have hn3 := s3.i _ _ hn
          obtain ⟨a', vs, f1, f2, f3, f4⟩ := g3.cell n xs ex'
          rw [hn3] at f1; cases f1
          refine ⟨a, vs, k, j, rfl, rfl, f2, by rw [f4.length]; exact ej, ?_⟩
          have s := s1.trans (s2.trans s3)
          exact q σ G3 ix3 _ (s.trans (Stp.upd g3 hn3)) (g3.upd hn3 ex' (f4.set (r1.mono (s2.trans s3).g (s2.trans s3).i _ _) j)) (re.stp s)
      · cases e
    · cases e
  · cases e
theorem snd_ex {v : Expr} {c : E} {pos : Pos} (ov : ord v = true) (nl : isLc v = false) (hv : SndE gl cf X v c) : SndS gl cf X (.Expr v pos) (.ex c) := by
  obtain ⟨t, pe, _, m, mx⟩ := hv
  refine sndS_of (ps_expr pe (ord_swap ov nl _ _)) (fun σ H env G ix S r S' D re g e q => ?_) fun σ H env G ix S k S' D re g e q => by
    simp only [ex] at e
    exact semX1 mx re g e (fun _ => nx_ok) q
  simp only [ex] at e
  obtain ⟨y, e1, e⟩ := ok2 e
  cases e
  exact m.data re g (show ev gl cf c env S = .ok (y.1, y.2) from e1) fun v G' ix' H' s g' rv => q σ G' ix' H' s g' (re.stp s)
theorem snd_ret {v : Expr} {c : E} {pos : Pos} (hv : SndE gl cf X v c) : SndS gl cf X (.Return (some v) pos) (.ret c) := by
  obtain ⟨t, pe, _, m, mx⟩ := hv
  refine sndS_of (ps_ret pe) (fun σ H env G ix S r S' D re g e q => ?_) fun σ H env G ix S k S' D re g e q => by
    simp only [ex] at e
    exact semX1 mx re g e (fun _ => nx_ok) q
  simp only [ex] at e
  obtain ⟨y, e1, e⟩ := ok2 e
  cases e
  exact m σ H env G ix S y.1 y.2 _ re g e1 q
theorem snd_ifs {t : Expr} {a b : List Stmt} {c : E} {ca cb : Ss} {pos : Pos} (ht : SndT gl cf X t c) (ha : SndSs gl cf X a ca) (hb : SndSs gl cf X b cb) : SndS gl cf X (.If t a b pos) (.ife c ca cb) := by
  obtain ⟨tt, pt, mt, yt⟩ := ht
  obtain ⟨ta, pa, ma, xa⟩ := ha
  obtain ⟨tb, pb, mb, xb⟩ := hb
  refine ⟨_, ps_if pt pa pb, fun σ H env G ix S r S' D re g e q => ?_, fun σ H env G ix S k S' D re g e q => ?x, fun z => by cases z⟩
  case x =>
    simp only [ex] at e
    rcases exc2 e with e1 | ⟨⟨x1, x2⟩, e1, e2⟩
    · exact yt σ H env G ix S k S' _ re g e1 (q σ)
    rcases exc2 e2 with e3 | ⟨b, e3, e4⟩
    · exact absurd e3 (nx_toB k S')
    cases toB_ok e3
    refine mt σ H env G ix S b x2 _ re g e1 fun G1 ix1 H1 s1 g1 => ?_
    cases b with
    | true =>
      simp only [if_true] at e4 ⊢
      exact xa σ H1 env G1 ix1 x2 k S' D (re.stp s1) g1 e4 fun σ' => (q σ').from s1
    | false =>
      simp only [Bool.false_eq_true, if_false] at e4 ⊢
      exact xb σ H1 env G1 ix1 x2 k S' D (re.stp s1) g1 e4 fun σ' => (q σ').from s1
  simp only [ex] at e
  obtain ⟨⟨x1, x2⟩, e1, e⟩ := ok2 e
  obtain ⟨k, e2, e⟩ := ok2 e
  cases toB_ok e2
  refine mt σ H env G ix S k x2 _ re g e1 fun G1 ix1 H1 s1 g1 => ?_
  cases k with
  | true =>
    simp only [if_true] at e ⊢
    exact ma σ H1 env G1 ix1 x2 r S' D (re.stp s1) g1 e (q.from s1)
  | false =>
    simp only [Bool.false_eq_true, if_false] at e ⊢
    exact mb σ H1 env G1 ix1 x2 r S' D (re.stp s1) g1 e (q.from s1)
/-- either way out of a statement -/
def PostR (X : Cx) (G : Hp) (ix : List Addr) (H : Hp) (res : Res (Fl × Store)) (D : Ends) : Prop := match res with
  | .ok r => PostS X.K G ix H r.1 r.2 D
  | .exc k S' => ∀ σ', PostX X.K G ix H k S' (WE (Wof X) σ')
  | .err => False
theorem PostR.from {G : Hp} {ix : List Addr} {H : Hp} {res : Res (Fl × Store)} {D : Ends} (q : PostR X G ix H res D) {G1 : Hp} {ix1 : List Addr} {H1 : Hp} (s : Stp G ix H G1 ix1 H1) : PostR X G1 ix1 H1 res D := by
  cases res with
  | ok r => exact PostS.from q s
  | exc k S' => exact fun σ' => (q σ').from s
  | err => exact q
theorem semR {c : Ss} {t : TS} (m : SemSs gl cf X.K c t) (x : SemXSs gl cf X c t) {σ : L2.St} {H : Hp} {env : Env} {G : Hp} {ix : List Addr} {S : Store} {D : Ends} (r : EnvR X.K G ix σ env) (g : Good X.K G ix S H) (q : PostR X G ix H (exs gl cf c env S) D) : t D σ H := by
  cases e : exs gl cf c env S with
  | ok z => rw [e] at q; exact m σ H env G ix S z.1 z.2 D r g e q
  | exc k S' => rw [e] at q; exact x σ H env G ix S k S' D r g e q
  | err => rw [e] at q; exact q.elim
theorem for_sem {tg : Tg} {body : Ss} {gt : TG} {tb : TS} (mg : SemG X.K tg gt) (mb : SemSs gl cf X.K body tb) (xb : SemXSs gl cf X body tb) {J : It} {ds : List D} {a b : D} {S0 : Store} {G1 : Hp} {ix1 : List Addr} {H1 : Hp} (w1 : Wlk X.K G1 ix1 S0 a b J ds) {res : Res (Fl × Store)} {D : Ends} (q : PostR X G1 ix1 H1 res D)
    {i : Nat} {σ2 : L2.St} {H2 : Hp} {G2 : Hp} {ix2 : List Addr} {S2 : Store} {env2 : Env} (hi2 : i ≤ ds.length) (s2 : Stp G1 ix1 H1 G2 ix2 H2) (g2 : Good X.K G2 ix2 S2 H2) (r2 : EnvR X.K G2 ix2 σ2 env2) (k1 : kept a S0 S2 = true) (k2 : kept b S0 S2 = true)
    (e4 : loopF (fun S' => kept a S0 S' && kept b S0 S') (fun d env' S' => (setTg tg d env').bind fun env2 => exs gl cf body env2 S') (ds.drop i) env2 S2 = res) {P : L2.St → Hp → Prop}
    (hP : ∀ σ3 H3 G3 ix3 S3 env3, i < ds.length → Stp G1 ix1 H1 G3 ix3 H3 → Good X.K G3 ix3 S3 H3 → EnvR X.K G3 ix3 σ3 env3 → kept a S0 S3 = true → kept b S0 S3 = true → loopF (fun S' => kept a S0 S' && kept b S0 S') (fun d env' S' => (setTg tg d env').bind fun env2 => exs gl cf body env2 S') (ds.drop (i + 1)) env3 S3 = res → P σ3 H3) :
    (J.stop i H2 ∧ D.nx σ2 H2) ∨ (J.go i H2 ∧ ∀ v H3, J.yld i H2 v H3 → gt v σ2 H3 fun σ3 H3 => tb { nx := P, rt := D.rt, bk := D.nx, ct := P } σ3 H3) := by
  by_cases hlt : i < ds.length
  · refine .inr ⟨w1.go i G2 ix2 S2 H2 s2.g s2.i g2 k1 k2 hlt, fun v H3 hy => ?_⟩
    obtain ⟨G3, d, s3, g3, hd, rv⟩ := w1.yld i G2 ix2 S2 H2 v H3 s2.g s2.i g2 k1 k2 hlt hy
    have ed : ds.drop i = d :: ds.drop (i + 1) := by
      rw [List.drop_eq_getElem_cons hlt]
      congr 1
      exact (List.getElem?_eq_some_iff.mp hd).2
    rw [ed] at e4
    simp only [loopF] at e4
    cases f2 : setTg tg d env2 with
    | err =>
      rw [f2] at e4
      subst e4
      exact q.elim
    | exc k S' => exact absurd f2 (nx_setTg k S')
    | ok env3 =>
      rw [f2] at e4
      simp only [Res.bind_ok] at e4
      refine mg v d σ2 H3 env2 env3 G3 ix2 S2 _ (r2.stp s3) g3 rv f2 fun σ3 r3 _ => ?_
      refine semR mb xb r3 g3 ?_
      cases f3 : exs gl cf body env3 S2 with
      | err =>
        rw [f3] at e4
        subst e4
        exact q.elim
      | exc k S' =>
        rw [f3] at e4
        subst e4
        exact fun σ' => (q σ').from (s2.trans s3)
      | ok t =>
        obtain ⟨t1, t2⟩ := t
        rw [f3] at e4
        simp only [Res.bind_ok] at e4
        cases t1 with
        | nx env4 =>
          dsimp only [guard'] at e4
          split at e4
          · rename_i ck
            simp only [Bool.and_eq_true] at ck
            exact fun σ4 G4 ix4 H4 s4 g4 r4 => hP σ4 H4 G4 ix4 t2 env4 hlt (s2.trans (s3.trans s4)) g4 r4 ck.1 ck.2 e4
          · subst e4
            exact q.elim
        | cnt env4 =>
          dsimp only [guard'] at e4
          split at e4
          · rename_i ck
            simp only [Bool.and_eq_true] at ck
            exact fun σ4 G4 ix4 H4 s4 g4 r4 => hP σ4 H4 G4 ix4 t2 env4 hlt (s2.trans (s3.trans s4)) g4 r4 ck.1 ck.2 e4
          · subst e4
            exact q.elim
        | brk env4 =>
          subst e4
          exact fun σ4 G4 ix4 H4 s4 g4 r4 => q σ4 G4 ix4 H4 (s2.trans (s3.trans s4)) g4 r4
        | ret w =>
          subst e4
          exact PostE.from q (s2.trans s3)
  · have e' : i = ds.length := by omega
    subst e'
    rw [List.drop_length] at e4
    simp only [loopF] at e4
    subst e4
    exact .inl ⟨w1.stop G2 ix2 S2 H2 s2.g s2.i g2 k1 k2, q σ2 G2 ix2 H2 s2 g2 r2⟩
theorem snd_for (C : Ctx nm gl cf X) (hp : PassesOwn (model X.prog X.w) X.A X.env X.xe) {target iter : Expr} {xs : List Stmt} {tg : Tg} {k : Ik} {a b : E} {body : Ss} {pos : Pos} (ht : ∃ g, PG X target g ∧ SemG X.K tg g) (oi : ord iter = true) (hi : SndI gl cf X target iter k a b) (hb : SndSs gl cf X xs body) :
    SndS gl cf X (.For target iter xs [] pos) (.forr tg k a b body) := by
  obtain ⟨gt, pg, mg⟩ := ht
  obtain ⟨wi, pi, mi, xi⟩ := hi
  obtain ⟨tb, pb, mb, xb⟩ := hb
  have go : ∀ {σ : L2.St} {H : Hp} {env : Env} {G : Hp} {ix : List Addr} {S : Store} {D : Ends} {x y : W × Store} {ds : List Nl.D} {res : Res (Fl × Store)}, EnvR X.K G ix σ env → Good X.K G ix S H → ev gl cf a env S = .ok x → ev gl cf b env x.2 = .ok y → items k (pk y.2 x.1.toD) (pk y.2 y.1.toD) = .ok ds →
      loopF (fun S' => kept x.1.toD y.2 S' && kept y.1.toD y.2 S') (fun d env' S' => (setTg tg d env').bind fun env2 => exs gl cf body env2 S') ds env y.2 = res → PostR X G ix H res D → tFor wi gt tb D σ H := fun {σ H env G ix S D x y ds res} re g e1 e2 e3 e q => by
    refine mi σ H env G ix S x y ds _ re g e1 e2 e3 fun J G1 ix1 H1 s1 g1 w1 => ?_
    refine ⟨fun i m σ2 H2 => m = ds.length - i ∧ i ≤ ds.length ∧ ∃ G2 ix2 S2 env2, Stp G1 ix1 H1 G2 ix2 H2 ∧ Good X.K G2 ix2 S2 H2 ∧ EnvR X.K G2 ix2 σ2 env2 ∧ kept x.1.toD y.2 S2 = true ∧ kept y.1.toD y.2 S2 = true ∧
        loopF (fun S' => kept x.1.toD y.2 S' && kept y.1.toD y.2 S') (fun d env' S' => (setTg tg d env').bind fun env2 => exs gl cf body env2 S') (ds.drop i) env2 S2 = res,
      ⟨ds.length, rfl, Nat.zero_le _, G1, ix1, y.2, env, Stp.refl, g1, re.stp s1, kept_refl _ _, kept_refl _ _, e⟩, ?_⟩
    rintro i m σ2 H2 ⟨rfl, hi2, G2, ix2, S2, env2, s2, g2, r2, k1, k2, e4⟩
    rcases for_sem (P := fun σ3 H3 => i < ds.length ∧ ∃ G3 ix3 S3 env3, Stp G1 ix1 H1 G3 ix3 H3 ∧ Good X.K G3 ix3 S3 H3 ∧ EnvR X.K G3 ix3 σ3 env3 ∧ kept x.1.toD y.2 S3 = true ∧ kept y.1.toD y.2 S3 = true ∧
        loopF (fun S' => kept x.1.toD y.2 S' && kept y.1.toD y.2 S') (fun d env' S' => (setTg tg d env').bind fun env2 => exs gl cf body env2 S') (ds.drop (i + 1)) env3 S3 = res) mg mb xb w1 (q.from s1) hi2 s2 g2 r2 k1 k2 e4 (fun σ3 H3 G3 ix3 S3 env3 h1 h2 h3 h4 h5 h6 h7 => ⟨h1, G3, ix3, S3, env3, h2, h3, h4, h5, h6, h7⟩) with h | ⟨h1, h2⟩
    · exact .inl h
    · exact .inr ⟨h1, _, fun σ' H' h => ⟨ds.length - (i + 1), by have := h.1; omega, rfl, h.1, h.2⟩, h2⟩
  refine ⟨_, ps_for hp C.calm pi pg pb (fun x => ord_fold oi x), fun σ H env G ix S r S' D re g e q => ?_, fun σ H env G ix S k' S' D re g e q => ?_, fun z => by cases z⟩
  · simp only [ex] at e
    obtain ⟨x, e1, e⟩ := ok2 e
    obtain ⟨y, e2, e⟩ := ok2 e
    obtain ⟨ds, e3, e⟩ := ok2 e
    exact go re g e1 e2 e3 e q
  · simp only [ex] at e
    rcases exc2 e with e1 | ⟨x, e1, ea⟩
    · exact xi σ H env G ix S k' S' _ re g (.inl e1) (q σ)
    rcases exc2 ea with e2 | ⟨y, e2, eb⟩
    · exact xi σ H env G ix S k' S' _ re g (.inr ⟨x, e1, e2⟩) (q σ)
    rcases exc2 eb with e3 | ⟨ds, e3, ec⟩
    · exact absurd e3 (nx_items k' S')
    exact go re g e1 e2 e3 ec q
theorem snd_while (hp : PassesOwn (model X.prog X.w) X.A X.env X.xe) {t : Expr} {xs : List Stmt} {c : E} {body : Ss} {fuel : Nat} {pos : Pos} (ht : SndT gl cf X t c) (hb : SndSs gl cf X xs body) : SndS gl cf X (.While t xs [] pos) (.whl fuel c body) := by
  obtain ⟨tt, pt, mt, yt⟩ := ht
  obtain ⟨tb, pb, mb, xb⟩ := hb
  have go : ∀ {σ : L2.St} {H : Hp} {env : Env} {G : Hp} {ix : List Addr} {S : Store} {D : Ends} {res : Res (Fl × Store)}, EnvR X.K G ix σ env → Good X.K G ix S H → loopW (fun env' S' => (ev gl cf c env' S').bind fun x => (toB x.1).bind fun r => .ok (r, x.2)) (fun env' S' => exs gl cf body env' S') fuel env S = res → PostR X G ix H res D → tWhile tt tb D σ H := fun {σ H env G ix S D res} re g e q => by
    refine ⟨fun m σ2 H2 => ∃ G2 ix2 S2 env2, Stp G ix H G2 ix2 H2 ∧ Good X.K G2 ix2 S2 H2 ∧ EnvR X.K G2 ix2 σ2 env2 ∧
      loopW (fun env' S' => (ev gl cf c env' S').bind fun x => (toB x.1).bind fun r => .ok (r, x.2)) (fun env' S' => exs gl cf body env' S') m env2 S2 = res, ⟨fuel, G, ix, S, env, Stp.refl, g, re, e⟩, ?_⟩
    rintro m σ2 H2 ⟨G2, ix2, S2, env2, s2, g2, r2, e2⟩
    cases m with
    | zero =>
      simp only [loopW] at e2
      subst e2
      exact q.elim
    | succ n =>
      simp only [loopW] at e2
      cases f1 : ev gl cf c env2 S2 with
      | err =>
        rw [f1] at e2
        subst e2
        exact q.elim
      | exc k S' =>
        rw [f1] at e2
        simp only [Res.bind_exc] at e2
        subst e2
        exact yt σ2 H2 env2 G2 ix2 S2 k S' _ r2 g2 f1 ((q σ2).from s2)
      | ok y =>
        obtain ⟨y1, y2⟩ := y
        rw [f1] at e2
        simp only [Res.bind_ok] at e2
        cases f4 : toB y1 with
        | err =>
          rw [f4] at e2
          subst e2
          exact q.elim
        | exc k S' => exact absurd f4 (nx_toB k S')
        | ok b =>
          rw [f4] at e2
          simp only [Res.bind_ok] at e2
          cases toB_ok f4
          refine mt σ2 H2 env2 G2 ix2 S2 b y2 _ r2 g2 f1 fun G3 ix3 H3 s3 g3 => ?_
          cases b with
          | false =>
            simp only [Bool.false_eq_true, if_false] at e2 ⊢
            subst e2
            exact q σ2 G3 ix3 H3 (s2.trans s3) g3 (r2.stp s3)
          | true =>
            simp only [if_true] at e2 ⊢
            refine ⟨fun σ4 H4 => ∃ G2 ix2 S2 env2, Stp G ix H G2 ix2 H4 ∧ Good X.K G2 ix2 S2 H4 ∧ EnvR X.K G2 ix2 σ4 env2 ∧
              loopW (fun env' S' => (ev gl cf c env' S').bind fun x => (toB x.1).bind fun r => .ok (r, x.2)) (fun env' S' => exs gl cf body env' S') n env2 S2 = res, fun σ' H' h => ⟨n, Nat.lt_succ_self _, h⟩, ?_⟩
            refine semR mb xb (r2.stp s3) g3 ?_
            cases f6 : exs gl cf body env2 y2 with
            | err =>
              rw [f6] at e2
              subst e2
              exact q.elim
            | exc k S' =>
              rw [f6] at e2
              subst e2
              exact fun σ' => (q σ').from (s2.trans s3)
            | ok t =>
              obtain ⟨t1, t2⟩ := t
              rw [f6] at e2
              simp only [Res.bind_ok] at e2
              cases t1 with
              | nx env4 => exact fun σ4 G4 ix4 H4 s4 g4 r4 => ⟨G4, ix4, t2, env4, s2.trans (s3.trans s4), g4, r4, e2⟩
              | cnt env4 => exact fun σ4 G4 ix4 H4 s4 g4 r4 => ⟨G4, ix4, t2, env4, s2.trans (s3.trans s4), g4, r4, e2⟩
              | brk env4 =>
                subst e2
                exact fun σ4 G4 ix4 H4 s4 g4 r4 => q σ4 G4 ix4 H4 (s2.trans (s3.trans s4)) g4 r4
              | ret w =>
                subst e2
                exact PostE.from q (s2.trans s3)
  refine ⟨_, ps_while hp pt pb, fun σ H env G ix S r S' D re g e q => ?_, fun σ H env G ix S k S' D re g e q => ?_, fun z => by cases z⟩
  · simp only [ex] at e
    exact go re g e q
  · simp only [ex] at e
    exact go re g e q
end
end Nl

/-! Raising, catching, storing into fields and dicts; all statements. -/
namespace Nl
open PySem L2
section
variable {nm : Nms} {gl : Nat → Option D} {cf : Cf} {X : Cx}
/-- X() of a refusal's class -/
theorem pmk_none {C : Addr} {x : Str} {p pos : Pos} (q : PySem.W.excIn X.K C He.veBase "ValueError.__new__" = true) (gC : X.mg x = some (.ref C)) (kC : PySem.W.keepIn X.K (.ref C) = true) (r : Raises X (.ref C)) (hg : Gl X x) (hdb : (x == ("__debug__" : Str)) = false) : PMk X (.Call (.Name x p) [] [] pos) (fun _ H Q => Q (.ref C) none H) := fun pins s σ H Q I h =>
  wpAny_Call_Name_kw (ld_glob I hg gC (PySem.W.callWith_K0 I.kIn kC (by
    obtain ⟨bm, N, nm, qn, bs, hdct, sn, sub, ab, col, dd, k0, k1, k2, k3, k5, mN, hC, hN, hni, T⟩ := exc_obj I.kIn q
    exact wpAny_call_exc_subT PySem.F.excBase_ValueError T hC hN hni (fun h' e hm => mk_of I hm r h (I.hok.gone hm.new)) (by show 0 ≤ sizeLine; omega))) hdb)
theorem snd_raise (C : Ctx nm gl cf X) {k : Nat} {p p2 pos : Pos} (hk : k ∈ nm.xr) (hg : Gl X (Str.ofString (exName k))) (hn : okN (Str.ofString (exName k)) = true) : SndS gl cf X (.Raise (some (.Call (.Name (Str.ofString (exName k)) p) [] [] p2)) none pos) (.raise k) := by
  obtain ⟨n1, _, _⟩ := okN_ok hn
  obtain ⟨e1, e2, e3, e4⟩ := C.xc.exc k hk
  refine ⟨_, ps_raise C.calm (wof_takes X) (pmk_none e1 (C.xc.mgr k hk) e2 (raises_own e3 e4) hg n1), fun σ H env G ix S r S' D re g e q => ?_, fun σ H env G ix S k' S' D re g e q => ?_, fun z => by cases z⟩
  · simp only [ex] at e
    cases e
  · simp only [ex] at e
    cases e
    exact q σ G ix H Stp.refl g
theorem snd_setfld (C : Ctx nm gl cf X) {c f : Nat} {o v : Expr} {co e : E} {p pos : Pos} (hc : c ∈ nm.cl) (ov : ord v = true) (nl : isLc v = false) (ho : SndE gl cf X o co) (hv : SndE gl cf X v e) : SndS gl cf X (.Assign [.Attribute o (Str.ofString (fdName f)) p] v pos) (.setfld c co f e) := by
  obtain ⟨to, po, _, mo, xo⟩ := ho
  obtain ⟨tv, pv, _, mv, xv⟩ := hv
  refine sndS_of (ps_fld po pv (ord_swap ov nl _ _)) (fun σ H env G ix S r S' D re g he q => ?_) fun σ H env G ix S k S' D re g he q => by
    simp only [ex] at he
    exact semX2 mv xv xo re g he (fun x y => by
      split
      · split
        · exact nx_guard nx_ok
        · exact nx_err
      · exact nx_err) q
  simp only [ex] at he
  obtain ⟨x, e1, e2⟩ := ok2 he
  obtain ⟨⟨y1, y2⟩, e3, e4⟩ := ok2 e2
  clear he e2
  dsimp only at e4
  split at e4
  · rename_i n
    split at e4
    · rename_i c' fs hcell
      obtain ⟨hk, e5⟩ := guard_ok e4
      cases e5
      simp only [Bool.and_eq_true, decide_eq_true_eq, beq_iff_eq] at hk
      obtain ⟨rfl, hf, hl⟩ := hk
      refine mv.data re g (show ev gl cf e env S = .ok (x.1, x.2) from e1) fun v1 G1 ix1 H1 s1 g1 r1 => mo σ H1 env G1 ix1 x.2 _ _ _ (re.stp s1) g1 e3 fun u G2 ix2 H2 s2 g2 r2 => ?_
      cases (show Rp X.K G2 ix2 u (.obj n) from r2) with
      | @obj a _ hn =>
        obtain ⟨a', f1, f2, dx, us, f3, f4⟩ := g2.cel n _ hcell (by intro z; cases z)
        rw [hn] at f1; cases f1
        obtain ⟨C1, C2⟩ := C.cl c' hc
        have s := s1.trans s2
        refine ⟨a, _, dx, us, rfl, f3, C1, C2 f hf, by rw [f4.length]; omega, ?_⟩
        exact q σ G2 ix2 _ (s.trans (Stp.upd g2 hn)) (g2.updC hn hcell (by intro z; cases z) (by intro z; cases z) ⟨dx, _, rfl, putF_ok hf (r1.mono s2.g s2.i _ _) f4⟩) (re.stp s)
    · cases e4
  · cases e4
theorem snd_dput (C : Ctx nm gl cf X) {o i v : Expr} {co ci e : E} {p pos : Pos} (oi : ord i = true) (ov : ord v = true) (nl : isLc v = false) (ho : SndE gl cf X o co) (hi : SndE gl cf X i ci) (hv : SndE gl cf X v e) : SndS gl cf X (.Assign [.Subscript o i p] v pos) (.dput co ci e) := by
  obtain ⟨to, po, _, mo, xo⟩ := ho
  obtain ⟨ti, pi, _, mi, xi⟩ := hi
  obtain ⟨tv, pv, _, mv, xv⟩ := hv
  have hu : X.A.units + 1 < cLine := by have := C.hu; omega
  refine sndS_of (ps_dput hu po pi pv (ord_swap ov nl _ _)) (fun σ H env G ix S r S' D re g he q => ?_) fun σ H env G ix S k S' D re g he q => by
    simp only [ex] at he
    exact semX3 mv mo xv xo xi re g he (fun x y z => by
      split
      · split <;> first | exact nx_ok | exact nx_err
      · exact nx_err) q
  simp only [ex] at he
  obtain ⟨x, e1, e2⟩ := ok2 he
  obtain ⟨⟨y1, y2⟩, e3, e4⟩ := ok2 e2
  obtain ⟨z, e5, e6⟩ := ok2 e4
  clear he e2 e4
  dsimp only at e6 e5
  split at e6
  · rename_i n
    split at e6
    · rename_i c' hcell
      cases e6
      obtain ⟨c, h1, h2⟩ := Option.bind_eq_some_iff.mp hcell
      refine mv.data re g (show ev gl cf e env S = .ok (x.1, x.2) from e1) fun v1 G1 ix1 H1 s1 g1 r1 => mo σ H1 env G1 ix1 x.2 _ _ _ (re.stp s1) g1 e3 fun u G2 ix2 H2 s2 g2 r2 => mi.data (re.stp (s1.trans s2)) g2 (show ev gl cf ci env y2 = .ok (z.1, z.2) from e5) fun w G3 ix3 H3 s3 g3 r3 => ?_
      cases (show Rp X.K G2 ix2 u (.obj n) from r2) with
      | @obj a _ hn =>
        have hn3 := s3.i _ _ hn
        have s := s1.trans (s2.trans s3)
        obtain ⟨o', d1, d2⟩ := dPut_ok g3 hn3 h1 r3 (r1.mono (s2.trans s3).g (s2.trans s3).i _ _) h2
        exact ⟨a, _, rfl, d1, q σ G3 ix3 _ (s.trans (Stp.upd g3 hn3)) d2 (re.stp s)⟩
    · cases e6
  · cases e6
/-- where a def's statements run -/
structure CtxS (nm : Nms) (gl : Nat → Option D) (cf : Cf) (X : Cx) : Prop extends Ctx nm gl cf X where
  fnT : ∀ x, X.fn x = true
  pass : PassesOwn (model X.prog X.w) X.A X.env X.xe
  stk : X.stack = X.env :: X.outer
  frm : X.env.frame = some X.env.locals
  exn : X.ex = []
theorem CtxS.loc (C : CtxS nm gl cf X) : ∀ x, Nl.loc X.env.scope x = true → Loc X.env.scope x ∧ (X.fn x = true ∨ X.env.scope.names.lookup x = some .local) := fun x h => ⟨loc_ok h, .inl (C.fnT x)⟩
theorem CtxS.tr (C : CtxS nm gl cf X) {pn : List (Addr × Obj)} {xe : Value → Shared → Prop} (hp : PassesOwn (model X.prog X.w) X.A X.env xe) : CtxS nm gl cf (X.tr pn xe) := ⟨⟨C.nd, C.calm, C.hu, C.bi, C.fn, C.mt, C.mkr, C.cl, C.xc, C.gl⟩, C.fnT, hp, C.stk, C.frm, C.exn⟩
/-- the reading of a try's body, whatever the wish -/
def tSx (gl : Nat → Option D) (cf : Cf) (K : PySem.W.Frag) (s : S) (W : WX) : TS := fun D σ H => ∃ env G ix S, EnvR K G ix σ env ∧ Good K G ix S H ∧ ((∃ r S', ex gl cf s env S = .ok (r, S') ∧ PostS K G ix H r S' D) ∨ ∃ k S', ex gl cf s env S = .exc k S' ∧ PostX K G ix H k S' (WE W σ))
theorem pss_body {s : S} {st : Stmt} (hs : simpS s = true) {W : WX} (tk : Takes X W) (h : SndS gl cf X st s) : PSs X [st] (tSx gl cf X.K s W) := by
  obtain ⟨t, p, m, x, x1⟩ := h
  exact ⟨fun pins z σ H D I hh => (pss_one p).run pins z σ H D I (by
    obtain ⟨env, G, ix, S, r, g, ⟨r1, S', e, q⟩ | ⟨k, S', e, q⟩⟩ := hh
    · exact m σ H env G ix S r1 S' D r g e q
    · exact x1 hs σ H env G ix S k S' D r g e fun G' ix' H' s' g' => wof_of tk (q G' ix' H' s' g'))⟩
theorem names_of (C : Ctx nm gl cf X) {c : Nat} (hc : c ∈ nm.xc) (hg : Gl X (Str.ofString (exName c))) (hn : okN (Str.ofString (exName c)) = true) : Names X (Str.ofString (exName c)) (.ref (clsA X.K (exName c))) := ⟨hg, (okN_ok hn).1, .inl (C.xc.mg c hc)⟩
theorem env_keep {α : Type} (env : List α) (i j : Nat) (x y z : α) (h : i ≠ j) : ((env.set i x).set j y).set i z = (env.set i z).set j y := by
  rw [List.set_comm _ _ h, List.set_set, List.set_comm _ _ (Ne.symm h)]
theorem snd_triA (C : CtxS nm gl cf X) {al : List Nat} {s : S} {c i j : Nat} {b : Stmt} {n y : Str} {np py pz pa pos pos' : Pos} (hal : ∀ k ∈ al, k ∈ nm.xr) (hc : c ∈ nm.xc) (hg : Gl X (Str.ofString (exName c))) (hn : okN (Str.ofString (exName c)) = true) (hi : X.N[i]? = some n) (hj : X.N[j]? = some y) (hij : i ≠ j) (hln : X.env.scope.names.lookup n = some .local) (hly : Nl.loc X.env.scope y = true) (hn2 : okN n = true) (hs : simpS s = true)
    (hb : ∀ (pn : List (Addr × Obj)) (xe : Value → Shared → Prop), PassesOwn (model X.prog X.w) X.A X.env xe → SndS gl cf (X.tr pn xe) b s) : SndS gl cf X (.Try [b] [.ExceptHandler (some (.Name (Str.ofString (exName c)) np)) (some n) [.Assign [.Name y py] (.Name n pz) pa] pos'] [] [] pos) (.triA al s c i j) := by
  obtain ⟨m1, m2, _⟩ := okN_ok hn2
  have p := ps_try_keep (X := X) (i := i) (j := j) (np := np) (py := py) (pz := pz) (pa := pa) (pos := pos) (pos' := pos') (body := [b]) (tb := tSx gl cf X.K s) (Wout := Wof X) C.stk C.frm C.exn C.nd hi hj hln (loc_ok hly) C.fnT m1 m2 (List.getElem?_eq_some_iff.mp hi).1 (names_of C.toCtx hc hg hn) (wof_takes X) (fun W pn xe tk hp => pss_body hs tk (hb pn xe hp))
  refine ⟨_, p, fun σ H env G ix S r S' D re g e q => ?_, fun σ H env G ix S k S' D re g e q => ?_, fun z => by cases z⟩
  · simp only [ex] at e
    refine ⟨env, G, ix, S, re, g, ?_⟩
    cases e1 : ex gl cf s env S with
    | ok z => rw [e1] at e; cases e; exact .inl ⟨r, S', rfl, q⟩
    | err => rw [e1] at e; cases e
    | exc k S1 =>
      rw [e1] at e
      obtain ⟨hk, e2⟩ := guard_ok e
      have hk : k ∈ nm.xr := hal k (by simpa using hk)
      split at e2
      · rename_i hsub
        cases e2
        refine .inr ⟨k, _, rfl, fun G' ix' H' s' g' => ⟨true, by rw [C.xc.exm k hk c hc, hsub], fun _ => ⟨rfl, fun a na => ?_⟩, fun z => by cases z⟩⟩
        have r1 : EnvR X.K (L2.upd G' a (EvO (.ref (clsA X.K (exName k))) a)) ix' σ env := (re.stp s').mono (Le.upd (g'.notG na)) (Ixs.refl _)
        have rp : Rp X.K (L2.upd G' a (EvO (.ref (clsA X.K (exName k))) a)) ix' (.ref a) (.ex k) := .ex upd_same
        have r2 := ((r1.set rp i).set rp j).none i
        rw [env_keep env i j _ _ _ hij] at r2
        exact q _ _ ix' _ (s'.trans (Stp.newG g' na)) (g'.newG na) r2
      · cases e2
  · simp only [ex] at e
    refine ⟨env, G, ix, S, re, g, ?_⟩
    cases e1 : ex gl cf s env S with
    | ok z => rw [e1] at e; cases e
    | err => rw [e1] at e; cases e
    | exc k1 S1 =>
      rw [e1] at e
      dsimp only [guard'] at e
      split at e
      · rename_i hk
        have hk : k1 ∈ nm.xr := hal k1 (by simpa using hk)
        split at e
        · cases e
        · rename_i hsub
          cases e
          refine .inr ⟨k, S', rfl, fun G' ix' H' s' g' => ⟨false, by rw [C.xc.exm k hk c hc]; simpa using hsub, fun z => (by cases z), fun _ => q σ G' ix' H' s' g'⟩⟩
      · cases e
theorem cst_pe {e : E} {v : Expr} {N : List Str} {sc : Scope} (h : cstE e = true) (hv : chk nm N e sc v = true) : ∃ w d, (∀ X : Cx, PE X v (tC w)) ∧ (∀ env S, ev gl cf e env S = .ok (.d d, S)) ∧ ∀ (K : PySem.W.Frag) (G : Hp) (ix : List Addr), Rp K G ix w d := by
  cases e <;> simp only [cstE] at h <;> first | (cases h; done) | skip
  · unfold chk at hv
    split at hv
    · exact ⟨.non, .non, fun X => pe_non, fun _ _ => rfl, fun _ _ _ => .non⟩
    · cases hv
  · rename_i b
    unfold chk at hv
    split at hv
    · cases beq_iff_eq.mp hv
      exact ⟨.bl b, .bl b, fun X => pe_bl, fun _ _ => rfl, fun _ _ _ => .bl b⟩
    · cases hv
  · rename_i i
    unfold chk at hv
    split at hv
    · cases of_decide_eq_true hv
      exact ⟨.int i, .int i, fun X => pe_int, fun _ _ => rfl, fun _ _ _ => .int i⟩
    · cases hv
  · rename_i s
    unfold chk at hv
    split at hv
    · cases of_decide_eq_true hv
      exact ⟨.str (toS s), .str s, fun X => pe_str, fun _ _ => rfl, fun _ _ _ => .str s⟩
    · cases hv
theorem snd_triC (C : CtxS nm gl cf X) {al : List Nat} {s : S} {c : Nat} {e : E} {b : Stmt} {v : Expr} {np pa pos pos' : Pos} (hal : ∀ k ∈ al, k ∈ nm.xr) (hc : c ∈ nm.xc) (hg : Gl X (Str.ofString (exName c))) (hn : okN (Str.ofString (exName c)) = true) (hs : simpS s = true) (he : cstE e = true) (hv : chk nm X.N e X.env.scope v = true)
    (hb : ∀ (pn : List (Addr × Obj)) (xe : Value → Shared → Prop), PassesOwn (model X.prog X.w) X.A X.env xe → SndS gl cf (X.tr pn xe) b s) : SndS gl cf X (.Try [b] [.ExceptHandler (some (.Name (Str.ofString (exName c)) np)) none [.Return (some v) pa] pos'] [] [] pos) (.triC al s c e) := by
  obtain ⟨w, d, pw, ew, rw'⟩ := cst_pe (gl := gl) (cf := cf) he hv
  have p := ps_try_only (X := X) (np := np) (pos := pos) (pos' := pos') (body := [b]) (b₀ := .Return (some v) pa) (suite := []) (tb := tSx gl cf X.K s) (ts := fun _ _ _ D σ H => tC w σ H D.rt) (Wout := Wof X) C.stk C.frm (names_of C.toCtx hc hg hn) (wof_takes X) (fun W pn xe tk hp => pss_body hs tk (hb pn xe hp)) (fun a oe cls d pn _ _ => pss_one (ps_ret (pw _)))
  refine ⟨_, p, fun σ H env G ix S r S' D re g e q => ?_, fun σ H env G ix S k S' D re g e q => ?_, fun z => by cases z⟩
  · simp only [ex] at e
    refine ⟨env, G, ix, S, re, g, ?_⟩
    cases e1 : ex gl cf s env S with
    | ok z => rw [e1] at e; cases e; exact .inl ⟨r, S', rfl, q⟩
    | err => rw [e1] at e; cases e
    | exc k S1 =>
      rw [e1] at e
      obtain ⟨hk, e2⟩ := guard_ok e
      have hk : k ∈ nm.xr := hal k (by simpa using hk)
      split at e2
      · rename_i hsub
        rw [ew] at e2
        cases e2
        refine .inr ⟨k, _, rfl, fun G' ix' H' s' g' => ⟨true, by rw [C.xc.exm k hk c hc, hsub], fun _ a na => ?_, fun z => by cases z⟩⟩
        exact q w G' ix' H' s' g' (rw' _ _ _)
      · cases e2
  · simp only [ex] at e
    refine ⟨env, G, ix, S, re, g, ?_⟩
    cases e1 : ex gl cf s env S with
    | ok z => rw [e1] at e; cases e
    | err => rw [e1] at e; cases e
    | exc k1 S1 =>
      rw [e1] at e
      dsimp only [guard'] at e
      split at e
      · rename_i hk
        have hk : k1 ∈ nm.xr := hal k1 (by simpa using hk)
        split at e
        · rw [ew] at e
          cases e
        · rename_i hsub
          cases e
          refine .inr ⟨k, S', rfl, fun G' ix' H' s' g' => ⟨false, by rw [C.xc.exm k hk c hc]; simpa using hsub, fun z => (by cases z), fun _ => q σ G' ix' H' s' g'⟩⟩
      · cases e
theorem tup_of {N : List Str} {sc : Scope} {is : List Nat} {t : Expr} (h : chkTg N sc (.t is) t = true) : isTupX t = true := by
  cases t <;> first | rfl | (simp [chkTg] at h)
mutual
theorem all_S : ∀ (c : S) (X : Cx), CtxS nm gl cf X → ∀ (st : Stmt), chkS nm X.N X.env.scope c st = true → SndS gl cf X st c
  | .asg tg e, X, C, st, h => by
    unfold chkS at h
    split at h
    · split at h
      · simp only [Bool.and_eq_true, decide_eq_true_eq] at h
        exact snd_asgN C.toCtx C.fnT h.1 (loc_ok h.2.1) (all_E e X _ C.toCtx h.2.2).v
      · simp only [Bool.and_eq_true, Bool.not_eq_true'] at h
        obtain ⟨h1, h2, h3, h4⟩ := h
        exact snd_asgT C.toCtx (snd_tg (nm := nm) (gl := gl) (cf := cf) C.toCtx C.loc h1) (tup_of h1) (chk_ord _ _ _ h4) h2 h3 (all_E e X _ C.toCtx h4).v
      · cases h
    · cases h
  | .setix o i e, X, C, st, h => by
    unfold chkS at h
    split at h
    · simp only [Bool.and_eq_true, Bool.not_eq_true'] at h
      obtain ⟨h1, h2, h3, h4⟩ := h
      exact snd_setix C.toCtx (chk_ord _ _ _ h2) (chk_ord _ _ _ h4) h3 (all_E o X _ C.toCtx h1).v (all_E i X _ C.toCtx h2).v (all_E e X _ C.toCtx h4).v
    · cases h
  | .ex e, X, C, st, h => by
    unfold chkS at h
    split at h
    · simp only [Bool.and_eq_true, Bool.not_eq_true'] at h
      exact snd_ex (chk_ord _ _ _ h.2) h.1 (all_E e X _ C.toCtx h.2).v
    · cases h
  | .ret e, X, C, st, h => by
    unfold chkS at h
    split at h
    · exact snd_ret (all_E e X _ C.toCtx h).v
    · cases h
  | .retN, X, C, st, h => by
    unfold chkS at h
    split at h
    · exact sndS_of ps_retN (fun σ H env G ix S r S' D re g e q => by
        simp only [ex] at e
        cases e
        exact q.same g .non) fun σ H env G ix S k S' D re g e q => by
        simp only [ex] at e
        cases e
    · cases h
  | .ife c a b, X, C, st, h => by
    unfold chkS at h
    split at h
    · simp only [Bool.and_eq_true] at h
      obtain ⟨h1, h2, h3, h4⟩ := h
      exact snd_ifs ((all_E c X _ C.toCtx h2).t h1) (all_Ss a X C _ h3) (all_Ss b X C _ h4)
    · cases h
  | .forr tg k a b body, X, C, st, h => by
    unfold chkS at h
    split at h
    · rw [Bool.and_eq_true, Bool.and_eq_true] at h
      obtain ⟨h1, h2, h3⟩ := h
      exact snd_for C.toCtx C.pass (snd_tg (nm := nm) (gl := gl) (cf := cf) C.toCtx C.loc h1) (ord_it h2) (snd_it C.toCtx (fun e he => all_E a X e C.toCtx he) (fun e he => all_E b X e C.toCtx he) h2) (all_Ss body X C _ h3)
    · cases h
  | .whl fuel c body, X, C, st, h => by
    unfold chkS at h
    split at h
    · simp only [Bool.and_eq_true] at h
      obtain ⟨h1, h2, h3⟩ := h
      exact snd_while C.pass ((all_E c X _ C.toCtx h2).t h1) (all_Ss body X C _ h3)
    · cases h
  | .pass, X, C, st, h => by
    unfold chkS at h
    split at h
    · exact sndS_of ps_pass (fun σ H env G ix S r S' D re g e q => by
        simp only [ex] at e
        cases e
        exact q σ G ix H Stp.refl g re) fun σ H env G ix S k S' D re g e q => by
        simp only [ex] at e
        cases e
    · cases h
  | .brk, X, C, st, h => by
    unfold chkS at h
    split at h
    · exact sndS_of ps_break (fun σ H env G ix S r S' D re g e q => by
        simp only [ex] at e
        cases e
        exact q σ G ix H Stp.refl g re) fun σ H env G ix S k S' D re g e q => by
        simp only [ex] at e
        cases e
    · cases h
  | .cnt, X, C, st, h => by
    unfold chkS at h
    split at h
    · exact sndS_of ps_continue (fun σ H env G ix S r S' D re g e q => by
        simp only [ex] at e
        cases e
        exact q σ G ix H Stp.refl g re) fun σ H env G ix S k S' D re g e q => by
        simp only [ex] at e
        cases e
    · cases h
  | .raise k, X, C, st, h => by
    unfold chkS at h
    split at h
    · simp only [Bool.and_eq_true, decide_eq_true_eq, List.contains_iff_mem] at h
      obtain ⟨rfl, h1, h2, h3⟩ := h
      exact snd_raise C.toCtx h1 (glb_ok h2) h3
    · cases h
  | .setfld c o f e, X, C, st, h => by
    unfold chkS at h
    split at h
    · simp only [Bool.and_eq_true, decide_eq_true_eq, List.contains_iff_mem, Bool.not_eq_true'] at h
      obtain ⟨rfl, h1, h2, h3, h4⟩ := h
      exact snd_setfld C.toCtx h1 (chk_ord _ _ _ h4) h3 (all_E o X _ C.toCtx h2).v (all_E e X _ C.toCtx h4).v
    · cases h
  | .dput d k e, X, C, st, h => by
    unfold chkS at h
    split at h
    · simp only [Bool.and_eq_true, Bool.not_eq_true'] at h
      obtain ⟨h1, h2, h3, h4⟩ := h
      exact snd_dput C.toCtx (chk_ord _ _ _ h2) (chk_ord _ _ _ h4) h3 (all_E d X _ C.toCtx h1).v (all_E k X _ C.toCtx h2).v (all_E e X _ C.toCtx h4).v
    · cases h
  | .triA al s c i j, X, C, st, h => by
    unfold chkS at h
    split at h
    · simp only [Bool.and_eq_true, decide_eq_true_eq, List.contains_iff_mem] at h
      obtain ⟨h0, rfl, h1, h2, h3, h4, h5, rfl, h6, h7, h8, h9, h10, h11⟩ := h
      exact snd_triA C (fun k hk => by simpa using List.all_eq_true.mp h0 k hk) h1 (glb_ok h2) h3 h4 h5 h6 h7 h8 h9 h10 (fun pn xe hp => all_S s (X.tr pn xe) (C.tr hp) _ h11)
    · cases h
  | .triC al s c e, X, C, st, h => by
    unfold chkS at h
    split at h
    · simp only [Bool.and_eq_true, decide_eq_true_eq, List.contains_iff_mem] at h
      obtain ⟨h0, rfl, h1, h2, h3, h4, h5, h6, h7⟩ := h
      exact snd_triC C (fun k hk => by simpa using List.all_eq_true.mp h0 k hk) h1 (glb_ok h2) h3 h6 h4 h5 (fun pn xe hp => all_S s (X.tr pn xe) (C.tr hp) _ h7)
    · cases h
  | .triB _ _ _ _ _ _ _ _, X, C, st, h => by
    unfold chkS at h
    cases h
theorem all_Ss : ∀ (c : Ss) (X : Cx), CtxS nm gl cf X → ∀ (sts : List Stmt), chkSs nm X.N X.env.scope c sts = true → SndSs gl cf X sts c
  | .nil, X, C, [], h => ⟨_, pss_nil, fun σ H env G ix S r S' D re g e q => (by
        simp only [exs] at e
        cases e
        exact q σ G ix H Stp.refl g re), fun σ H env G ix S k S' D re g e q => (by
        simp only [exs] at e
        cases e)⟩
  | .nil, X, C, _ :: _, h => by simp [chkSs] at h
  | .cons c cs, X, C, [], h => by simp [chkSs] at h
  | .cons c cs, X, C, st :: sts, h => by
    simp only [chkSs, Bool.and_eq_true] at h
    exact snd_seqs (all_S c X C st h.1) (all_Ss cs X C sts h.2)
end
end
end Nl

/-! Defs, a whole law. -/
namespace Nl
open PySem L2
/-- a def of the text, or a method of one of its classes -/
structure Df where
  at_ : Str × Option Str
  name : Str
  qual : Str
  params : Arguments
  body : List Stmt
  scope : Scope
def Df.dd (d : Df) : He.DefD := ⟨d.at_, d.name, d.qual, d.params, d.body, d.scope, [], []⟩
def dfsOf (s : Stmt) : List Df := match s with
  | .FunctionDef n a b _ _ _ sc _ _ _ => [⟨(n, none), n, n, a, b, sc⟩]
  | .ClassDef x _ _ b _ _ _ _ _ _ _ => b.filterMap fun t => match t with
    | .FunctionDef n a b _ _ _ sc _ _ _ => some ⟨(x, some n), n, x ++ ("." : Str) ++ n, a, b, sc⟩
    | _ => none
  | _ => []
def Fn.N (f : Fn) : List Str := f.names.map Str.ofString
def plainArgs (a : Arguments) : Bool := a.posonlyargs.isEmpty && (a.vararg.isNone && (a.kwonlyargs.isEmpty && (a.kw_defaults.isEmpty && (a.kwarg.isNone && a.defaults.isEmpty))))
theorem plainArgs_ok {a : Arguments} (h : plainArgs a = true) : a = ⟨[], a.args, none, [], [], none, []⟩ := by
  obtain ⟨p, ar, v, k, kd, kw, d⟩ := a
  simp only [plainArgs, Bool.and_eq_true, List.isEmpty_iff, Option.isNone_iff_eq_none] at h
  obtain ⟨rfl, rfl, rfl, rfl, rfl, rfl⟩ := h
  rfl
/-- this def is that text -/
def chkFn (nm : Nms) (f : Fn) (d : Df) : Bool := plainArgs d.params && (decide (d.params.args.map (·.arg) = f.N.take f.arity) && (decide (f.arity ≤ f.names.length) && (decide (d.scope.kind = .function) && (!d.scope.isCoroutine && (!d.scope.isGenerator && (decide f.N.Nodup &&
  (((f.N.take f.arity).all fun x => loc d.scope x) && ((d.scope.names.all fun y => decide (y.2 ≠ .free)) && (decide (f.init = decide (d.at_.2 = some (Str.ofString "__init__"))) && chkSs nm f.N d.scope f.body d.body)))))))))
def chkFns (nm : Nms) : List Fn → List Df → Bool
  | [], [] => true
  | f :: fs, d :: ds => chkFn nm f d && chkFns nm fs ds
  | _, _ => false
theorem chkFns_get {nm : Nms} : ∀ {fs : List Fn} {ds : List Df}, chkFns nm fs ds = true → ∀ (i : Nat) (d : Df), ds[i]? = some d → ∃ f, fs[i]? = some f ∧ chkFn nm f d = true
  | [], [], _, i, d, h => by simp at h
  | f :: fs, d0 :: ds, h, i, d, e => by
    simp only [chkFns, Bool.and_eq_true] at h
    cases i with
    | zero => simp at e; subst e; exact ⟨f, rfl, h.1⟩
    | succ i =>
      obtain ⟨g, h1, h2⟩ := chkFns_get h.2 i d (by simpa using e)
      exact ⟨g, by simpa using h1, h2⟩
  | [], _ :: _, h, _, _, _ => by simp [chkFns] at h
  | _ :: _, [], h, _, _, _ => by simp [chkFns] at h
/-- the frame of a def that touches nothing of the store -/
theorem plain_good {K : PySem.W.Frag} {G : Hp} {ix : List Addr} {S : Store} {H : Hp} (g : Good K G ix S H) : Good K G [] [] H := ⟨g.le, rfl, fun a h => by simp at h, fun n c h => by simp at h, fun n m a c d h => by simp at h⟩
theorem CellR.notup {K : PySem.W.Frag} {G : Hp} {ix : List Addr} {vs : List V} : ∀ {c : Cell}, c ≠ .dead → ¬ CellR K G ix (some (.tup vs)) c
  | .lst _, _, ⟨_, h, _⟩ => by cases h
  | .dK _, _, ⟨_, h, _⟩ => by cases h
  | .dT _, _, ⟨_, h, _⟩ => by cases h
  | .ins _ _, _, ⟨_, _, h, _⟩ => by cases h
  | .dead, h, _ => h rfl
theorem plain_back {K : PySem.W.Frag} {G : Hp} {ix : List Addr} {S : Store} {H : Hp} {G' : Hp} {ix' : List Addr} {S1 : Store} {H' : Hp} (g : Good K G ix S H) (s : Stp G [] H G' ix' H') (g' : Good K G' ix' S1 H') : Stp G ix H G' ix H' ∧ Good K G' ix S H' := by
  have kp : ∀ a o, H a = some o → H' a = some o := fun a o h => s.keep a o h (by simp)
  have nw : ∀ a o, G' a = some o → G a = some o ∨ H a = none ∨ ∃ vs, H a = some (.tup vs) := fun a o h => by
    rcases s.new a o h with h | h | h | h
    · exact .inl h
    · exact .inr (.inl h)
    · simp at h
    · exact .inr (.inr h)
  refine ⟨⟨s.g, Ixs.refl _, fun a o h _ => kp a o h, s.there, fun a o h => ?_, fun a h => .inl h⟩, g'.le, g.len, fun a h => ?_, fun n c h hc => ?_, g.inj⟩
  · rcases nw a o h with h | h | h
    · exact .inl h
    · exact .inr (.inl h)
    · exact .inr (.inr (.inr h))
  · obtain ⟨o, e⟩ := g.there a h
    exact ⟨o, kp a o e⟩
  · obtain ⟨a, h1, h3, h4⟩ := g.cel n c h hc
    obtain ⟨u, eu⟩ := h4.some_ hc
    refine ⟨a, h1, ?_, by rw [kp a u eu, ← eu]; exact h4.mono s.g (Ixs.refl _)⟩
    cases e : G' a with
    | none => rfl
    | some o =>
      rcases nw a o e with h | h | ⟨vs, h⟩
      · rw [h3] at h; cases h
      · rw [eu] at h; cases h
      · rw [h] at h4
        exact absurd h4 (CellR.notup hc)
theorem plain_post {K : PySem.W.Frag} {G : Hp} {ix : List Addr} {S : Store} {H : Hp} {w : W} {S1 : Store} {Q : VK} (g : Good K G ix S H) (c : D.closed w.toD = true) (q : PostE K G ix H w S Q) : PostE K G [] H w S1 Q := fun v G' ix' H' s g' r => by
  obtain ⟨s2, g2⟩ := plain_back g s g'
  refine q v G' ix H' s2 g2 ?_
  cases w with
  | d x => exact Rp.closed x v c r
  | fl xs =>
    obtain ⟨p, vs, h1, h2, h3, h4, h5, h6⟩ := r
    have h5 : H p = none := h5.elim id fun z => by simp at z
    refine ⟨p, vs, h1, h2, h3, fun n d e1 e2 => ?_, .inl h5, Rps.closed xs vs (by simpa [W.toD, D.closed] using c) h6⟩
    by_cases hd : d = .dead
    · exact hd
    · obtain ⟨a, f1, f2, f3⟩ := g.cel n d e2 hd
      rw [e1] at f1; cases f1
      obtain ⟨u, eu⟩ := f3.some_ hd
      rw [h5] at eu; cases eu
theorem plain_postX {K : PySem.W.Frag} {G : Hp} {ix : List Addr} {S : Store} {H : Hp} {k : Nat} {S1 : Store} {E : XK} (g : Good K G ix S H) (q : PostX K G ix H k S E) : PostX K G [] H k S1 E := fun G' ix' H' s g' => by
  obtain ⟨s2, g2⟩ := plain_back g s g'
  exact q G' ix H' s2 g2
theorem env_start {K : PySem.W.Frag} {G : Hp} {ix : List Addr} {vs : List V} {ds : List D} {f : Fn} (r : Rps K G ix vs ds) : EnvR K G ix (L2.start f.N vs) (Nl.start f ds) := by
  have hl := r.length
  refine ⟨?_, fun i d h => ?_⟩
  · simp only [Nl.start, L2.start, Fn.N, List.length_append, List.length_map, List.length_replicate, hl]
  · unfold Nl.start at h
    unfold L2.start
    by_cases hi : i < ds.length
    · rw [List.getElem?_append_left (by simpa using hi), List.getElem?_map] at h
      rw [List.getElem?_append_left (by simpa [hl] using hi), List.getElem?_map]
      cases e : ds[i]? with
      | none => rw [e] at h; cases h
      | some d' =>
        rw [e] at h
        cases h
        obtain ⟨v, h1, h2⟩ := r.get e
        exact ⟨v, by rw [h1]; rfl, h2⟩
    · rw [List.getElem?_append_right (by simpa using Nat.le_of_not_lt hi)] at h
      rw [List.getElem?_replicate] at h
      split at h
      · simp at h
      · cases h
/-! ### what a call's coming to something says of its body -/
theorem call_S {gl : Nat → Option D} {fs : List Fn} {n i : Nat} {f : Fn} (hf : fs[i]? = some f) (ds : List D) (S : Store) (res : Res (W × Store)) (h : call gl fs (n + 1) i ds S = res) (hne : res ≠ .err) : ds.length = f.arity ∧
    ((f.init = true ∧ ∃ m, n = m + 1 ∧ (exs gl (call gl fs m) f.body (Nl.start f ds) S).bind endW = res) ∨
     (f.init = false ∧ f.plain = true ∧ D.closeds ds = true ∧ plainEnd S ((exs gl (call gl fs n) f.body (Nl.start f ds) []).bind endW) = res) ∨
     (f.init = false ∧ f.plain = false ∧ (exs gl (call gl fs n) f.body (Nl.start f ds) S).bind endW = res)) := by
  simp only [call, hf] at h
  unfold guard' at h
  split at h
  · rename_i hl
    refine ⟨by simpa using hl, ?_⟩
    cases hi : f.init with
    | true =>
      rw [hi] at h
      simp only [if_true] at h
      cases n with
      | zero => exact absurd h.symm hne
      | succ m => exact .inl ⟨rfl, m, rfl, h⟩
    | false =>
      rw [hi] at h
      simp only [Bool.false_eq_true, if_false] at h
      cases hp : f.plain with
      | true =>
        rw [hp] at h
        simp only [if_true] at h
        split at h
        · rename_i hc
          exact .inr (.inl ⟨rfl, rfl, hc, h⟩)
        · exact absurd h.symm hne
      | false =>
        rw [hp] at h
        simp only [Bool.false_eq_true, if_false] at h
        exact .inr (.inr ⟨rfl, rfl, h⟩)
  · exact absurd h.symm hne
theorem endW_ok {r : Fl × Store} {q : W × Store} (h : endW r = .ok q) : q.2 = r.2 := by
  obtain ⟨r1, r2⟩ := r
  cases r1 <;> simp [endW] at h <;> rw [← h]
theorem nx_endW {r : Fl × Store} : (endW r).NX := by
  unfold endW
  split <;> first | exact nx_ok | exact nx_err
section
variable {P : Program} {w : World} {K : PySem.W.Frag} {mg : Str → Option Value} {base : Heap} {nm : Nms} {gl : Nat → Option D} {fs : List Fn} {ds : List Df}
/-- what the head says -/
structure Head (K : PySem.W.Frag) (mg : Str → Option Value) (nm : Nms) (gl : Nat → Option D) (ds : List Df) : Prop where
  nmf : nm.fn = ds.map Df.at_
  bi : ∀ s ∈ bNames, mg (Str.ofString s) = none
  fn : ∀ (f : Nat) (d : Df), ds[f]? = some d → ∃ fd, FunD K d.name d.qual d.params d.body d.scope [] [] (He.fAd K d.at_) fd
  at_ : ∀ (f : Nat) (d : Df), ds[f]? = some d → mg d.at_.1 = some (.ref (He.ga K d.at_.1))
  mt : ∀ (f : Nat) (d : Df) (x m : Str), ds[f]? = some d → d.at_ = (x, some m) → Meth K (He.ga K x) m (He.ma K (He.ga K x) m)
  mkr : ∀ (f : Nat) (d : Df) (x : Str), ds[f]? = some d → d.at_ = (x, some (Str.ofString "__init__")) → Mk K (He.ga K x) (He.ma K (He.ga K x) (Str.ofString "__init__"))
  cl : ∀ c, c ∈ nm.cl → Cls K (clsA K (clName c)) ∧ ∀ g, g < fdNames.length → NoAttr K (clsA K (clName c)) (Str.ofString (fdName g))
  xc : XFacts K mg nm.xr nm.xc
  gl : ∀ (g : Nat) (x : Str) (d : D), nm.gl[g]? = some x → gl g = some d → ∃ v u, mg x = some u ∧ RelV v u ∧ ∀ G ix, Rp K G ix v d
def lev (f : Fn) (n : Nat) : Nat := if f.init then n else n + 1
theorem head_fn {d : Df} {a : Addr} {fd : FuncData} {f : Fn} (c : chkFn nm f d = true) (F : FunD K d.name d.qual d.params d.body d.scope [] [] a fd) : Binds K fd (f.N.take f.arity) [] := by
  simp only [chkFn, Bool.and_eq_true, decide_eq_true_eq] at c
  obtain ⟨c1, c2, c3, c4, c5, c6, c7, c8⟩ := c
  refine F.bindsN fun kV doc pm an cdv ct us hl => ?_
  rw [plainArgs_ok c1, ← c2]
  refine bind_plain ?_ kV doc pm an cdv ct us (by rw [hl, c2])
  rw [c2]
  exact c7.sublist (List.take_sublist _ _)
theorem all_fn (hd : Head K mg nm gl ds) (hc : chkFns nm fs ds = true) : ∀ (n i : Nat) (d : Df), ds[i]? = some d → ∀ (fd : FuncData) (f : Fn), fs[i]? = some f → chkFn nm f d = true → FunD K d.name d.qual d.params d.body d.scope [] [] (He.fAd K d.at_) fd → FnOk P w K mg base (L2.CX P w) (lev f n) (He.fAd K d.at_) fd (f.N.take f.arity) (spF K (call gl fs n) i) := by
  intro n
  induction n using Nat.strongRecOn with
  | ind n ih =>
    intro i d hi fd f hf c F
    have none_ : (∀ ds' S, call gl fs n i ds' S = .err) → FnOk P w K mg base (L2.CX P w) (lev f n) (He.fAd K d.at_) fd (f.N.take f.arity) (spF K (call gl fs n) i) := fun h0 =>
      have no : ∀ {vs H Q E}, ¬ spF K (call gl fs n) i vs H Q E := fun {vs H Q E} h => by
        obtain ⟨G, ix, S, ds, _, _, ⟨w, S', e, _⟩ | ⟨k, S', e, _⟩⟩ := h
        · rw [h0] at e; cases e
        · rw [h0] at e; cases e
      ⟨fun vs H Q E h => (no h).elim, fun A outer s H args us vs Q E hr _ _ _ h => (no h).elim⟩
    cases n with
    | zero => exact none_ fun _ _ => rfl
    | succ n =>
      have c' := c
      simp only [chkFn, Bool.and_eq_true, decide_eq_true_eq, Bool.not_eq_true'] at c'
      obtain ⟨c1, c2, c3, c4, c5, c6, c7, c8, c9, c11, c10⟩ := c'
      have hpl : (f.N.take f.arity).length = f.arity := by
        rw [List.length_take]
        simp only [Fn.N, List.length_map]
        omega
      have sc : FnScope f.N (f.N.take f.arity) d.scope := ⟨c4, c5, c6, c7, by rw [hpl], fun x hx => (loc_ok (List.all_eq_true.mp c8 x hx)), fun y hy => by simpa using List.all_eq_true.mp c9 y hy⟩
      have ctx : ∀ (m : Nat), m < n + 1 → ∀ (cdv : Value) (A : Around) (outer : List PySem.Env) (s : Shared) (H : Hp) (E : XK), Room (m + 1) (A.deeper (PyProof.Rows.envOfC d.qual d.scope s.heap.objs.size (He.fAd K d.at_) cdv)) → CtxS nm gl (call gl fs m) (cxOf (L2.CX P w) P w K mg base f.N d.qual d.scope (He.fAd K d.at_) cdv A outer s H E) := fun m hm cdv A outer s H E hr => by
        refine ⟨⟨c7, rfl, ?_, hd.bi, fun f' x hx => ?_, fun f' x mm hx => ?_, fun f' x hx => ?_, hd.cl, hd.xc, hd.gl⟩, fun _ => rfl, passes_of rfl, rfl, rfl, rfl⟩
        · have := hr.un
          show (A.deeper (PyProof.Rows.envOfC d.qual d.scope s.heap.objs.size (He.fAd K d.at_) cdv)).units + 65 < cLine
          omega
        · rw [hd.nmf, List.getElem?_map] at hx
          cases e : ds[f']? with
          | none => rw [e] at hx; cases hx
          | some d' =>
            rw [e] at hx
            have hx' : d'.at_ = (x, none) := by simpa using hx
            obtain ⟨fd', F'⟩ := hd.fn f' d' e
            obtain ⟨g, g1, g2⟩ := chkFns_get hc f' d' e
            have A1 := ih m hm f' d' e fd' g g1 g2 F'
            have a1 : He.fAd K d'.at_ = He.ga K x := by rw [hx']; rfl
            have a2 := hd.at_ f' d' e
            rw [hx'] at a2
            refine ⟨He.ga K x, lev g m, fd', _, ?_, a2, by rw [← a1]; exact F'.kp, head_fn g2 F', by rw [← a1]; exact A1⟩
            unfold lev
            split
            · exact hr.mono (by omega)
            · exact hr
        · rw [hd.nmf, List.getElem?_map] at hx
          cases e : ds[f']? with
          | none => rw [e] at hx; cases hx
          | some d' =>
            rw [e] at hx
            have hx' : d'.at_ = (x, some mm) := by simpa using hx
            obtain ⟨fd', F'⟩ := hd.fn f' d' e
            obtain ⟨g, g1, g2⟩ := chkFns_get hc f' d' e
            have A1 := ih m hm f' d' e fd' g g1 g2 F'
            have a1 : He.fAd K d'.at_ = He.ma K (He.ga K x) mm := by rw [hx']; rfl
            refine ⟨He.ma K (He.ga K x) mm, lev g m, fd', _, hd.mt f' d' x mm e hx', ?_, head_fn g2 F', by rw [← a1]; exact A1⟩
            unfold lev
            split
            · exact hr.mono (by omega)
            · exact hr
        · rw [hd.nmf, List.getElem?_map] at hx
          cases e : ds[f']? with
          | none => rw [e] at hx; cases hx
          | some d' =>
            rw [e] at hx
            have hx' : d'.at_ = (x, some (Str.ofString "__init__")) := by simpa using hx
            obtain ⟨fd', F'⟩ := hd.fn f' d' e
            obtain ⟨g, g1, g2⟩ := chkFns_get hc f' d' e
            have A1 := ih m hm f' d' e fd' g g1 g2 F'
            have a1 : He.fAd K d'.at_ = He.ma K (He.ga K x) (Str.ofString "__init__") := by rw [hx']; rfl
            have a2 := hd.at_ f' d' e
            rw [hx'] at a2
            have gi : g.init = true := by
              simp only [chkFn, Bool.and_eq_true, decide_eq_true_eq] at g2
              obtain ⟨_, _, _, _, _, _, _, _, _, z, _⟩ := g2
              rw [z, hx']
              simp
            have lv : lev g m = m := by unfold lev; rw [gi]; rfl
            rw [lv] at A1
            exact ⟨He.ma K (He.ga K x) (Str.ofString "__init__"), m, fd', _, hd.mkr f' d' x e hx', a2, hr, head_fn g2 F', by rw [← a1]; exact A1⟩
      have body : ∀ (m : Nat), m < n + 1 → ∀ (cdv : Value) (A : Around) (outer : List PySem.Env) (s : Shared) (H : Hp) (vs : List V) (Q : VK) (E : XK) (G : Hp) (ix : List Addr) (S0 : Store) (ds' : List D), Room (m + 1) (A.deeper (PyProof.Rows.envOfC d.qual d.scope s.heap.objs.size (He.fAd K d.at_) cdv)) → Good K G ix S0 H → Rps K G ix vs ds' →
          ((∃ w' S1, (exs gl (call gl fs m) f.body (Nl.start f ds') S0).bind endW = .ok (w', S1) ∧ PostE K G ix H w' S1 Q) ∨ ∃ k S1, (exs gl (call gl fs m) f.body (Nl.start f ds') S0).bind endW = .exc k S1 ∧ PostX K G ix H k S1 E) →
          ∃ t, PSs (cxOf (L2.CX P w) P w K mg base f.N d.qual d.scope (He.fAd K d.at_) cdv A outer s H E) d.body t ∧ t { nx := fun _ H' => Q .non H', rt := Q } (L2.start f.N vs) H := fun m hm cdv A outer s H vs Q E G ix S0 ds' hr g r h => by
        have C := ctx m hm cdv A outer s H E hr
        obtain ⟨t, p, mm, xx⟩ := all_Ss f.body _ C d.body c10
        refine ⟨t, p, ?_⟩
        rcases h with ⟨w', S1, e, q⟩ | ⟨k, S1, e, q⟩
        · obtain ⟨⟨fl, S2⟩, e2, e3⟩ := ok2 e
          cases (endW_ok e3 : S1 = S2)
          refine mm _ H _ G ix S0 fl S1 _ (env_start r) g e2 ?_
          cases fl with
          | ret w2 => simp [endW] at e3; subst e3; exact q
          | nx env => simp [endW] at e3; subst e3; exact fun σ' G' ix' H' s g' r => q .non G' ix' H' s g' .non
          | brk env => simp [endW] at e3
          | cnt env => simp [endW] at e3
        · rcases exc2 e with e2 | ⟨a, _, e2⟩
          · refine xx _ H _ G ix S0 k S1 _ (env_start r) g e2 fun σ' G' ix' H' s' g' => ?_
            exact wof_of (W := fun cls d _ H => E cls d H) (takes_of rfl rfl rfl rfl) (q G' ix' H' s' g')
          · exact absurd e2 (nx_endW k S1)
      have lenOk : ∀ vs H Q E, spF K (call gl fs (n + 1)) i vs H Q E → vs.length = (f.N.take f.arity).length := fun vs H Q E h => by
        obtain ⟨G, ix, S, ds', g, r, h⟩ := h
        rw [r.length, hpl]
        rcases h with ⟨w', S', e, q⟩ | ⟨k, S', e, q⟩
        · exact (call_S hf ds' S _ e (by intro z; cases z)).1
        · exact (call_S hf ds' S _ e (by intro z; cases z)).1
      cases hin : f.init with
      | true =>
        cases n with
        | zero =>
          refine none_ fun ds' S => ?_
          simp only [call, hf, hin, if_true, guard']
          split <;> rfl
        | succ m =>
          have lv : lev f (m + 1 + 1) = (m + 1) + 1 := by unfold lev; rw [hin]; rfl
          rw [lv]
          refine F.ok sc lenOk fun cdv A outer s H vs Q E hr h => ?_
          obtain ⟨G, ix, S, ds', g, r, h⟩ := h
          refine body m (by omega) cdv A outer s H vs Q E G ix S ds' hr g r ?_
          rcases h with ⟨w', S', e, q⟩ | ⟨k, S', e, q⟩
          · obtain ⟨_, ⟨_, m', hm', e2⟩ | ⟨z, _⟩ | ⟨z, _⟩⟩ := call_S hf ds' S _ e (by intro z; cases z)
            · cases hm'; exact .inl ⟨w', S', e2, q⟩
            · rw [hin] at z; cases z
            · rw [hin] at z; cases z
          · obtain ⟨_, ⟨_, m', hm', e2⟩ | ⟨z, _⟩ | ⟨z, _⟩⟩ := call_S hf ds' S _ e (by intro z; cases z)
            · cases hm'; exact .inr ⟨k, S', e2, q⟩
            · rw [hin] at z; cases z
            · rw [hin] at z; cases z
      | false =>
        have lv : lev f (n + 1) = (n + 1) + 1 := by unfold lev; rw [hin]; rfl
        rw [lv]
        refine F.ok sc lenOk fun cdv A outer s H vs Q E hr h => ?_
        obtain ⟨G, ix, S, ds', g, r, h⟩ := h
        have split : ∀ {res : Res (W × Store)}, call gl fs (n + 1) i ds' S = res → res ≠ .err → (f.plain = true ∧ D.closeds ds' = true ∧ plainEnd S ((exs gl (call gl fs n) f.body (Nl.start f ds') []).bind endW) = res) ∨ (f.plain = false ∧ (exs gl (call gl fs n) f.body (Nl.start f ds') S).bind endW = res) := fun {res} e hne => by
          obtain ⟨_, ⟨z, _⟩ | ⟨_, h⟩ | ⟨_, h⟩⟩ := call_S hf ds' S _ e hne
          · rw [hin] at z; cases z
          · exact .inl h
          · exact .inr h
        rcases h with ⟨w', S', e, q⟩ | ⟨k, S', e, q⟩
        · rcases split e (by intro z; cases z) with ⟨_, hcl, e2⟩ | ⟨_, e2⟩
          · cases e3 : (exs gl (call gl fs n) f.body (Nl.start f ds') []).bind endW with
            | err => rw [e3] at e2; cases e2
            | exc k S1 => rw [e3] at e2; cases e2
            | ok z =>
              obtain ⟨z1, z2⟩ := z
              rw [e3] at e2
              obtain ⟨hw, e4⟩ := guard_ok e2
              cases e4
              exact body n (by omega) cdv A outer s H vs Q E G [] [] ds' hr (plain_good g) (Rps.closed _ _ hcl r) (.inl ⟨_, z2, e3, plain_post g hw q⟩)
          · exact body n (by omega) cdv A outer s H vs Q E G ix S ds' hr g r (.inl ⟨w', S', e2, q⟩)
        · rcases split e (by intro z; cases z) with ⟨_, hcl, e2⟩ | ⟨_, e2⟩
          · cases e3 : (exs gl (call gl fs n) f.body (Nl.start f ds') []).bind endW with
            | err => rw [e3] at e2; cases e2
            | ok z =>
              rw [e3] at e2
              exact absurd e2 ((nx_guard nx_ok) k S')
            | exc k1 S1 =>
              rw [e3] at e2
              cases e2
              exact body n (by omega) cdv A outer s H vs Q E G [] [] ds' hr (plain_good g) (Rps.closed _ _ hcl r) (.inr ⟨k, S1, e3, plain_postX g q⟩)
          · exact body n (by omega) cdv A outer s H vs Q E G ix S ds' hr g r (.inr ⟨k, S', e2, q⟩)
end
/-! ### a law -/
/-- a constant of the module -/
inductive Kn where
  | int (x : String) (i : Int)
  | str (x : String) (s : List Nat)
def Kn.name : Kn → Str
  | .int x _ => Str.ofString x
  | .str x _ => Str.ofString x
def Kn.d : Kn → D
  | .int _ i => .int i
  | .str _ s => .str s
def Kn.fa : Kn → He.Fa
  | .int x i => .int (Str.ofString x) i
  | .str x s => .str (Str.ofString x) (toS s)
/-- the module's names beside its defs: constants, classes of instances, refusals that may be raised, refusals that are named -/
structure Mn where
  ks : List Kn
  cl : List Nat
  xr : List Nat
  xc : List Nat
def glOf (M : Mn) (g : Nat) : Option D := (M.ks[g]?).map Kn.d
def exStr (k : Nat) : Str := Str.ofString (exName k)
def dfFa (d : Df) : List He.Fa := .glo d.at_.1 :: (match d.at_.2 with
  | none => []
  | some m => .meth d.at_.1 m :: (if m = Str.ofString "__init__" then [.mkr d.at_.1] else []))
def clFa (c : Nat) : List He.Fa := .cls (clStr c) :: fdNames.map fun f => .noat (clStr c) (Str.ofString f)
def faOf (ds : List Df) (M : Mn) : List He.Fa := ds.flatMap dfFa ++ (bNames.map (fun x => He.Fa.free (Str.ofString x)) ++ (M.ks.map Kn.fa ++ (M.cl.flatMap clFa ++ ((M.xr ++ M.xc).map (fun k => He.Fa.glo (exStr k)) ++ (M.xr.map (fun k => He.Fa.exc (exStr k)) ++ M.xr.flatMap fun k => M.xc.map fun c => He.Fa.exm (exStr k) (exStr c) (isSub k c))))))
def fnOf (ds : List Df) : List He.DefD := ds.map Df.dd
def nmOf (ds : List Df) (M : Mn) : Nms := ⟨ds.map Df.at_, M.ks.map Kn.name, M.cl, M.xr, M.xc⟩
/-- what is asked of the refusals' classes beside the library's facts -/
def excB (K : PySem.W.Frag) (C : Addr) : Bool := He.eqO (PySem.W.findIn K (.ref C) "__getattribute__") (some (some (.builtin "BaseException.__getattribute__"))) && (He.eqO (PySem.W.findIn K (.ref C) "__getattr__") (some none) && (PySem.W.hasDictIn K C && (He.eqO (PySem.W.findIn K (.ref C) "__class__") (some (some (.builtin "object.__class__"))) &&
  (He.eqO (PySem.W.specialIn K (.builtin "object.__class__") "__get__") (some (some (.builtin "getset_descriptor.__get__"))) && (decide (PySem.W.takesIn K (.builtin "object.__class__") = some true) && decide (PySem.W.mroIn K C (.type "object") = some true))))))
def exB (M : Mn) (K : PySem.W.Frag) : Bool := M.xr.all fun k => excB K (clsA K (exName k)) && (M.xc ++ [exVE]).all fun c => decide (PySem.W.kitOne K (.ref (clsA K (exName k))) (exV K c) = some (isSub k c))
abbrev AlN : Type := He.AlD × Bool
def obsN (ds : List Df) (M : Mn) (K : PySem.W.Frag) : AlN := (He.obsD (faOf ds M) (fnOf ds) K, exB M K)
def obsNG (n : Nat) (ds : List Df) (M : Mn) (g : Addr → Option Obj) : AlN := obsN ds M (He.frG g (He.asD g n))
def SaysN (ds : List Df) (M : Mn) (K : PySem.W.Frag) : Prop := He.SaysD (faOf ds M) (fnOf ds) K ∧ exB M K = true
def hookN (n : Nat) (ds : List Df) (M : Mn) : PySem.W.Hook where
  α := AlN
  obs := fun s => obsNG n ds M s.heap.get?
  val := fun _ => (He.valD (fnOf ds), true)
  says := fun _ h => ∃ K : PySem.W.Frag, K.In h ∧ SaysN ds M K
  of := fun _ _ e => ⟨_, He.frG_in, congrArg (fun z : AlN => z.1) e, congrArg (fun z : AlN => z.2) e⟩
  keeps := fun _ _ _ ⟨K, hK, c⟩ k => ⟨K, PySem.W.Frag.In.keeps hK k, c⟩
theorem obsNG_eq {n : Nat} {ds : List Df} {M : Mn} {g : Addr → Option Obj} {s : Shared} (h : ∀ a, g a = s.heap.get? a) : obsNG n ds M g = (hookN n ds M).obs s := by
  have e : g = s.heap.get? := funext h
  rw [e]
  rfl
theorem head_of {K : PySem.W.Frag} {mg : Str → Option Value} {h : Heap} {ds : List Df} {M : Mn} (X : K.In h) (G : h.Ns mainGlobals mg) (cc : SaysN ds M K) : Head K mg (nmOf ds M) (glOf M) ds := by
  obtain ⟨c, cx⟩ := cc
  have fact : ∀ f ∈ faOf ds M, f.ok K = true := fun f hf => by
    obtain ⟨i, hi⟩ := List.getElem?_of_mem hf
    exact c.fact i hi
  have fdf : ∀ (f : Nat) (d : Df), ds[f]? = some d → ∀ z ∈ dfFa d, z.ok K = true := fun f d hd z hz => fact z (List.mem_append_left _ (List.mem_flatMap.mpr ⟨d, List.mem_of_getElem? hd, hz⟩))
  have fglo : ∀ k, k ∈ M.xr ++ M.xc → (He.Fa.glo (exStr k)).ok K = true := fun k hk => fact _ (List.mem_append_right _ (List.mem_append_right _ (List.mem_append_right _ (List.mem_append_right _ (List.mem_append_left _ (List.mem_map_of_mem hk))))))
  refine ⟨rfl, fun s hs => He.free_ok X G (fact _ (List.mem_append_right _ (List.mem_append_left _ (List.mem_map_of_mem hs)))), fun f d hd => ?_, fun f d hd => ?_, fun f d x m hd hx => ?_, fun f d x hd hx => ?_, fun cl hc => ?_, ?_, fun g x d hx hd => ?_⟩
  · exact c.def_ f (d := d.dd) (by unfold fnOf; rw [List.getElem?_map, hd]; rfl)
  · exact He.glo_ok X G (fdf f d hd _ List.mem_cons_self)
  · refine He.meth_ok (x := x) (m := m) (fdf f d hd _ ?_)
    unfold dfFa
    rw [hx]
    exact List.mem_cons_of_mem _ List.mem_cons_self
  · refine He.mkr_ok (x := x) (fdf f d hd _ ?_)
    unfold dfFa
    rw [hx]
    simp
  · have fcl : ∀ z ∈ clFa cl, z.ok K = true := fun z hz => fact z (List.mem_append_right _ (List.mem_append_right _ (List.mem_append_right _ (List.mem_append_left _ (List.mem_flatMap.mpr ⟨cl, hc, hz⟩)))))
    refine ⟨He.cls_ok (fcl _ List.mem_cons_self), fun g hg => He.noat_ok (x := clStr cl) (fcl _ (List.mem_cons_of_mem _ (List.mem_map.mpr ⟨fdName g, ?_, rfl⟩)))⟩
    unfold fdName
    rw [List.getD_eq_getElem?_getD, List.getElem?_eq_getElem hg]
    exact List.getElem_mem hg
  · have ex1 : ∀ k ∈ M.xr, (He.Fa.exc (exStr k)).ok K = true := fun k hk => fact _ (List.mem_append_right _ (List.mem_append_right _ (List.mem_append_right _ (List.mem_append_right _ (List.mem_append_right _ (List.mem_append_left _ (List.mem_map_of_mem hk)))))))
    have all : ∀ k ∈ M.xr, (excB K (clsA K (exName k)) && (M.xc ++ [exVE]).all fun c => decide (PySem.W.kitOne K (.ref (clsA K (exName k))) (exV K c) = some (isSub k c))) = true := fun k hk => List.all_eq_true.mp cx k hk
    refine ⟨fun k hk => He.glo_ok X G (fglo k (List.mem_append_left _ hk)), fun k hk => He.glo_ok X G (fglo k (List.mem_append_right _ hk)), fun k hk => He.exc_ok (ex1 k hk), fun k hk => ?_, fun k hk j hj => ?_, fun k hk j hj => ?_⟩
    · obtain ⟨h1, _⟩ := He.ba (all k hk)
      unfold excB at h1
      obtain ⟨a1, h1⟩ := He.ba h1
      obtain ⟨a2, h1⟩ := He.ba h1
      obtain ⟨a3, h1⟩ := He.ba h1
      obtain ⟨a4, h1⟩ := He.ba h1
      obtain ⟨a5, h1⟩ := He.ba h1
      obtain ⟨a6, a7⟩ := He.ba h1
      exact ⟨He.eqO_ok a1, He.eqO_ok a2, (He.exc_ok (ex1 k hk)).2.2.1, a3, He.eqO_ok a4, He.eqO_ok a5, of_decide_eq_true a6, of_decide_eq_true a7⟩
    · exact He.exm_ok (fact _ (List.mem_append_right _ (List.mem_append_right _ (List.mem_append_right _ (List.mem_append_right _ (List.mem_append_right _ (List.mem_append_right _ (List.mem_flatMap.mpr ⟨k, hk, List.mem_map_of_mem hj⟩))))))))
    · obtain ⟨_, h1⟩ := He.ba (all k hk)
      refine of_decide_eq_true (List.all_eq_true.mp h1 j ?_)
      rcases hj with hj | rfl
      · exact List.mem_append_left _ hj
      · exact List.mem_append_right _ (List.mem_singleton.mpr rfl)
  · simp only [nmOf, List.getElem?_map] at hx
    simp only [glOf] at hd
    cases e : M.ks[g]? with
    | none => rw [e] at hx; cases hx
    | some k =>
      rw [e] at hx hd
      cases hx
      cases hd
      have hf := fact k.fa (List.mem_append_right _ (List.mem_append_right _ (List.mem_append_left _ (List.mem_map_of_mem (List.mem_of_getElem? e)))))
      cases k with
      | int y i =>
        obtain ⟨t, ht⟩ := He.int_ok X G hf
        exact ⟨.int i, _, ht, ⟨_, rfl⟩, fun _ _ => .int i⟩
      | str y s =>
        obtain ⟨t, ht⟩ := He.str_ok X G hf
        exact ⟨.str (toS s), _, ht, ⟨_, rfl⟩, fun _ _ => .str s⟩
/-- .. in some world -/
def CXe (P : Program) : CXT := fun outer H s E u s' => ∃ w, L2.CX P w outer H s E u s'
theorem fnOk_e {P : Program} {w : World} {K : PySem.W.Frag} {mg : Str → Option Value} {base : Heap} {k : Nat} {f : Addr} {fd : FuncData} {ps : List Str} {sp : Sp} (F : FnOk P w K mg base (L2.CX P w) k f fd ps sp) : FnOk P w K mg base (CXe P) k f fd ps sp :=
  ⟨F.len, fun A outer s H args us vs Q E hr e0 hb hv hs => codeAny_mono (F.run A outer s H args us vs Q E hr e0 hb hv hs) fun r s' hq => by
    cases r with
    | error e => exact ⟨w, hq⟩
    | ok fl => cases fl <;> exact hq⟩
def spL (K : PySem.W.Frag) (gl : Nat → Option D) (fs : List Fn) (k i : Nat) : Sp := spF K (call gl fs k) i
/-- a law's def, with what the small language says of it -/
theorem law_of {P : Program} {w : World} {K : PySem.W.Frag} {mg : Str → Option Value} {h : Heap} {ds : List Df} {M : Mn} {fs : List Fn} {x : Str} {i k : Nat} {f : Fn} {d : Df} {a : Addr} (X : K.In h) (G : h.Ns mainGlobals mg) (c : SaysN ds M K)
    (hc : chkFns (nmOf ds M) fs ds = true) (hf : fs[i]? = some f) (hp : f.N.take f.arity = [x]) (hfi : f.init = false) (hd : ds[i]? = some d) (hat : d.at_.2 = none) (hn : mg d.at_.1 = some (.ref a)) :
    ∃ fd : FuncData, (∀ (s : Shared) (v : Value), BindsTo s fd ⟨[v], []⟩ [(x, v)]) ∧ ∀ base : Heap, K.In base → base.Ns mainGlobals mg → FnOk P w K mg base (CXe P) (k + 1) a fd [x] (spL K (glOf M) fs k i) := by
  have H := head_of X G c
  obtain ⟨fd, F⟩ := H.fn i d hd
  have m := H.at_ i d hd
  rw [hn] at m
  have ea : a = He.ga K d.at_.1 := by simpa using m
  have ef : He.fAd K d.at_ = a := by
    rw [ea]
    unfold He.fAd
    rw [hat]
  obtain ⟨f', g1, g2⟩ := chkFns_get hc i d hd
  rw [hf] at g1
  cases g1
  have g3 := g2
  simp only [chkFn, Bool.and_eq_true, decide_eq_true_eq] at g3
  obtain ⟨c1, c2, c3, c4, c5, c6, c7, c8⟩ := g3
  refine ⟨fd, fun s v => ?_, fun base _ _ => ?_⟩
  · refine FunD.bindsA (ps := [x]) F (fun kV doc pm an cdv ct us hl => ?_) s [v] rfl
    rw [plainArgs_ok c1]
    rw [hp] at c2
    rw [← c2]
    exact bind_plain (by rw [c2]; simp) kV doc pm an cdv ct us (by rw [hl, c2])
  · have := all_fn (P := P) (w := w) (base := base) H hc k i d hd fd f hf g2 F
    have lv : lev f k = k + 1 := by unfold lev; rw [hfi]; rfl
    rw [hp, lv, ef] at this
    exact fnOk_e this
theorem law_sp {K : PySem.W.Frag} {gl : Nat → Option D} {fs : List Fn} {k i : Nat} {H : Hp} {a : Addr} {ns : List Int} {S : Store} (hS : SqL K H a (ns.map V.int)) (e : call gl fs k i [.scr ns] [] = .ok (.d (.bl true), S)) : spL K gl fs k i [.ref a] H (fun v _ => v = .bl true) fun _ _ _ => False := by
  refine ⟨H, [], [], [.scr ns], ⟨Le.refl _, rfl, fun a h => by simp at h, fun n c h => by simp at h, fun n m a c d h => by simp at h⟩, .cons (.scr hS) .nil, .inl ⟨_, _, e, fun v G' ix' H' s g r => ?_⟩⟩
  cases (show Rp K G' ix' v (.bl true) from r)
  rfl
theorem cx_none {P : Program} (H : Hp) (s : Shared) (e : Value) (s' : Shared) (h : CXe P [] H s (fun _ _ _ => False) e s') : False := by
  obtain ⟨_, _, _, _, _, _, _, _, _, _, _, _, _, z⟩ := h
  exact z
end Nl

/-! What the small language's texts come to: rules to walk them. -/
namespace Nl
/-- it comes to something of which Q holds -/
def Res.sat {α : Type} (r : Res α) (Q : α → Prop) : Prop := ∃ a, r = .ok a ∧ Q a
section
variable {α β : Type}
theorem sat_ok {a : α} {Q : α → Prop} : (Res.ok a).sat Q ↔ Q a := ⟨fun ⟨_, e, q⟩ => by cases e; exact q, fun q => ⟨_, rfl, q⟩⟩
theorem sat_err {Q : α → Prop} : (Res.err : Res α).sat Q ↔ False := ⟨fun ⟨_, e, _⟩ => (by cases e), False.elim⟩
theorem sat_bind {r : Res α} {f : α → Res β} {Q : β → Prop} : (r.bind f).sat Q ↔ r.sat fun a => (f a).sat Q := by
  cases r with
  | ok a => rw [sat_ok]; rfl
  | exc c S => exact ⟨fun ⟨_, e, _⟩ => by (simp at e), fun ⟨_, e, _⟩ => by cases e⟩
  | err => exact ⟨fun ⟨_, e, _⟩ => by (simp at e), fun ⟨_, e, _⟩ => by cases e⟩
theorem sat_calm {r : Res α} {Q : α → Prop} : r.calm.sat Q ↔ r.sat Q := by
  unfold Res.sat
  simp only [Res.calm_ok]
theorem sat_guard {c : Bool} {r : Res α} {Q : α → Prop} : (guard' c r).sat Q ↔ c = true ∧ r.sat Q := by
  cases c with
  | true => simp [guard']
  | false => simp [guard', sat_err]
theorem Res.sat.imp {r : Res α} {P Q : α → Prop} (h : r.sat P) (f : ∀ a, P a → Q a) : r.sat Q := h.elim fun a ⟨e, p⟩ => ⟨a, e, f a p⟩
theorem sat_eq {r : Res α} {a : α} (h : r = .ok a) {Q : α → Prop} : r.sat Q ↔ Q a := by rw [h]; exact sat_ok
theorem sat_def {r : Res α} {a : α} : (r.sat fun x => x = a) ↔ r = .ok a := ⟨fun ⟨b, e, h⟩ => by rw [e, h], fun h => ⟨a, h, rfl⟩⟩
end
section
variable {gl : Nat → Option D} {cf : Cf}
/-! ### statements -/
theorem sat_exs_nil {env : Env} {S : Store} {Q : Fl × Store → Prop} : (exs gl cf .nil env S).sat Q ↔ Q (.nx env, S) := by rw [exs, sat_ok]
/-- what comes of the rest behind a statement -/
def Rest (gl : Nat → Option D) (cf : Cf) (ss : Ss) (Q : Fl × Store → Prop) (r : Fl × Store) : Prop := match r.1 with
  | .nx env' => (exs gl cf ss env' r.2).sat Q
  | _ => Q r
theorem rest_nx {ss : Ss} {Q : Fl × Store → Prop} {env : Env} {S : Store} : Rest gl cf ss Q (.nx env, S) ↔ (exs gl cf ss env S).sat Q := Iff.rfl
theorem rest_ret {ss : Ss} {Q : Fl × Store → Prop} {w : W} {S : Store} : Rest gl cf ss Q (.ret w, S) ↔ Q (.ret w, S) := Iff.rfl
theorem sat_exs {s : S} {ss : Ss} {env : Env} {S : Store} {Q : Fl × Store → Prop} : (exs gl cf (.cons s ss) env S).sat Q ↔ (ex gl cf s env S).sat (Rest gl cf ss Q) := by
  rw [exs, sat_bind]
  constructor
  · rintro ⟨⟨a, T⟩, e, q⟩
    refine ⟨_, e, ?_⟩
    cases a with
    | nx env' => exact q
    | brk env' => exact (sat_ok (Q := Q)).mp q
    | cnt env' => exact (sat_ok (Q := Q)).mp q
    | ret w => exact (sat_ok (Q := Q)).mp q
  · rintro ⟨⟨a, T⟩, e, q⟩
    refine ⟨_, e, ?_⟩
    cases a with
    | nx env' => exact q
    | brk env' => exact sat_ok.mpr q
    | cnt env' => exact sat_ok.mpr q
    | ret w => exact sat_ok.mpr q
theorem sat_asg {i : Nat} {e : E} {env : Env} {S : Store} {Q : Fl × Store → Prop} : (ex gl cf (.asg (.n i) e) env S).sat Q ↔ (ev gl cf e env S).sat fun x => Q (.nx (env.set i (some x.1.toD)), x.2) := by
  simp only [ex, sat_bind, setTg, sat_ok]
theorem sat_ex {e : E} {env : Env} {S : Store} {Q : Fl × Store → Prop} : (ex gl cf (.ex e) env S).sat Q ↔ (ev gl cf e env S).sat fun x => Q (.nx env, x.2) := by
  simp only [ex, sat_bind, sat_ok]
theorem sat_ret {e : E} {env : Env} {S : Store} {Q : Fl × Store → Prop} : (ex gl cf (.ret e) env S).sat Q ↔ (ev gl cf e env S).sat fun x => Q (.ret x.1, x.2) := by
  simp only [ex, sat_bind, sat_ok]
theorem sat_retN {env : Env} {S : Store} {Q : Fl × Store → Prop} : (ex gl cf .retN env S).sat Q ↔ Q (.ret (.d .non), S) := by
  simp only [ex, sat_ok]
theorem sat_pass {env : Env} {S : Store} {Q : Fl × Store → Prop} : (ex gl cf .pass env S).sat Q ↔ Q (.nx env, S) := by
  simp only [ex, sat_ok]
theorem sat_brk {env : Env} {S : Store} {Q : Fl × Store → Prop} : (ex gl cf .brk env S).sat Q ↔ Q (.brk env, S) := by
  simp only [ex, sat_ok]
theorem sat_cnt {env : Env} {S : Store} {Q : Fl × Store → Prop} : (ex gl cf .cnt env S).sat Q ↔ Q (.cnt env, S) := by
  simp only [ex, sat_ok]
theorem sat_raise {c : Nat} {env : Env} {S : Store} {Q : Fl × Store → Prop} : (ex gl cf (.raise c) env S).sat Q ↔ False := by
  simp only [ex]
  exact ⟨fun ⟨_, e, _⟩ => (by cases e), False.elim⟩
theorem sat_asgT {is : List Nat} {e : E} {env : Env} {S : Store} {Q : Fl × Store → Prop} : (ex gl cf (.asg (.t is) e) env S).sat Q ↔ (ev gl cf e env S).sat fun x => (setTg (.t is) x.1.toD env).sat fun env' => Q (.nx env', x.2) := by
  simp only [ex, sat_bind, sat_ok]
theorem sat_setix {o i e : E} {env : Env} {S : Store} {Q : Fl × Store → Prop} : (ex gl cf (.setix o i e) env S).sat Q ↔ (ev gl cf e env S).sat fun x => (ev gl cf o env x.2).sat fun y => (ev gl cf i env y.2).sat fun z =>
    ∃ n k, y.1 = .d (.obj n) ∧ z.1 = .d (.int k) ∧ ∃ xs j, z.2[n]? = some (.lst xs) ∧ ixN xs.length k = some j ∧ Q (.nx env, z.2.set n (.lst (xs.set j x.1.toD))) := by
  simp only [ex, sat_bind]
  constructor
  · rintro ⟨x, e1, y, e2, z, e3, h⟩
    refine ⟨x, e1, y, e2, z, e3, ?_⟩
    obtain ⟨y1, y2⟩ := y
    obtain ⟨z1, z2⟩ := z
    dsimp only at h ⊢
    split at h
    · rename_i n k
      split at h
      · rename_i xs hx
        split at h
        · rename_i j hj
          exact ⟨n, k, rfl, rfl, xs, j, hx, hj, sat_ok.mp h⟩
        · exact (sat_err.mp h).elim
      · exact (sat_err.mp h).elim
    · exact (sat_err.mp h).elim
  · rintro ⟨x, e1, y, e2, z, e3, n, k, h1, h2, xs, j, h3, h4, h5⟩
    refine ⟨x, e1, y, e2, z, e3, ?_⟩
    obtain ⟨y1, y2⟩ := y
    obtain ⟨z1, z2⟩ := z
    cases h1
    cases h2
    dsimp only at h3 ⊢
    rw [h3]
    dsimp only
    rw [h4]
    exact sat_ok.mpr h5
/-- the truth of an expression -/
def evB (gl : Nat → Option D) (cf : Cf) (c : E) (env : Env) (S : Store) : Res (Bool × Store) := (ev gl cf c env S).bind fun x => (toB x.1).bind fun r => .ok (r, x.2)
theorem sat_whl {fuel : Nat} {c : E} {body : Ss} {env : Env} {S : Store} {Q : Fl × Store → Prop} : (ex gl cf (.whl fuel c body) env S).sat Q ↔ (loopW (evB gl cf c) (fun env' S' => exs gl cf body env' S') fuel env S).sat Q := by
  simp only [ex]
  exact Iff.rfl
theorem sat_evB {c : E} {env : Env} {S : Store} {Q : Bool × Store → Prop} : (evB gl cf c env S).sat Q ↔ (ev gl cf c env S).sat fun x => (toB x.1).sat fun r => Q (r, x.2) := by
  simp only [evB, sat_bind, sat_ok]
theorem sat_ite {p : Prop} [Decidable p] {α : Type} {a b : Res α} {Q : α → Prop} : (if p then a else b).sat Q ↔ if p then a.sat Q else b.sat Q := by
  split <;> exact Iff.rfl
theorem sat_if {c : E} {a b : Ss} {env : Env} {S : Store} {Q : Fl × Store → Prop} : (ex gl cf (.ife c a b) env S).sat Q ↔ (evB gl cf c env S).sat fun r => if r.1 = true then (exs gl cf a env r.2).sat Q else (exs gl cf b env r.2).sat Q := by
  simp only [ex, sat_bind, sat_evB]
  constructor <;> rintro ⟨x, e, y, e', h⟩ <;> refine ⟨x, e, y, e', ?_⟩ <;> cases y <;> simpa using h
/-- a for loop, by what holds ahead of each turn -/
theorem sat_loopF {ok : Store → Bool} {f : D → Env → Store → Res (Fl × Store)} {Q : Fl × Store → Prop} (I : Nat → Env → Store → Prop) : ∀ (ds : List D) (i : Nat) (env : Env) (S : Store), I i env S →
    (∀ j d env S, ds[j]? = some d → I (i + j) env S → (f d env S).sat fun r => match r.1 with
      | .nx e => ok r.2 = true ∧ I (i + j + 1) e r.2
      | .cnt e => ok r.2 = true ∧ I (i + j + 1) e r.2
      | .brk e => Q (.nx e, r.2)
      | .ret w => Q (.ret w, r.2)) → (∀ env S, I (i + ds.length) env S → Q (.nx env, S)) → (loopF ok f ds env S).sat Q
  | [], i, env, S, h0, _, h1 => by
    rw [loopF, sat_ok]
    exact h1 env S h0
  | d :: ds, i, env, S, h0, st, h1 => by
    rw [loopF, sat_bind]
    refine (st 0 d env S rfl h0).imp ?_
    rintro ⟨r1, r2⟩ h
    have go : ∀ e, ok r2 = true ∧ I (i + 0 + 1) e r2 → (guard' (ok r2) (loopF ok f ds e r2)).sat Q := fun e h => by
      rw [sat_guard]
      refine ⟨h.1, sat_loopF I ds (i + 1) e r2 h.2 (fun j d' env' S' hj hI => ?_) (fun env' S' hI => h1 env' S' ?_)⟩
      · have := st (j + 1) d' env' S' (by simpa using hj) (by rwa [show i + (j + 1) = i + 1 + j by omega])
        rwa [show i + (j + 1) + 1 = i + 1 + j + 1 by omega] at this
      · rwa [show i + (d :: ds).length = i + 1 + ds.length by simp; omega]
    cases r1 with
    | nx e => exact go e h
    | cnt e => exact go e h
    | brk e => exact sat_ok.mpr h
    | ret w => exact sat_ok.mpr h
/-- the same, by an invariant that does not count -/
theorem sat_loop {ok : Store → Bool} {f : D → Env → Store → Res (Fl × Store)} {Q : Fl × Store → Prop} (I : Env → Store → Prop) {ds : List D} {env : Env} {S : Store} (h0 : I env S)
    (st : ∀ d env S, d ∈ ds → I env S → (f d env S).sat fun r => match r.1 with
      | .nx e => ok r.2 = true ∧ I e r.2
      | .cnt e => ok r.2 = true ∧ I e r.2
      | .brk e => Q (.nx e, r.2)
      | .ret w => Q (.ret w, r.2)) (h1 : ∀ env S, I env S → Q (.nx env, S)) : (loopF ok f ds env S).sat Q :=
  sat_loopF (fun _ => I) ds 0 env S h0 (fun j d env S hj hI => st d env S (List.mem_of_getElem? hj) hI) h1
theorem sat_for {tg : Tg} {k : Ik} {a b : E} {body : Ss} {env : Env} {S : Store} {Q : Fl × Store → Prop} : (ex gl cf (.forr tg k a b body) env S).sat Q ↔ (ev gl cf a env S).sat fun x => (ev gl cf b env x.2).sat fun y => (items k (pk y.2 x.1.toD) (pk y.2 y.1.toD)).sat fun ds =>
      (loopF (fun S' => kept x.1.toD y.2 S' && kept y.1.toD y.2 S') (fun d env' S' => (setTg tg d env').bind fun env2 => exs gl cf body env2 S') ds env y.2).sat Q := by
  simp only [ex, sat_bind]
/-- a while loop: the rest of the fuel is enough -/
theorem sat_loopW {c : Env → Store → Res (Bool × Store)} {f : Env → Store → Res (Fl × Store)} {Q : Fl × Store → Prop} (I : Nat → Env → Store → Prop) : ∀ (n : Nat) (env : Env) (S : Store), I n env S →
    (∀ m env S, I m env S → ∃ m', m = m' + 1 ∧ (c env S).sat fun t => if t.1 = true then (f env t.2).sat fun r => match r.1 with
      | .nx e => I m' e r.2
      | .cnt e => I m' e r.2
      | .brk e => Q (.nx e, r.2)
      | .ret w => Q (.ret w, r.2) else Q (.nx env, t.2)) → (loopW c f n env S).sat Q
  | 0, env, S, h0, st => by
    obtain ⟨m', e, _⟩ := st 0 env S h0
    cases e
  | n + 1, env, S, h0, st => by
    obtain ⟨m', e, h⟩ := st (n + 1) env S h0
    cases e
    rw [loopW, sat_bind]
    refine h.imp ?_
    rintro ⟨t1, t2⟩ h
    cases t1 with
    | false => exact sat_ok.mpr h
    | true =>
      simp only [if_true] at h ⊢
      rw [sat_bind]
      refine Res.sat.imp h ?_
      rintro ⟨r1, r2⟩ h
      cases r1 with
      | nx e => exact sat_loopW I n e r2 h st
      | cnt e => exact sat_loopW I n e r2 h st
      | brk e => exact sat_ok.mpr h
      | ret w => exact sat_ok.mpr h
theorem kept_non {S S' : Store} : kept .non S S' = true := rfl
theorem kept_int {S S' : Store} {i : Int} : kept (.int i) S S' = true := rfl
theorem kept_tup {S S' : Store} {xs : List D} : kept (.tup xs) S S' = true := rfl
theorem kept_lst {S S' : Store} {xs : List D} : kept (.lst xs) S S' = true := rfl
theorem kept_str {S S' : Store} {s : List Nat} : kept (.str s) S S' = true := rfl
theorem kept_scr {S S' : Store} {s : List Int} : kept (.scr s) S S' = true := rfl
theorem kept_self (a : D) (S : Store) : kept a S S = true := by
  cases a <;> simp [kept]
/-! ### data -/
theorem eqB_nn  : eqB .non .non = true := by simp only [eqB, eqBs]
theorem eqB_bb {a b : Bool} : eqB (.bl a) (.bl b) = (a == b) := by simp only [eqB, eqBs]
theorem eqB_bi {a : Bool} {j : Int} : eqB (.bl a) (.int j) = ((if a then 1 else 0) == j) := by simp only [eqB, eqBs]
theorem eqB_ib {i : Int} {b : Bool} : eqB (.int i) (.bl b) = (i == (if b then 1 else 0)) := by simp only [eqB, eqBs]
theorem eqB_ii {i j : Int} : eqB (.int i) (.int j) = (i == j) := by simp only [eqB, eqBs]
theorem eqB_ss {x y : List Nat} : eqB (.str x) (.str y) = (x == y) := by simp only [eqB, eqBs]
theorem eqB_ll {xs ys : List D} : eqB (.lst xs) (.lst ys) = eqBs xs ys := by simp only [eqB, eqBs]
theorem eqB_tt {xs ys : List D} : eqB (.tup xs) (.tup ys) = eqBs xs ys := by simp only [eqB, eqBs]
theorem eqB_ni {i : Int} : eqB .non (.int i) = false := by simp only [eqB, eqBs]
theorem eqB_in {i : Int} : eqB (.int i) .non = false := by simp only [eqB, eqBs]
theorem eqBs_00  : eqBs [] [] = true := by simp only [eqB, eqBs]
theorem eqBs_0c {y : D} {ys : List D} : eqBs [] (y :: ys) = false := by simp only [eqB, eqBs]
theorem eqBs_c0 {x : D} {xs : List D} : eqBs (x :: xs) [] = false := by simp only [eqB, eqBs]
theorem eqBs_cc {x y : D} {xs ys : List D} : eqBs (x :: xs) (y :: ys) = (eqB x y && eqBs xs ys) := by simp only [eqB, eqBs]
theorem toD_d {x : D} : (W.d x).toD = x := rfl
theorem toD_fl {xs : List D} : (W.fl xs).toD = .lst xs := rfl
theorem clo_d {x : D} : (W.d x).toD.closed = x.closed := rfl
theorem clo_fl {xs : List D} : (W.fl xs).toD.closed = D.closeds xs := by
  rw [toD_fl, D.closed]
theorem natAbs_1 : Int.natAbs 1 = 1 := rfl
theorem natAbs_2 : Int.natAbs 2 = 2 := rfl
theorem natAbs_10 : Int.natAbs 10 = 10 := rfl
theorem pq_non {S : Store} : pk S .non = .non := rfl
theorem pq_bl {S : Store} {b : Bool} : pk S (.bl b) = .bl b := rfl
theorem pq_int {S : Store} {i : Int} : pk S (.int i) = .int i := rfl
theorem pq_str {S : Store} {s : List Nat} : pk S (.str s) = .str s := rfl
theorem pq_tup {S : Store} {xs : List D} : pk S (.tup xs) = .tup xs := rfl
theorem pq_lst {S : Store} {xs : List D} : pk S (.lst xs) = .lst xs := rfl
theorem pq_scr {S : Store} {xs : List Int} : pk S (.scr xs) = .scr xs := rfl
theorem pq_obj {S : Store} {p : Nat} {xs : List D} (h : S[p]? = some (.lst xs)) : pk S (.obj p) = .lst xs := by
  simp only [pk, h]
section
variable {α : Type}
theorem ixN_nat {n i : Nat} (h : i < n) : ixN n (i : Int) = some i := by
  have h' : (i : Int) < (n : Int) := by omega
  rw [ixN, if_pos (Int.natCast_nonneg i), if_pos h', Int.toNat_natCast]
theorem atI_nat {xs : List α} {i : Nat} : atI xs (i : Int) = xs[i]? := by
  by_cases h : i < xs.length
  · rw [atI, ixN_nat h]; rfl
  · have h' : ¬ (i : Int) < (xs.length : Int) := by omega
    rw [atI, ixN, if_pos (Int.natCast_nonneg i), if_neg h', List.getElem?_eq_none (by omega)]
    rfl
theorem atI_0 {x : α} {xs : List α} : atI (x :: xs) 0 = some x := atI_nat (i := 0)
theorem atI_1 {x y : α} {xs : List α} : atI (x :: y :: xs) 1 = some y := atI_nat (i := 1)
theorem atI_2 {x y z : α} {xs : List α} : atI (x :: y :: z :: xs) 2 = some z := atI_nat (i := 2)
theorem ixN_0 {n : Nat} : ixN (n + 1) 0 = some 0 := ixN_nat (i := 0) (by omega)
theorem ixN_1 {n : Nat} : ixN (n + 1 + 1) 1 = some 1 := ixN_nat (i := 1) (by omega)
end
/-! ### operations, by what they are done to -/
theorem bin_ii {o : Bop} {i j : Int} : binOp o (.int i) (.int j) = (intOp o i j).bind fun d => .ok (.d d) := rfl
theorem bin_ll {xs ys : List D} : binOp .add (.lst xs) (.lst ys) = guard' (decide (xs.length + ys.length ≤ most)) (.ok (.fl (xs ++ ys))) := rfl
theorem bin_tt {xs ys : List D} : binOp .add (.tup xs) (.tup ys) = guard' (decide (xs.length + ys.length ≤ most)) (.ok (.d (.tup (xs ++ ys)))) := rfl
theorem bin_ss {xs ys : List Nat} : binOp .add (.str xs) (.str ys) = guard' (decide (xs.length + ys.length ≤ most)) (.ok (.d (.str (xs ++ ys)))) := rfl
theorem bin_li {xs : List D} {k : Int} : binOp .mul (.lst xs) (.int k) = guard' (decide (-(2 ^ 63) ≤ k) && (decide (k < 2 ^ 63) && decide (xs.length * k.toNat ≤ most))) (.ok (.fl (rep k.toNat xs))) := rfl
theorem bin_ti {xs : List D} {k : Int} : binOp .mul (.tup xs) (.int k) = guard' (decide (1 ≤ k) && (decide (k ≤ 1000) && (decide (xs.length ≤ 1000) && !xs.isEmpty))) (.ok (.d (.tup (rep k.toNat xs)))) := rfl
theorem rg_1 {n : Int} {b : D} : rgItems .rng1 (.int n) b = guard' (small n) (.ok (upFrom 0 n.toNat)) := rfl
theorem rg_2 {m n : Int} : rgItems .rng2 (.int m) (.int n) = guard' (small m && small n) (.ok (upFrom m (n - m).toNat)) := rfl
theorem int_add {i j : Int} : intOp .add i j = .ok (.int (i + j)) := rfl
theorem int_sub {i j : Int} : intOp .sub i j = .ok (.int (i - j)) := rfl
theorem int_mul {i j : Int} : intOp .mul i j = guard' (mulOk i j) (.ok (.int (i * j))) := rfl
theorem int_fdiv {i j : Int} : intOp .fdiv i j = guard' (decide (0 < j) && decide (j < 1073741824)) (.ok (.int (i / j))) := rfl
theorem int_mod {i j : Int} : intOp .mod i j = guard' (decide (0 < j)) (.ok (.int (i % j))) := rfl
theorem int_pow {i j : Int} : intOp .pow i j = guard' (powOk i j) (.ok (.int (i ^ j.toNat))) := rfl
theorem int_shl {i j : Int} : intOp .shl i j = guard' (powOk i j) (.ok (.int (i * 2 ^ j.toNat))) := rfl
theorem int_shr {i j : Int} : intOp .shr i j = guard' (decide (0 ≤ j)) (.ok (.int (i / 2 ^ j.toNat))) := rfl
theorem int_band {i j : Int} : intOp .band i j = guard' (decide (0 ≤ i) && decide (0 ≤ j)) (.ok (.int ((i.toNat &&& j.toNat : Nat) : Int))) := rfl
theorem int_bor {i j : Int} : intOp .bor i j = guard' (decide (0 ≤ i) && decide (0 ≤ j)) (.ok (.int ((i.toNat ||| j.toNat : Nat) : Int))) := rfl
theorem int_bxor {i j : Int} : intOp .bxor i j = guard' (decide (0 ≤ i) && decide (0 ≤ j)) (.ok (.int ((i.toNat ^^^ j.toNat : Nat) : Int))) := rfl
theorem cmp_eq {a b : D} : cmpOp .eq a b = eqOp a b := rfl
theorem cmp_ne {a b : D} : cmpOp .ne a b = (eqOp a b).bind fun r => .ok (!r) := rfl
theorem cmp_in {a b : D} : cmpOp .inn a b = inOp a b := rfl
theorem cmp_nin {a b : D} : cmpOp .nin a b = (inOp a b).bind fun r => .ok (!r) := rfl
theorem cmp_lt {i j : Int} : cmpOp .lt (.int i) (.int j) = .ok (decide (i < j)) := rfl
theorem cmp_le {i j : Int} : cmpOp .le (.int i) (.int j) = .ok (decide (i ≤ j)) := rfl
theorem cmp_gt {i j : Int} : cmpOp .gt (.int i) (.int j) = .ok (decide (j < i)) := rfl
theorem cmp_ge {i j : Int} : cmpOp .ge (.int i) (.int j) = .ok (decide (j ≤ i)) := rfl
theorem eq_op {a b : D} : eqOp a b = guard' (okD 40 a && okD 40 b) (.ok (eqB a b)) := rfl
theorem in_lst {a : D} {ys : List D} : inOp a (.lst ys) = guard' (okD 40 a && okD 40 (.lst ys)) (.ok (ys.any fun y => eqB y a)) := rfl
theorem in_tup {a : D} {ys : List D} : inOp a (.tup ys) = guard' (flat a && ys.all flat) (.ok (ys.any fun y => eqB y a)) := rfl
theorem ix_lst {xs : List D} {i : Int} : ixOp (.lst xs) (.int i) = match atI xs i with | some d => .ok d | none => .err := rfl
theorem ix_tup {xs : List D} {i : Int} : ixOp (.tup xs) (.int i) = match atI xs i with | some d => .ok d | none => .err := rfl
theorem ix_scr {xs : List Int} {i : Int} : ixOp (.scr xs) (.int i) = match atI xs i with | some d => .ok (.int d) | none => .err := rfl
theorem ix_str {s : List Nat} {i : Int} : ixOp (.str s) (.int i) = guard' (decide (s.length ≤ most)) (match atI s i with | some c => .ok (.str [c]) | none => .err) := rfl
theorem sl_lst {xs : List D} {lo hi : Option Int} : slOp (.lst xs) lo hi = .ok (.fl (cut xs lo hi)) := rfl
theorem sl_tup {xs : List D} {lo hi : Option Int} : slOp (.tup xs) lo hi = .ok (.d (.tup (cut xs lo hi))) := rfl
theorem sl_str {s : List Nat} {lo hi : Option Int} : slOp (.str s) lo hi = guard' (decide (s.length ≤ most)) (.ok (.d (.str (cut s lo hi)))) := rfl
theorem end_t {d : D} : endOf true d = some none := rfl
theorem end_i {i : Int} : endOf false (.int i) = some (some i) := rfl
theorem bi_len_l {xs : List D} : biOp .len [.lst xs] = .ok (.d (.int xs.length)) := rfl
theorem bi_len_t {xs : List D} : biOp .len [.tup xs] = .ok (.d (.int xs.length)) := rfl
theorem bi_len_c {xs : List Int} : biOp .len [.scr xs] = .ok (.d (.int xs.length)) := rfl
theorem bi_len_s {s : List Nat} : biOp .len [.str s] = guard' (decide (s.length ≤ most)) (.ok (.d (.int s.length))) := rfl
theorem bi_abs {i : Int} : biOp .abs [.int i] = .ok (.d (.int (if i < 0 then -i else i))) := rfl
theorem bi_sum {xs : List D} : biOp .sum [.lst xs] = match intsOf xs with | some ns => .ok (.d (.int ns.sum)) | none => .err := rfl
theorem bi_maxl {xs : List D} : biOp .maxl [.lst xs] = match intsOf xs with | some ns => guard' (!ns.isEmpty) (.ok (.d (.int (maxOf ns)))) | none => .err := rfl
theorem bi_minl {xs : List D} : biOp .minl [.lst xs] = match intsOf xs with | some ns => guard' (!ns.isEmpty) (.ok (.d (.int (minOf ns)))) | none => .err := rfl
theorem bi_max2 {i j : Int} : biOp .max2 [.int i, .int j] = .ok (.d (.int (if j > i then j else i))) := rfl
theorem bi_min2 {i j : Int} : biOp .min2 [.int i, .int j] = .ok (.d (.int (if j < i then j else i))) := rfl
theorem bi_any {xs : List D} : biOp .any [.lst xs] = match blsOf xs with | some bs => .ok (.d (.bl (bs.any id))) | none => .err := rfl
theorem bi_all {xs : List D} : biOp .all [.lst xs] = match blsOf xs with | some bs => .ok (.d (.bl (bs.all id))) | none => .err := rfl
theorem bi_int_i {i : Int} : biOp .int [.int i] = .ok (.d (.int i)) := rfl
theorem bi_int_b {b : Bool} : biOp .int [.bl b] = .ok (.d (.int (if b then 1 else 0))) := rfl
theorem bi_list_l {xs : List D} : biOp .list [.lst xs] = .ok (.fl xs) := rfl
theorem bi_list_t {xs : List D} : biOp .list [.tup xs] = .ok (.fl xs) := rfl
theorem bi_tuple_l {xs : List D} : biOp .tuple [.lst xs] = .ok (.d (.tup xs)) := rfl
theorem bi_tuple_t {xs : List D} : biOp .tuple [.tup xs] = .ok (.d (.tup xs)) := rfl
theorem bi_sorted {xs : List D} : biOp .sorted [.lst xs] = match intsOf xs with | some ns => .ok (.fl ((sortI ns).map D.int)) | none => .err := rfl
theorem bi_sset {xs : List D} : biOp .sset [.lst xs] = match intsOf xs with | some ns => guard' (decide (ns.length ≤ 1000)) (.ok (.fl ((sortU ns).map D.int))) | none => .err := rfl
theorem ty_non {t : Ty} : isTy t .non = .ok false := rfl
theorem ty_bl {t : Ty} {b : Bool} : isTy t (.bl b) = .ok (t == .bool || t == .int) := rfl
theorem ty_int {t : Ty} {i : Int} : isTy t (.int i) = .ok (t == .int) := rfl
theorem ty_str {t : Ty} {s : List Nat} : isTy t (.str s) = .ok (t == .str) := rfl
theorem ty_lst {t : Ty} {xs : List D} : isTy t (.lst xs) = .ok (t == .list) := rfl
theorem ty_tup {t : Ty} {xs : List D} : isTy t (.tup xs) = .ok (t == .tuple) := rfl
theorem ty_scr {t : Ty} {xs : List Int} : isTy t (.scr xs) = .ok (t == .list) := rfl
theorem toB_bl {b : Bool} : toB (.d (.bl b)) = .ok b := rfl
theorem set_n {i : Nat} {d : D} {env : Env} : setTg (.n i) d env = .ok (env.set i (some d)) := rfl
theorem set_t {is : List Nat} {xs : List D} {env : Env} : setTg (.t is) (.tup xs) env = guard' (decide (xs.length = is.length)) (.ok ((is.zip xs).foldl (fun e p => e.set p.1 (some p.2)) env)) := rfl
theorem set_tl {is : List Nat} {xs : List D} {env : Env} : setTg (.t is) (.lst xs) env = guard' (decide (xs.length = is.length)) (.ok ((is.zip xs).foldl (fun e p => e.set p.1 (some p.2)) env)) := rfl
theorem it_seq_l {xs : List D} {b : D} : items .seq (.lst xs) b = .ok xs := rfl
theorem it_seq_t {xs : List D} {b : D} : items .seq (.tup xs) b = .ok xs := rfl
theorem it_seq_s {s : List Nat} {b : D} : items .seq (.str s) b = .ok (s.map fun c => D.str [c]) := rfl
theorem it_rng1 {n : Int} {b : D} : items .rng1 (.int n) b = guard' (small n) (.ok (upFrom 0 n.toNat)) := rfl
theorem it_rng2 {m n : Int} : items .rng2 (.int m) (.int n) = guard' (small m && small n) (.ok (upFrom m (n - m).toNat)) := rfl
theorem it_enmT {xs : List D} {b : D} : items .enm (.tup xs) b = .ok (pairs (upFrom 0 xs.length) xs) := rfl
theorem me_count {n : Nat} {xs : List D} {S : Store} (h : S[n]? = some (.lst xs)) : meOp .count n [.non] S = guard' (xs.all noneOrInt) (.ok (.d (.int (xs.countP fun d => decide (d = .non) : Nat)), S)) := by
  simp only [meOp, h]
theorem it_enm {xs : List D} {b : D} : items .enm (.lst xs) b = .ok (pairs (upFrom 0 xs.length) xs) := rfl
theorem it_zp_l {xs ys : List D} : items .zp (.lst xs) (.lst ys) = .ok (pairs xs ys) := rfl
theorem it_zp_t {xs ys : List D} : items .zp (.tup xs) (.tup ys) = .ok (pairs xs ys) := rfl
theorem it_rev_l {xs : List D} {b : D} : items .rev (.lst xs) b = .ok xs.reverse := rfl
theorem it_rev_t {xs : List D} {b : D} : items .rev (.tup xs) b = .ok xs.reverse := rfl
theorem me_append {S : Store} {n : Nat} {xs : List D} {d : D} (h : S[n]? = some (.lst xs)) : meOp .append n [d] S = guard' (decide (xs.length < most)) (.ok (.d .non, S.set n (.lst (xs ++ [d])))) := by
  simp only [meOp, h]
theorem me_extend {S : Store} {n : Nat} {xs ys : List D} {d : D} (h : S[n]? = some (.lst xs)) (hd : pk S d = .lst ys) : meOp .extend n [d] S = guard' (decide (xs.length + ys.length ≤ most)) (.ok (.d .non, S.set n (.lst (xs ++ ys)))) := by
  simp only [meOp, h, hd]
theorem me_pop {S : Store} {n : Nat} {xs : List D} (h : S[n]? = some (.lst xs)) : meOp .pop n [] S = match xs.getLast? with | some d => .ok (.d d, S.set n (.lst xs.dropLast)) | none => .err := by
  simp only [meOp, h] <;> rfl
theorem me_reverse {S : Store} {n : Nat} {xs : List D} (h : S[n]? = some (.lst xs)) : meOp .reverse n [] S = .ok (.d .non, S.set n (.lst xs.reverse)) := by
  simp only [meOp, h]
theorem ty_int_int : (Ty.int == Ty.int) = true := rfl
theorem ty_int_bool : (Ty.int == Ty.bool) = false := rfl
theorem ty_bool_int : (Ty.bool == Ty.int) = false := rfl
theorem ty_bool_bool : (Ty.bool == Ty.bool) = true := rfl
theorem ty_list_list : (Ty.list == Ty.list) = true := rfl
theorem ty_tuple_tuple : (Ty.tuple == Ty.tuple) = true := rfl
theorem ty_list_tuple : (Ty.list == Ty.tuple) = false := rfl
theorem ty_tuple_list : (Ty.tuple == Ty.list) = false := rfl
theorem ty_tuple_int : (Ty.tuple == Ty.int) = false := rfl
theorem ty_tuple_bool : (Ty.tuple == Ty.bool) = false := rfl
theorem ty_int_tuple : (Ty.int == Ty.tuple) = false := rfl
theorem ty_str_str : (Ty.str == Ty.str) = true := rfl
/-! ### expressions -/
section
variable {gl : Nat → Option D} {cf : Cf} {env : Env} {S : Store} {Q : W × Store → Prop}
theorem sat_var {i : Nat} : (ev gl cf (.var i) env S).sat Q ↔ ∃ d, env[i]? = some (some d) ∧ Q (.d d, S) := by
  simp only [ev]
  split
  · rename_i d h
    rw [sat_ok]
    exact ⟨fun q => ⟨d, h, q⟩, fun ⟨d', h', q⟩ => by rw [h] at h'; cases h'; exact q⟩
  · rename_i h
    rw [sat_err]
    exact ⟨False.elim, fun ⟨d, h', _⟩ => h d h'⟩
theorem sat_var' {i : Nat} {d : D} (h : env[i]? = some (some d)) : (ev gl cf (.var i) env S).sat Q ↔ Q (.d d, S) := by
  simp only [ev, h, sat_ok]
theorem sat_non : (ev gl cf .non env S).sat Q ↔ Q (.d .non, S) := by simp only [ev, sat_ok]
theorem sat_bl {b : Bool} : (ev gl cf (.bl b) env S).sat Q ↔ Q (.d (.bl b), S) := by simp only [ev, sat_ok]
theorem sat_int {i : Int} : (ev gl cf (.int i) env S).sat Q ↔ Q (.d (.int i), S) := by simp only [ev, sat_ok]
theorem sat_str {s : List Nat} : (ev gl cf (.str s) env S).sat Q ↔ Q (.d (.str s), S) := by simp only [ev, sat_ok]
theorem sat_glob {g : Nat} {d : D} (h : gl g = some d) : (ev gl cf (.glob g) env S).sat Q ↔ Q (.d d, S) := by simp only [ev, h, sat_ok]
theorem sat_bin {o : Bop} {a b : E} : (ev gl cf (.bin o a b) env S).sat Q ↔ (ev gl cf a env S).sat fun x => (ev gl cf b env x.2).sat fun y => (binOp o (pk y.2 x.1.toD) (pk y.2 y.1.toD)).sat fun w => Q (w, y.2) := by
  simp only [ev, sat_bind, sat_ok]
theorem sat_neg {a : E} : (ev gl cf (.neg a) env S).sat Q ↔ (ev gl cf a env S).sat fun x => ∃ i, x.1 = .d (.int i) ∧ Q (.d (.int (-i)), x.2) := by
  simp only [ev, sat_bind]
  constructor
  · rintro ⟨x, e, h⟩
    refine ⟨x, e, ?_⟩
    obtain ⟨x1, x2⟩ := x
    dsimp only at h ⊢
    split at h
    · rename_i i
      exact ⟨i, rfl, sat_ok.mp h⟩
    · exact (sat_err.mp h).elim
  · rintro ⟨x, e, i, h1, h2⟩
    refine ⟨x, e, ?_⟩
    obtain ⟨x1, x2⟩ := x
    cases h1
    exact sat_ok.mpr h2
theorem sat_cmp {o : Cop} {a b : E} : (ev gl cf (.cmp o a b) env S).sat Q ↔ (ev gl cf a env S).sat fun x => (ev gl cf b env x.2).sat fun y => (cmpOp o (pk y.2 x.1.toD) (pk y.2 y.1.toD)).sat fun r => Q (.d (.bl r), y.2) := by
  simp only [ev, sat_bind, sat_ok]
theorem sat_chain {o o' : Cop} {a b c : E} : (ev gl cf (.chain o o' a b c) env S).sat Q ↔ (ev gl cf a env S).sat fun x => (ev gl cf b env x.2).sat fun y => (cmpOp o (pk y.2 x.1.toD) (pk y.2 y.1.toD)).sat fun r =>
    if r = true then (ev gl cf c env y.2).sat fun z => (cmpOp o' (pk z.2 y.1.toD) (pk z.2 z.1.toD)).sat fun q => Q (.d (.bl q), z.2) else Q (.d (.bl false), y.2) := by
  simp only [ev, sat_bind, sat_ite, sat_ok]
theorem sat_isN {a : E} : (ev gl cf (.isN a) env S).sat Q ↔ (ev gl cf a env S).sat fun x => Q (.d (.bl (decide (x.1.toD = .non))), x.2) := by
  simp only [ev, sat_bind, sat_ok]
theorem sat_notN {a : E} : (ev gl cf (.notN a) env S).sat Q ↔ (ev gl cf a env S).sat fun x => Q (.d (.bl (!decide (x.1.toD = .non))), x.2) := by
  simp only [ev, sat_bind, sat_ok]
theorem sat_and {a b : E} : (ev gl cf (.and a b) env S).sat Q ↔ (evB gl cf a env S).sat fun r => if r.1 = true then (evB gl cf b env r.2).sat fun q => Q (.d (.bl q.1), q.2) else Q (.d (.bl false), r.2) := by
  simp only [ev, sat_bind, sat_ite, sat_ok, sat_evB]
theorem sat_or {a b : E} : (ev gl cf (.or a b) env S).sat Q ↔ (evB gl cf a env S).sat fun r => if r.1 = true then Q (.d (.bl true), r.2) else (evB gl cf b env r.2).sat fun q => Q (.d (.bl q.1), q.2) := by
  simp only [ev, sat_bind, sat_ite, sat_ok, sat_evB]
theorem sat_not {a : E} : (ev gl cf (.not a) env S).sat Q ↔ (evB gl cf a env S).sat fun r => Q (.d (.bl (!r.1)), r.2) := by
  simp only [ev, sat_bind, sat_ok, sat_evB]
theorem sat_ifE {c a b : E} : (ev gl cf (.ife c a b) env S).sat Q ↔ (evB gl cf c env S).sat fun r => if r.1 = true then (ev gl cf a env r.2).sat Q else (ev gl cf b env r.2).sat Q := by
  simp only [ev, sat_bind, sat_ite, sat_evB]
theorem sat_tup {es : Es} : (ev gl cf (.tup es) env S).sat Q ↔ (evs gl cf es env S).sat fun x => x.1.length ≤ most ∧ Q (.d (.tup x.1), x.2) := by
  simp only [ev, sat_bind, sat_ok, sat_guard, decide_eq_true_eq]
theorem sat_lst {es : Es} : (ev gl cf (.lst es) env S).sat Q ↔ (evs gl cf es env S).sat fun x => x.1.length ≤ most ∧ Q (.fl x.1, x.2) := by
  simp only [ev, sat_bind, sat_ok, sat_guard, decide_eq_true_eq]
theorem sat_ix {a b : E} : (ev gl cf (.ix a b) env S).sat Q ↔ (ev gl cf a env S).sat fun x => (ev gl cf b env x.2).sat fun y => (ixOp (pk y.2 x.1.toD) y.1.toD).sat fun d => Q (.d d, y.2) := by
  simp only [ev, sat_bind, sat_ok]
theorem sat_slN {a : E} : (ev gl cf (.sl a .non .non) env S).sat Q ↔ (ev gl cf a env S).sat fun x => (slOp (pk x.2 x.1.toD) none none).sat fun w => Q (w, x.2) := by
  simp only [ev, sat_bind, sat_calm, sat_ok, show isNonE E.non = true from rfl, end_t]
theorem sat_slL {a lo : E} (h : isNonE lo = false) : (ev gl cf (.sl a lo .non) env S).sat Q ↔ (ev gl cf a env S).sat fun x => (ev gl cf lo env x.2).sat fun l => ∃ i, l.1 = .d (.int i) ∧ (slOp (pk l.2 x.1.toD) (some i) none).sat fun w => Q (w, l.2) := by
  simp only [ev, sat_bind, sat_calm, sat_ok, show isNonE E.non = true from rfl, end_t, h]
  constructor
  · rintro ⟨x, e, l, e', h⟩
    refine ⟨x, e, l, e', ?_⟩
    obtain ⟨l1, l2⟩ := l
    cases l1 with
    | fl xs => exact (sat_err.mp h).elim
    | d v =>
      cases v with
      | int i =>
        simp only [W.toD, end_i, sat_bind, sat_ok] at h
        exact ⟨i, rfl, h⟩
      | _ => exact (sat_err.mp h).elim
  · rintro ⟨x, e, l, e', i, h1, h2⟩
    refine ⟨x, e, l, e', ?_⟩
    obtain ⟨l1, l2⟩ := l
    cases h1
    simp only [W.toD, end_i, sat_bind, sat_ok]
    exact h2
theorem sat_slH {a hi : E} (h : isNonE hi = false) : (ev gl cf (.sl a .non hi) env S).sat Q ↔ (ev gl cf a env S).sat fun x => (ev gl cf hi env x.2).sat fun l => ∃ i, l.1 = .d (.int i) ∧ (slOp (pk l.2 x.1.toD) none (some i)).sat fun w => Q (w, l.2) := by
  simp only [ev, sat_bind, sat_calm, sat_ok, show isNonE E.non = true from rfl, end_t, h]
  constructor
  · rintro ⟨x, e, l, e', h⟩
    refine ⟨x, e, l, e', ?_⟩
    obtain ⟨l1, l2⟩ := l
    cases l1 with
    | fl xs => exact (sat_err.mp h).elim
    | d v =>
      cases v with
      | int i =>
        simp only [W.toD, end_i, sat_bind, sat_ok] at h
        exact ⟨i, rfl, h⟩
      | _ => exact (sat_err.mp h).elim
  · rintro ⟨x, e, l, e', i, h1, h2⟩
    refine ⟨x, e, l, e', ?_⟩
    obtain ⟨l1, l2⟩ := l
    cases h1
    simp only [W.toD, end_i, sat_bind, sat_ok]
    exact h2
theorem sat_slLv {a : E} {i : Nat} : (ev gl cf (.sl a (.var i) .non) env S).sat Q ↔ (ev gl cf a env S).sat fun x => (ev gl cf (.var i) env x.2).sat fun l => ∃ i, l.1 = .d (.int i) ∧ (slOp (pk l.2 x.1.toD) (some i) none).sat fun w => Q (w, l.2) := sat_slL rfl
theorem sat_slHv {a : E} {i : Nat} : (ev gl cf (.sl a .non (.var i)) env S).sat Q ↔ (ev gl cf a env S).sat fun x => (ev gl cf (.var i) env x.2).sat fun l => ∃ i, l.1 = .d (.int i) ∧ (slOp (pk l.2 x.1.toD) none (some i)).sat fun w => Q (w, l.2) := sat_slH rfl
theorem sat_slLb {a : E} {o : Bop} {u v : E} : (ev gl cf (.sl a (.bin o u v) .non) env S).sat Q ↔ (ev gl cf a env S).sat fun x => (ev gl cf (.bin o u v) env x.2).sat fun l => ∃ i, l.1 = .d (.int i) ∧ (slOp (pk l.2 x.1.toD) (some i) none).sat fun w => Q (w, l.2) := sat_slL rfl
theorem sat_slHb {a : E} {o : Bop} {u v : E} : (ev gl cf (.sl a .non (.bin o u v)) env S).sat Q ↔ (ev gl cf a env S).sat fun x => (ev gl cf (.bin o u v) env x.2).sat fun l => ∃ i, l.1 = .d (.int i) ∧ (slOp (pk l.2 x.1.toD) none (some i)).sat fun w => Q (w, l.2) := sat_slH rfl
theorem sat_slLi {a : E} {i : Int} : (ev gl cf (.sl a (.int i) .non) env S).sat Q ↔ (ev gl cf a env S).sat fun x => (ev gl cf (.int i) env x.2).sat fun l => ∃ i, l.1 = .d (.int i) ∧ (slOp (pk l.2 x.1.toD) (some i) none).sat fun w => Q (w, l.2) := sat_slL rfl
theorem sat_slHi {a : E} {i : Int} : (ev gl cf (.sl a .non (.int i)) env S).sat Q ↔ (ev gl cf a env S).sat fun x => (ev gl cf (.int i) env x.2).sat fun l => ∃ i, l.1 = .d (.int i) ∧ (slOp (pk l.2 x.1.toD) none (some i)).sat fun w => Q (w, l.2) := sat_slH rfl
theorem sat_slLc {a : E} {f : Nat} {es : Es} : (ev gl cf (.sl a (.call f es) .non) env S).sat Q ↔ (ev gl cf a env S).sat fun x => (ev gl cf (.call f es) env x.2).sat fun l => ∃ i, l.1 = .d (.int i) ∧ (slOp (pk l.2 x.1.toD) (some i) none).sat fun w => Q (w, l.2) := sat_slL rfl
theorem sat_slHc {a : E} {f : Nat} {es : Es} : (ev gl cf (.sl a .non (.call f es)) env S).sat Q ↔ (ev gl cf a env S).sat fun x => (ev gl cf (.call f es) env x.2).sat fun l => ∃ i, l.1 = .d (.int i) ∧ (slOp (pk l.2 x.1.toD) none (some i)).sat fun w => Q (w, l.2) := sat_slH rfl
theorem sat_cal {f : Nat} {es : Es} : (ev gl cf (.call f es) env S).sat Q ↔ (evs gl cf es env S).sat fun x => (cf f x.1 x.2).sat Q := by
  simp only [ev, sat_bind]
theorem sat_bi {b : Bi} {es : Es} : (ev gl cf (.bi b es) env S).sat Q ↔ (evs gl cf es env S).sat fun x => (biOp b (x.1.map (pk x.2))).sat fun w => Q (w, x.2) := by
  simp only [ev, sat_bind, sat_ok]
theorem sat_isi {a : E} {t : Ty} : (ev gl cf (.isi a t) env S).sat Q ↔ (ev gl cf a env S).sat fun x => (isTy t (pk x.2 x.1.toD)).sat fun r => Q (.d (.bl r), x.2) := by
  simp only [ev, sat_bind, sat_ok]
theorem sat_isis {a : E} {t u : Ty} : (ev gl cf (.isis a [t, u]) env S).sat Q ↔ (ev gl cf a env S).sat fun x => (isTy t (pk x.2 x.1.toD)).sat fun r => (isTy u (pk x.2 x.1.toD)).sat fun q => Q (.d (.bl (r || q)), x.2) := by
  simp only [ev, sat_bind, sat_ok]
theorem sat_me {m : Me} {a : E} {es : Es} : (ev gl cf (.me m a es) env S).sat Q ↔ (ev gl cf a env S).sat fun x => ∃ n xs, x.1 = .d (.obj n) ∧ x.2[n]? = some (.lst xs) ∧ (evs gl cf es env x.2).sat fun y => (meOp m n y.1 y.2).sat Q := by
  simp only [ev, sat_bind]
  constructor
  · rintro ⟨x, e, h⟩
    refine ⟨x, e, ?_⟩
    obtain ⟨x1, x2⟩ := x
    dsimp only at h ⊢
    split at h
    · rename_i n
      split at h
      · rename_i xs hx
        exact ⟨n, xs, rfl, hx, sat_bind.mp h⟩
      · exact (sat_err.mp h).elim
    · exact (sat_err.mp h).elim
  · rintro ⟨x, e, n, xs, h1, h2, h3⟩
    refine ⟨x, e, ?_⟩
    obtain ⟨x1, x2⟩ := x
    cases h1
    dsimp only at h2 ⊢
    rw [h2]
    exact sat_bind.mpr h3
/-- a turn of a comprehension -/
def lcF (gl : Nat → Option D) (cf : Cf) (el : E) (tg : Tg) (env : Env) (d : D) (S : Store) : Res (Option D × Store) := (setTg tg d env).bind fun env' => (ev gl cf el env' S).bind fun z => .ok (some z.1.toD, z.2)
def lcFi (gl : Nat → Option D) (cf : Cf) (el : E) (tg : Tg) (c : E) (env : Env) (d : D) (S : Store) : Res (Option D × Store) := (setTg tg d env).bind fun env' => (ev gl cf c env' S).bind fun t => (toB t.1).bind fun r =>
        if r then (ev gl cf el env' t.2).bind fun z => .ok (some z.1.toD, z.2) else .ok (none, t.2)
theorem sat_lc {el : E} {tg : Tg} {k : Ik} {a b : E} {own : List Nat} : (ev gl cf (.lc el tg k a b own) env S).sat Q ↔ (ev gl cf a env S).sat fun x => (ev gl cf b env x.2).sat fun y => (items k (pk y.2 x.1.toD) (pk y.2 y.1.toD)).sat fun ds =>
    (compL (fun S' => kept x.1.toD y.2 S' && kept y.1.toD y.2 S') (lcF gl cf el tg (wipe env own)) ds y.2).sat fun q => ds.length ≤ most ∧ Q (.fl q.1, q.2) := by
  simp only [ev, sat_bind, sat_calm, sat_ok, sat_guard, decide_eq_true_eq]
  exact Iff.rfl
theorem sat_lcIf {el : E} {tg : Tg} {k : Ik} {a b c : E} {own : List Nat} : (ev gl cf (.lcIf el tg k a b c own) env S).sat Q ↔ (ev gl cf a env S).sat fun x => (ev gl cf b env x.2).sat fun y => (items k (pk y.2 x.1.toD) (pk y.2 y.1.toD)).sat fun ds =>
    (compL (fun S' => kept x.1.toD y.2 S' && kept y.1.toD y.2 S') (lcFi gl cf el tg c (wipe env own)) ds y.2).sat fun q => ds.length ≤ most ∧ Q (.fl q.1, q.2) := by
  simp only [ev, sat_bind, sat_calm, sat_ok, sat_guard, decide_eq_true_eq]
  exact Iff.rfl
theorem sat_lcF {el : E} {tg : Tg} {d : D} {Q : Option D × Store → Prop} : (lcF gl cf el tg env d S).sat Q ↔ (setTg tg d env).sat fun env' => (ev gl cf el env' S).sat fun z => Q (some z.1.toD, z.2) := by
  simp only [lcF, sat_bind, sat_ok]
theorem sat_lcFi {el c : E} {tg : Tg} {d : D} {Q : Option D × Store → Prop} : (lcFi gl cf el tg c env d S).sat Q ↔ (setTg tg d env).sat fun env' => (evB gl cf c env' S).sat fun r => if r.1 = true then (ev gl cf el env' r.2).sat fun z => Q (some z.1.toD, z.2) else Q (none, r.2) := by
  simp only [lcFi, sat_bind, sat_ok, sat_ite, sat_evB]
theorem sat_lrng {k : Ik} {a b : E} : (ev gl cf (.lrng k a b) env S).sat Q ↔ (ev gl cf a env S).sat fun x => (ev gl cf b env x.2).sat fun y => (rgItems k (pk y.2 x.1.toD) (pk y.2 y.1.toD)).sat fun ds => ds.length ≤ most ∧ Q (.fl ds, y.2) := by
  simp only [ev, sat_bind, sat_ok, sat_guard, decide_eq_true_eq]
theorem sat_isB {neg b : Bool} {a : E} : (ev gl cf (.isB neg b a) env S).sat Q ↔ (ev gl cf a env S).sat fun x => ∃ c, x.1 = .d (.bl c) ∧ Q (.d (.bl (if neg = true then !decide (c = b) else decide (c = b))), x.2) := by
  simp only [ev, sat_bind]
  constructor
  · rintro ⟨x, e, h⟩
    refine ⟨x, e, ?_⟩
    obtain ⟨x1, x2⟩ := x
    dsimp only at h ⊢
    split at h
    · rename_i c
      exact ⟨c, rfl, sat_ok.mp h⟩
    · exact (sat_err.mp h).elim
  · rintro ⟨x, e, c, h1, h2⟩
    refine ⟨x, e, ?_⟩
    obtain ⟨x1, x2⟩ := x
    cases h1
    exact sat_ok.mpr h2
def intO (y : W × Store) : Res (W × Store) := match y.1 with
  | .d (.int j) => .ok (.d (.int j), y.2)
  | _ => .err
def orvK (x : W × Store) (rb : Res (W × Store)) : Res (W × Store) := match x.1 with
  | .d (.int i) => if i = 0 then rb.bind intO else .ok (.d (.int i), x.2)
  | .d .non => rb.bind intO
  | _ => .err
theorem orvK_int {i : Int} {T : Store} {rb : Res (W × Store)} : orvK (.d (.int i), T) rb = if i = 0 then rb.bind intO else .ok (.d (.int i), T) := rfl
theorem orvK_non {T : Store} {rb : Res (W × Store)} : orvK (.d .non, T) rb = rb.bind intO := rfl
theorem intO_int {i : Int} {T : Store} : intO (.d (.int i), T) = .ok (.d (.int i), T) := rfl
theorem sat_orv {a b : E} : (ev gl cf (.orv a b) env S).sat Q ↔ (ev gl cf a env S).sat fun x => (orvK x (ev gl cf b env x.2)).sat Q := by
  simp only [ev, sat_bind]
  exact Iff.rfl
def rv1 (d : D) : Res W := match d with
  | .lst xs => .ok (.fl xs.reverse)
  | .tup xs => .ok (.d (.tup xs.reverse))
  | _ => .err
theorem rv1_l {xs : List D} : rv1 (.lst xs) = .ok (.fl xs.reverse) := rfl
theorem rv1_t {xs : List D} : rv1 (.tup xs) = .ok (.d (.tup xs.reverse)) := rfl
theorem sat_rev1 {a : E} : (ev gl cf (.rev1 a) env S).sat Q ↔ (ev gl cf a env S).sat fun x => (rv1 (pk x.2 x.1.toD)).sat fun w => Q (w, x.2) := by
  simp only [ev, sat_bind]
  constructor
  · rintro ⟨x, e, h⟩
    refine ⟨x, e, ?_⟩
    split at h
    · rename_i xs hx
      rw [hx, rv1_l, sat_ok]
      exact sat_ok.mp h
    · rename_i xs hx
      rw [hx, rv1_t, sat_ok]
      exact sat_ok.mp h
    · exact (sat_err.mp h).elim
  · rintro ⟨x, e, h⟩
    refine ⟨x, e, ?_⟩
    dsimp only
    unfold rv1 at h
    split at h
    · rename_i xs hx
      try rw [hx]
      rw [sat_ok] at h
      exact sat_ok.mpr h
    · rename_i xs hx
      try rw [hx]
      rw [sat_ok] at h
      exact sat_ok.mpr h
    · exact (sat_err.mp h).elim
theorem sat_box {e : E} : (ev gl cf (.box e) env S).sat Q ↔ (ev gl cf e env S).sat fun x => ∃ xs, x.1 = .fl xs ∧ Q (.d (.obj x.2.length), x.2 ++ [.lst xs]) := by
  simp only [ev, sat_bind]
  constructor
  · rintro ⟨x, e, h⟩
    refine ⟨x, e, ?_⟩
    obtain ⟨x1, x2⟩ := x
    cases x1 with
    | d v => exact (sat_err.mp h).elim
    | fl xs => exact ⟨xs, rfl, sat_ok.mp h⟩
  · rintro ⟨x, e, xs, h1, h2⟩
    refine ⟨x, e, ?_⟩
    obtain ⟨x1, x2⟩ := x
    cases h1
    exact sat_ok.mpr h2
theorem sat_unbox {e : E} : (ev gl cf (.unbox e) env S).sat Q ↔ (ev gl cf e env S).sat fun x => ∃ n xs, x.1 = .d (.obj n) ∧ x.2[n]? = some (.lst xs) ∧ Q (.fl xs, x.2.set n .dead) := by
  simp only [ev, sat_bind]
  constructor
  · rintro ⟨x, e, h⟩
    refine ⟨x, e, ?_⟩
    obtain ⟨x1, x2⟩ := x
    dsimp only at h ⊢
    split at h
    · rename_i n
      split at h
      · rename_i xs hx
        exact ⟨n, xs, rfl, hx, sat_ok.mp h⟩
      · exact (sat_err.mp h).elim
    · exact (sat_err.mp h).elim
  · rintro ⟨x, e, n, xs, h1, h2, h3⟩
    refine ⟨x, e, ?_⟩
    obtain ⟨x1, x2⟩ := x
    cases h1
    dsimp only at h2 ⊢
    rw [h2]
    exact sat_ok.mpr h3
theorem sat_esN {Q : List D × Store → Prop} : (evs gl cf .nil env S).sat Q ↔ Q ([], S) := by simp only [evs, sat_ok]
theorem sat_esC {e : E} {es : Es} {Q : List D × Store → Prop} : (evs gl cf (.cons e es) env S).sat Q ↔ (ev gl cf e env S).sat fun x => (evs gl cf es env x.2).sat fun y => Q (x.1.toD :: y.1, y.2) := by
  simp only [evs, sat_bind, sat_ok]
end
theorem ex_d {d : D} {P : D → Prop} : (∃ e, (some (some d) : Option (Option D)) = some (some e) ∧ P e) ↔ P d := ⟨fun ⟨e, h, p⟩ => by cases h; exact p, fun p => ⟨d, rfl, p⟩⟩
theorem ex_int {i : Int} {P : Int → Prop} : (∃ e, (W.d (.int i)) = .d (.int e) ∧ P e) ↔ P i := ⟨fun ⟨e, h, p⟩ => by cases h; exact p, fun p => ⟨i, rfl, p⟩⟩
theorem ex_fl {xs : List D} {P : List D → Prop} : (∃ ys, (W.fl xs) = .fl ys ∧ P ys) ↔ P xs := ⟨fun ⟨e, h, p⟩ => by cases h; exact p, fun p => ⟨xs, rfl, p⟩⟩
theorem ex_obj {n : Nat} {P : Nat → List D → Prop} : (∃ m xs, (W.d (.obj n)) = .d (.obj m) ∧ P m xs) ↔ ∃ xs, P n xs := ⟨fun ⟨m, xs, h, p⟩ => by cases h; exact ⟨xs, p⟩, fun ⟨xs, p⟩ => ⟨n, xs, rfl, p⟩⟩
theorem ex_cell {xs : List D} {P : List D → Prop} : (∃ ys, (some (Cell.lst xs)) = some (Cell.lst ys) ∧ P ys) ↔ P xs := ⟨fun ⟨e, h, p⟩ => by cases h; exact p, fun p => ⟨xs, rfl, p⟩⟩
theorem ex_oi {n : Nat} {k : Int} {P : Nat → Int → Prop} : (∃ m l, (W.d (.obj n)) = .d (.obj m) ∧ (W.d (.int k)) = .d (.int l) ∧ P m l) ↔ P n k := ⟨fun ⟨m, l, h, h', p⟩ => by cases h; cases h'; exact p, fun p => ⟨n, k, rfl, rfl, p⟩⟩
theorem ex_bl {b : Bool} {P : Bool → Prop} : (∃ c, (W.d (.bl b)) = .d (.bl c) ∧ P c) ↔ P b := ⟨fun ⟨e, h, p⟩ => by cases h; exact p, fun p => ⟨b, rfl, p⟩⟩
theorem ex_lst {ys : List D} {P : List D → Prop} : (∃ xs, (D.lst ys) = .lst xs ∧ P xs) ↔ P ys := ⟨fun ⟨e, h, p⟩ => by cases h; exact p, fun p => ⟨ys, rfl, p⟩⟩
theorem ex_setx {ys : List D} {P : List D → Nat → Prop} {k : Int} : (∃ xs j, some (Cell.lst ys) = some (Cell.lst xs) ∧ ixN xs.length k = some j ∧ P xs j) ↔ ∃ j, ixN ys.length k = some j ∧ P ys j := ⟨fun ⟨xs, j, h, p⟩ => by cases h; exact ⟨j, p⟩, fun ⟨j, p⟩ => ⟨ys, j, rfl, p⟩⟩
theorem ex_j {a : Nat} {P : Nat → Prop} : (∃ j, some a = some j ∧ P j) ↔ P a := ⟨fun ⟨j, h, p⟩ => by cases h; exact p, fun p => ⟨a, rfl, p⟩⟩
theorem shl1 {n : Nat} : (1 : Int) * 2 ^ n = ((2 ^ n : Nat) : Int) := by simp
/-! ### comprehensions -/
theorem compL_pure {ok : Store → Bool} {f : D → Store → Res (Option D × Store)} {S : Store} (g : D → Option D) (hok : ok S = true) : ∀ {ds : List D}, (∀ d ∈ ds, f d S = .ok (g d, S)) → compL ok f ds S = .ok (ds.filterMap g, S)
  | [], _ => rfl
  | d :: ds, h => by
    rw [compL, h d List.mem_cons_self, Res.bind_ok]
    simp only [guard', hok, if_true]
    rw [compL_pure g hok (ds := ds) fun d hd => h d (List.mem_cons_of_mem _ hd), Res.bind_ok, List.filterMap_cons]
    cases g d <;> rfl
theorem sat_compL {ok : Store → Bool} {f : D → Store → Res (Option D × Store)} {Q : List D × Store → Prop} (I : Nat → List D → Store → Prop) : ∀ (ds : List D) (i : Nat) (acc : List D) (S : Store), I i acc S →
    (∀ j d acc S, ds[j]? = some d → I (i + j) acc S → (f d S).sat fun r => ok r.2 = true ∧ I (i + j + 1) (acc ++ r.1.toList) r.2) → (∀ out S, I (i + ds.length) (acc ++ out) S → Q (out, S)) → (compL ok f ds S).sat Q
  | [], i, acc, S, h0, _, h1 => by
    rw [compL, sat_ok]
    exact h1 [] S (by simpa using h0)
  | d :: ds, i, acc, S, h0, st, h1 => by
    rw [compL, sat_bind]
    refine (st 0 d acc S rfl h0).imp ?_
    rintro ⟨r1, r2⟩ ⟨hk, h⟩
    rw [sat_guard]
    refine ⟨hk, ?_⟩
    rw [sat_bind]
    refine sat_compL (Q := fun q => (Res.ok (r1.toList ++ q.1, q.2)).sat Q) I ds (i + 1) (acc ++ r1.toList) r2 h (fun j d' acc' S' hj hI => ?_) (fun out S' hI => ?_)
    · have := st (j + 1) d' acc' S' (by simpa using hj) (by rwa [show i + (j + 1) = i + 1 + j by omega])
      rwa [show i + (j + 1) + 1 = i + 1 + j + 1 by omega] at this
    · rw [sat_ok]
      refine h1 (r1.toList ++ out) S' ?_
      rw [show i + (d :: ds).length = i + 1 + ds.length by simp; omega, ← List.append_assoc]
      exact hI
end
/-! ### calls -/
section
variable {gl : Nat → Option D} {fs : List Fn}
theorem sat_call {n i : Nat} {f : Fn} (hf : fs[i]? = some f) {ds : List D} {S : Store} {Q : W × Store → Prop} (hl : ds.length = f.arity) (hp : f.plain = true) (hc : D.closeds ds = true)
    (h : (exs gl (call gl fs n) f.body (start f ds) []).sat fun r => match r.1 with
      | .ret w => D.closed w.toD = true ∧ Q (w, S)
      | .nx _ => Q (.d .non, S)
      | _ => False) (hi : f.init = false := by rfl) : (call gl fs (n + 1) i ds S).sat Q := by
  simp only [call, hf, hl, decide_true, hi, Bool.false_eq_true, if_false, hp, if_true, hc, sat_guard, true_and]
  obtain ⟨⟨r1, r2⟩, e, q⟩ := h
  rw [e]
  cases r1 with
  | ret w => simp only [Res.bind_ok, endW, plainEnd, sat_ok, sat_guard]; exact q
  | nx env => simp only [Res.bind_ok, endW, plainEnd, sat_ok, sat_guard]; exact ⟨rfl, q⟩
  | brk env => exact q.elim
  | cnt env => exact q.elim
theorem sat_callS {n i : Nat} {f : Fn} (hf : fs[i]? = some f) {ds : List D} {S : Store} {Q : W × Store → Prop} (hl : ds.length = f.arity) (hp : f.plain = false)
    (h : (exs gl (call gl fs n) f.body (start f ds) S).sat fun r => match r.1 with
      | .ret w => Q (w, r.2)
      | .nx _ => Q (.d .non, r.2)
      | _ => False) (hi : f.init = false := by rfl) : (call gl fs (n + 1) i ds S).sat Q := by
  simp only [call, hf, hl, decide_true, hi, hp, Bool.false_eq_true, if_false, sat_guard, true_and, sat_bind]
  refine h.imp ?_
  rintro ⟨r1, r2⟩ q
  cases r1 with
  | ret w => simp only [endW, sat_ok]; exact q
  | nx env => simp only [endW, sat_ok]; exact q
  | brk env => exact q.elim
  | cnt env => exact q.elim
theorem sat_callI {n i : Nat} {f : Fn} (hf : fs[i]? = some f) {ds : List D} {S : Store} {Q : W × Store → Prop} (hl : ds.length = f.arity) (hi : f.init = true)
    (h : (exs gl (call gl fs n) f.body (start f ds) S).sat fun r => match r.1 with
      | .ret w => Q (w, r.2)
      | .nx _ => Q (.d .non, r.2)
      | _ => False) : (call gl fs (n + 1 + 1) i ds S).sat Q := by
  simp only [call, hf, hl, decide_true, hi, if_true, sat_guard, true_and, sat_bind]
  refine h.imp ?_
  rintro ⟨r1, r2⟩ q
  cases r1 with
  | ret w => simp only [endW, sat_ok]; exact q
  | nx env => simp only [endW, sat_ok]; exact q
  | brk env => exact q.elim
  | cnt env => exact q.elim
end
end Nl

namespace Nl
def f_is_int_f58b : Fn := ⟨["thing", "least", "most"], 3, true,
  (.cons (.ret (.and (.isi (.var 0) .int) (.and (.not (.isi (.var 0) .bool)) (.chain .le .le (.var 1) (.var 0) (.var 2))))) .nil), false⟩
def f_spots_of_ec1d : Fn := ⟨["cuts", "found", "at"], 1, true,
  (.cons (.asg (.n 1) (.box (.lst .nil))) (.cons (.asg (.n 2) (.int 0)) (.cons (.whl 100 (.cmp .gt (.bin .shr (.var 0) (.var 2)) (.int 0)) (.cons (.ife (.cmp .eq (.bin .band (.bin .shr (.var 0) (.var 2)) (.int 1)) (.int 1)) (.cons (.ex (.me .append (.var 1) (.cons (.var 2) .nil))) .nil) .nil) (.cons (.asg (.n 2) (.bin .add (.var 2) (.int 1))) .nil))) (.cons (.ret (.unbox (.var 1))) .nil)))), false⟩
def f_how_many_5a9b (i_spots_of : Nat) : Fn := ⟨["cuts"], 1, true,
  (.cons (.ret (.bi .len (.cons (.call i_spots_of (.cons (.var 0) .nil)) .nil))) .nil), false⟩
def f_holds_5c7e : Fn := ⟨["one", "other"], 2, true,
  (.cons (.ret (.cmp .eq (.bin .band (.var 0) (.var 1)) (.var 1))) .nil), false⟩
def f_further_8139 (i_how_many : Nat) : Fn := ⟨["one", "other"], 2, true,
  (.cons (.ret (.bin .sub (.call i_how_many (.cons (.var 0) .nil)) (.call i_how_many (.cons (.bin .band (.var 0) (.var 1)) .nil)))) .nil), false⟩
def f_above_a9ad (i_holds : Nat) : Fn := ⟨["n", "cuts", "some"], 2, true,
  (.cons (.ret (.lcIf (.var 2) (.n 2) .rng2 (.var 1) (.bin .shl (.int 1) (.var 0)) (.call i_holds (.cons (.var 2) (.cons (.var 1) .nil))) [2])) .nil), false⟩
def f_made_writing_48a6 (i_is_int : Nat) (g_MOST_SPOTS : Nat) (g_FEWEST_NUMBERS : Nat) (g_MOST_NUMBERS : Nat) : Fn := ⟨["n", "k", "table", "number"], 3, true,
  (.cons (.ife (.or (.not (.call i_is_int (.cons (.var 0) (.cons (.int 1) (.cons (.glob g_MOST_SPOTS) .nil))))) (.not (.call i_is_int (.cons (.var 1) (.cons (.glob g_FEWEST_NUMBERS) (.cons (.glob g_MOST_NUMBERS) .nil)))))) (.cons (.raise 1) .nil) .nil) (.cons (.ife (.or (.not (.isi (.var 2) .tuple)) (.cmp .ne (.bi .len (.cons (.var 2) .nil)) (.bin .shl (.int 1) (.var 0)))) (.cons (.raise 1) .nil) .nil) (.cons (.forr (.n 3) .seq (.var 2) .non (.cons (.ife (.and (.notN (.var 3)) (.not (.call i_is_int (.cons (.var 3) (.cons (.int 0) (.cons (.bin .sub (.var 1) (.int 1)) .nil)))))) (.cons (.raise 1) .nil) .nil) .nil)) (.cons (.ret (.tup (.cons (.var 0) (.cons (.var 1) (.cons (.var 2) .nil))))) .nil)))), false⟩
def f_ways_up_8af0 (i_above : Nat) : Fn := ⟨["writing", "cuts", "number", "some"], 3, true,
  (.cons (.ret (.lcIf (.var 3) (.n 3) .seq (.call i_above (.cons (.ix (.var 0) (.int 0)) (.cons (.var 1) .nil))) .non (.cmp .eq (.ix (.ix (.var 0) (.int 2)) (.var 3)) (.var 2)) [3])) .nil), false⟩
def f_nearest_b761 (i_ways_up : Nat) (i_further : Nat) : Fn := ⟨["writing", "cuts", "number", "found", "one"], 3, true,
  (.cons (.asg (.n 3) .non) (.cons (.forr (.n 4) .seq (.call i_ways_up (.cons (.var 0) (.cons (.var 1) (.cons (.var 2) .nil)))) .non (.cons (.ife (.or (.isN (.var 3)) (.cmp .lt (.call i_further (.cons (.var 4) (.cons (.var 1) .nil))) (.call i_further (.cons (.var 3) (.cons (.var 1) .nil))))) (.cons (.asg (.n 3) (.var 4)) .nil) .nil) .nil)) (.cons (.ret (.var 3)) .nil))), false⟩
def f_law_stream_dd9d : Fn := ⟨["_law_script", "_law_k", "_law_cell", "_law_mixed"], 2, true,
  (.cons (.ife (.cmp .lt (.var 1) (.bi .len (.cons (.var 0) .nil))) (.cons (.asg (.n 2) (.bi .abs (.cons (.ix (.var 0) (.var 1)) .nil))) (.cons (.asg (.n 3) (.bin .add (.bin .add (.bin .mod (.var 2) (.int 2147483629)) (.bin .mul (.var 1) (.var 1))) (.int 1))) (.cons (.ife (.cmp .lt (.var 2) (.bin .pow (.int 10) (.int 18))) (.cons (.asg (.n 2) (.int 0)) .nil) .nil) (.cons (.ret (.lst (.cons (.var 2) (.cons (.var 3) .nil)))) .nil)))) .nil) (.cons (.ret (.lst (.cons (.int 0) (.cons (.bin .add (.bin .mul (.var 1) (.var 1)) (.int 11)) .nil)))) .nil)), false⟩
def f_law_take_ed9d : Fn := ⟨["_law_stream_here", "_law_most", "_law_digit"], 2, false,
  (.cons (.ife (.cmp .eq (.ix (.var 0) (.int 0)) (.int 0)) (.cons (.setix (.var 0) (.int 1) (.bin .mod (.bin .add (.bin .mul (.ix (.var 0) (.int 1)) (.int 48271)) (.int 12345)) (.int 2147483647))) (.cons (.ret (.bin .mod (.bin .mod (.bin .mul (.ix (.var 0) (.int 1)) (.ix (.var 0) (.int 1))) (.int 2147483629)) (.var 1))) .nil)) .nil) (.cons (.asg (.n 2) (.bin .mod (.ix (.var 0) (.int 0)) (.var 1))) (.cons (.setix (.var 0) (.int 0) (.bin .fdiv (.ix (.var 0) (.int 0)) (.var 1))) (.cons (.ret (.var 2)) .nil)))), false⟩
def f_law_table_f5e2 (i_law_take : Nat) : Fn := ⟨["_law_stream_here", "_law_n", "_law_k", "_law_way", "_law_rows", "_law_cuts", "_law_weights", "_law_number", "_law_spot"], 3, false,
  (.cons (.asg (.n 3) (.call i_law_take (.cons (.var 0) (.cons (.int 4) .nil)))) (.cons (.ife (.cmp .eq (.var 3) (.int 3)) (.cons (.asg (.n 6) (.lc (.call i_law_take (.cons (.var 0) (.cons (.var 2) .nil))) (.n 8) .rng1 (.var 1) .non [8])) (.cons (.asg (.n 4) (.box (.lc (.bin .mod (.bi .sum (.cons (.lcIf (.ix (.var 6) (.var 8)) (.n 8) .rng1 (.var 1) .non (.cmp .eq (.bin .band (.bin .shr (.var 5) (.var 8)) (.int 1)) (.int 1)) [8]) .nil)) (.var 2)) (.n 5) .rng1 (.bin .shl (.int 1) (.var 1)) .non [5]))) (.cons (.setix (.var 4) (.call i_law_take (.cons (.var 0) (.cons (.bin .shl (.int 1) (.var 1)) .nil))) .non) (.cons (.ret (.bi .tuple (.cons (.var 4) .nil))) .nil)))) .nil) (.cons (.asg (.n 4) (.box (.lst .nil))) (.cons (.forr (.n 5) .rng1 (.bin .shl (.int 1) (.var 1)) .non (.cons (.asg (.n 7) (.call i_law_take (.cons (.var 0) (.cons (.var 2) .nil)))) (.cons (.ife (.or (.and (.cmp .eq (.var 3) (.int 1)) (.cmp .eq (.call i_law_take (.cons (.var 0) (.cons (.int 2) .nil))) (.int 0))) (.and (.cmp .eq (.var 3) (.int 2)) (.cmp .gt (.call i_law_take (.cons (.var 0) (.cons (.int 5) .nil))) (.int 0)))) (.cons (.asg (.n 7) .non) .nil) .nil) (.cons (.ex (.me .append (.var 4) (.cons (.var 7) .nil))) .nil)))) (.cons (.ret (.bi .tuple (.cons (.var 4) .nil))) .nil))))), false⟩
def f_law_within_90ef : Fn := ⟨["_law_one", "_law_other", "_law_spot"], 2, true,
  (.cons (.ret (.cmp .eq (.lcIf (.var 2) (.n 2) .rng1 (.int 8) .non (.and (.cmp .eq (.bin .band (.bin .shr (.var 0) (.var 2)) (.int 1)) (.int 1)) (.cmp .eq (.bin .band (.bin .shr (.var 1) (.var 2)) (.int 1)) (.int 0))) [2]) (.lst .nil))) .nil), false⟩
def f_law_ways_b3e3 (i_law_within : Nat) : Fn := ⟨["_law_table_here", "_law_cuts", "_law_number", "_law_some"], 3, true,
  (.cons (.ret (.lcIf (.var 3) (.n 3) .rng1 (.bi .len (.cons (.var 0) .nil)) .non (.and (.call i_law_within (.cons (.var 1) (.cons (.var 3) .nil))) (.cmp .eq (.ix (.var 0) (.var 3)) (.var 2))) [3])) .nil), false⟩
def f_law_more_336a : Fn := ⟨["_law_one", "_law_cuts", "_law_spot"], 2, true,
  (.cons (.ret (.bi .len (.cons (.lcIf (.var 2) (.n 2) .rng1 (.int 8) .non (.and (.cmp .eq (.bin .band (.bin .shr (.var 0) (.var 2)) (.int 1)) (.int 1)) (.cmp .eq (.bin .band (.bin .shr (.var 1) (.var 2)) (.int 1)) (.int 0))) [2]) .nil))) .nil), false⟩
def f_law_right_fc80 (i_law_ways : Nat) (i_law_more : Nat) (i_nearest : Nat) : Fn := ⟨["_law_writing", "_law_table_here", "_law_cuts", "_law_number", "_law_some", "_law_found", "_law_one"], 4, true,
  (.cons (.asg (.n 4) (.bi .sortP (.cons (.lc (.tup (.cons (.call i_law_more (.cons (.var 6) (.cons (.var 2) .nil))) (.cons (.var 6) .nil))) (.n 6) .seq (.call i_law_ways (.cons (.var 1) (.cons (.var 2) (.cons (.var 3) .nil)))) .non [6]) .nil))) (.cons (.asg (.n 5) (.call i_nearest (.cons (.var 0) (.cons (.var 2) (.cons (.var 3) .nil))))) (.cons (.ife (.cmp .eq (.var 4) (.lst .nil)) (.cons (.ret (.isN (.var 5))) .nil) .nil) (.cons (.ret (.and (.isi (.var 5) .int) (.and (.not (.isi (.var 5) .bool)) (.cmp .eq (.var 5) (.ix (.ix (.var 4) (.int 0)) (.int 1)))))) .nil)))), false⟩
def f_law_4ddf (i_law_stream : Nat) (i_law_take : Nat) (i_law_table : Nat) (i_made_writing : Nat) (i_law_right : Nat) : Fn := ⟨["_law_script", "_law_j", "_law_stream_here", "_law_n", "_law_k", "_law_table_here", "_law_writing", "_law_turn", "_law_cuts", "_law_number", "_law_one"], 1, true,
  (.cons (.forr (.n 1) .rng1 (.bi .max2 (.cons (.int 3) (.cons (.bi .min2 (.cons (.int 9) (.cons (.bi .len (.cons (.var 0) .nil)) .nil))) .nil))) .non (.cons (.asg (.n 2) (.box (.call i_law_stream (.cons (.var 0) (.cons (.var 1) .nil))))) (.cons (.asg (.n 3) (.bin .add (.int 1) (.call i_law_take (.cons (.var 2) (.cons (.int 8) .nil))))) (.cons (.asg (.n 4) (.bin .add (.int 2) (.call i_law_take (.cons (.var 2) (.cons (.int 5) .nil))))) (.cons (.asg (.n 5) (.call i_law_table (.cons (.var 2) (.cons (.var 3) (.cons (.var 4) .nil))))) (.cons (.asg (.n 6) (.call i_made_writing (.cons (.var 3) (.cons (.var 4) (.cons (.var 5) .nil))))) (.cons (.forr (.n 7) .rng1 (.int 4) .non (.cons (.asg (.n 8) (.ix (.lst (.cons (.int 0) (.cons (.call i_law_take (.cons (.var 2) (.cons (.bin .shl (.int 1) (.var 3)) .nil))) (.cons (.bin .band (.call i_law_take (.cons (.var 2) (.cons (.bin .shl (.int 1) (.var 3)) .nil))) (.call i_law_take (.cons (.var 2) (.cons (.bin .shl (.int 1) (.var 3)) .nil)))) .nil)))) (.bin .mod (.var 7) (.int 3)))) (.cons (.asg (.n 9) (.call i_law_take (.cons (.var 2) (.cons (.var 4) .nil)))) (.cons (.forr (.n 10) .seq (.lst (.cons (.var 9) (.cons (.bin .mod (.bin .add (.var 9) (.int 1)) (.var 4)) (.cons (.var 9) .nil)))) .non (.cons (.ife (.not (.call i_law_right (.cons (.var 6) (.cons (.var 5) (.cons (.var 8) (.cons (.var 10) .nil)))))) (.cons (.ret (.bl false)) .nil) .nil) .nil)) .nil)))) (.cons (.ife (.not (.call i_law_right (.cons (.var 6) (.cons (.var 5) (.cons (.bin .sub (.bi .len (.cons (.var 5) .nil)) (.int 1)) (.cons (.int 0) .nil)))))) (.cons (.ret (.bl false)) .nil) .nil) .nil)))))))) (.cons (.ret (.bl true)) .nil)), false⟩
def f_together_d16c : Fn := ⟨["one", "other"], 2, true,
  (.cons (.ret (.bin .bor (.var 0) (.var 1))) .nil), false⟩
def f_reading_8431 : Fn := ⟨["writing", "cuts"], 2, true,
  (.cons (.ret (.ix (.ix (.var 0) (.int 2)) (.var 1))) .nil), false⟩
def f_law_whole_a601 : Fn := ⟨["_law_found"], 1, true,
  (.cons (.ret (.and (.isi (.var 0) .int) (.not (.isi (.var 0) .bool)))) .nil), false⟩
def f_spots_in_67fa : Fn := ⟨["writing"], 1, true,
  (.cons (.ret (.ix (.var 0) (.int 0))) .nil), false⟩
def f_numbers_in_f315 : Fn := ⟨["writing"], 1, true,
  (.cons (.ret (.ix (.var 0) (.int 1))) .nil), false⟩
def f_table_of_6333 : Fn := ⟨["writing"], 1, true,
  (.cons (.ret (.ix (.var 0) (.int 2))) .nil), false⟩
def f_all_cuts_5693 : Fn := ⟨["n"], 1, true,
  (.cons (.ret (.lrng .rng1 (.bin .shl (.int 1) (.var 0)) .non)) .nil), false⟩
def f_readable_f297 (i_all_cuts : Nat) : Fn := ⟨["writing", "cuts"], 1, true,
  (.cons (.ret (.lcIf (.var 1) (.n 1) .seq (.call i_all_cuts (.cons (.ix (.var 0) (.int 0)) .nil)) .non (.notN (.ix (.ix (.var 0) (.int 2)) (.var 1))) [1])) .nil), false⟩
def f_law_is_d1b5 (i_law_whole : Nat) : Fn := ⟨["_law_found", "_law_n", "_law_k", "_law_table", "_law_some", "_law_one"], 4, true,
  (.cons (.ife (.or (.not (.isi (.var 0) .tuple)) (.or (.cmp .ne (.bi .len (.cons (.var 0) .nil)) (.int 3)) (.not (.isi (.ix (.var 0) (.int 2)) .tuple)))) (.cons (.ret (.bl false)) .nil) .nil) (.cons (.asg (.n 4) (.lcIf (.var 5) (.n 5) .seq (.ix (.var 0) (.int 2)) .non (.notN (.var 5)) [5])) (.cons (.ife (.cmp .ne (.lcIf (.var 5) (.n 5) .seq (.bin .add (.lst (.cons (.ix (.var 0) (.int 0)) (.cons (.ix (.var 0) (.int 1)) .nil))) (.var 4)) .non (.not (.call i_law_whole (.cons (.var 5) .nil))) [5]) (.lst .nil)) (.cons (.ret (.bl false)) .nil) .nil) (.cons (.ret (.cmp .eq (.var 0) (.tup (.cons (.var 1) (.cons (.var 2) (.cons (.bi .tuple (.cons (.var 3) .nil)) .nil)))))) .nil)))), false⟩
def f_ask_int_4321 (i_is_int : Nat) : Fn := ⟨["thing", "least", "most"], 3, true,
  (.cons (.ife (.not (.call i_is_int (.cons (.var 0) (.cons (.var 1) (.cons (.var 2) .nil))))) (.cons (.raise 1) .nil) .nil) .nil), false⟩
def f_ask_list_96f9 (i_ask_int : Nat) (g_MOST_SPOTS : Nat) : Fn := ⟨["thing", "most", "one"], 2, true,
  (.cons (.ife (.or (.not (.isi (.var 0) .list)) (.not (.chain .le .le (.int 1) (.bi .len (.cons (.var 0) .nil)) (.glob g_MOST_SPOTS)))) (.cons (.raise 1) .nil) .nil) (.cons (.forr (.n 2) .seq (.var 0) .non (.cons (.ex (.call i_ask_int (.cons (.var 2) (.cons (.int 0) (.cons (.var 1) .nil))))) .nil)) .nil)), false⟩
def f_least_up_2a53 (i_ways_up : Nat) (i_holds : Nat) : Fn := ⟨["writing", "cuts", "number", "found", "one", "other"], 3, true,
  (.cons (.asg (.n 3) (.box (.lst .nil))) (.cons (.forr (.n 4) .seq (.call i_ways_up (.cons (.var 0) (.cons (.var 1) (.cons (.var 2) .nil)))) .non (.cons (.ife (.cmp .eq (.lcIf (.var 5) (.n 5) .seq (.var 3) .non (.call i_holds (.cons (.var 4) (.cons (.var 5) .nil))) [5]) (.lst .nil)) (.cons (.ex (.me .append (.var 3) (.cons (.var 4) .nil))) .nil) .nil) .nil)) (.cons (.ret (.unbox (.var 3))) .nil))), false⟩
end Nl

/-! The laws' own draws. -/
namespace Nl
section
variable {gl : Nat → Option D} {fs : List Fn}
/-- a stream of draws stands at p -/
def Dr (S : Store) (p : Nat) : Prop := ∃ a b : Int, S[p]? = some (.lst [.int a, .int b])
theorem take_sat {n i p : Nat} {m : Int} {S : Store} {Q : W × Store → Prop} (hf : fs[i]? = some f_law_take_ed9d) (hp : Dr S p) (h0 : 0 < m) (h1 : m < 1073741824)
    (h : ∀ (x : Nat) (a b : Int), (x : Int) < m → Q (.d (.int x), S.set p (.lst [.int a, .int b]))) : (call gl fs (n + 1) i [.obj p, .int m] S).sat Q := by
  obtain ⟨a, b, hp⟩ := hp
  have hl : p < S.length := (List.getElem?_eq_some_iff.mp hp).1
  have nn : ∀ z : Int, ∃ x : Nat, z % m = (x : Int) ∧ (x : Int) < m := fun z => by
    refine ⟨(z % m).toNat, ?_, ?_⟩
    · rw [Int.toNat_of_nonneg (Int.emod_nonneg _ (by omega))]
    · rw [Int.toNat_of_nonneg (Int.emod_nonneg _ (by omega))]
      exact Int.emod_lt_of_pos _ h0
  have hs : ∀ c, (S.set p c)[p]? = some c := fun c => List.getElem?_set_self hl
  refine sat_callS hf rfl rfl ?_
  simp -implicitDefEqProofs only [sat_exs, sat_exs_nil, sat_if, sat_asg, sat_asgT, sat_setix, sat_ex, sat_ret, sat_retN, sat_pass, sat_brk, sat_cnt, sat_raise, sat_evB, sat_ite, sat_for, rest_nx, rest_ret, sat_var, sat_non, sat_bl, sat_int, sat_str, sat_bin, sat_neg, sat_cmp, sat_chain, sat_isN, sat_notN, sat_and, sat_or, sat_not, sat_ifE, sat_tup, sat_lst, sat_ix, sat_slN, sat_slLv, sat_slHv, sat_slLb, sat_slHb, sat_slLi, sat_slHi, sat_slLc, sat_slHc, sat_cal, sat_bi, sat_isi, sat_isis, sat_me, sat_lc, sat_lcIf, sat_lcF, sat_lcFi, sat_lrng, sat_isB, sat_rev1, rv1_l, rv1_t, List.reverse_cons, List.reverse_nil, sat_orv, orvK_int, orvK_non, intO_int, ex_bl, ex_lst, sat_box, sat_unbox, sat_esN, sat_esC, ex_d, ex_int, ex_fl, ex_obj, ex_cell, ex_oi, kept_non, kept_int, kept_tup, kept_lst, kept_str, kept_scr, kept_self, ex_setx, ex_j, shl1, Int.toNat_natCast, Int.natCast_nonneg, start, bin_ii, bin_ll, bin_tt, bin_ss, bin_li, bin_ti, rg_1, rg_2, int_add, int_sub, int_mul, int_fdiv, int_mod, int_pow, int_shl, int_shr, int_band, int_bor, int_bxor, cmp_eq, cmp_ne, cmp_in, cmp_nin, cmp_lt, cmp_le, cmp_gt, cmp_ge, eq_op, in_lst, in_tup, ix_lst, ix_tup, ix_scr, ix_str, sl_lst, sl_tup, sl_str, end_t, end_i, bi_len_l, bi_len_t, bi_len_c, bi_len_s, bi_abs, bi_sum, bi_maxl, bi_minl, bi_max2, bi_min2, bi_any, bi_all, bi_int_i, bi_int_b, bi_list_l, bi_list_t, bi_tuple_l, bi_tuple_t, bi_sorted, bi_sset, ty_non, ty_bl, ty_int, ty_str, ty_lst, ty_tup, ty_scr, toB_bl, set_n, set_t, set_tl, it_seq_l, it_seq_t, it_seq_s, it_rng1, it_rng2, it_enm, it_enmT, it_zp_l, it_zp_t, it_rev_l, it_rev_t, me_append, me_extend, me_pop, me_reverse, me_count, ty_int_int, ty_int_bool, ty_bool_int, ty_bool_bool, ty_list_list, ty_tuple_tuple, ty_list_tuple, ty_tuple_list, ty_tuple_int, ty_tuple_bool, ty_int_tuple, ty_str_str, isNonE, toD_d, toD_fl, clo_d, clo_fl, eqB_nn, eqB_bb, eqB_bi, eqB_ib, eqB_ii, eqB_ss, eqB_ll, eqB_tt, eqB_ni, eqB_in, eqBs_00, eqBs_0c, eqBs_c0, eqBs_cc, okD, okDs, flat, small, powOk, mulOk, most, natAbs_1, natAbs_2, natAbs_10, Int.natAbs_natCast, wipe, intsOf, blsOf, pq_non, pq_bl, pq_int, pq_str, pq_tup, pq_lst, pq_scr, atI_0, atI_1, atI_2, ixN_0, ixN_1, D.closed, D.closeds, sat_ok, sat_bind, sat_guard, sat_err, Res.bind_ok, Res.bind_err, List.map_cons, List.map_nil, List.length_cons, List.length_nil, List.cons_append, List.nil_append, List.getElem?_cons_zero, List.getElem?_cons_succ, List.set_cons_zero, List.set_cons_succ, List.replicate, List.foldl_cons, List.foldl_nil, List.zip_cons_cons, List.zip_nil_left, List.zip_nil_right, Nat.reduceAdd, Nat.reduceSub, Nat.reduceLeDiff, Nat.reduceLT, Int.reduceLT, Int.reduceLE, Int.reduceNeg, Int.reducePow, Int.reduceToNat, Int.reduceAdd, Int.reduceMul, Int.reduceSub, Nat.reducePow, Nat.zero_add, Nat.add_zero, decide_true, decide_false, decide_eq_true_eq, beq_iff_eq, Bool.true_eq_false, reduceCtorEq, if_true, if_false, Bool.false_eq_true, true_and, and_true, Bool.true_and, Bool.and_true, Bool.false_and, Bool.and_false, Bool.not_true, Bool.not_false, Bool.or_true, Bool.true_or, Bool.or_false, Bool.false_or, Bool.and_eq_true, Bool.or_eq_true, Bool.not_eq_true', beq_self_eq_true, Option.map_some, Option.toList, if_true, if_false, f_law_take_ed9d, hp, pq_obj hp]
  split
  · simp -implicitDefEqProofs only [sat_exs, sat_exs_nil, sat_if, sat_asg, sat_asgT, sat_setix, sat_ex, sat_ret, sat_retN, sat_pass, sat_brk, sat_cnt, sat_raise, sat_evB, sat_ite, sat_for, rest_nx, rest_ret, sat_var, sat_non, sat_bl, sat_int, sat_str, sat_bin, sat_neg, sat_cmp, sat_chain, sat_isN, sat_notN, sat_and, sat_or, sat_not, sat_ifE, sat_tup, sat_lst, sat_ix, sat_slN, sat_slLv, sat_slHv, sat_slLb, sat_slHb, sat_slLi, sat_slHi, sat_slLc, sat_slHc, sat_cal, sat_bi, sat_isi, sat_isis, sat_me, sat_lc, sat_lcIf, sat_lcF, sat_lcFi, sat_lrng, sat_isB, sat_rev1, rv1_l, rv1_t, List.reverse_cons, List.reverse_nil, sat_orv, orvK_int, orvK_non, intO_int, ex_bl, ex_lst, sat_box, sat_unbox, sat_esN, sat_esC, ex_d, ex_int, ex_fl, ex_obj, ex_cell, ex_oi, kept_non, kept_int, kept_tup, kept_lst, kept_str, kept_scr, kept_self, ex_setx, ex_j, shl1, Int.toNat_natCast, Int.natCast_nonneg, start, bin_ii, bin_ll, bin_tt, bin_ss, bin_li, bin_ti, rg_1, rg_2, int_add, int_sub, int_mul, int_fdiv, int_mod, int_pow, int_shl, int_shr, int_band, int_bor, int_bxor, cmp_eq, cmp_ne, cmp_in, cmp_nin, cmp_lt, cmp_le, cmp_gt, cmp_ge, eq_op, in_lst, in_tup, ix_lst, ix_tup, ix_scr, ix_str, sl_lst, sl_tup, sl_str, end_t, end_i, bi_len_l, bi_len_t, bi_len_c, bi_len_s, bi_abs, bi_sum, bi_maxl, bi_minl, bi_max2, bi_min2, bi_any, bi_all, bi_int_i, bi_int_b, bi_list_l, bi_list_t, bi_tuple_l, bi_tuple_t, bi_sorted, bi_sset, ty_non, ty_bl, ty_int, ty_str, ty_lst, ty_tup, ty_scr, toB_bl, set_n, set_t, set_tl, it_seq_l, it_seq_t, it_seq_s, it_rng1, it_rng2, it_enm, it_enmT, it_zp_l, it_zp_t, it_rev_l, it_rev_t, me_append, me_extend, me_pop, me_reverse, me_count, ty_int_int, ty_int_bool, ty_bool_int, ty_bool_bool, ty_list_list, ty_tuple_tuple, ty_list_tuple, ty_tuple_list, ty_tuple_int, ty_tuple_bool, ty_int_tuple, ty_str_str, isNonE, toD_d, toD_fl, clo_d, clo_fl, eqB_nn, eqB_bb, eqB_bi, eqB_ib, eqB_ii, eqB_ss, eqB_ll, eqB_tt, eqB_ni, eqB_in, eqBs_00, eqBs_0c, eqBs_c0, eqBs_cc, okD, okDs, flat, small, powOk, mulOk, most, natAbs_1, natAbs_2, natAbs_10, Int.natAbs_natCast, wipe, intsOf, blsOf, pq_non, pq_bl, pq_int, pq_str, pq_tup, pq_lst, pq_scr, atI_0, atI_1, atI_2, ixN_0, ixN_1, D.closed, D.closeds, sat_ok, sat_bind, sat_guard, sat_err, Res.bind_ok, Res.bind_err, List.map_cons, List.map_nil, List.length_cons, List.length_nil, List.cons_append, List.nil_append, List.getElem?_cons_zero, List.getElem?_cons_succ, List.set_cons_zero, List.set_cons_succ, List.replicate, List.foldl_cons, List.foldl_nil, List.zip_cons_cons, List.zip_nil_left, List.zip_nil_right, Nat.reduceAdd, Nat.reduceSub, Nat.reduceLeDiff, Nat.reduceLT, Int.reduceLT, Int.reduceLE, Int.reduceNeg, Int.reducePow, Int.reduceToNat, Int.reduceAdd, Int.reduceMul, Int.reduceSub, Nat.reducePow, Nat.zero_add, Nat.add_zero, decide_true, decide_false, decide_eq_true_eq, beq_iff_eq, Bool.true_eq_false, reduceCtorEq, if_true, if_false, Bool.false_eq_true, true_and, and_true, Bool.true_and, Bool.and_true, Bool.false_and, Bool.and_false, Bool.not_true, Bool.not_false, Bool.or_true, Bool.true_or, Bool.or_false, Bool.false_or, Bool.and_eq_true, Bool.or_eq_true, Bool.not_eq_true', beq_self_eq_true, Option.map_some, Option.toList, if_true, if_false, hp, pq_obj hp, hs, pq_obj (hs _)]
    obtain ⟨x, e, hx⟩ := nn ((b * 48271 + 12345) % 2147483647 * ((b * 48271 + 12345) % 2147483647) % 2147483629)
    rw [e]
    have := Int.emod_nonneg (b * 48271 + 12345) (b := 2147483647) (by omega)
    have := Int.emod_lt_of_pos (b * 48271 + 12345) (b := 2147483647) (by omega)
    exact ⟨.inl (by omega), h0, h x _ _ hx⟩
  · obtain ⟨x, e, hx⟩ := nn a
    rw [e]
    exact ⟨h0, ⟨h0, h1⟩, h x _ _ hx⟩
theorem stream_sat {n i k : Nat} {ns : List Int} {S : Store} {Q : W × Store → Prop} (hf : fs[i]? = some f_law_stream_dd9d) (hk : k < 1000) (h : ∀ a b : Int, Q (.fl [.int a, .int b], S)) : (call gl fs (n + 1) i [.scr ns, .int k] S).sat Q := by
  refine sat_call hf rfl rfl rfl ?_
  simp -implicitDefEqProofs only [sat_exs, sat_exs_nil, sat_if, sat_asg, sat_asgT, sat_setix, sat_ex, sat_ret, sat_retN, sat_pass, sat_brk, sat_cnt, sat_raise, sat_evB, sat_ite, sat_for, rest_nx, rest_ret, sat_var, sat_non, sat_bl, sat_int, sat_str, sat_bin, sat_neg, sat_cmp, sat_chain, sat_isN, sat_notN, sat_and, sat_or, sat_not, sat_ifE, sat_tup, sat_lst, sat_ix, sat_slN, sat_slLv, sat_slHv, sat_slLb, sat_slHb, sat_slLi, sat_slHi, sat_slLc, sat_slHc, sat_cal, sat_bi, sat_isi, sat_isis, sat_me, sat_lc, sat_lcIf, sat_lcF, sat_lcFi, sat_lrng, sat_isB, sat_rev1, rv1_l, rv1_t, List.reverse_cons, List.reverse_nil, sat_orv, orvK_int, orvK_non, intO_int, ex_bl, ex_lst, sat_box, sat_unbox, sat_esN, sat_esC, ex_d, ex_int, ex_fl, ex_obj, ex_cell, ex_oi, kept_non, kept_int, kept_tup, kept_lst, kept_str, kept_scr, kept_self, ex_setx, ex_j, shl1, Int.toNat_natCast, Int.natCast_nonneg, start, bin_ii, bin_ll, bin_tt, bin_ss, bin_li, bin_ti, rg_1, rg_2, int_add, int_sub, int_mul, int_fdiv, int_mod, int_pow, int_shl, int_shr, int_band, int_bor, int_bxor, cmp_eq, cmp_ne, cmp_in, cmp_nin, cmp_lt, cmp_le, cmp_gt, cmp_ge, eq_op, in_lst, in_tup, ix_lst, ix_tup, ix_scr, ix_str, sl_lst, sl_tup, sl_str, end_t, end_i, bi_len_l, bi_len_t, bi_len_c, bi_len_s, bi_abs, bi_sum, bi_maxl, bi_minl, bi_max2, bi_min2, bi_any, bi_all, bi_int_i, bi_int_b, bi_list_l, bi_list_t, bi_tuple_l, bi_tuple_t, bi_sorted, bi_sset, ty_non, ty_bl, ty_int, ty_str, ty_lst, ty_tup, ty_scr, toB_bl, set_n, set_t, set_tl, it_seq_l, it_seq_t, it_seq_s, it_rng1, it_rng2, it_enm, it_enmT, it_zp_l, it_zp_t, it_rev_l, it_rev_t, me_append, me_extend, me_pop, me_reverse, me_count, ty_int_int, ty_int_bool, ty_bool_int, ty_bool_bool, ty_list_list, ty_tuple_tuple, ty_list_tuple, ty_tuple_list, ty_tuple_int, ty_tuple_bool, ty_int_tuple, ty_str_str, isNonE, toD_d, toD_fl, clo_d, clo_fl, eqB_nn, eqB_bb, eqB_bi, eqB_ib, eqB_ii, eqB_ss, eqB_ll, eqB_tt, eqB_ni, eqB_in, eqBs_00, eqBs_0c, eqBs_c0, eqBs_cc, okD, okDs, flat, small, powOk, mulOk, most, natAbs_1, natAbs_2, natAbs_10, Int.natAbs_natCast, wipe, intsOf, blsOf, pq_non, pq_bl, pq_int, pq_str, pq_tup, pq_lst, pq_scr, atI_0, atI_1, atI_2, ixN_0, ixN_1, D.closed, D.closeds, sat_ok, sat_bind, sat_guard, sat_err, Res.bind_ok, Res.bind_err, List.map_cons, List.map_nil, List.length_cons, List.length_nil, List.cons_append, List.nil_append, List.getElem?_cons_zero, List.getElem?_cons_succ, List.set_cons_zero, List.set_cons_succ, List.replicate, List.foldl_cons, List.foldl_nil, List.zip_cons_cons, List.zip_nil_left, List.zip_nil_right, Nat.reduceAdd, Nat.reduceSub, Nat.reduceLeDiff, Nat.reduceLT, Int.reduceLT, Int.reduceLE, Int.reduceNeg, Int.reducePow, Int.reduceToNat, Int.reduceAdd, Int.reduceMul, Int.reduceSub, Nat.reducePow, Nat.zero_add, Nat.add_zero, decide_true, decide_false, decide_eq_true_eq, beq_iff_eq, Bool.true_eq_false, reduceCtorEq, if_true, if_false, Bool.false_eq_true, true_and, and_true, Bool.true_and, Bool.and_true, Bool.false_and, Bool.and_false, Bool.not_true, Bool.not_false, Bool.or_true, Bool.true_or, Bool.or_false, Bool.false_or, Bool.and_eq_true, Bool.or_eq_true, Bool.not_eq_true', beq_self_eq_true, Option.map_some, Option.toList, if_true, if_false, f_law_stream_dd9d, atI_nat]
  split
  · rename_i hk'
    have hk' : k < ns.length := by omega
    rw [List.getElem?_eq_getElem hk']
    simp -implicitDefEqProofs only [sat_exs, sat_exs_nil, sat_if, sat_asg, sat_asgT, sat_setix, sat_ex, sat_ret, sat_retN, sat_pass, sat_brk, sat_cnt, sat_raise, sat_evB, sat_ite, sat_for, rest_nx, rest_ret, sat_var, sat_non, sat_bl, sat_int, sat_str, sat_bin, sat_neg, sat_cmp, sat_chain, sat_isN, sat_notN, sat_and, sat_or, sat_not, sat_ifE, sat_tup, sat_lst, sat_ix, sat_slN, sat_slLv, sat_slHv, sat_slLb, sat_slHb, sat_slLi, sat_slHi, sat_slLc, sat_slHc, sat_cal, sat_bi, sat_isi, sat_isis, sat_me, sat_lc, sat_lcIf, sat_lcF, sat_lcFi, sat_lrng, sat_isB, sat_rev1, rv1_l, rv1_t, List.reverse_cons, List.reverse_nil, sat_orv, orvK_int, orvK_non, intO_int, ex_bl, ex_lst, sat_box, sat_unbox, sat_esN, sat_esC, ex_d, ex_int, ex_fl, ex_obj, ex_cell, ex_oi, kept_non, kept_int, kept_tup, kept_lst, kept_str, kept_scr, kept_self, ex_setx, ex_j, shl1, Int.toNat_natCast, Int.natCast_nonneg, start, bin_ii, bin_ll, bin_tt, bin_ss, bin_li, bin_ti, rg_1, rg_2, int_add, int_sub, int_mul, int_fdiv, int_mod, int_pow, int_shl, int_shr, int_band, int_bor, int_bxor, cmp_eq, cmp_ne, cmp_in, cmp_nin, cmp_lt, cmp_le, cmp_gt, cmp_ge, eq_op, in_lst, in_tup, ix_lst, ix_tup, ix_scr, ix_str, sl_lst, sl_tup, sl_str, end_t, end_i, bi_len_l, bi_len_t, bi_len_c, bi_len_s, bi_abs, bi_sum, bi_maxl, bi_minl, bi_max2, bi_min2, bi_any, bi_all, bi_int_i, bi_int_b, bi_list_l, bi_list_t, bi_tuple_l, bi_tuple_t, bi_sorted, bi_sset, ty_non, ty_bl, ty_int, ty_str, ty_lst, ty_tup, ty_scr, toB_bl, set_n, set_t, set_tl, it_seq_l, it_seq_t, it_seq_s, it_rng1, it_rng2, it_enm, it_enmT, it_zp_l, it_zp_t, it_rev_l, it_rev_t, me_append, me_extend, me_pop, me_reverse, me_count, ty_int_int, ty_int_bool, ty_bool_int, ty_bool_bool, ty_list_list, ty_tuple_tuple, ty_list_tuple, ty_tuple_list, ty_tuple_int, ty_tuple_bool, ty_int_tuple, ty_str_str, isNonE, toD_d, toD_fl, clo_d, clo_fl, eqB_nn, eqB_bb, eqB_bi, eqB_ib, eqB_ii, eqB_ss, eqB_ll, eqB_tt, eqB_ni, eqB_in, eqBs_00, eqBs_0c, eqBs_c0, eqBs_cc, okD, okDs, flat, small, powOk, mulOk, most, natAbs_1, natAbs_2, natAbs_10, Int.natAbs_natCast, wipe, intsOf, blsOf, pq_non, pq_bl, pq_int, pq_str, pq_tup, pq_lst, pq_scr, atI_0, atI_1, atI_2, ixN_0, ixN_1, D.closed, D.closeds, sat_ok, sat_bind, sat_guard, sat_err, Res.bind_ok, Res.bind_err, List.map_cons, List.map_nil, List.length_cons, List.length_nil, List.cons_append, List.nil_append, List.getElem?_cons_zero, List.getElem?_cons_succ, List.set_cons_zero, List.set_cons_succ, List.replicate, List.foldl_cons, List.foldl_nil, List.zip_cons_cons, List.zip_nil_left, List.zip_nil_right, Nat.reduceAdd, Nat.reduceSub, Nat.reduceLeDiff, Nat.reduceLT, Int.reduceLT, Int.reduceLE, Int.reduceNeg, Int.reducePow, Int.reduceToNat, Int.reduceAdd, Int.reduceMul, Int.reduceSub, Nat.reducePow, Nat.zero_add, Nat.add_zero, decide_true, decide_false, decide_eq_true_eq, beq_iff_eq, Bool.true_eq_false, reduceCtorEq, if_true, if_false, Bool.false_eq_true, true_and, and_true, Bool.true_and, Bool.and_true, Bool.false_and, Bool.and_false, Bool.not_true, Bool.not_false, Bool.or_true, Bool.true_or, Bool.or_false, Bool.false_or, Bool.and_eq_true, Bool.or_eq_true, Bool.not_eq_true', beq_self_eq_true, Option.map_some, Option.toList, if_true, if_false]
    generalize (if ns[k] < 0 then -ns[k] else ns[k]) = c
    refine ⟨by omega, ?_⟩
    split
    · exact h _ _
    · exact h _ _
  · exact ⟨by omega, h _ _⟩
theorem upFrom_len (lo : Int) : ∀ n : Nat, (upFrom lo n).length = n
  | 0 => rfl
  | n + 1 => by rw [upFrom, List.length_cons, upFrom_len (lo + 1) n]
theorem upFrom_eq : ∀ (n : Nat) (lo : Int), upFrom lo n = (List.range n).map fun i => D.int (lo + (i : Nat))
  | 0, _ => rfl
  | n + 1, lo => by
    rw [upFrom, List.range_succ_eq_map, List.map_cons, List.map_map, upFrom_eq n (lo + 1)]
    congr 1
    · simp
    · refine List.map_congr_left fun i _ => ?_
      simp only [Function.comp]
      congr 1
      omega
theorem upFrom_get {n : Nat} {lo : Int} {j : Nat} {d : D} (h : (upFrom lo n)[j]? = some d) : j < n ∧ d = .int (lo + (j : Nat)) := by
  rw [upFrom_eq, List.getElem?_map] at h
  by_cases hj : j < n
  · rw [List.getElem?_range hj] at h
    cases h
    exact ⟨hj, rfl⟩
  · rw [List.getElem?_eq_none (by simpa using hj)] at h
    cases h
/-- numbers 0, 1, .. -/
theorem up0_get {n : Nat} {j : Nat} {d : D} (h : (upFrom 0 n)[j]? = some d) : j < n ∧ d = .int (j : Nat) := by
  obtain ⟨h1, h2⟩ := upFrom_get h
  exact ⟨h1, by rw [h2]; congr 1; omega⟩
theorem up0_mem {n : Nat} {d : D} (h : d ∈ upFrom 0 n) : ∃ j : Nat, j < n ∧ d = .int (j : Nat) := by
  obtain ⟨j, hj⟩ := List.getElem?_of_mem h
  exact ⟨j, up0_get hj⟩
theorem shl_one (n : Nat) : (1 : Int) * 2 ^ n = ((2 ^ n : Nat) : Int) := by
  simp
/-- the store as it was, but for the draws at p, and maybe more of it -/
structure Ext (p : Nat) (S S' : Store) : Prop where
  dr : Dr S' p
  len : S.length ≤ S'.length
  same : ∀ q, q < S.length → q ≠ p → S'[q]? = S[q]?
theorem Ext.refl {p : Nat} {S : Store} (h : Dr S p) : Ext p S S := ⟨h, Nat.le_refl _, fun _ _ _ => rfl⟩
theorem Ext.trans {p : Nat} {S S1 S2 : Store} (a : Ext p S S1) (b : Ext p S1 S2) : Ext p S S2 := ⟨b.dr, Nat.le_trans a.len b.len, fun q h n => (b.same q (Nat.lt_of_lt_of_le h a.len) n).trans (a.same q h n)⟩
theorem Dr.lt {p : Nat} {S : Store} (h : Dr S p) : p < S.length := by
  obtain ⟨a, b, h⟩ := h
  exact (List.getElem?_eq_some_iff.mp h).1
theorem Ext.draw {p : Nat} {S : Store} (h : Dr S p) (a b : Int) : Ext p S (S.set p (.lst [.int a, .int b])) := ⟨⟨a, b, List.getElem?_set_self h.lt⟩, by rw [List.length_set]; exact Nat.le_refl _, fun q _ n => List.getElem?_set_ne (Ne.symm n)⟩
theorem Ext.push {p : Nat} {S : Store} (h : Dr S p) (c : Cell) : Ext p S (S ++ [c]) := ⟨by
  obtain ⟨a, b, h⟩ := h
  exact ⟨a, b, by rw [List.getElem?_append_left (List.getElem?_eq_some_iff.mp h).1]; exact h⟩, by simp, fun q h _ => List.getElem?_append_left h⟩
/-- what is laid at a place of its own, not ahead -/
theorem Ext.set {p : Nat} {S S1 : Store} (e : Ext p S S1) {q : Nat} (hp : p < S.length) (hq : S.length ≤ q) (c : Cell) : Ext p S (S1.set q c) := ⟨by
  obtain ⟨a, b, h⟩ := e.dr
  exact ⟨a, b, by rw [List.getElem?_set_ne (by omega)]; exact h⟩, by rw [List.length_set]; exact e.len, fun r h n => by rw [List.getElem?_set_ne (by omega)]; exact e.same r h n⟩
/-- the draw, by what it leaves -/
theorem take_ext {n i p : Nat} {m : Int} {S : Store} {Q : W × Store → Prop} (hf : fs[i]? = some f_law_take_ed9d) (hp : Dr S p) (h0 : 0 < m) (h1 : m < 1073741824)
    (h : ∀ (x : Nat) (S' : Store), (x : Int) < m → Ext p S S' → S'.length = S.length → Q (.d (.int x), S')) : (call gl fs (n + 1) i [.obj p, .int m] S).sat Q :=
  take_sat hf hp h0 h1 fun x a b hx => h x _ hx (Ext.draw hp a b) (by rw [List.length_set])
end
end Nl

/-! The laws' own tables. -/
namespace Nl
/-- a thing of a table -/
def oD : Option Nat → D
  | none => .non
  | some x => .int (x : Nat)
/-- a table of 2 ^ n things below k -/
structure Tab (n k : Nat) (t : List (Option Nat)) : Prop where
  len : t.length = 2 ^ n
  lt : ∀ x, some x ∈ t → x < k
theorem intsOf_map {α : Type} (f : α → Int) : ∀ xs : List α, intsOf (xs.map fun x => D.int (f x)) = some (xs.map f)
  | [] => rfl
  | x :: xs => by simp [intsOf, intsOf_map f xs]
theorem pow_le_256 {n : Nat} (h : n ≤ 8) : 2 ^ n ≤ 256 := Nat.pow_le_pow_right (by omega) h
section
variable {gl : Nat → Option D} {fs : List Fn}
theorem table_sat {m i j p n k : Nat} {S : Store} {Q : W × Store → Prop} (hf : fs[i]? = some (f_law_table_f5e2 j)) (hj : fs[j]? = some f_law_take_ed9d) (hp : Dr S p) (hn : n ≤ 8) (hk : 0 < k) (hk2 : k < 1000000)
    (h : ∀ (t : List (Option Nat)) (S' : Store), Tab n k t → Ext p S S' → Q (.d (.tup (t.map oD)), S')) : (call gl fs (m + 2) i [.obj p, .int n, .int k] S).sat Q := by
  have h2 := pow_le_256 hn
  have h3 : 0 < 2 ^ n := Nat.pos_of_ne_zero (by simp)
  generalize hN : 2 ^ n = N at h2 h3
  refine sat_callS hf rfl rfl ?_
  simp -implicitDefEqProofs only [sat_exs, sat_exs_nil, sat_if, sat_asg, sat_asgT, sat_setix, sat_ex, sat_ret, sat_retN, sat_pass, sat_brk, sat_cnt, sat_raise, sat_evB, sat_ite, sat_for, rest_nx, rest_ret, sat_var, sat_non, sat_bl, sat_int, sat_str, sat_bin, sat_neg, sat_cmp, sat_chain, sat_isN, sat_notN, sat_and, sat_or, sat_not, sat_ifE, sat_tup, sat_lst, sat_ix, sat_slN, sat_slLv, sat_slHv, sat_slLb, sat_slHb, sat_slLi, sat_slHi, sat_slLc, sat_slHc, sat_cal, sat_bi, sat_isi, sat_isis, sat_me, sat_lc, sat_lcIf, sat_lcF, sat_lcFi, sat_lrng, sat_isB, sat_rev1, rv1_l, rv1_t, List.reverse_cons, List.reverse_nil, sat_orv, orvK_int, orvK_non, intO_int, ex_bl, ex_lst, sat_box, sat_unbox, sat_esN, sat_esC, ex_d, ex_int, ex_fl, ex_obj, ex_cell, ex_oi, kept_non, kept_int, kept_tup, kept_lst, kept_str, kept_scr, kept_self, ex_setx, ex_j, shl1, Int.toNat_natCast, Int.natCast_nonneg, start, bin_ii, bin_ll, bin_tt, bin_ss, bin_li, bin_ti, rg_1, rg_2, int_add, int_sub, int_mul, int_fdiv, int_mod, int_pow, int_shl, int_shr, int_band, int_bor, int_bxor, cmp_eq, cmp_ne, cmp_in, cmp_nin, cmp_lt, cmp_le, cmp_gt, cmp_ge, eq_op, in_lst, in_tup, ix_lst, ix_tup, ix_scr, ix_str, sl_lst, sl_tup, sl_str, end_t, end_i, bi_len_l, bi_len_t, bi_len_c, bi_len_s, bi_abs, bi_sum, bi_maxl, bi_minl, bi_max2, bi_min2, bi_any, bi_all, bi_int_i, bi_int_b, bi_list_l, bi_list_t, bi_tuple_l, bi_tuple_t, bi_sorted, bi_sset, ty_non, ty_bl, ty_int, ty_str, ty_lst, ty_tup, ty_scr, toB_bl, set_n, set_t, set_tl, it_seq_l, it_seq_t, it_seq_s, it_rng1, it_rng2, it_enm, it_enmT, it_zp_l, it_zp_t, it_rev_l, it_rev_t, me_append, me_extend, me_pop, me_reverse, me_count, ty_int_int, ty_int_bool, ty_bool_int, ty_bool_bool, ty_list_list, ty_tuple_tuple, ty_list_tuple, ty_tuple_list, ty_tuple_int, ty_tuple_bool, ty_int_tuple, ty_str_str, isNonE, toD_d, toD_fl, clo_d, clo_fl, eqB_nn, eqB_bb, eqB_bi, eqB_ib, eqB_ii, eqB_ss, eqB_ll, eqB_tt, eqB_ni, eqB_in, eqBs_00, eqBs_0c, eqBs_c0, eqBs_cc, okD, okDs, flat, small, powOk, mulOk, most, natAbs_1, natAbs_2, natAbs_10, Int.natAbs_natCast, wipe, intsOf, blsOf, pq_non, pq_bl, pq_int, pq_str, pq_tup, pq_lst, pq_scr, atI_0, atI_1, atI_2, ixN_0, ixN_1, D.closed, D.closeds, sat_ok, sat_bind, sat_guard, sat_err, Res.bind_ok, Res.bind_err, List.map_cons, List.map_nil, List.length_cons, List.length_nil, List.cons_append, List.nil_append, List.getElem?_cons_zero, List.getElem?_cons_succ, List.set_cons_zero, List.set_cons_succ, List.replicate, List.foldl_cons, List.foldl_nil, List.zip_cons_cons, List.zip_nil_left, List.zip_nil_right, Nat.reduceAdd, Nat.reduceSub, Nat.reduceLeDiff, Nat.reduceLT, Int.reduceLT, Int.reduceLE, Int.reduceNeg, Int.reducePow, Int.reduceToNat, Int.reduceAdd, Int.reduceMul, Int.reduceSub, Nat.reducePow, Nat.zero_add, Nat.add_zero, decide_true, decide_false, decide_eq_true_eq, beq_iff_eq, Bool.true_eq_false, reduceCtorEq, if_true, if_false, Bool.false_eq_true, true_and, and_true, Bool.true_and, Bool.and_true, Bool.false_and, Bool.and_false, Bool.not_true, Bool.not_false, Bool.or_true, Bool.true_or, Bool.or_false, Bool.false_or, Bool.and_eq_true, Bool.or_eq_true, Bool.not_eq_true', beq_self_eq_true, Option.map_some, Option.toList, if_true, if_false, f_law_table_f5e2]
  refine take_ext hj hp (by omega) (by omega) fun way S1 hw e1 l1 => ?_
  simp -implicitDefEqProofs only [sat_exs, sat_exs_nil, sat_if, sat_asg, sat_asgT, sat_setix, sat_ex, sat_ret, sat_retN, sat_pass, sat_brk, sat_cnt, sat_raise, sat_evB, sat_ite, sat_for, rest_nx, rest_ret, sat_var, sat_non, sat_bl, sat_int, sat_str, sat_bin, sat_neg, sat_cmp, sat_chain, sat_isN, sat_notN, sat_and, sat_or, sat_not, sat_ifE, sat_tup, sat_lst, sat_ix, sat_slN, sat_slLv, sat_slHv, sat_slLb, sat_slHb, sat_slLi, sat_slHi, sat_slLc, sat_slHc, sat_cal, sat_bi, sat_isi, sat_isis, sat_me, sat_lc, sat_lcIf, sat_lcF, sat_lcFi, sat_lrng, sat_isB, sat_rev1, rv1_l, rv1_t, List.reverse_cons, List.reverse_nil, sat_orv, orvK_int, orvK_non, intO_int, ex_bl, ex_lst, sat_box, sat_unbox, sat_esN, sat_esC, ex_d, ex_int, ex_fl, ex_obj, ex_cell, ex_oi, kept_non, kept_int, kept_tup, kept_lst, kept_str, kept_scr, kept_self, ex_setx, ex_j, shl1, Int.toNat_natCast, Int.natCast_nonneg, start, bin_ii, bin_ll, bin_tt, bin_ss, bin_li, bin_ti, rg_1, rg_2, int_add, int_sub, int_mul, int_fdiv, int_mod, int_pow, int_shl, int_shr, int_band, int_bor, int_bxor, cmp_eq, cmp_ne, cmp_in, cmp_nin, cmp_lt, cmp_le, cmp_gt, cmp_ge, eq_op, in_lst, in_tup, ix_lst, ix_tup, ix_scr, ix_str, sl_lst, sl_tup, sl_str, end_t, end_i, bi_len_l, bi_len_t, bi_len_c, bi_len_s, bi_abs, bi_sum, bi_maxl, bi_minl, bi_max2, bi_min2, bi_any, bi_all, bi_int_i, bi_int_b, bi_list_l, bi_list_t, bi_tuple_l, bi_tuple_t, bi_sorted, bi_sset, ty_non, ty_bl, ty_int, ty_str, ty_lst, ty_tup, ty_scr, toB_bl, set_n, set_t, set_tl, it_seq_l, it_seq_t, it_seq_s, it_rng1, it_rng2, it_enm, it_enmT, it_zp_l, it_zp_t, it_rev_l, it_rev_t, me_append, me_extend, me_pop, me_reverse, me_count, ty_int_int, ty_int_bool, ty_bool_int, ty_bool_bool, ty_list_list, ty_tuple_tuple, ty_list_tuple, ty_tuple_list, ty_tuple_int, ty_tuple_bool, ty_int_tuple, ty_str_str, isNonE, toD_d, toD_fl, clo_d, clo_fl, eqB_nn, eqB_bb, eqB_bi, eqB_ib, eqB_ii, eqB_ss, eqB_ll, eqB_tt, eqB_ni, eqB_in, eqBs_00, eqBs_0c, eqBs_c0, eqBs_cc, okD, okDs, flat, small, powOk, mulOk, most, natAbs_1, natAbs_2, natAbs_10, Int.natAbs_natCast, wipe, intsOf, blsOf, pq_non, pq_bl, pq_int, pq_str, pq_tup, pq_lst, pq_scr, atI_0, atI_1, atI_2, ixN_0, ixN_1, D.closed, D.closeds, sat_ok, sat_bind, sat_guard, sat_err, Res.bind_ok, Res.bind_err, List.map_cons, List.map_nil, List.length_cons, List.length_nil, List.cons_append, List.nil_append, List.getElem?_cons_zero, List.getElem?_cons_succ, List.set_cons_zero, List.set_cons_succ, List.replicate, List.foldl_cons, List.foldl_nil, List.zip_cons_cons, List.zip_nil_left, List.zip_nil_right, Nat.reduceAdd, Nat.reduceSub, Nat.reduceLeDiff, Nat.reduceLT, Int.reduceLT, Int.reduceLE, Int.reduceNeg, Int.reducePow, Int.reduceToNat, Int.reduceAdd, Int.reduceMul, Int.reduceSub, Nat.reducePow, Nat.zero_add, Nat.add_zero, decide_true, decide_false, decide_eq_true_eq, beq_iff_eq, Bool.true_eq_false, reduceCtorEq, if_true, if_false, Bool.false_eq_true, true_and, and_true, Bool.true_and, Bool.and_true, Bool.false_and, Bool.and_false, Bool.not_true, Bool.not_false, Bool.or_true, Bool.true_or, Bool.or_false, Bool.false_or, Bool.and_eq_true, Bool.or_eq_true, Bool.not_eq_true', beq_self_eq_true, Option.map_some, Option.toList, if_true, if_false, hN]
  split
  · refine ⟨by omega, ?_⟩
    refine sat_compL (fun i acc T => ∃ ws : List Nat, acc = ws.map (fun w => D.int (w : Nat)) ∧ ws.length = i ∧ Ext p S1 T ∧ T.length = S1.length) _ 0 [] S1 ⟨[], rfl, rfl, Ext.refl e1.dr, rfl⟩ (fun a d acc T hd hI => ?_) (fun out T hI => ?_)
    · obtain ⟨ws, rfl, hl, e2, l2⟩ := hI
      simp -implicitDefEqProofs only [sat_exs, sat_exs_nil, sat_if, sat_asg, sat_asgT, sat_setix, sat_ex, sat_ret, sat_retN, sat_pass, sat_brk, sat_cnt, sat_raise, sat_evB, sat_ite, sat_for, rest_nx, rest_ret, sat_var, sat_non, sat_bl, sat_int, sat_str, sat_bin, sat_neg, sat_cmp, sat_chain, sat_isN, sat_notN, sat_and, sat_or, sat_not, sat_ifE, sat_tup, sat_lst, sat_ix, sat_slN, sat_slLv, sat_slHv, sat_slLb, sat_slHb, sat_slLi, sat_slHi, sat_slLc, sat_slHc, sat_cal, sat_bi, sat_isi, sat_isis, sat_me, sat_lc, sat_lcIf, sat_lcF, sat_lcFi, sat_lrng, sat_isB, sat_rev1, rv1_l, rv1_t, List.reverse_cons, List.reverse_nil, sat_orv, orvK_int, orvK_non, intO_int, ex_bl, ex_lst, sat_box, sat_unbox, sat_esN, sat_esC, ex_d, ex_int, ex_fl, ex_obj, ex_cell, ex_oi, kept_non, kept_int, kept_tup, kept_lst, kept_str, kept_scr, kept_self, ex_setx, ex_j, shl1, Int.toNat_natCast, Int.natCast_nonneg, start, bin_ii, bin_ll, bin_tt, bin_ss, bin_li, bin_ti, rg_1, rg_2, int_add, int_sub, int_mul, int_fdiv, int_mod, int_pow, int_shl, int_shr, int_band, int_bor, int_bxor, cmp_eq, cmp_ne, cmp_in, cmp_nin, cmp_lt, cmp_le, cmp_gt, cmp_ge, eq_op, in_lst, in_tup, ix_lst, ix_tup, ix_scr, ix_str, sl_lst, sl_tup, sl_str, end_t, end_i, bi_len_l, bi_len_t, bi_len_c, bi_len_s, bi_abs, bi_sum, bi_maxl, bi_minl, bi_max2, bi_min2, bi_any, bi_all, bi_int_i, bi_int_b, bi_list_l, bi_list_t, bi_tuple_l, bi_tuple_t, bi_sorted, bi_sset, ty_non, ty_bl, ty_int, ty_str, ty_lst, ty_tup, ty_scr, toB_bl, set_n, set_t, set_tl, it_seq_l, it_seq_t, it_seq_s, it_rng1, it_rng2, it_enm, it_enmT, it_zp_l, it_zp_t, it_rev_l, it_rev_t, me_append, me_extend, me_pop, me_reverse, me_count, ty_int_int, ty_int_bool, ty_bool_int, ty_bool_bool, ty_list_list, ty_tuple_tuple, ty_list_tuple, ty_tuple_list, ty_tuple_int, ty_tuple_bool, ty_int_tuple, ty_str_str, isNonE, toD_d, toD_fl, clo_d, clo_fl, eqB_nn, eqB_bb, eqB_bi, eqB_ib, eqB_ii, eqB_ss, eqB_ll, eqB_tt, eqB_ni, eqB_in, eqBs_00, eqBs_0c, eqBs_c0, eqBs_cc, okD, okDs, flat, small, powOk, mulOk, most, natAbs_1, natAbs_2, natAbs_10, Int.natAbs_natCast, wipe, intsOf, blsOf, pq_non, pq_bl, pq_int, pq_str, pq_tup, pq_lst, pq_scr, atI_0, atI_1, atI_2, ixN_0, ixN_1, D.closed, D.closeds, sat_ok, sat_bind, sat_guard, sat_err, Res.bind_ok, Res.bind_err, List.map_cons, List.map_nil, List.length_cons, List.length_nil, List.cons_append, List.nil_append, List.getElem?_cons_zero, List.getElem?_cons_succ, List.set_cons_zero, List.set_cons_succ, List.replicate, List.foldl_cons, List.foldl_nil, List.zip_cons_cons, List.zip_nil_left, List.zip_nil_right, Nat.reduceAdd, Nat.reduceSub, Nat.reduceLeDiff, Nat.reduceLT, Int.reduceLT, Int.reduceLE, Int.reduceNeg, Int.reducePow, Int.reduceToNat, Int.reduceAdd, Int.reduceMul, Int.reduceSub, Nat.reducePow, Nat.zero_add, Nat.add_zero, decide_true, decide_false, decide_eq_true_eq, beq_iff_eq, Bool.true_eq_false, reduceCtorEq, if_true, if_false, Bool.false_eq_true, true_and, and_true, Bool.true_and, Bool.and_true, Bool.false_and, Bool.and_false, Bool.not_true, Bool.not_false, Bool.or_true, Bool.true_or, Bool.or_false, Bool.false_or, Bool.and_eq_true, Bool.or_eq_true, Bool.not_eq_true', beq_self_eq_true, Option.map_some, Option.toList, if_true, if_false, sat_lcF]
      refine take_ext hj e2.dr (by omega) (by omega) fun x T' hx e3 l3 => ?_
      exact ⟨ws ++ [x], by simp [toD_d], by simp [hl], e2.trans e3, l3.trans l2⟩
    · obtain ⟨ws, hout, hl, e2, l2⟩ := hI
      rw [List.nil_append] at hout
      subst hout
      rw [upFrom_len, Nat.zero_add] at hl
      refine ⟨by rw [upFrom_len]; omega, by omega, by omega, ?_⟩
      dsimp only
      refine sat_compL (fun i acc T' => ∃ rs : List Nat, acc = rs.map (fun w => D.int (w : Nat)) ∧ rs.length = i ∧ (∀ r ∈ rs, r < k) ∧ T' = T) _ 0 [] T ⟨[], rfl, rfl, by simp, rfl⟩ (fun a d acc T' hd hI => ?_) (fun out T' hI => ?_)
      · obtain ⟨rs, rfl, hrl, hrs, rfl⟩ := hI
        obtain ⟨ha, rfl⟩ := up0_get hd
        simp -implicitDefEqProofs only [sat_exs, sat_exs_nil, sat_if, sat_asg, sat_asgT, sat_setix, sat_ex, sat_ret, sat_retN, sat_pass, sat_brk, sat_cnt, sat_raise, sat_evB, sat_ite, sat_for, rest_nx, rest_ret, sat_var, sat_non, sat_bl, sat_int, sat_str, sat_bin, sat_neg, sat_cmp, sat_chain, sat_isN, sat_notN, sat_and, sat_or, sat_not, sat_ifE, sat_tup, sat_lst, sat_ix, sat_slN, sat_slLv, sat_slHv, sat_slLb, sat_slHb, sat_slLi, sat_slHi, sat_slLc, sat_slHc, sat_cal, sat_bi, sat_isi, sat_isis, sat_me, sat_lc, sat_lcIf, sat_lcF, sat_lcFi, sat_lrng, sat_isB, sat_rev1, rv1_l, rv1_t, List.reverse_cons, List.reverse_nil, sat_orv, orvK_int, orvK_non, intO_int, ex_bl, ex_lst, sat_box, sat_unbox, sat_esN, sat_esC, ex_d, ex_int, ex_fl, ex_obj, ex_cell, ex_oi, kept_non, kept_int, kept_tup, kept_lst, kept_str, kept_scr, kept_self, ex_setx, ex_j, shl1, Int.toNat_natCast, Int.natCast_nonneg, start, bin_ii, bin_ll, bin_tt, bin_ss, bin_li, bin_ti, rg_1, rg_2, int_add, int_sub, int_mul, int_fdiv, int_mod, int_pow, int_shl, int_shr, int_band, int_bor, int_bxor, cmp_eq, cmp_ne, cmp_in, cmp_nin, cmp_lt, cmp_le, cmp_gt, cmp_ge, eq_op, in_lst, in_tup, ix_lst, ix_tup, ix_scr, ix_str, sl_lst, sl_tup, sl_str, end_t, end_i, bi_len_l, bi_len_t, bi_len_c, bi_len_s, bi_abs, bi_sum, bi_maxl, bi_minl, bi_max2, bi_min2, bi_any, bi_all, bi_int_i, bi_int_b, bi_list_l, bi_list_t, bi_tuple_l, bi_tuple_t, bi_sorted, bi_sset, ty_non, ty_bl, ty_int, ty_str, ty_lst, ty_tup, ty_scr, toB_bl, set_n, set_t, set_tl, it_seq_l, it_seq_t, it_seq_s, it_rng1, it_rng2, it_enm, it_enmT, it_zp_l, it_zp_t, it_rev_l, it_rev_t, me_append, me_extend, me_pop, me_reverse, me_count, ty_int_int, ty_int_bool, ty_bool_int, ty_bool_bool, ty_list_list, ty_tuple_tuple, ty_list_tuple, ty_tuple_list, ty_tuple_int, ty_tuple_bool, ty_int_tuple, ty_str_str, isNonE, toD_d, toD_fl, clo_d, clo_fl, eqB_nn, eqB_bb, eqB_bi, eqB_ib, eqB_ii, eqB_ss, eqB_ll, eqB_tt, eqB_ni, eqB_in, eqBs_00, eqBs_0c, eqBs_c0, eqBs_cc, okD, okDs, flat, small, powOk, mulOk, most, natAbs_1, natAbs_2, natAbs_10, Int.natAbs_natCast, wipe, intsOf, blsOf, pq_non, pq_bl, pq_int, pq_str, pq_tup, pq_lst, pq_scr, atI_0, atI_1, atI_2, ixN_0, ixN_1, D.closed, D.closeds, sat_ok, sat_bind, sat_guard, sat_err, Res.bind_ok, Res.bind_err, List.map_cons, List.map_nil, List.length_cons, List.length_nil, List.cons_append, List.nil_append, List.getElem?_cons_zero, List.getElem?_cons_succ, List.set_cons_zero, List.set_cons_succ, List.replicate, List.foldl_cons, List.foldl_nil, List.zip_cons_cons, List.zip_nil_left, List.zip_nil_right, Nat.reduceAdd, Nat.reduceSub, Nat.reduceLeDiff, Nat.reduceLT, Int.reduceLT, Int.reduceLE, Int.reduceNeg, Int.reducePow, Int.reduceToNat, Int.reduceAdd, Int.reduceMul, Int.reduceSub, Nat.reducePow, Nat.zero_add, Nat.add_zero, decide_true, decide_false, decide_eq_true_eq, beq_iff_eq, Bool.true_eq_false, reduceCtorEq, if_true, if_false, Bool.false_eq_true, true_and, and_true, Bool.true_and, Bool.and_true, Bool.false_and, Bool.and_false, Bool.not_true, Bool.not_false, Bool.or_true, Bool.true_or, Bool.or_false, Bool.false_or, Bool.and_eq_true, Bool.or_eq_true, Bool.not_eq_true', beq_self_eq_true, Option.map_some, Option.toList, if_true, if_false, sat_lcF]
        refine ⟨by omega, ?_⟩
        refine sat_compL (fun i acc T2 => ∃ us : List Nat, acc = us.map (fun w => D.int (w : Nat)) ∧ T2 = T') _ 0 [] T' ⟨[], rfl, rfl⟩ (fun b d acc T2 hd2 hI => ?_) (fun out T2 hI => ?_)
        · obtain ⟨us, rfl, rfl⟩ := hI
          obtain ⟨hb, rfl⟩ := up0_get hd2
          simp -implicitDefEqProofs only [sat_exs, sat_exs_nil, sat_if, sat_asg, sat_asgT, sat_setix, sat_ex, sat_ret, sat_retN, sat_pass, sat_brk, sat_cnt, sat_raise, sat_evB, sat_ite, sat_for, rest_nx, rest_ret, sat_var, sat_non, sat_bl, sat_int, sat_str, sat_bin, sat_neg, sat_cmp, sat_chain, sat_isN, sat_notN, sat_and, sat_or, sat_not, sat_ifE, sat_tup, sat_lst, sat_ix, sat_slN, sat_slLv, sat_slHv, sat_slLb, sat_slHb, sat_slLi, sat_slHi, sat_slLc, sat_slHc, sat_cal, sat_bi, sat_isi, sat_isis, sat_me, sat_lc, sat_lcIf, sat_lcF, sat_lcFi, sat_lrng, sat_isB, sat_rev1, rv1_l, rv1_t, List.reverse_cons, List.reverse_nil, sat_orv, orvK_int, orvK_non, intO_int, ex_bl, ex_lst, sat_box, sat_unbox, sat_esN, sat_esC, ex_d, ex_int, ex_fl, ex_obj, ex_cell, ex_oi, kept_non, kept_int, kept_tup, kept_lst, kept_str, kept_scr, kept_self, ex_setx, ex_j, shl1, Int.toNat_natCast, Int.natCast_nonneg, start, bin_ii, bin_ll, bin_tt, bin_ss, bin_li, bin_ti, rg_1, rg_2, int_add, int_sub, int_mul, int_fdiv, int_mod, int_pow, int_shl, int_shr, int_band, int_bor, int_bxor, cmp_eq, cmp_ne, cmp_in, cmp_nin, cmp_lt, cmp_le, cmp_gt, cmp_ge, eq_op, in_lst, in_tup, ix_lst, ix_tup, ix_scr, ix_str, sl_lst, sl_tup, sl_str, end_t, end_i, bi_len_l, bi_len_t, bi_len_c, bi_len_s, bi_abs, bi_sum, bi_maxl, bi_minl, bi_max2, bi_min2, bi_any, bi_all, bi_int_i, bi_int_b, bi_list_l, bi_list_t, bi_tuple_l, bi_tuple_t, bi_sorted, bi_sset, ty_non, ty_bl, ty_int, ty_str, ty_lst, ty_tup, ty_scr, toB_bl, set_n, set_t, set_tl, it_seq_l, it_seq_t, it_seq_s, it_rng1, it_rng2, it_enm, it_enmT, it_zp_l, it_zp_t, it_rev_l, it_rev_t, me_append, me_extend, me_pop, me_reverse, me_count, ty_int_int, ty_int_bool, ty_bool_int, ty_bool_bool, ty_list_list, ty_tuple_tuple, ty_list_tuple, ty_tuple_list, ty_tuple_int, ty_tuple_bool, ty_int_tuple, ty_str_str, isNonE, toD_d, toD_fl, clo_d, clo_fl, eqB_nn, eqB_bb, eqB_bi, eqB_ib, eqB_ii, eqB_ss, eqB_ll, eqB_tt, eqB_ni, eqB_in, eqBs_00, eqBs_0c, eqBs_c0, eqBs_cc, okD, okDs, flat, small, powOk, mulOk, most, natAbs_1, natAbs_2, natAbs_10, Int.natAbs_natCast, wipe, intsOf, blsOf, pq_non, pq_bl, pq_int, pq_str, pq_tup, pq_lst, pq_scr, atI_0, atI_1, atI_2, ixN_0, ixN_1, D.closed, D.closeds, sat_ok, sat_bind, sat_guard, sat_err, Res.bind_ok, Res.bind_err, List.map_cons, List.map_nil, List.length_cons, List.length_nil, List.cons_append, List.nil_append, List.getElem?_cons_zero, List.getElem?_cons_succ, List.set_cons_zero, List.set_cons_succ, List.replicate, List.foldl_cons, List.foldl_nil, List.zip_cons_cons, List.zip_nil_left, List.zip_nil_right, Nat.reduceAdd, Nat.reduceSub, Nat.reduceLeDiff, Nat.reduceLT, Int.reduceLT, Int.reduceLE, Int.reduceNeg, Int.reducePow, Int.reduceToNat, Int.reduceAdd, Int.reduceMul, Int.reduceSub, Nat.reducePow, Nat.zero_add, Nat.add_zero, decide_true, decide_false, decide_eq_true_eq, beq_iff_eq, Bool.true_eq_false, reduceCtorEq, if_true, if_false, Bool.false_eq_true, true_and, and_true, Bool.true_and, Bool.and_true, Bool.false_and, Bool.and_false, Bool.not_true, Bool.not_false, Bool.or_true, Bool.true_or, Bool.or_false, Bool.false_or, Bool.and_eq_true, Bool.or_eq_true, Bool.not_eq_true', beq_self_eq_true, Option.map_some, Option.toList, if_true, if_false, sat_lcFi, atI_nat]
          refine ⟨Int.ediv_nonneg (by omega) (by exact_mod_cast Nat.zero_le _), ?_⟩
          split
          · have : b < ws.length := by omega
            rw [List.getElem?_map, List.getElem?_eq_getElem this]
            simp -implicitDefEqProofs only [sat_exs, sat_exs_nil, sat_if, sat_asg, sat_asgT, sat_setix, sat_ex, sat_ret, sat_retN, sat_pass, sat_brk, sat_cnt, sat_raise, sat_evB, sat_ite, sat_for, rest_nx, rest_ret, sat_var, sat_non, sat_bl, sat_int, sat_str, sat_bin, sat_neg, sat_cmp, sat_chain, sat_isN, sat_notN, sat_and, sat_or, sat_not, sat_ifE, sat_tup, sat_lst, sat_ix, sat_slN, sat_slLv, sat_slHv, sat_slLb, sat_slHb, sat_slLi, sat_slHi, sat_slLc, sat_slHc, sat_cal, sat_bi, sat_isi, sat_isis, sat_me, sat_lc, sat_lcIf, sat_lcF, sat_lcFi, sat_lrng, sat_isB, sat_rev1, rv1_l, rv1_t, List.reverse_cons, List.reverse_nil, sat_orv, orvK_int, orvK_non, intO_int, ex_bl, ex_lst, sat_box, sat_unbox, sat_esN, sat_esC, ex_d, ex_int, ex_fl, ex_obj, ex_cell, ex_oi, kept_non, kept_int, kept_tup, kept_lst, kept_str, kept_scr, kept_self, ex_setx, ex_j, shl1, Int.toNat_natCast, Int.natCast_nonneg, start, bin_ii, bin_ll, bin_tt, bin_ss, bin_li, bin_ti, rg_1, rg_2, int_add, int_sub, int_mul, int_fdiv, int_mod, int_pow, int_shl, int_shr, int_band, int_bor, int_bxor, cmp_eq, cmp_ne, cmp_in, cmp_nin, cmp_lt, cmp_le, cmp_gt, cmp_ge, eq_op, in_lst, in_tup, ix_lst, ix_tup, ix_scr, ix_str, sl_lst, sl_tup, sl_str, end_t, end_i, bi_len_l, bi_len_t, bi_len_c, bi_len_s, bi_abs, bi_sum, bi_maxl, bi_minl, bi_max2, bi_min2, bi_any, bi_all, bi_int_i, bi_int_b, bi_list_l, bi_list_t, bi_tuple_l, bi_tuple_t, bi_sorted, bi_sset, ty_non, ty_bl, ty_int, ty_str, ty_lst, ty_tup, ty_scr, toB_bl, set_n, set_t, set_tl, it_seq_l, it_seq_t, it_seq_s, it_rng1, it_rng2, it_enm, it_enmT, it_zp_l, it_zp_t, it_rev_l, it_rev_t, me_append, me_extend, me_pop, me_reverse, me_count, ty_int_int, ty_int_bool, ty_bool_int, ty_bool_bool, ty_list_list, ty_tuple_tuple, ty_list_tuple, ty_tuple_list, ty_tuple_int, ty_tuple_bool, ty_int_tuple, ty_str_str, isNonE, toD_d, toD_fl, clo_d, clo_fl, eqB_nn, eqB_bb, eqB_bi, eqB_ib, eqB_ii, eqB_ss, eqB_ll, eqB_tt, eqB_ni, eqB_in, eqBs_00, eqBs_0c, eqBs_c0, eqBs_cc, okD, okDs, flat, small, powOk, mulOk, most, natAbs_1, natAbs_2, natAbs_10, Int.natAbs_natCast, wipe, intsOf, blsOf, pq_non, pq_bl, pq_int, pq_str, pq_tup, pq_lst, pq_scr, atI_0, atI_1, atI_2, ixN_0, ixN_1, D.closed, D.closeds, sat_ok, sat_bind, sat_guard, sat_err, Res.bind_ok, Res.bind_err, List.map_cons, List.map_nil, List.length_cons, List.length_nil, List.cons_append, List.nil_append, List.getElem?_cons_zero, List.getElem?_cons_succ, List.set_cons_zero, List.set_cons_succ, List.replicate, List.foldl_cons, List.foldl_nil, List.zip_cons_cons, List.zip_nil_left, List.zip_nil_right, Nat.reduceAdd, Nat.reduceSub, Nat.reduceLeDiff, Nat.reduceLT, Int.reduceLT, Int.reduceLE, Int.reduceNeg, Int.reducePow, Int.reduceToNat, Int.reduceAdd, Int.reduceMul, Int.reduceSub, Nat.reducePow, Nat.zero_add, Nat.add_zero, decide_true, decide_false, decide_eq_true_eq, beq_iff_eq, Bool.true_eq_false, reduceCtorEq, if_true, if_false, Bool.false_eq_true, true_and, and_true, Bool.true_and, Bool.and_true, Bool.false_and, Bool.and_false, Bool.not_true, Bool.not_false, Bool.or_true, Bool.true_or, Bool.or_false, Bool.false_or, Bool.and_eq_true, Bool.or_eq_true, Bool.not_eq_true', beq_self_eq_true, Option.map_some, Option.toList, if_true, if_false]
            exact ⟨us ++ [ws[b]], by simp⟩
          · exact ⟨us, by simp⟩
        · obtain ⟨us, hout, rfl⟩ := hI
          rw [List.nil_append] at hout
          subst hout
          simp -implicitDefEqProofs only [sat_exs, sat_exs_nil, sat_if, sat_asg, sat_asgT, sat_setix, sat_ex, sat_ret, sat_retN, sat_pass, sat_brk, sat_cnt, sat_raise, sat_evB, sat_ite, sat_for, rest_nx, rest_ret, sat_var, sat_non, sat_bl, sat_int, sat_str, sat_bin, sat_neg, sat_cmp, sat_chain, sat_isN, sat_notN, sat_and, sat_or, sat_not, sat_ifE, sat_tup, sat_lst, sat_ix, sat_slN, sat_slLv, sat_slHv, sat_slLb, sat_slHb, sat_slLi, sat_slHi, sat_slLc, sat_slHc, sat_cal, sat_bi, sat_isi, sat_isis, sat_me, sat_lc, sat_lcIf, sat_lcF, sat_lcFi, sat_lrng, sat_isB, sat_rev1, rv1_l, rv1_t, List.reverse_cons, List.reverse_nil, sat_orv, orvK_int, orvK_non, intO_int, ex_bl, ex_lst, sat_box, sat_unbox, sat_esN, sat_esC, ex_d, ex_int, ex_fl, ex_obj, ex_cell, ex_oi, kept_non, kept_int, kept_tup, kept_lst, kept_str, kept_scr, kept_self, ex_setx, ex_j, shl1, Int.toNat_natCast, Int.natCast_nonneg, start, bin_ii, bin_ll, bin_tt, bin_ss, bin_li, bin_ti, rg_1, rg_2, int_add, int_sub, int_mul, int_fdiv, int_mod, int_pow, int_shl, int_shr, int_band, int_bor, int_bxor, cmp_eq, cmp_ne, cmp_in, cmp_nin, cmp_lt, cmp_le, cmp_gt, cmp_ge, eq_op, in_lst, in_tup, ix_lst, ix_tup, ix_scr, ix_str, sl_lst, sl_tup, sl_str, end_t, end_i, bi_len_l, bi_len_t, bi_len_c, bi_len_s, bi_abs, bi_sum, bi_maxl, bi_minl, bi_max2, bi_min2, bi_any, bi_all, bi_int_i, bi_int_b, bi_list_l, bi_list_t, bi_tuple_l, bi_tuple_t, bi_sorted, bi_sset, ty_non, ty_bl, ty_int, ty_str, ty_lst, ty_tup, ty_scr, toB_bl, set_n, set_t, set_tl, it_seq_l, it_seq_t, it_seq_s, it_rng1, it_rng2, it_enm, it_enmT, it_zp_l, it_zp_t, it_rev_l, it_rev_t, me_append, me_extend, me_pop, me_reverse, me_count, ty_int_int, ty_int_bool, ty_bool_int, ty_bool_bool, ty_list_list, ty_tuple_tuple, ty_list_tuple, ty_tuple_list, ty_tuple_int, ty_tuple_bool, ty_int_tuple, ty_str_str, isNonE, toD_d, toD_fl, clo_d, clo_fl, eqB_nn, eqB_bb, eqB_bi, eqB_ib, eqB_ii, eqB_ss, eqB_ll, eqB_tt, eqB_ni, eqB_in, eqBs_00, eqBs_0c, eqBs_c0, eqBs_cc, okD, okDs, flat, small, powOk, mulOk, most, natAbs_1, natAbs_2, natAbs_10, Int.natAbs_natCast, wipe, intsOf, blsOf, pq_non, pq_bl, pq_int, pq_str, pq_tup, pq_lst, pq_scr, atI_0, atI_1, atI_2, ixN_0, ixN_1, D.closed, D.closeds, sat_ok, sat_bind, sat_guard, sat_err, Res.bind_ok, Res.bind_err, List.map_cons, List.map_nil, List.length_cons, List.length_nil, List.cons_append, List.nil_append, List.getElem?_cons_zero, List.getElem?_cons_succ, List.set_cons_zero, List.set_cons_succ, List.replicate, List.foldl_cons, List.foldl_nil, List.zip_cons_cons, List.zip_nil_left, List.zip_nil_right, Nat.reduceAdd, Nat.reduceSub, Nat.reduceLeDiff, Nat.reduceLT, Int.reduceLT, Int.reduceLE, Int.reduceNeg, Int.reducePow, Int.reduceToNat, Int.reduceAdd, Int.reduceMul, Int.reduceSub, Nat.reducePow, Nat.zero_add, Nat.add_zero, decide_true, decide_false, decide_eq_true_eq, beq_iff_eq, Bool.true_eq_false, reduceCtorEq, if_true, if_false, Bool.false_eq_true, true_and, and_true, Bool.true_and, Bool.and_true, Bool.false_and, Bool.and_false, Bool.not_true, Bool.not_false, Bool.or_true, Bool.true_or, Bool.or_false, Bool.false_or, Bool.and_eq_true, Bool.or_eq_true, Bool.not_eq_true', beq_self_eq_true, Option.map_some, Option.toList, if_true, if_false, intsOf_map]
          refine ⟨by rw [upFrom_len]; omega, by omega, ?_⟩
          refine ⟨rs ++ [((us.map fun w => ((w : Nat) : Int)).sum % (k : Int)).toNat], ?_, by simp [hrl], ?_⟩
          · rw [List.map_append, List.map_cons, List.map_nil, Int.toNat_of_nonneg (Int.emod_nonneg _ (by omega))]
          · intro r hr
            rcases List.mem_append.mp hr with hr | hr
            · exact hrs r hr
            · cases List.mem_singleton.mp hr
              have := Int.emod_lt_of_pos (us.map fun w => ((w : Nat) : Int)).sum (b := (k : Int)) (by omega)
              have := Int.emod_nonneg (us.map fun w => ((w : Nat) : Int)).sum (b := (k : Int)) (by omega)
              omega
      · obtain ⟨rs, hout, hrl, hrs, rfl⟩ := hI
        rw [List.nil_append] at hout
        subst hout
        rw [upFrom_len, Nat.zero_add] at hrl
        refine ⟨by rw [upFrom_len]; omega, by omega, ?_⟩
        dsimp only
        have e3 := e2.trans (Ext.push e2.dr (.lst (rs.map fun w => D.int (w : Nat))))
        refine take_ext hj e3.dr (by omega) (by omega) fun x T2 hx e4 l4 => ?_
        have hx' : x < (rs.map fun w => D.int (w : Nat)).length := by rw [List.length_map, hrl]; omega
        have hc : T2[T'.length]? = some (.lst (rs.map fun w => D.int (w : Nat))) := by
          rw [e4.same _ (by simp) (by have := e2.dr.lt; have := e1.dr.lt; have := e2.len; omega), List.getElem?_append_right (Nat.le_refl _), Nat.sub_self]
          rfl
        have hs : ∀ c, (T2.set T'.length c)[T'.length]? = some c := fun c => List.getElem?_set_self (by rw [l4]; simp)
        simp -implicitDefEqProofs only [sat_exs, sat_exs_nil, sat_if, sat_asg, sat_asgT, sat_setix, sat_ex, sat_ret, sat_retN, sat_pass, sat_brk, sat_cnt, sat_raise, sat_evB, sat_ite, sat_for, rest_nx, rest_ret, sat_var, sat_non, sat_bl, sat_int, sat_str, sat_bin, sat_neg, sat_cmp, sat_chain, sat_isN, sat_notN, sat_and, sat_or, sat_not, sat_ifE, sat_tup, sat_lst, sat_ix, sat_slN, sat_slLv, sat_slHv, sat_slLb, sat_slHb, sat_slLi, sat_slHi, sat_slLc, sat_slHc, sat_cal, sat_bi, sat_isi, sat_isis, sat_me, sat_lc, sat_lcIf, sat_lcF, sat_lcFi, sat_lrng, sat_isB, sat_rev1, rv1_l, rv1_t, List.reverse_cons, List.reverse_nil, sat_orv, orvK_int, orvK_non, intO_int, ex_bl, ex_lst, sat_box, sat_unbox, sat_esN, sat_esC, ex_d, ex_int, ex_fl, ex_obj, ex_cell, ex_oi, kept_non, kept_int, kept_tup, kept_lst, kept_str, kept_scr, kept_self, ex_setx, ex_j, shl1, Int.toNat_natCast, Int.natCast_nonneg, start, bin_ii, bin_ll, bin_tt, bin_ss, bin_li, bin_ti, rg_1, rg_2, int_add, int_sub, int_mul, int_fdiv, int_mod, int_pow, int_shl, int_shr, int_band, int_bor, int_bxor, cmp_eq, cmp_ne, cmp_in, cmp_nin, cmp_lt, cmp_le, cmp_gt, cmp_ge, eq_op, in_lst, in_tup, ix_lst, ix_tup, ix_scr, ix_str, sl_lst, sl_tup, sl_str, end_t, end_i, bi_len_l, bi_len_t, bi_len_c, bi_len_s, bi_abs, bi_sum, bi_maxl, bi_minl, bi_max2, bi_min2, bi_any, bi_all, bi_int_i, bi_int_b, bi_list_l, bi_list_t, bi_tuple_l, bi_tuple_t, bi_sorted, bi_sset, ty_non, ty_bl, ty_int, ty_str, ty_lst, ty_tup, ty_scr, toB_bl, set_n, set_t, set_tl, it_seq_l, it_seq_t, it_seq_s, it_rng1, it_rng2, it_enm, it_enmT, it_zp_l, it_zp_t, it_rev_l, it_rev_t, me_append, me_extend, me_pop, me_reverse, me_count, ty_int_int, ty_int_bool, ty_bool_int, ty_bool_bool, ty_list_list, ty_tuple_tuple, ty_list_tuple, ty_tuple_list, ty_tuple_int, ty_tuple_bool, ty_int_tuple, ty_str_str, isNonE, toD_d, toD_fl, clo_d, clo_fl, eqB_nn, eqB_bb, eqB_bi, eqB_ib, eqB_ii, eqB_ss, eqB_ll, eqB_tt, eqB_ni, eqB_in, eqBs_00, eqBs_0c, eqBs_c0, eqBs_cc, okD, okDs, flat, small, powOk, mulOk, most, natAbs_1, natAbs_2, natAbs_10, Int.natAbs_natCast, wipe, intsOf, blsOf, pq_non, pq_bl, pq_int, pq_str, pq_tup, pq_lst, pq_scr, atI_0, atI_1, atI_2, ixN_0, ixN_1, D.closed, D.closeds, sat_ok, sat_bind, sat_guard, sat_err, Res.bind_ok, Res.bind_err, List.map_cons, List.map_nil, List.length_cons, List.length_nil, List.cons_append, List.nil_append, List.getElem?_cons_zero, List.getElem?_cons_succ, List.set_cons_zero, List.set_cons_succ, List.replicate, List.foldl_cons, List.foldl_nil, List.zip_cons_cons, List.zip_nil_left, List.zip_nil_right, Nat.reduceAdd, Nat.reduceSub, Nat.reduceLeDiff, Nat.reduceLT, Int.reduceLT, Int.reduceLE, Int.reduceNeg, Int.reducePow, Int.reduceToNat, Int.reduceAdd, Int.reduceMul, Int.reduceSub, Nat.reducePow, Nat.zero_add, Nat.add_zero, decide_true, decide_false, decide_eq_true_eq, beq_iff_eq, Bool.true_eq_false, reduceCtorEq, if_true, if_false, Bool.false_eq_true, true_and, and_true, Bool.true_and, Bool.and_true, Bool.false_and, Bool.and_false, Bool.not_true, Bool.not_false, Bool.or_true, Bool.true_or, Bool.or_false, Bool.false_or, Bool.and_eq_true, Bool.or_eq_true, Bool.not_eq_true', beq_self_eq_true, Option.map_some, Option.toList, if_true, if_false, hc, ixN_nat hx', hs, pq_obj (hs _)]
        have e5 : Ext p S (T2.set T'.length (.lst ((rs.map fun w => D.int (w : Nat)).set x .non))) := ((e1.trans e3).trans e4).set hp.lt (by have := e2.len; omega) _
        have := h ((rs.map some).set x none) _ ⟨by rw [List.length_set, List.length_map, hrl, hN], fun y hy => ?_⟩ e5
        · rw [List.map_set, List.map_map] at this
          exact this
        · rcases List.mem_or_eq_of_mem_set hy with hy | hy
          · simp only [List.mem_map, Option.some.injEq] at hy
            obtain ⟨z, hz, rfl⟩ := hy
            exact hrs z hz
          · cases hy
  · refine ⟨by omega, by omega, ?_⟩
    have e2 := e1.trans (Ext.push e1.dr (.lst []))
    refine sat_loopF (fun i env T => ∃ (rs : List (Option Nat)) (x y : Option D), env = [some (D.obj p), some (D.int n), some (D.int k), some (D.int way), some (D.obj S1.length), x, none, y, none] ∧ rs.length = i ∧ (∀ r, some r ∈ rs → r < k) ∧ Ext p S T ∧ T[S1.length]? = some (.lst (rs.map oD))) _ 0 _ _ ⟨[], none, none, rfl, rfl, by simp, e2, by simp⟩ (fun a d env T hd hI => ?_) (fun env T hI => ?_)
    · obtain ⟨rs, x, y, rfl, hrl, hrs, e3, hc⟩ := hI
      obtain ⟨ha, rfl⟩ := up0_get hd
      have hpS : p < S1.length := e1.dr.lt
      have fin : ∀ (r : Option Nat) (T2 : Store), (∀ z, r = some z → z < k) → Ext p S T2 → T2[S1.length]? = some (.lst (rs.map oD)) → ∃ xs, T2[S1.length]? = some (.lst xs) ∧ (meOp .append S1.length [oD r] T2).sat fun x => ∃ (rs : List (Option Nat)) (x2 y : Option D), [some (D.obj p), some (D.int n), some (D.int k), some (D.int way), some (D.obj S1.length), some (D.int a), none, some (oD r), none] = [some (D.obj p), some (D.int n), some (D.int k), some (D.int way), some (D.obj S1.length), x2, none, y, none] ∧ rs.length = a + 1 ∧ (∀ r, some r ∈ rs → r < k) ∧ Ext p S x.2 ∧ x.2[S1.length]? = some (.lst (rs.map oD)) := fun r T2 hr e hc => by
        refine ⟨_, hc, ?_⟩
        rw [me_append hc, sat_guard, sat_ok]
        refine ⟨decide_eq_true (show (rs.map oD).length < 16777216 by rw [List.length_map]; omega), rs ++ [r], _, _, rfl, by simp; omega, fun z hz => ?_, e.set hp.lt (by omega) _, ?_⟩
        · rcases List.mem_append.mp hz with hz | hz
          · exact hrs z hz
          · exact hr z (List.mem_singleton.mp hz).symm
        · rw [List.getElem?_set_self (List.getElem?_eq_some_iff.mp hc).1, List.map_append]
          rfl
      have cell : ∀ {T1 T2 : Store}, T1[S1.length]? = some (.lst (rs.map oD)) → Ext p T1 T2 → T2[S1.length]? = some (.lst (rs.map oD)) := fun {T1 T2} h e => by
        rw [e.same _ (List.getElem?_eq_some_iff.mp h).1 (by omega)]
        exact h
      simp -implicitDefEqProofs only [sat_exs, sat_exs_nil, sat_if, sat_asg, sat_asgT, sat_setix, sat_ex, sat_ret, sat_retN, sat_pass, sat_brk, sat_cnt, sat_raise, sat_evB, sat_ite, sat_for, rest_nx, rest_ret, sat_var, sat_non, sat_bl, sat_int, sat_str, sat_bin, sat_neg, sat_cmp, sat_chain, sat_isN, sat_notN, sat_and, sat_or, sat_not, sat_ifE, sat_tup, sat_lst, sat_ix, sat_slN, sat_slLv, sat_slHv, sat_slLb, sat_slHb, sat_slLi, sat_slHi, sat_slLc, sat_slHc, sat_cal, sat_bi, sat_isi, sat_isis, sat_me, sat_lc, sat_lcIf, sat_lcF, sat_lcFi, sat_lrng, sat_isB, sat_rev1, rv1_l, rv1_t, List.reverse_cons, List.reverse_nil, sat_orv, orvK_int, orvK_non, intO_int, ex_bl, ex_lst, sat_box, sat_unbox, sat_esN, sat_esC, ex_d, ex_int, ex_fl, ex_obj, ex_cell, ex_oi, kept_non, kept_int, kept_tup, kept_lst, kept_str, kept_scr, kept_self, ex_setx, ex_j, shl1, Int.toNat_natCast, Int.natCast_nonneg, start, bin_ii, bin_ll, bin_tt, bin_ss, bin_li, bin_ti, rg_1, rg_2, int_add, int_sub, int_mul, int_fdiv, int_mod, int_pow, int_shl, int_shr, int_band, int_bor, int_bxor, cmp_eq, cmp_ne, cmp_in, cmp_nin, cmp_lt, cmp_le, cmp_gt, cmp_ge, eq_op, in_lst, in_tup, ix_lst, ix_tup, ix_scr, ix_str, sl_lst, sl_tup, sl_str, end_t, end_i, bi_len_l, bi_len_t, bi_len_c, bi_len_s, bi_abs, bi_sum, bi_maxl, bi_minl, bi_max2, bi_min2, bi_any, bi_all, bi_int_i, bi_int_b, bi_list_l, bi_list_t, bi_tuple_l, bi_tuple_t, bi_sorted, bi_sset, ty_non, ty_bl, ty_int, ty_str, ty_lst, ty_tup, ty_scr, toB_bl, set_n, set_t, set_tl, it_seq_l, it_seq_t, it_seq_s, it_rng1, it_rng2, it_enm, it_enmT, it_zp_l, it_zp_t, it_rev_l, it_rev_t, me_append, me_extend, me_pop, me_reverse, me_count, ty_int_int, ty_int_bool, ty_bool_int, ty_bool_bool, ty_list_list, ty_tuple_tuple, ty_list_tuple, ty_tuple_list, ty_tuple_int, ty_tuple_bool, ty_int_tuple, ty_str_str, isNonE, toD_d, toD_fl, clo_d, clo_fl, eqB_nn, eqB_bb, eqB_bi, eqB_ib, eqB_ii, eqB_ss, eqB_ll, eqB_tt, eqB_ni, eqB_in, eqBs_00, eqBs_0c, eqBs_c0, eqBs_cc, okD, okDs, flat, small, powOk, mulOk, most, natAbs_1, natAbs_2, natAbs_10, Int.natAbs_natCast, wipe, intsOf, blsOf, pq_non, pq_bl, pq_int, pq_str, pq_tup, pq_lst, pq_scr, atI_0, atI_1, atI_2, ixN_0, ixN_1, D.closed, D.closeds, sat_ok, sat_bind, sat_guard, sat_err, Res.bind_ok, Res.bind_err, List.map_cons, List.map_nil, List.length_cons, List.length_nil, List.cons_append, List.nil_append, List.getElem?_cons_zero, List.getElem?_cons_succ, List.set_cons_zero, List.set_cons_succ, List.replicate, List.foldl_cons, List.foldl_nil, List.zip_cons_cons, List.zip_nil_left, List.zip_nil_right, Nat.reduceAdd, Nat.reduceSub, Nat.reduceLeDiff, Nat.reduceLT, Int.reduceLT, Int.reduceLE, Int.reduceNeg, Int.reducePow, Int.reduceToNat, Int.reduceAdd, Int.reduceMul, Int.reduceSub, Nat.reducePow, Nat.zero_add, Nat.add_zero, decide_true, decide_false, decide_eq_true_eq, beq_iff_eq, Bool.true_eq_false, reduceCtorEq, if_true, if_false, Bool.false_eq_true, true_and, and_true, Bool.true_and, Bool.and_true, Bool.false_and, Bool.and_false, Bool.not_true, Bool.not_false, Bool.or_true, Bool.true_or, Bool.or_false, Bool.false_or, Bool.and_eq_true, Bool.or_eq_true, Bool.not_eq_true', beq_self_eq_true, Option.map_some, Option.toList, if_true, if_false]
      refine take_ext hj e3.dr (by omega) (by omega) fun x T1 hx e4 l4 => ?_
      have c1 := cell hc e4
      have e13 := e3.trans e4
      have fx : ∀ z, some x = some z → z < k := fun z hz => by cases hz; omega
      split
      · refine take_ext hj e13.dr (by omega) (by omega) fun x' T2 hx' e5 l5 => ?_
        have c2 := cell c1 e5
        simp -implicitDefEqProofs only [sat_exs, sat_exs_nil, sat_if, sat_asg, sat_asgT, sat_setix, sat_ex, sat_ret, sat_retN, sat_pass, sat_brk, sat_cnt, sat_raise, sat_evB, sat_ite, sat_for, rest_nx, rest_ret, sat_var, sat_non, sat_bl, sat_int, sat_str, sat_bin, sat_neg, sat_cmp, sat_chain, sat_isN, sat_notN, sat_and, sat_or, sat_not, sat_ifE, sat_tup, sat_lst, sat_ix, sat_slN, sat_slLv, sat_slHv, sat_slLb, sat_slHb, sat_slLi, sat_slHi, sat_slLc, sat_slHc, sat_cal, sat_bi, sat_isi, sat_isis, sat_me, sat_lc, sat_lcIf, sat_lcF, sat_lcFi, sat_lrng, sat_isB, sat_rev1, rv1_l, rv1_t, List.reverse_cons, List.reverse_nil, sat_orv, orvK_int, orvK_non, intO_int, ex_bl, ex_lst, sat_box, sat_unbox, sat_esN, sat_esC, ex_d, ex_int, ex_fl, ex_obj, ex_cell, ex_oi, kept_non, kept_int, kept_tup, kept_lst, kept_str, kept_scr, kept_self, ex_setx, ex_j, shl1, Int.toNat_natCast, Int.natCast_nonneg, start, bin_ii, bin_ll, bin_tt, bin_ss, bin_li, bin_ti, rg_1, rg_2, int_add, int_sub, int_mul, int_fdiv, int_mod, int_pow, int_shl, int_shr, int_band, int_bor, int_bxor, cmp_eq, cmp_ne, cmp_in, cmp_nin, cmp_lt, cmp_le, cmp_gt, cmp_ge, eq_op, in_lst, in_tup, ix_lst, ix_tup, ix_scr, ix_str, sl_lst, sl_tup, sl_str, end_t, end_i, bi_len_l, bi_len_t, bi_len_c, bi_len_s, bi_abs, bi_sum, bi_maxl, bi_minl, bi_max2, bi_min2, bi_any, bi_all, bi_int_i, bi_int_b, bi_list_l, bi_list_t, bi_tuple_l, bi_tuple_t, bi_sorted, bi_sset, ty_non, ty_bl, ty_int, ty_str, ty_lst, ty_tup, ty_scr, toB_bl, set_n, set_t, set_tl, it_seq_l, it_seq_t, it_seq_s, it_rng1, it_rng2, it_enm, it_enmT, it_zp_l, it_zp_t, it_rev_l, it_rev_t, me_append, me_extend, me_pop, me_reverse, me_count, ty_int_int, ty_int_bool, ty_bool_int, ty_bool_bool, ty_list_list, ty_tuple_tuple, ty_list_tuple, ty_tuple_list, ty_tuple_int, ty_tuple_bool, ty_int_tuple, ty_str_str, isNonE, toD_d, toD_fl, clo_d, clo_fl, eqB_nn, eqB_bb, eqB_bi, eqB_ib, eqB_ii, eqB_ss, eqB_ll, eqB_tt, eqB_ni, eqB_in, eqBs_00, eqBs_0c, eqBs_c0, eqBs_cc, okD, okDs, flat, small, powOk, mulOk, most, natAbs_1, natAbs_2, natAbs_10, Int.natAbs_natCast, wipe, intsOf, blsOf, pq_non, pq_bl, pq_int, pq_str, pq_tup, pq_lst, pq_scr, atI_0, atI_1, atI_2, ixN_0, ixN_1, D.closed, D.closeds, sat_ok, sat_bind, sat_guard, sat_err, Res.bind_ok, Res.bind_err, List.map_cons, List.map_nil, List.length_cons, List.length_nil, List.cons_append, List.nil_append, List.getElem?_cons_zero, List.getElem?_cons_succ, List.set_cons_zero, List.set_cons_succ, List.replicate, List.foldl_cons, List.foldl_nil, List.zip_cons_cons, List.zip_nil_left, List.zip_nil_right, Nat.reduceAdd, Nat.reduceSub, Nat.reduceLeDiff, Nat.reduceLT, Int.reduceLT, Int.reduceLE, Int.reduceNeg, Int.reducePow, Int.reduceToNat, Int.reduceAdd, Int.reduceMul, Int.reduceSub, Nat.reducePow, Nat.zero_add, Nat.add_zero, decide_true, decide_false, decide_eq_true_eq, beq_iff_eq, Bool.true_eq_false, reduceCtorEq, if_true, if_false, Bool.false_eq_true, true_and, and_true, Bool.true_and, Bool.and_true, Bool.false_and, Bool.and_false, Bool.not_true, Bool.not_false, Bool.or_true, Bool.true_or, Bool.or_false, Bool.false_or, Bool.and_eq_true, Bool.or_eq_true, Bool.not_eq_true', beq_self_eq_true, Option.map_some, Option.toList, if_true, if_false]
        split
        · exact fin none T2 (by simp) (e13.trans e5) c2
        · split
          · refine take_ext hj e5.dr (by omega) (by omega) fun x' T3 hx' e6 l5 => ?_
            have c3 := cell c2 e6
            simp -implicitDefEqProofs only [sat_exs, sat_exs_nil, sat_if, sat_asg, sat_asgT, sat_setix, sat_ex, sat_ret, sat_retN, sat_pass, sat_brk, sat_cnt, sat_raise, sat_evB, sat_ite, sat_for, rest_nx, rest_ret, sat_var, sat_non, sat_bl, sat_int, sat_str, sat_bin, sat_neg, sat_cmp, sat_chain, sat_isN, sat_notN, sat_and, sat_or, sat_not, sat_ifE, sat_tup, sat_lst, sat_ix, sat_slN, sat_slLv, sat_slHv, sat_slLb, sat_slHb, sat_slLi, sat_slHi, sat_slLc, sat_slHc, sat_cal, sat_bi, sat_isi, sat_isis, sat_me, sat_lc, sat_lcIf, sat_lcF, sat_lcFi, sat_lrng, sat_isB, sat_rev1, rv1_l, rv1_t, List.reverse_cons, List.reverse_nil, sat_orv, orvK_int, orvK_non, intO_int, ex_bl, ex_lst, sat_box, sat_unbox, sat_esN, sat_esC, ex_d, ex_int, ex_fl, ex_obj, ex_cell, ex_oi, kept_non, kept_int, kept_tup, kept_lst, kept_str, kept_scr, kept_self, ex_setx, ex_j, shl1, Int.toNat_natCast, Int.natCast_nonneg, start, bin_ii, bin_ll, bin_tt, bin_ss, bin_li, bin_ti, rg_1, rg_2, int_add, int_sub, int_mul, int_fdiv, int_mod, int_pow, int_shl, int_shr, int_band, int_bor, int_bxor, cmp_eq, cmp_ne, cmp_in, cmp_nin, cmp_lt, cmp_le, cmp_gt, cmp_ge, eq_op, in_lst, in_tup, ix_lst, ix_tup, ix_scr, ix_str, sl_lst, sl_tup, sl_str, end_t, end_i, bi_len_l, bi_len_t, bi_len_c, bi_len_s, bi_abs, bi_sum, bi_maxl, bi_minl, bi_max2, bi_min2, bi_any, bi_all, bi_int_i, bi_int_b, bi_list_l, bi_list_t, bi_tuple_l, bi_tuple_t, bi_sorted, bi_sset, ty_non, ty_bl, ty_int, ty_str, ty_lst, ty_tup, ty_scr, toB_bl, set_n, set_t, set_tl, it_seq_l, it_seq_t, it_seq_s, it_rng1, it_rng2, it_enm, it_enmT, it_zp_l, it_zp_t, it_rev_l, it_rev_t, me_append, me_extend, me_pop, me_reverse, me_count, ty_int_int, ty_int_bool, ty_bool_int, ty_bool_bool, ty_list_list, ty_tuple_tuple, ty_list_tuple, ty_tuple_list, ty_tuple_int, ty_tuple_bool, ty_int_tuple, ty_str_str, isNonE, toD_d, toD_fl, clo_d, clo_fl, eqB_nn, eqB_bb, eqB_bi, eqB_ib, eqB_ii, eqB_ss, eqB_ll, eqB_tt, eqB_ni, eqB_in, eqBs_00, eqBs_0c, eqBs_c0, eqBs_cc, okD, okDs, flat, small, powOk, mulOk, most, natAbs_1, natAbs_2, natAbs_10, Int.natAbs_natCast, wipe, intsOf, blsOf, pq_non, pq_bl, pq_int, pq_str, pq_tup, pq_lst, pq_scr, atI_0, atI_1, atI_2, ixN_0, ixN_1, D.closed, D.closeds, sat_ok, sat_bind, sat_guard, sat_err, Res.bind_ok, Res.bind_err, List.map_cons, List.map_nil, List.length_cons, List.length_nil, List.cons_append, List.nil_append, List.getElem?_cons_zero, List.getElem?_cons_succ, List.set_cons_zero, List.set_cons_succ, List.replicate, List.foldl_cons, List.foldl_nil, List.zip_cons_cons, List.zip_nil_left, List.zip_nil_right, Nat.reduceAdd, Nat.reduceSub, Nat.reduceLeDiff, Nat.reduceLT, Int.reduceLT, Int.reduceLE, Int.reduceNeg, Int.reducePow, Int.reduceToNat, Int.reduceAdd, Int.reduceMul, Int.reduceSub, Nat.reducePow, Nat.zero_add, Nat.add_zero, decide_true, decide_false, decide_eq_true_eq, beq_iff_eq, Bool.true_eq_false, reduceCtorEq, if_true, if_false, Bool.false_eq_true, true_and, and_true, Bool.true_and, Bool.and_true, Bool.false_and, Bool.and_false, Bool.not_true, Bool.not_false, Bool.or_true, Bool.true_or, Bool.or_false, Bool.false_or, Bool.and_eq_true, Bool.or_eq_true, Bool.not_eq_true', beq_self_eq_true, Option.map_some, Option.toList, if_true, if_false]
            split
            · exact fin none T3 (by simp) ((e13.trans e5).trans e6) c3
            · exact fin (some x) T3 fx ((e13.trans e5).trans e6) c3
          · exact fin (some x) T2 fx (e13.trans e5) c2
      · split
        · refine take_ext hj e13.dr (by omega) (by omega) fun x' T2 hx' e5 l5 => ?_
          have c2 := cell c1 e5
          simp -implicitDefEqProofs only [sat_exs, sat_exs_nil, sat_if, sat_asg, sat_asgT, sat_setix, sat_ex, sat_ret, sat_retN, sat_pass, sat_brk, sat_cnt, sat_raise, sat_evB, sat_ite, sat_for, rest_nx, rest_ret, sat_var, sat_non, sat_bl, sat_int, sat_str, sat_bin, sat_neg, sat_cmp, sat_chain, sat_isN, sat_notN, sat_and, sat_or, sat_not, sat_ifE, sat_tup, sat_lst, sat_ix, sat_slN, sat_slLv, sat_slHv, sat_slLb, sat_slHb, sat_slLi, sat_slHi, sat_slLc, sat_slHc, sat_cal, sat_bi, sat_isi, sat_isis, sat_me, sat_lc, sat_lcIf, sat_lcF, sat_lcFi, sat_lrng, sat_isB, sat_rev1, rv1_l, rv1_t, List.reverse_cons, List.reverse_nil, sat_orv, orvK_int, orvK_non, intO_int, ex_bl, ex_lst, sat_box, sat_unbox, sat_esN, sat_esC, ex_d, ex_int, ex_fl, ex_obj, ex_cell, ex_oi, kept_non, kept_int, kept_tup, kept_lst, kept_str, kept_scr, kept_self, ex_setx, ex_j, shl1, Int.toNat_natCast, Int.natCast_nonneg, start, bin_ii, bin_ll, bin_tt, bin_ss, bin_li, bin_ti, rg_1, rg_2, int_add, int_sub, int_mul, int_fdiv, int_mod, int_pow, int_shl, int_shr, int_band, int_bor, int_bxor, cmp_eq, cmp_ne, cmp_in, cmp_nin, cmp_lt, cmp_le, cmp_gt, cmp_ge, eq_op, in_lst, in_tup, ix_lst, ix_tup, ix_scr, ix_str, sl_lst, sl_tup, sl_str, end_t, end_i, bi_len_l, bi_len_t, bi_len_c, bi_len_s, bi_abs, bi_sum, bi_maxl, bi_minl, bi_max2, bi_min2, bi_any, bi_all, bi_int_i, bi_int_b, bi_list_l, bi_list_t, bi_tuple_l, bi_tuple_t, bi_sorted, bi_sset, ty_non, ty_bl, ty_int, ty_str, ty_lst, ty_tup, ty_scr, toB_bl, set_n, set_t, set_tl, it_seq_l, it_seq_t, it_seq_s, it_rng1, it_rng2, it_enm, it_enmT, it_zp_l, it_zp_t, it_rev_l, it_rev_t, me_append, me_extend, me_pop, me_reverse, me_count, ty_int_int, ty_int_bool, ty_bool_int, ty_bool_bool, ty_list_list, ty_tuple_tuple, ty_list_tuple, ty_tuple_list, ty_tuple_int, ty_tuple_bool, ty_int_tuple, ty_str_str, isNonE, toD_d, toD_fl, clo_d, clo_fl, eqB_nn, eqB_bb, eqB_bi, eqB_ib, eqB_ii, eqB_ss, eqB_ll, eqB_tt, eqB_ni, eqB_in, eqBs_00, eqBs_0c, eqBs_c0, eqBs_cc, okD, okDs, flat, small, powOk, mulOk, most, natAbs_1, natAbs_2, natAbs_10, Int.natAbs_natCast, wipe, intsOf, blsOf, pq_non, pq_bl, pq_int, pq_str, pq_tup, pq_lst, pq_scr, atI_0, atI_1, atI_2, ixN_0, ixN_1, D.closed, D.closeds, sat_ok, sat_bind, sat_guard, sat_err, Res.bind_ok, Res.bind_err, List.map_cons, List.map_nil, List.length_cons, List.length_nil, List.cons_append, List.nil_append, List.getElem?_cons_zero, List.getElem?_cons_succ, List.set_cons_zero, List.set_cons_succ, List.replicate, List.foldl_cons, List.foldl_nil, List.zip_cons_cons, List.zip_nil_left, List.zip_nil_right, Nat.reduceAdd, Nat.reduceSub, Nat.reduceLeDiff, Nat.reduceLT, Int.reduceLT, Int.reduceLE, Int.reduceNeg, Int.reducePow, Int.reduceToNat, Int.reduceAdd, Int.reduceMul, Int.reduceSub, Nat.reducePow, Nat.zero_add, Nat.add_zero, decide_true, decide_false, decide_eq_true_eq, beq_iff_eq, Bool.true_eq_false, reduceCtorEq, if_true, if_false, Bool.false_eq_true, true_and, and_true, Bool.true_and, Bool.and_true, Bool.false_and, Bool.and_false, Bool.not_true, Bool.not_false, Bool.or_true, Bool.true_or, Bool.or_false, Bool.false_or, Bool.and_eq_true, Bool.or_eq_true, Bool.not_eq_true', beq_self_eq_true, Option.map_some, Option.toList, if_true, if_false]
          split
          · exact fin none T2 (by simp) (e13.trans e5) c2
          · exact fin (some x) T2 fx (e13.trans e5) c2
        · exact fin (some x) T1 fx e13 c1
    · obtain ⟨rs, x, y, rfl, hrl, hrs, e3, hc⟩ := hI
      rw [upFrom_len, Nat.zero_add] at hrl
      simp -implicitDefEqProofs only [sat_exs, sat_exs_nil, sat_if, sat_asg, sat_asgT, sat_setix, sat_ex, sat_ret, sat_retN, sat_pass, sat_brk, sat_cnt, sat_raise, sat_evB, sat_ite, sat_for, rest_nx, rest_ret, sat_var, sat_non, sat_bl, sat_int, sat_str, sat_bin, sat_neg, sat_cmp, sat_chain, sat_isN, sat_notN, sat_and, sat_or, sat_not, sat_ifE, sat_tup, sat_lst, sat_ix, sat_slN, sat_slLv, sat_slHv, sat_slLb, sat_slHb, sat_slLi, sat_slHi, sat_slLc, sat_slHc, sat_cal, sat_bi, sat_isi, sat_isis, sat_me, sat_lc, sat_lcIf, sat_lcF, sat_lcFi, sat_lrng, sat_isB, sat_rev1, rv1_l, rv1_t, List.reverse_cons, List.reverse_nil, sat_orv, orvK_int, orvK_non, intO_int, ex_bl, ex_lst, sat_box, sat_unbox, sat_esN, sat_esC, ex_d, ex_int, ex_fl, ex_obj, ex_cell, ex_oi, kept_non, kept_int, kept_tup, kept_lst, kept_str, kept_scr, kept_self, ex_setx, ex_j, shl1, Int.toNat_natCast, Int.natCast_nonneg, start, bin_ii, bin_ll, bin_tt, bin_ss, bin_li, bin_ti, rg_1, rg_2, int_add, int_sub, int_mul, int_fdiv, int_mod, int_pow, int_shl, int_shr, int_band, int_bor, int_bxor, cmp_eq, cmp_ne, cmp_in, cmp_nin, cmp_lt, cmp_le, cmp_gt, cmp_ge, eq_op, in_lst, in_tup, ix_lst, ix_tup, ix_scr, ix_str, sl_lst, sl_tup, sl_str, end_t, end_i, bi_len_l, bi_len_t, bi_len_c, bi_len_s, bi_abs, bi_sum, bi_maxl, bi_minl, bi_max2, bi_min2, bi_any, bi_all, bi_int_i, bi_int_b, bi_list_l, bi_list_t, bi_tuple_l, bi_tuple_t, bi_sorted, bi_sset, ty_non, ty_bl, ty_int, ty_str, ty_lst, ty_tup, ty_scr, toB_bl, set_n, set_t, set_tl, it_seq_l, it_seq_t, it_seq_s, it_rng1, it_rng2, it_enm, it_enmT, it_zp_l, it_zp_t, it_rev_l, it_rev_t, me_append, me_extend, me_pop, me_reverse, me_count, ty_int_int, ty_int_bool, ty_bool_int, ty_bool_bool, ty_list_list, ty_tuple_tuple, ty_list_tuple, ty_tuple_list, ty_tuple_int, ty_tuple_bool, ty_int_tuple, ty_str_str, isNonE, toD_d, toD_fl, clo_d, clo_fl, eqB_nn, eqB_bb, eqB_bi, eqB_ib, eqB_ii, eqB_ss, eqB_ll, eqB_tt, eqB_ni, eqB_in, eqBs_00, eqBs_0c, eqBs_c0, eqBs_cc, okD, okDs, flat, small, powOk, mulOk, most, natAbs_1, natAbs_2, natAbs_10, Int.natAbs_natCast, wipe, intsOf, blsOf, pq_non, pq_bl, pq_int, pq_str, pq_tup, pq_lst, pq_scr, atI_0, atI_1, atI_2, ixN_0, ixN_1, D.closed, D.closeds, sat_ok, sat_bind, sat_guard, sat_err, Res.bind_ok, Res.bind_err, List.map_cons, List.map_nil, List.length_cons, List.length_nil, List.cons_append, List.nil_append, List.getElem?_cons_zero, List.getElem?_cons_succ, List.set_cons_zero, List.set_cons_succ, List.replicate, List.foldl_cons, List.foldl_nil, List.zip_cons_cons, List.zip_nil_left, List.zip_nil_right, Nat.reduceAdd, Nat.reduceSub, Nat.reduceLeDiff, Nat.reduceLT, Int.reduceLT, Int.reduceLE, Int.reduceNeg, Int.reducePow, Int.reduceToNat, Int.reduceAdd, Int.reduceMul, Int.reduceSub, Nat.reducePow, Nat.zero_add, Nat.add_zero, decide_true, decide_false, decide_eq_true_eq, beq_iff_eq, Bool.true_eq_false, reduceCtorEq, if_true, if_false, Bool.false_eq_true, true_and, and_true, Bool.true_and, Bool.and_true, Bool.false_and, Bool.and_false, Bool.not_true, Bool.not_false, Bool.or_true, Bool.true_or, Bool.or_false, Bool.false_or, Bool.and_eq_true, Bool.or_eq_true, Bool.not_eq_true', beq_self_eq_true, Option.map_some, Option.toList, if_true, if_false, pq_obj hc]
      exact h rs T ⟨by rw [hrl, hN], hrs⟩ e3
end
end Nl

/-! Cuts as numbers: their spots. -/
namespace Nl
/-- ints as data -/
def iD (n : Nat) : D := .int (n : Nat)
theorem shr_nat {c i : Nat} : (c : Int) / 2 ^ i = ((c / 2 ^ i : Nat) : Int) := by simp
theorem and_1 {c : Nat} : c &&& 1 = c % 2 := Nat.and_one_is_mod c
theorem bit_eq {c i : Nat} : (((c / 2 ^ i % 2 : Nat) : Int) = 1) ↔ c.testBit i = true := by
  rw [Nat.testBit_eq_decide_div_mod_eq, decide_eq_true_eq]
  omega
theorem bit_eq0 {c i : Nat} : (((c / 2 ^ i % 2 : Nat) : Int) = 0) ↔ c.testBit i = false := by
  rw [Nat.testBit_eq_decide_div_mod_eq, decide_eq_false_iff_not]
  omega
/-- the spots of cuts, of eight at most -/
def bits (c : Nat) : List Nat := (List.range 8).filter fun i => c.testBit i
theorem filter_range_ext {p : Nat → Bool} {a b : Nat} (h : a ≤ b) (hp : ∀ i, a ≤ i → i < b → p i = false) : (List.range b).filter p = (List.range a).filter p := by
  obtain ⟨d, rfl⟩ := Nat.exists_eq_add_of_le h
  rw [List.range_add, List.filter_append]
  have : ((List.range d).map (a + ·)).filter p = [] := by
    rw [List.filter_eq_nil_iff]
    intro x hx
    obtain ⟨y, hy, rfl⟩ := List.mem_map.mp hx
    rw [hp (a + y) (by omega) (by have := List.mem_range.mp hy; omega)]
    simp
  rw [this, List.append_nil]
theorem bits_eq {c n : Nat} (hn : n ≤ 8) (hc : c < 2 ^ n) : bits c = (List.range n).filter fun i => c.testBit i :=
  filter_range_ext hn fun i h1 _ => Nat.testBit_lt_two_pow (Nat.lt_of_lt_of_le hc (Nat.pow_le_pow_right (by omega) h1))
theorem closeds_iD : ∀ xs : List Nat, D.closeds (xs.map iD) = true
  | [] => rfl
  | x :: xs => by rw [List.map_cons, D.closeds, closeds_iD xs]; rfl
theorem closeds_oD : ∀ t : List (Option Nat), D.closeds (t.map oD) = true
  | [] => rfl
  | x :: xs => by rw [List.map_cons, D.closeds, closeds_oD xs]; cases x <;> rfl
theorem okDs_oD {n : Nat} : ∀ t : List (Option Nat), okDs n (t.map oD) = true
  | [] => rfl
  | x :: xs => by rw [List.map_cons, okDs, okDs_oD xs]; cases x <;> rfl
theorem okDs_iD {n : Nat} : ∀ xs : List Nat, okDs n (xs.map iD) = true
  | [] => rfl
  | x :: xs => by rw [List.map_cons, okDs, okDs_iD xs]; rfl
theorem okD_iD {n : Nat} {xs : List Nat} : okD (n + 1) (.lst (xs.map iD)) = true := by rw [okD, okDs_iD]
theorem eqB_iD {x y : Nat} : eqB (iD x) (iD y) = decide (x = y) := by
  simp only [iD, eqB]
  rw [Bool.eq_iff_iff, beq_iff_eq, decide_eq_true_eq]
  omega
theorem eqBs_iD : ∀ xs ys : List Nat, eqBs (xs.map iD) (ys.map iD) = decide (xs = ys)
  | [], [] => rfl
  | [], _ :: _ => rfl
  | _ :: _, [] => rfl
  | x :: xs, y :: ys => by
    rw [List.map_cons, List.map_cons, eqBs, eqB_iD, eqBs_iD xs ys]
    simp
theorem bits_le {c : Nat} : (bits c).length ≤ 8 := by
  have := List.length_filter_le (fun i => c.testBit i) (List.range 8)
  rw [List.length_range] at this
  exact this
section
variable {gl : Nat → Option D} {fs : List Fn}
theorem spots_of_ok {m i c : Nat} {S : Store} (hf : fs[i]? = some f_spots_of_ec1d) (hc : c < 256) : call gl fs (m + 1) i [.int c] S = .ok (.fl ((bits c).map iD), S) := by
  rw [← sat_def]
  refine sat_call hf rfl rfl rfl ?_
  simp -implicitDefEqProofs only [sat_exs, sat_exs_nil, sat_if, sat_asg, sat_asgT, sat_setix, sat_ex, sat_ret, sat_retN, sat_pass, sat_brk, sat_cnt, sat_raise, sat_evB, sat_ite, sat_for, rest_nx, rest_ret, sat_var, sat_non, sat_bl, sat_int, sat_str, sat_bin, sat_neg, sat_cmp, sat_chain, sat_isN, sat_notN, sat_and, sat_or, sat_not, sat_ifE, sat_tup, sat_lst, sat_ix, sat_slN, sat_slLv, sat_slHv, sat_slLb, sat_slHb, sat_slLi, sat_slHi, sat_slLc, sat_slHc, sat_cal, sat_bi, sat_isi, sat_isis, sat_me, sat_lc, sat_lcIf, sat_lcF, sat_lcFi, sat_lrng, sat_isB, sat_rev1, rv1_l, rv1_t, List.reverse_cons, List.reverse_nil, sat_orv, orvK_int, orvK_non, intO_int, ex_bl, ex_lst, sat_box, sat_unbox, sat_esN, sat_esC, ex_d, ex_int, ex_fl, ex_obj, ex_cell, ex_oi, kept_non, kept_int, kept_tup, kept_lst, kept_str, kept_scr, kept_self, ex_setx, ex_j, shl1, Int.toNat_natCast, Int.natCast_nonneg, start, bin_ii, bin_ll, bin_tt, bin_ss, bin_li, bin_ti, rg_1, rg_2, int_add, int_sub, int_mul, int_fdiv, int_mod, int_pow, int_shl, int_shr, int_band, int_bor, int_bxor, cmp_eq, cmp_ne, cmp_in, cmp_nin, cmp_lt, cmp_le, cmp_gt, cmp_ge, eq_op, in_lst, in_tup, ix_lst, ix_tup, ix_scr, ix_str, sl_lst, sl_tup, sl_str, end_t, end_i, bi_len_l, bi_len_t, bi_len_c, bi_len_s, bi_abs, bi_sum, bi_maxl, bi_minl, bi_max2, bi_min2, bi_any, bi_all, bi_int_i, bi_int_b, bi_list_l, bi_list_t, bi_tuple_l, bi_tuple_t, bi_sorted, bi_sset, ty_non, ty_bl, ty_int, ty_str, ty_lst, ty_tup, ty_scr, toB_bl, set_n, set_t, set_tl, it_seq_l, it_seq_t, it_seq_s, it_rng1, it_rng2, it_enm, it_enmT, it_zp_l, it_zp_t, it_rev_l, it_rev_t, me_append, me_extend, me_pop, me_reverse, me_count, ty_int_int, ty_int_bool, ty_bool_int, ty_bool_bool, ty_list_list, ty_tuple_tuple, ty_list_tuple, ty_tuple_list, ty_tuple_int, ty_tuple_bool, ty_int_tuple, ty_str_str, isNonE, toD_d, toD_fl, clo_d, clo_fl, eqB_nn, eqB_bb, eqB_bi, eqB_ib, eqB_ii, eqB_ss, eqB_ll, eqB_tt, eqB_ni, eqB_in, eqBs_00, eqBs_0c, eqBs_c0, eqBs_cc, okD, okDs, flat, small, powOk, mulOk, most, natAbs_1, natAbs_2, natAbs_10, Int.natAbs_natCast, wipe, intsOf, blsOf, pq_non, pq_bl, pq_int, pq_str, pq_tup, pq_lst, pq_scr, atI_0, atI_1, atI_2, ixN_0, ixN_1, D.closed, D.closeds, sat_ok, sat_bind, sat_guard, sat_err, Res.bind_ok, Res.bind_err, List.map_cons, List.map_nil, List.length_cons, List.length_nil, List.cons_append, List.nil_append, List.getElem?_cons_zero, List.getElem?_cons_succ, List.set_cons_zero, List.set_cons_succ, List.replicate, List.foldl_cons, List.foldl_nil, List.zip_cons_cons, List.zip_nil_left, List.zip_nil_right, Nat.reduceAdd, Nat.reduceSub, Nat.reduceLeDiff, Nat.reduceLT, Int.reduceLT, Int.reduceLE, Int.reduceNeg, Int.reducePow, Int.reduceToNat, Int.reduceAdd, Int.reduceMul, Int.reduceSub, Nat.reducePow, Nat.zero_add, Nat.add_zero, decide_true, decide_false, decide_eq_true_eq, beq_iff_eq, Bool.true_eq_false, reduceCtorEq, if_true, if_false, Bool.false_eq_true, true_and, and_true, Bool.true_and, Bool.and_true, Bool.false_and, Bool.and_false, Bool.not_true, Bool.not_false, Bool.or_true, Bool.true_or, Bool.or_false, Bool.false_or, Bool.and_eq_true, Bool.or_eq_true, Bool.not_eq_true', beq_self_eq_true, Option.map_some, Option.toList, if_true, if_false, f_spots_of_ec1d, sat_whl]
  refine sat_loopW (fun f env T => ∃ a : Nat, f = 100 - a ∧ a ≤ 8 ∧ env = [some (.int c), some (.obj 0), some (.int a)] ∧ T = [.lst (((List.range a).filter fun i => c.testBit i).map iD)]) 100 _ _ ⟨0, rfl, by omega, rfl, rfl⟩ ?_
  rintro f env T ⟨a, rfl, ha, rfl, rfl⟩
  refine ⟨99 - a, by omega, ?_⟩
  simp -implicitDefEqProofs only [sat_exs, sat_exs_nil, sat_if, sat_asg, sat_asgT, sat_setix, sat_ex, sat_ret, sat_retN, sat_pass, sat_brk, sat_cnt, sat_raise, sat_evB, sat_ite, sat_for, rest_nx, rest_ret, sat_var, sat_non, sat_bl, sat_int, sat_str, sat_bin, sat_neg, sat_cmp, sat_chain, sat_isN, sat_notN, sat_and, sat_or, sat_not, sat_ifE, sat_tup, sat_lst, sat_ix, sat_slN, sat_slLv, sat_slHv, sat_slLb, sat_slHb, sat_slLi, sat_slHi, sat_slLc, sat_slHc, sat_cal, sat_bi, sat_isi, sat_isis, sat_me, sat_lc, sat_lcIf, sat_lcF, sat_lcFi, sat_lrng, sat_isB, sat_rev1, rv1_l, rv1_t, List.reverse_cons, List.reverse_nil, sat_orv, orvK_int, orvK_non, intO_int, ex_bl, ex_lst, sat_box, sat_unbox, sat_esN, sat_esC, ex_d, ex_int, ex_fl, ex_obj, ex_cell, ex_oi, kept_non, kept_int, kept_tup, kept_lst, kept_str, kept_scr, kept_self, ex_setx, ex_j, shl1, Int.toNat_natCast, Int.natCast_nonneg, start, bin_ii, bin_ll, bin_tt, bin_ss, bin_li, bin_ti, rg_1, rg_2, int_add, int_sub, int_mul, int_fdiv, int_mod, int_pow, int_shl, int_shr, int_band, int_bor, int_bxor, cmp_eq, cmp_ne, cmp_in, cmp_nin, cmp_lt, cmp_le, cmp_gt, cmp_ge, eq_op, in_lst, in_tup, ix_lst, ix_tup, ix_scr, ix_str, sl_lst, sl_tup, sl_str, end_t, end_i, bi_len_l, bi_len_t, bi_len_c, bi_len_s, bi_abs, bi_sum, bi_maxl, bi_minl, bi_max2, bi_min2, bi_any, bi_all, bi_int_i, bi_int_b, bi_list_l, bi_list_t, bi_tuple_l, bi_tuple_t, bi_sorted, bi_sset, ty_non, ty_bl, ty_int, ty_str, ty_lst, ty_tup, ty_scr, toB_bl, set_n, set_t, set_tl, it_seq_l, it_seq_t, it_seq_s, it_rng1, it_rng2, it_enm, it_enmT, it_zp_l, it_zp_t, it_rev_l, it_rev_t, me_append, me_extend, me_pop, me_reverse, me_count, ty_int_int, ty_int_bool, ty_bool_int, ty_bool_bool, ty_list_list, ty_tuple_tuple, ty_list_tuple, ty_tuple_list, ty_tuple_int, ty_tuple_bool, ty_int_tuple, ty_str_str, isNonE, toD_d, toD_fl, clo_d, clo_fl, eqB_nn, eqB_bb, eqB_bi, eqB_ib, eqB_ii, eqB_ss, eqB_ll, eqB_tt, eqB_ni, eqB_in, eqBs_00, eqBs_0c, eqBs_c0, eqBs_cc, okD, okDs, flat, small, powOk, mulOk, most, natAbs_1, natAbs_2, natAbs_10, Int.natAbs_natCast, wipe, intsOf, blsOf, pq_non, pq_bl, pq_int, pq_str, pq_tup, pq_lst, pq_scr, atI_0, atI_1, atI_2, ixN_0, ixN_1, D.closed, D.closeds, sat_ok, sat_bind, sat_guard, sat_err, Res.bind_ok, Res.bind_err, List.map_cons, List.map_nil, List.length_cons, List.length_nil, List.cons_append, List.nil_append, List.getElem?_cons_zero, List.getElem?_cons_succ, List.set_cons_zero, List.set_cons_succ, List.replicate, List.foldl_cons, List.foldl_nil, List.zip_cons_cons, List.zip_nil_left, List.zip_nil_right, Nat.reduceAdd, Nat.reduceSub, Nat.reduceLeDiff, Nat.reduceLT, Int.reduceLT, Int.reduceLE, Int.reduceNeg, Int.reducePow, Int.reduceToNat, Int.reduceAdd, Int.reduceMul, Int.reduceSub, Nat.reducePow, Nat.zero_add, Nat.add_zero, decide_true, decide_false, decide_eq_true_eq, beq_iff_eq, Bool.true_eq_false, reduceCtorEq, if_true, if_false, Bool.false_eq_true, true_and, and_true, Bool.true_and, Bool.and_true, Bool.false_and, Bool.and_false, Bool.not_true, Bool.not_false, Bool.or_true, Bool.true_or, Bool.or_false, Bool.false_or, Bool.and_eq_true, Bool.or_eq_true, Bool.not_eq_true', beq_self_eq_true, Option.map_some, Option.toList, if_true, if_false, shr_nat, and_1, bit_eq]
  split
  · rename_i h0
    have h0 : 0 < c / 2 ^ a := by exact_mod_cast h0
    have ha8 : a < 8 := by
      refine Nat.lt_of_le_of_ne ha fun e => ?_
      subst e
      rw [Nat.div_eq_of_lt (by simpa using hc)] at h0
      omega
    have hl : ((List.range a).filter fun i => c.testBit i).length ≤ a := by
      have := List.length_filter_le (fun i => c.testBit i) (List.range a)
      rwa [List.length_range] at this
    split
    · rename_i hb
      rw [me_append rfl, sat_guard, sat_ok]
      refine ⟨decide_eq_true (show _ < 16777216 by rw [List.length_map]; omega), a + 1, by omega, by omega, rfl, ?_⟩
      rw [List.range_succ, List.filter_append, List.map_append]
      simp [hb, iD]
    · rename_i hb
      refine ⟨a + 1, by omega, by omega, rfl, ?_⟩
      rw [List.range_succ, List.filter_append]
      simp [hb]
  · rename_i h0
    have h0 : c / 2 ^ a = 0 := Nat.eq_zero_of_not_pos fun h => h0 (by exact_mod_cast h)
    have hca : c < 2 ^ a := by
      rcases Nat.div_eq_zero_iff.mp h0 with h | h
      · simp at h
      · exact h
    rw [closeds_iD, bits_eq ha hca]
    exact ⟨rfl, rfl⟩
theorem how_many_ok {m i j c : Nat} {S : Store} (hf : fs[i]? = some (f_how_many_5a9b j)) (hj : fs[j]? = some f_spots_of_ec1d) (hc : c < 256) : call gl fs (m + 2) i [.int c] S = .ok (.d (iD (bits c).length), S) := by
  rw [← sat_def]
  refine sat_call hf rfl rfl rfl ?_
  simp -implicitDefEqProofs only [sat_exs, sat_exs_nil, sat_if, sat_asg, sat_asgT, sat_setix, sat_ex, sat_ret, sat_retN, sat_pass, sat_brk, sat_cnt, sat_raise, sat_evB, sat_ite, sat_for, rest_nx, rest_ret, sat_var, sat_non, sat_bl, sat_int, sat_str, sat_bin, sat_neg, sat_cmp, sat_chain, sat_isN, sat_notN, sat_and, sat_or, sat_not, sat_ifE, sat_tup, sat_lst, sat_ix, sat_slN, sat_slLv, sat_slHv, sat_slLb, sat_slHb, sat_slLi, sat_slHi, sat_slLc, sat_slHc, sat_cal, sat_bi, sat_isi, sat_isis, sat_me, sat_lc, sat_lcIf, sat_lcF, sat_lcFi, sat_lrng, sat_isB, sat_rev1, rv1_l, rv1_t, List.reverse_cons, List.reverse_nil, sat_orv, orvK_int, orvK_non, intO_int, ex_bl, ex_lst, sat_box, sat_unbox, sat_esN, sat_esC, ex_d, ex_int, ex_fl, ex_obj, ex_cell, ex_oi, kept_non, kept_int, kept_tup, kept_lst, kept_str, kept_scr, kept_self, ex_setx, ex_j, shl1, Int.toNat_natCast, Int.natCast_nonneg, start, bin_ii, bin_ll, bin_tt, bin_ss, bin_li, bin_ti, rg_1, rg_2, int_add, int_sub, int_mul, int_fdiv, int_mod, int_pow, int_shl, int_shr, int_band, int_bor, int_bxor, cmp_eq, cmp_ne, cmp_in, cmp_nin, cmp_lt, cmp_le, cmp_gt, cmp_ge, eq_op, in_lst, in_tup, ix_lst, ix_tup, ix_scr, ix_str, sl_lst, sl_tup, sl_str, end_t, end_i, bi_len_l, bi_len_t, bi_len_c, bi_len_s, bi_abs, bi_sum, bi_maxl, bi_minl, bi_max2, bi_min2, bi_any, bi_all, bi_int_i, bi_int_b, bi_list_l, bi_list_t, bi_tuple_l, bi_tuple_t, bi_sorted, bi_sset, ty_non, ty_bl, ty_int, ty_str, ty_lst, ty_tup, ty_scr, toB_bl, set_n, set_t, set_tl, it_seq_l, it_seq_t, it_seq_s, it_rng1, it_rng2, it_enm, it_enmT, it_zp_l, it_zp_t, it_rev_l, it_rev_t, me_append, me_extend, me_pop, me_reverse, me_count, ty_int_int, ty_int_bool, ty_bool_int, ty_bool_bool, ty_list_list, ty_tuple_tuple, ty_list_tuple, ty_tuple_list, ty_tuple_int, ty_tuple_bool, ty_int_tuple, ty_str_str, isNonE, toD_d, toD_fl, clo_d, clo_fl, eqB_nn, eqB_bb, eqB_bi, eqB_ib, eqB_ii, eqB_ss, eqB_ll, eqB_tt, eqB_ni, eqB_in, eqBs_00, eqBs_0c, eqBs_c0, eqBs_cc, okD, okDs, flat, small, powOk, mulOk, most, natAbs_1, natAbs_2, natAbs_10, Int.natAbs_natCast, wipe, intsOf, blsOf, pq_non, pq_bl, pq_int, pq_str, pq_tup, pq_lst, pq_scr, atI_0, atI_1, atI_2, ixN_0, ixN_1, D.closed, D.closeds, sat_ok, sat_bind, sat_guard, sat_err, Res.bind_ok, Res.bind_err, List.map_cons, List.map_nil, List.length_cons, List.length_nil, List.cons_append, List.nil_append, List.getElem?_cons_zero, List.getElem?_cons_succ, List.set_cons_zero, List.set_cons_succ, List.replicate, List.foldl_cons, List.foldl_nil, List.zip_cons_cons, List.zip_nil_left, List.zip_nil_right, Nat.reduceAdd, Nat.reduceSub, Nat.reduceLeDiff, Nat.reduceLT, Int.reduceLT, Int.reduceLE, Int.reduceNeg, Int.reducePow, Int.reduceToNat, Int.reduceAdd, Int.reduceMul, Int.reduceSub, Nat.reducePow, Nat.zero_add, Nat.add_zero, decide_true, decide_false, decide_eq_true_eq, beq_iff_eq, Bool.true_eq_false, reduceCtorEq, if_true, if_false, Bool.false_eq_true, true_and, and_true, Bool.true_and, Bool.and_true, Bool.false_and, Bool.and_false, Bool.not_true, Bool.not_false, Bool.or_true, Bool.true_or, Bool.or_false, Bool.false_or, Bool.and_eq_true, Bool.or_eq_true, Bool.not_eq_true', beq_self_eq_true, Option.map_some, Option.toList, if_true, if_false, f_how_many_5a9b, spots_of_ok hj hc, List.length_map]
  rfl
theorem and_lt {a b : Nat} (h : a < 256) : a &&& b < 256 := Nat.lt_of_le_of_lt Nat.and_le_left h
theorem filter_split {α : Type} (p q : α → Bool) : ∀ xs : List α, (xs.filter p).length = (xs.filter fun x => p x && q x).length + (xs.filter fun x => p x && !q x).length
  | [] => rfl
  | x :: xs => by
    have := filter_split p q xs
    simp only [List.filter_cons]
    cases p x <;> cases q x <;> simp <;> omega
/-- the spots of the one alone -/
def alone (n a b : Nat) : List Nat := (List.range n).filter fun i => a.testBit i && !b.testBit i
theorem bits_alone (a b : Nat) : (bits a).length = (bits (a &&& b)).length + (alone 8 a b).length := by
  have : bits (a &&& b) = (List.range 8).filter fun i => a.testBit i && b.testBit i := by
    unfold bits
    congr 1
    funext i
    rw [Nat.testBit_and]
  rw [this]
  exact filter_split _ _ _
theorem further_ok {m i j l a b : Nat} {S : Store} (hf : fs[i]? = some (f_further_8139 j)) (hj : fs[j]? = some (f_how_many_5a9b l)) (hl : fs[l]? = some f_spots_of_ec1d) (ha : a < 256) (hb : b < 256) : call gl fs (m + 3) i [.int a, .int b] S = .ok (.d (iD (alone 8 a b).length), S) := by
  rw [← sat_def]
  refine sat_call hf rfl rfl rfl ?_
  simp -implicitDefEqProofs only [sat_exs, sat_exs_nil, sat_if, sat_asg, sat_asgT, sat_setix, sat_ex, sat_ret, sat_retN, sat_pass, sat_brk, sat_cnt, sat_raise, sat_evB, sat_ite, sat_for, rest_nx, rest_ret, sat_var, sat_non, sat_bl, sat_int, sat_str, sat_bin, sat_neg, sat_cmp, sat_chain, sat_isN, sat_notN, sat_and, sat_or, sat_not, sat_ifE, sat_tup, sat_lst, sat_ix, sat_slN, sat_slLv, sat_slHv, sat_slLb, sat_slHb, sat_slLi, sat_slHi, sat_slLc, sat_slHc, sat_cal, sat_bi, sat_isi, sat_isis, sat_me, sat_lc, sat_lcIf, sat_lcF, sat_lcFi, sat_lrng, sat_isB, sat_rev1, rv1_l, rv1_t, List.reverse_cons, List.reverse_nil, sat_orv, orvK_int, orvK_non, intO_int, ex_bl, ex_lst, sat_box, sat_unbox, sat_esN, sat_esC, ex_d, ex_int, ex_fl, ex_obj, ex_cell, ex_oi, kept_non, kept_int, kept_tup, kept_lst, kept_str, kept_scr, kept_self, ex_setx, ex_j, shl1, Int.toNat_natCast, Int.natCast_nonneg, start, bin_ii, bin_ll, bin_tt, bin_ss, bin_li, bin_ti, rg_1, rg_2, int_add, int_sub, int_mul, int_fdiv, int_mod, int_pow, int_shl, int_shr, int_band, int_bor, int_bxor, cmp_eq, cmp_ne, cmp_in, cmp_nin, cmp_lt, cmp_le, cmp_gt, cmp_ge, eq_op, in_lst, in_tup, ix_lst, ix_tup, ix_scr, ix_str, sl_lst, sl_tup, sl_str, end_t, end_i, bi_len_l, bi_len_t, bi_len_c, bi_len_s, bi_abs, bi_sum, bi_maxl, bi_minl, bi_max2, bi_min2, bi_any, bi_all, bi_int_i, bi_int_b, bi_list_l, bi_list_t, bi_tuple_l, bi_tuple_t, bi_sorted, bi_sset, ty_non, ty_bl, ty_int, ty_str, ty_lst, ty_tup, ty_scr, toB_bl, set_n, set_t, set_tl, it_seq_l, it_seq_t, it_seq_s, it_rng1, it_rng2, it_enm, it_enmT, it_zp_l, it_zp_t, it_rev_l, it_rev_t, me_append, me_extend, me_pop, me_reverse, me_count, ty_int_int, ty_int_bool, ty_bool_int, ty_bool_bool, ty_list_list, ty_tuple_tuple, ty_list_tuple, ty_tuple_list, ty_tuple_int, ty_tuple_bool, ty_int_tuple, ty_str_str, isNonE, toD_d, toD_fl, clo_d, clo_fl, eqB_nn, eqB_bb, eqB_bi, eqB_ib, eqB_ii, eqB_ss, eqB_ll, eqB_tt, eqB_ni, eqB_in, eqBs_00, eqBs_0c, eqBs_c0, eqBs_cc, okD, okDs, flat, small, powOk, mulOk, most, natAbs_1, natAbs_2, natAbs_10, Int.natAbs_natCast, wipe, intsOf, blsOf, pq_non, pq_bl, pq_int, pq_str, pq_tup, pq_lst, pq_scr, atI_0, atI_1, atI_2, ixN_0, ixN_1, D.closed, D.closeds, sat_ok, sat_bind, sat_guard, sat_err, Res.bind_ok, Res.bind_err, List.map_cons, List.map_nil, List.length_cons, List.length_nil, List.cons_append, List.nil_append, List.getElem?_cons_zero, List.getElem?_cons_succ, List.set_cons_zero, List.set_cons_succ, List.replicate, List.foldl_cons, List.foldl_nil, List.zip_cons_cons, List.zip_nil_left, List.zip_nil_right, Nat.reduceAdd, Nat.reduceSub, Nat.reduceLeDiff, Nat.reduceLT, Int.reduceLT, Int.reduceLE, Int.reduceNeg, Int.reducePow, Int.reduceToNat, Int.reduceAdd, Int.reduceMul, Int.reduceSub, Nat.reducePow, Nat.zero_add, Nat.add_zero, decide_true, decide_false, decide_eq_true_eq, beq_iff_eq, Bool.true_eq_false, reduceCtorEq, if_true, if_false, Bool.false_eq_true, true_and, and_true, Bool.true_and, Bool.and_true, Bool.false_and, Bool.and_false, Bool.not_true, Bool.not_false, Bool.or_true, Bool.true_or, Bool.or_false, Bool.false_or, Bool.and_eq_true, Bool.or_eq_true, Bool.not_eq_true', beq_self_eq_true, Option.map_some, Option.toList, if_true, if_false, f_further_8139, how_many_ok hj hl ha, how_many_ok hj hl (and_lt (b := b) ha), iD]
  rw [bits_alone a b]
  congr 3
  omega
theorem together_ok {m i a b : Nat} {S : Store} (hf : fs[i]? = some f_together_d16c) : call gl fs (m + 1) i [.int a, .int b] S = .ok (.d (iD (a ||| b)), S) := by
  rw [← sat_def]
  refine sat_call hf rfl rfl rfl ?_
  simp -implicitDefEqProofs only [sat_exs, sat_exs_nil, sat_if, sat_asg, sat_asgT, sat_setix, sat_ex, sat_ret, sat_retN, sat_pass, sat_brk, sat_cnt, sat_raise, sat_evB, sat_ite, sat_for, rest_nx, rest_ret, sat_var, sat_non, sat_bl, sat_int, sat_str, sat_bin, sat_neg, sat_cmp, sat_chain, sat_isN, sat_notN, sat_and, sat_or, sat_not, sat_ifE, sat_tup, sat_lst, sat_ix, sat_slN, sat_slLv, sat_slHv, sat_slLb, sat_slHb, sat_slLi, sat_slHi, sat_slLc, sat_slHc, sat_cal, sat_bi, sat_isi, sat_isis, sat_me, sat_lc, sat_lcIf, sat_lcF, sat_lcFi, sat_lrng, sat_isB, sat_rev1, rv1_l, rv1_t, List.reverse_cons, List.reverse_nil, sat_orv, orvK_int, orvK_non, intO_int, ex_bl, ex_lst, sat_box, sat_unbox, sat_esN, sat_esC, ex_d, ex_int, ex_fl, ex_obj, ex_cell, ex_oi, kept_non, kept_int, kept_tup, kept_lst, kept_str, kept_scr, kept_self, ex_setx, ex_j, shl1, Int.toNat_natCast, Int.natCast_nonneg, start, bin_ii, bin_ll, bin_tt, bin_ss, bin_li, bin_ti, rg_1, rg_2, int_add, int_sub, int_mul, int_fdiv, int_mod, int_pow, int_shl, int_shr, int_band, int_bor, int_bxor, cmp_eq, cmp_ne, cmp_in, cmp_nin, cmp_lt, cmp_le, cmp_gt, cmp_ge, eq_op, in_lst, in_tup, ix_lst, ix_tup, ix_scr, ix_str, sl_lst, sl_tup, sl_str, end_t, end_i, bi_len_l, bi_len_t, bi_len_c, bi_len_s, bi_abs, bi_sum, bi_maxl, bi_minl, bi_max2, bi_min2, bi_any, bi_all, bi_int_i, bi_int_b, bi_list_l, bi_list_t, bi_tuple_l, bi_tuple_t, bi_sorted, bi_sset, ty_non, ty_bl, ty_int, ty_str, ty_lst, ty_tup, ty_scr, toB_bl, set_n, set_t, set_tl, it_seq_l, it_seq_t, it_seq_s, it_rng1, it_rng2, it_enm, it_enmT, it_zp_l, it_zp_t, it_rev_l, it_rev_t, me_append, me_extend, me_pop, me_reverse, me_count, ty_int_int, ty_int_bool, ty_bool_int, ty_bool_bool, ty_list_list, ty_tuple_tuple, ty_list_tuple, ty_tuple_list, ty_tuple_int, ty_tuple_bool, ty_int_tuple, ty_str_str, isNonE, toD_d, toD_fl, clo_d, clo_fl, eqB_nn, eqB_bb, eqB_bi, eqB_ib, eqB_ii, eqB_ss, eqB_ll, eqB_tt, eqB_ni, eqB_in, eqBs_00, eqBs_0c, eqBs_c0, eqBs_cc, okD, okDs, flat, small, powOk, mulOk, most, natAbs_1, natAbs_2, natAbs_10, Int.natAbs_natCast, wipe, intsOf, blsOf, pq_non, pq_bl, pq_int, pq_str, pq_tup, pq_lst, pq_scr, atI_0, atI_1, atI_2, ixN_0, ixN_1, D.closed, D.closeds, sat_ok, sat_bind, sat_guard, sat_err, Res.bind_ok, Res.bind_err, List.map_cons, List.map_nil, List.length_cons, List.length_nil, List.cons_append, List.nil_append, List.getElem?_cons_zero, List.getElem?_cons_succ, List.set_cons_zero, List.set_cons_succ, List.replicate, List.foldl_cons, List.foldl_nil, List.zip_cons_cons, List.zip_nil_left, List.zip_nil_right, Nat.reduceAdd, Nat.reduceSub, Nat.reduceLeDiff, Nat.reduceLT, Int.reduceLT, Int.reduceLE, Int.reduceNeg, Int.reducePow, Int.reduceToNat, Int.reduceAdd, Int.reduceMul, Int.reduceSub, Nat.reducePow, Nat.zero_add, Nat.add_zero, decide_true, decide_false, decide_eq_true_eq, beq_iff_eq, Bool.true_eq_false, reduceCtorEq, if_true, if_false, Bool.false_eq_true, true_and, and_true, Bool.true_and, Bool.and_true, Bool.false_and, Bool.and_false, Bool.not_true, Bool.not_false, Bool.or_true, Bool.true_or, Bool.or_false, Bool.false_or, Bool.and_eq_true, Bool.or_eq_true, Bool.not_eq_true', beq_self_eq_true, Option.map_some, Option.toList, if_true, if_false, f_together_d16c, iD]
theorem holds_ok {m i a b : Nat} {S : Store} (hf : fs[i]? = some f_holds_5c7e) : call gl fs (m + 1) i [.int a, .int b] S = .ok (.d (.bl (decide (a &&& b = b))), S) := by
  rw [← sat_def]
  refine sat_call hf rfl rfl rfl ?_
  simp -implicitDefEqProofs only [sat_exs, sat_exs_nil, sat_if, sat_asg, sat_asgT, sat_setix, sat_ex, sat_ret, sat_retN, sat_pass, sat_brk, sat_cnt, sat_raise, sat_evB, sat_ite, sat_for, rest_nx, rest_ret, sat_var, sat_non, sat_bl, sat_int, sat_str, sat_bin, sat_neg, sat_cmp, sat_chain, sat_isN, sat_notN, sat_and, sat_or, sat_not, sat_ifE, sat_tup, sat_lst, sat_ix, sat_slN, sat_slLv, sat_slHv, sat_slLb, sat_slHb, sat_slLi, sat_slHi, sat_slLc, sat_slHc, sat_cal, sat_bi, sat_isi, sat_isis, sat_me, sat_lc, sat_lcIf, sat_lcF, sat_lcFi, sat_lrng, sat_isB, sat_rev1, rv1_l, rv1_t, List.reverse_cons, List.reverse_nil, sat_orv, orvK_int, orvK_non, intO_int, ex_bl, ex_lst, sat_box, sat_unbox, sat_esN, sat_esC, ex_d, ex_int, ex_fl, ex_obj, ex_cell, ex_oi, kept_non, kept_int, kept_tup, kept_lst, kept_str, kept_scr, kept_self, ex_setx, ex_j, shl1, Int.toNat_natCast, Int.natCast_nonneg, start, bin_ii, bin_ll, bin_tt, bin_ss, bin_li, bin_ti, rg_1, rg_2, int_add, int_sub, int_mul, int_fdiv, int_mod, int_pow, int_shl, int_shr, int_band, int_bor, int_bxor, cmp_eq, cmp_ne, cmp_in, cmp_nin, cmp_lt, cmp_le, cmp_gt, cmp_ge, eq_op, in_lst, in_tup, ix_lst, ix_tup, ix_scr, ix_str, sl_lst, sl_tup, sl_str, end_t, end_i, bi_len_l, bi_len_t, bi_len_c, bi_len_s, bi_abs, bi_sum, bi_maxl, bi_minl, bi_max2, bi_min2, bi_any, bi_all, bi_int_i, bi_int_b, bi_list_l, bi_list_t, bi_tuple_l, bi_tuple_t, bi_sorted, bi_sset, ty_non, ty_bl, ty_int, ty_str, ty_lst, ty_tup, ty_scr, toB_bl, set_n, set_t, set_tl, it_seq_l, it_seq_t, it_seq_s, it_rng1, it_rng2, it_enm, it_enmT, it_zp_l, it_zp_t, it_rev_l, it_rev_t, me_append, me_extend, me_pop, me_reverse, me_count, ty_int_int, ty_int_bool, ty_bool_int, ty_bool_bool, ty_list_list, ty_tuple_tuple, ty_list_tuple, ty_tuple_list, ty_tuple_int, ty_tuple_bool, ty_int_tuple, ty_str_str, isNonE, toD_d, toD_fl, clo_d, clo_fl, eqB_nn, eqB_bb, eqB_bi, eqB_ib, eqB_ii, eqB_ss, eqB_ll, eqB_tt, eqB_ni, eqB_in, eqBs_00, eqBs_0c, eqBs_c0, eqBs_cc, okD, okDs, flat, small, powOk, mulOk, most, natAbs_1, natAbs_2, natAbs_10, Int.natAbs_natCast, wipe, intsOf, blsOf, pq_non, pq_bl, pq_int, pq_str, pq_tup, pq_lst, pq_scr, atI_0, atI_1, atI_2, ixN_0, ixN_1, D.closed, D.closeds, sat_ok, sat_bind, sat_guard, sat_err, Res.bind_ok, Res.bind_err, List.map_cons, List.map_nil, List.length_cons, List.length_nil, List.cons_append, List.nil_append, List.getElem?_cons_zero, List.getElem?_cons_succ, List.set_cons_zero, List.set_cons_succ, List.replicate, List.foldl_cons, List.foldl_nil, List.zip_cons_cons, List.zip_nil_left, List.zip_nil_right, Nat.reduceAdd, Nat.reduceSub, Nat.reduceLeDiff, Nat.reduceLT, Int.reduceLT, Int.reduceLE, Int.reduceNeg, Int.reducePow, Int.reduceToNat, Int.reduceAdd, Int.reduceMul, Int.reduceSub, Nat.reducePow, Nat.zero_add, Nat.add_zero, decide_true, decide_false, decide_eq_true_eq, beq_iff_eq, Bool.true_eq_false, reduceCtorEq, if_true, if_false, Bool.false_eq_true, true_and, and_true, Bool.true_and, Bool.and_true, Bool.false_and, Bool.and_false, Bool.not_true, Bool.not_false, Bool.or_true, Bool.true_or, Bool.or_false, Bool.false_or, Bool.and_eq_true, Bool.or_eq_true, Bool.not_eq_true', beq_self_eq_true, Option.map_some, Option.toList, if_true, if_false, f_holds_5c7e, iD]
  congr 3
  rw [Bool.eq_iff_iff, beq_iff_eq, decide_eq_true_eq]
  omega
theorem reading_ok {m i n k c : Nat} {t : List (Option Nat)} {S : Store} (hf : fs[i]? = some f_reading_8431) (hc : c < t.length) : call gl fs (m + 1) i [.tup [.int n, .int k, .tup (t.map oD)], .int c] S = .ok (.d (oD t[c]), S) := by
  rw [← sat_def]
  refine sat_call hf rfl rfl (by simp only [D.closeds, D.closed, closeds_oD, Bool.and_true]) ?_
  simp -implicitDefEqProofs only [sat_exs, sat_exs_nil, sat_if, sat_asg, sat_asgT, sat_setix, sat_ex, sat_ret, sat_retN, sat_pass, sat_brk, sat_cnt, sat_raise, sat_evB, sat_ite, sat_for, rest_nx, rest_ret, sat_var, sat_non, sat_bl, sat_int, sat_str, sat_bin, sat_neg, sat_cmp, sat_chain, sat_isN, sat_notN, sat_and, sat_or, sat_not, sat_ifE, sat_tup, sat_lst, sat_ix, sat_slN, sat_slLv, sat_slHv, sat_slLb, sat_slHb, sat_slLi, sat_slHi, sat_slLc, sat_slHc, sat_cal, sat_bi, sat_isi, sat_isis, sat_me, sat_lc, sat_lcIf, sat_lcF, sat_lcFi, sat_lrng, sat_isB, sat_rev1, rv1_l, rv1_t, List.reverse_cons, List.reverse_nil, sat_orv, orvK_int, orvK_non, intO_int, ex_bl, ex_lst, sat_box, sat_unbox, sat_esN, sat_esC, ex_d, ex_int, ex_fl, ex_obj, ex_cell, ex_oi, kept_non, kept_int, kept_tup, kept_lst, kept_str, kept_scr, kept_self, ex_setx, ex_j, shl1, Int.toNat_natCast, Int.natCast_nonneg, start, bin_ii, bin_ll, bin_tt, bin_ss, bin_li, bin_ti, rg_1, rg_2, int_add, int_sub, int_mul, int_fdiv, int_mod, int_pow, int_shl, int_shr, int_band, int_bor, int_bxor, cmp_eq, cmp_ne, cmp_in, cmp_nin, cmp_lt, cmp_le, cmp_gt, cmp_ge, eq_op, in_lst, in_tup, ix_lst, ix_tup, ix_scr, ix_str, sl_lst, sl_tup, sl_str, end_t, end_i, bi_len_l, bi_len_t, bi_len_c, bi_len_s, bi_abs, bi_sum, bi_maxl, bi_minl, bi_max2, bi_min2, bi_any, bi_all, bi_int_i, bi_int_b, bi_list_l, bi_list_t, bi_tuple_l, bi_tuple_t, bi_sorted, bi_sset, ty_non, ty_bl, ty_int, ty_str, ty_lst, ty_tup, ty_scr, toB_bl, set_n, set_t, set_tl, it_seq_l, it_seq_t, it_seq_s, it_rng1, it_rng2, it_enm, it_enmT, it_zp_l, it_zp_t, it_rev_l, it_rev_t, me_append, me_extend, me_pop, me_reverse, me_count, ty_int_int, ty_int_bool, ty_bool_int, ty_bool_bool, ty_list_list, ty_tuple_tuple, ty_list_tuple, ty_tuple_list, ty_tuple_int, ty_tuple_bool, ty_int_tuple, ty_str_str, isNonE, toD_d, toD_fl, clo_d, clo_fl, eqB_nn, eqB_bb, eqB_bi, eqB_ib, eqB_ii, eqB_ss, eqB_ll, eqB_tt, eqB_ni, eqB_in, eqBs_00, eqBs_0c, eqBs_c0, eqBs_cc, okD, okDs, flat, small, powOk, mulOk, most, natAbs_1, natAbs_2, natAbs_10, Int.natAbs_natCast, wipe, intsOf, blsOf, pq_non, pq_bl, pq_int, pq_str, pq_tup, pq_lst, pq_scr, atI_0, atI_1, atI_2, ixN_0, ixN_1, D.closed, D.closeds, sat_ok, sat_bind, sat_guard, sat_err, Res.bind_ok, Res.bind_err, List.map_cons, List.map_nil, List.length_cons, List.length_nil, List.cons_append, List.nil_append, List.getElem?_cons_zero, List.getElem?_cons_succ, List.set_cons_zero, List.set_cons_succ, List.replicate, List.foldl_cons, List.foldl_nil, List.zip_cons_cons, List.zip_nil_left, List.zip_nil_right, Nat.reduceAdd, Nat.reduceSub, Nat.reduceLeDiff, Nat.reduceLT, Int.reduceLT, Int.reduceLE, Int.reduceNeg, Int.reducePow, Int.reduceToNat, Int.reduceAdd, Int.reduceMul, Int.reduceSub, Nat.reducePow, Nat.zero_add, Nat.add_zero, decide_true, decide_false, decide_eq_true_eq, beq_iff_eq, Bool.true_eq_false, reduceCtorEq, if_true, if_false, Bool.false_eq_true, true_and, and_true, Bool.true_and, Bool.and_true, Bool.false_and, Bool.and_false, Bool.not_true, Bool.not_false, Bool.or_true, Bool.true_or, Bool.or_false, Bool.false_or, Bool.and_eq_true, Bool.or_eq_true, Bool.not_eq_true', beq_self_eq_true, Option.map_some, Option.toList, if_true, if_false, f_reading_8431, iD, atI_nat]
  rw [List.getElem?_map, List.getElem?_eq_getElem hc]
  simp -implicitDefEqProofs only [sat_exs, sat_exs_nil, sat_if, sat_asg, sat_asgT, sat_setix, sat_ex, sat_ret, sat_retN, sat_pass, sat_brk, sat_cnt, sat_raise, sat_evB, sat_ite, sat_for, rest_nx, rest_ret, sat_var, sat_non, sat_bl, sat_int, sat_str, sat_bin, sat_neg, sat_cmp, sat_chain, sat_isN, sat_notN, sat_and, sat_or, sat_not, sat_ifE, sat_tup, sat_lst, sat_ix, sat_slN, sat_slLv, sat_slHv, sat_slLb, sat_slHb, sat_slLi, sat_slHi, sat_slLc, sat_slHc, sat_cal, sat_bi, sat_isi, sat_isis, sat_me, sat_lc, sat_lcIf, sat_lcF, sat_lcFi, sat_lrng, sat_isB, sat_rev1, rv1_l, rv1_t, List.reverse_cons, List.reverse_nil, sat_orv, orvK_int, orvK_non, intO_int, ex_bl, ex_lst, sat_box, sat_unbox, sat_esN, sat_esC, ex_d, ex_int, ex_fl, ex_obj, ex_cell, ex_oi, kept_non, kept_int, kept_tup, kept_lst, kept_str, kept_scr, kept_self, ex_setx, ex_j, shl1, Int.toNat_natCast, Int.natCast_nonneg, start, bin_ii, bin_ll, bin_tt, bin_ss, bin_li, bin_ti, rg_1, rg_2, int_add, int_sub, int_mul, int_fdiv, int_mod, int_pow, int_shl, int_shr, int_band, int_bor, int_bxor, cmp_eq, cmp_ne, cmp_in, cmp_nin, cmp_lt, cmp_le, cmp_gt, cmp_ge, eq_op, in_lst, in_tup, ix_lst, ix_tup, ix_scr, ix_str, sl_lst, sl_tup, sl_str, end_t, end_i, bi_len_l, bi_len_t, bi_len_c, bi_len_s, bi_abs, bi_sum, bi_maxl, bi_minl, bi_max2, bi_min2, bi_any, bi_all, bi_int_i, bi_int_b, bi_list_l, bi_list_t, bi_tuple_l, bi_tuple_t, bi_sorted, bi_sset, ty_non, ty_bl, ty_int, ty_str, ty_lst, ty_tup, ty_scr, toB_bl, set_n, set_t, set_tl, it_seq_l, it_seq_t, it_seq_s, it_rng1, it_rng2, it_enm, it_enmT, it_zp_l, it_zp_t, it_rev_l, it_rev_t, me_append, me_extend, me_pop, me_reverse, me_count, ty_int_int, ty_int_bool, ty_bool_int, ty_bool_bool, ty_list_list, ty_tuple_tuple, ty_list_tuple, ty_tuple_list, ty_tuple_int, ty_tuple_bool, ty_int_tuple, ty_str_str, isNonE, toD_d, toD_fl, clo_d, clo_fl, eqB_nn, eqB_bb, eqB_bi, eqB_ib, eqB_ii, eqB_ss, eqB_ll, eqB_tt, eqB_ni, eqB_in, eqBs_00, eqBs_0c, eqBs_c0, eqBs_cc, okD, okDs, flat, small, powOk, mulOk, most, natAbs_1, natAbs_2, natAbs_10, Int.natAbs_natCast, wipe, intsOf, blsOf, pq_non, pq_bl, pq_int, pq_str, pq_tup, pq_lst, pq_scr, atI_0, atI_1, atI_2, ixN_0, ixN_1, D.closed, D.closeds, sat_ok, sat_bind, sat_guard, sat_err, Res.bind_ok, Res.bind_err, List.map_cons, List.map_nil, List.length_cons, List.length_nil, List.cons_append, List.nil_append, List.getElem?_cons_zero, List.getElem?_cons_succ, List.set_cons_zero, List.set_cons_succ, List.replicate, List.foldl_cons, List.foldl_nil, List.zip_cons_cons, List.zip_nil_left, List.zip_nil_right, Nat.reduceAdd, Nat.reduceSub, Nat.reduceLeDiff, Nat.reduceLT, Int.reduceLT, Int.reduceLE, Int.reduceNeg, Int.reducePow, Int.reduceToNat, Int.reduceAdd, Int.reduceMul, Int.reduceSub, Nat.reducePow, Nat.zero_add, Nat.add_zero, decide_true, decide_false, decide_eq_true_eq, beq_iff_eq, Bool.true_eq_false, reduceCtorEq, if_true, if_false, Bool.false_eq_true, true_and, and_true, Bool.true_and, Bool.and_true, Bool.false_and, Bool.and_false, Bool.not_true, Bool.not_false, Bool.or_true, Bool.true_or, Bool.or_false, Bool.false_or, Bool.and_eq_true, Bool.or_eq_true, Bool.not_eq_true', beq_self_eq_true, Option.map_some, Option.toList, if_true, if_false]
  cases t[c] <;> rfl
end
/-! ### numbers by their bits -/
theorem or_and : ∀ (n a b : Nat), a ≤ n → (a ||| b) + (a &&& b) = a + b
  | 0, a, b, h => by
    cases Nat.le_zero.mp h
    simp
  | n + 1, a, b, h => by
    by_cases ha : a = 0
    · subst ha
      simp
    · have ih := or_and n (a / 2) (b / 2) (by omega)
      have h1 := Nat.or_div_two (a := a) (b := b)
      have h2 := Nat.and_div_two (a := a) (b := b)
      have h3 := Nat.or_mod_two_eq_one (a := a) (b := b)
      have h4 := Nat.and_mod_two_eq_one (a := a) (b := b)
      omega
theorem or_lt {n a b : Nat} (ha : a < 2 ^ n) (hb : b < 2 ^ n) : a ||| b < 2 ^ n := Nat.or_lt_two_pow ha hb
theorem sum_bits : ∀ (n c : Nat), c < 2 ^ n → (((List.range n).filter fun i => c.testBit i).map fun i => 2 ^ i).sum = c
  | 0, c, h => by
    have : c = 0 := by simpa using h
    subst this
    rfl
  | n + 1, c, h => by
    rw [List.range_succ_eq_map, List.filter_cons, List.filter_map]
    have hc : ∀ i, (c.testBit ∘ Nat.succ) i = (c / 2).testBit i := fun i => by
      show c.testBit (i + 1) = (c / 2).testBit i
      rw [Nat.testBit_succ]
    have ih := sum_bits n (c / 2) (by rw [Nat.pow_succ] at h; omega)
    have e : (List.map (fun i => 2 ^ i) (List.map Nat.succ (List.filter ((fun i => c.testBit i) ∘ Nat.succ) (List.range n)))).sum = 2 * (c / 2) := by
      rw [List.map_map]
      conv => rhs; rw [← ih]
      have : (fun i => c.testBit i) ∘ Nat.succ = fun i => (c / 2).testBit i := funext hc
      rw [this]
      generalize (List.filter (fun i => (c / 2).testBit i) (List.range n)) = l
      induction l with
      | nil => rfl
      | cons x l ih =>
        rw [List.map_cons, List.sum_cons, ih, List.map_cons, List.sum_cons]
        simp only [Function.comp, Nat.pow_succ]
        omega
    have h0 : c.testBit 0 = decide (c % 2 = 1) := Nat.testBit_zero c
    cases hb : c.testBit 0 with
    | true =>
      rw [hb] at h0
      simp only [if_true, List.map_cons, List.sum_cons, e]
      have := of_decide_eq_true h0.symm
      omega
    | false =>
      rw [hb] at h0
      simp only [Bool.false_eq_true, if_false, e]
      have := of_decide_eq_false h0.symm
      omega
end Nl

/-! What many laws need. -/
namespace Nl
theorem compL_fi {α : Type} {ok : Store → Bool} {F : D → Store → Res (Option D × Store)} {S : Store} {g : α → D} {p : α → Bool} {h : α → D} (hok : ok S = true) : ∀ {xs : List α}, (∀ x ∈ xs, (F (g x) S).sat fun r => r = (if p x = true then some (h x) else none, S)) → compL ok F (xs.map g) S = .ok ((xs.filter p).map h, S)
  | [], _ => rfl
  | x :: xs, hx => by
    rw [List.map_cons, compL, sat_def.mp (hx x List.mem_cons_self), Res.bind_ok]
    simp only [guard', hok, if_true]
    rw [compL_fi hok (xs := xs) fun y hy => hx y (List.mem_cons_of_mem _ hy), Res.bind_ok, List.filter_cons]
    cases p x <;> rfl
theorem compL_f {α : Type} {ok : Store → Bool} {F : D → Store → Res (Option D × Store)} {S : Store} {g : α → D} {h : α → D} (hok : ok S = true) : ∀ {xs : List α}, (∀ x ∈ xs, (F (g x) S).sat fun r => r = (some (h x), S)) → compL ok F (xs.map g) S = .ok (xs.map h, S)
  | [], _ => rfl
  | x :: xs, hx => by
    rw [List.map_cons, compL, sat_def.mp (hx x List.mem_cons_self), Res.bind_ok]
    simp only [guard', hok, if_true]
    rw [compL_f hok (xs := xs) fun y hy => hx y (List.mem_cons_of_mem _ hy), Res.bind_ok]
    rfl
theorem up0_eq (n : Nat) : upFrom 0 n = (List.range n).map iD := by
  rw [upFrom_eq]
  refine List.map_congr_left fun i _ => ?_
  simp [iD]
theorem any_iD (x : Nat) : ∀ xs : List Nat, ((xs.map iD).any fun y => eqB y (D.int (x : Nat))) = decide (x ∈ xs)
  | [] => rfl
  | y :: ys => by
    rw [List.map_cons, List.any_cons, any_iD x ys, show eqB (iD y) (D.int (x : Nat)) = decide (y = x) from eqB_iD]
    by_cases h : y = x
    · subst h; simp
    · simp [h, Ne.symm h]
theorem eqBs_nil (xs : List Nat) : (eqBs (xs.map iD) [] = false) ↔ xs ≠ [] := by
  cases xs <;> simp [eqBs]
theorem mem_alone {n a b x : Nat} (h : x < n) : decide (x ∈ alone n a b) = (a.testBit x && !b.testBit x) := by
  unfold alone
  rw [Bool.eq_iff_iff, decide_eq_true_eq, List.mem_filter, List.mem_range]
  simp [h]
section
variable {gl : Nat → Option D} {fs : List Fn}
theorem whole_ok {m i x : Nat} {S : Store} (hf : fs[i]? = some f_law_whole_a601) : call gl fs (m + 1) i [.int x] S = .ok (.d (.bl true), S) := by
  rw [← sat_def]
  refine sat_call hf rfl rfl rfl ?_
  simp -implicitDefEqProofs only [sat_exs, sat_exs_nil, sat_if, sat_asg, sat_asgT, sat_setix, sat_ex, sat_ret, sat_retN, sat_pass, sat_brk, sat_cnt, sat_raise, sat_evB, sat_ite, sat_for, rest_nx, rest_ret, sat_var, sat_non, sat_bl, sat_int, sat_str, sat_bin, sat_neg, sat_cmp, sat_chain, sat_isN, sat_notN, sat_and, sat_or, sat_not, sat_ifE, sat_tup, sat_lst, sat_ix, sat_slN, sat_slLv, sat_slHv, sat_slLb, sat_slHb, sat_slLi, sat_slHi, sat_slLc, sat_slHc, sat_cal, sat_bi, sat_isi, sat_isis, sat_me, sat_lc, sat_lcIf, sat_lcF, sat_lcFi, sat_lrng, sat_isB, sat_rev1, rv1_l, rv1_t, List.reverse_cons, List.reverse_nil, sat_orv, orvK_int, orvK_non, intO_int, ex_bl, ex_lst, sat_box, sat_unbox, sat_esN, sat_esC, ex_d, ex_int, ex_fl, ex_obj, ex_cell, ex_oi, kept_non, kept_int, kept_tup, kept_lst, kept_str, kept_scr, kept_self, ex_setx, ex_j, shl1, Int.toNat_natCast, Int.natCast_nonneg, start, bin_ii, bin_ll, bin_tt, bin_ss, bin_li, bin_ti, rg_1, rg_2, int_add, int_sub, int_mul, int_fdiv, int_mod, int_pow, int_shl, int_shr, int_band, int_bor, int_bxor, cmp_eq, cmp_ne, cmp_in, cmp_nin, cmp_lt, cmp_le, cmp_gt, cmp_ge, eq_op, in_lst, in_tup, ix_lst, ix_tup, ix_scr, ix_str, sl_lst, sl_tup, sl_str, end_t, end_i, bi_len_l, bi_len_t, bi_len_c, bi_len_s, bi_abs, bi_sum, bi_maxl, bi_minl, bi_max2, bi_min2, bi_any, bi_all, bi_int_i, bi_int_b, bi_list_l, bi_list_t, bi_tuple_l, bi_tuple_t, bi_sorted, bi_sset, ty_non, ty_bl, ty_int, ty_str, ty_lst, ty_tup, ty_scr, toB_bl, set_n, set_t, set_tl, it_seq_l, it_seq_t, it_seq_s, it_rng1, it_rng2, it_enm, it_enmT, it_zp_l, it_zp_t, it_rev_l, it_rev_t, me_append, me_extend, me_pop, me_reverse, me_count, ty_int_int, ty_int_bool, ty_bool_int, ty_bool_bool, ty_list_list, ty_tuple_tuple, ty_list_tuple, ty_tuple_list, ty_tuple_int, ty_tuple_bool, ty_int_tuple, ty_str_str, isNonE, toD_d, toD_fl, clo_d, clo_fl, eqB_nn, eqB_bb, eqB_bi, eqB_ib, eqB_ii, eqB_ss, eqB_ll, eqB_tt, eqB_ni, eqB_in, eqBs_00, eqBs_0c, eqBs_c0, eqBs_cc, okD, okDs, flat, small, powOk, mulOk, most, natAbs_1, natAbs_2, natAbs_10, Int.natAbs_natCast, wipe, intsOf, blsOf, pq_non, pq_bl, pq_int, pq_str, pq_tup, pq_lst, pq_scr, atI_0, atI_1, atI_2, ixN_0, ixN_1, D.closed, D.closeds, sat_ok, sat_bind, sat_guard, sat_err, Res.bind_ok, Res.bind_err, List.map_cons, List.map_nil, List.length_cons, List.length_nil, List.cons_append, List.nil_append, List.getElem?_cons_zero, List.getElem?_cons_succ, List.set_cons_zero, List.set_cons_succ, List.replicate, List.foldl_cons, List.foldl_nil, List.zip_cons_cons, List.zip_nil_left, List.zip_nil_right, Nat.reduceAdd, Nat.reduceSub, Nat.reduceLeDiff, Nat.reduceLT, Int.reduceLT, Int.reduceLE, Int.reduceNeg, Int.reducePow, Int.reduceToNat, Int.reduceAdd, Int.reduceMul, Int.reduceSub, Nat.reducePow, Nat.zero_add, Nat.add_zero, decide_true, decide_false, decide_eq_true_eq, beq_iff_eq, Bool.true_eq_false, reduceCtorEq, if_true, if_false, Bool.false_eq_true, true_and, and_true, Bool.true_and, Bool.and_true, Bool.false_and, Bool.and_false, Bool.not_true, Bool.not_false, Bool.or_true, Bool.true_or, Bool.or_false, Bool.false_or, Bool.and_eq_true, Bool.or_eq_true, Bool.not_eq_true', beq_self_eq_true, Option.map_some, Option.toList, if_true, if_false, f_law_whole_a601]
theorem alone_n {n a b : Nat} (hn : n ≤ 8) (ha : a < 2 ^ n) : alone n a b = alone 8 a b := (filter_range_ext hn fun i h1 _ => by
  rw [Nat.testBit_lt_two_pow (Nat.lt_of_lt_of_le ha (Nat.pow_le_pow_right (by omega) h1))]
  rfl).symm
/-- one thing of a table otherwise -/
theorem cut_lo {α : Type} {xs : List α} {i : Nat} (h : i ≤ xs.length) : cut xs none (some (i : Int)) = xs.take i := by
  have : ¬ ((i : Int) < 0) := by omega
  simp [cut, slN, this, Nat.min_eq_left h]
theorem cut_hi {α : Type} {xs : List α} {i : Nat} (h : i ≤ xs.length) : cut xs (some (i : Int)) none = xs.drop i := by
  have : ¬ ((i : Int) < 0) := by omega
  simp only [cut, slN, this, if_false, Int.toNat_natCast, Nat.min_eq_left h]
  exact List.take_of_length_le (by rw [List.length_drop]; omega)
theorem other_row {t : List (Option Nat)} {i : Nat} (h : i < t.length) (x : Option Nat) : List.take i (List.map oD t) ++ [oD x] ++ List.drop (i + 1) (List.map oD t) = (t.set i x).map oD := by
  rw [List.map_set, List.set_eq_take_append_cons_drop, if_pos (by rw [List.length_map]; exact h)]
  simp
end
end Nl

/-! Writings, ways up. -/
namespace Nl
/-- a writing -/
def wrD (n k : Nat) (t : List (Option Nat)) : D := .tup [.int (n : Nat), .int (k : Nat), .tup (t.map oD)]
theorem wr_closed {n k : Nat} {t : List (Option Nat)} : (wrD n k t).closed = true := by
  simp only [wrD, D.closeds, D.closed, closeds_oD, Bool.and_true]
/-- cuts that hold these -/
def upL (n c : Nat) : List Nat := (List.range (2 ^ n)).filter fun s => decide (s &&& c = c)
/-- those that read a number, too -/
def wayL (t : List (Option Nat)) (c x : Nat) : List Nat := (List.range t.length).filter fun s => decide (s &&& c = c) && decide (t[s]? = some (some x))
theorem upFrom_iD (c d : Nat) : upFrom (c : Int) d = (List.range d).map fun i => iD (c + i) := by
  rw [upFrom_eq]
  refine List.map_congr_left fun i _ => ?_
  simp [iD]
theorem filter_above {N c : Nat} {p : Nat → Bool} (h : c ≤ N) (hp : ∀ s, s < c → p s = false) : ((List.range (N - c)).filter fun i => p (c + i)).map (fun i => iD (c + i)) = ((List.range N).filter p).map iD := by
  obtain ⟨d, rfl⟩ := Nat.exists_eq_add_of_le h
  rw [Nat.add_sub_cancel_left, List.range_add, List.filter_append, List.filter_map]
  have : (List.range c).filter p = [] := by
    rw [List.filter_eq_nil_iff]
    intro x hx
    rw [hp x (List.mem_range.mp hx)]
    simp
  rw [this, List.nil_append, List.map_map]
  rfl
theorem and_ge {s c : Nat} (h : s &&& c = c) : c ≤ s := by
  rw [← h]
  exact Nat.and_le_left
theorem oD_eq {o : Option Nat} {x : Nat} : eqB (oD o) (D.int (x : Nat)) = decide (o = some x) := by
  cases o with
  | none => simp [oD, eqB]
  | some y =>
    simp only [oD, eqB, Option.some.injEq]
    rw [Bool.eq_iff_iff, beq_iff_eq, decide_eq_true_eq]
    omega
theorem okD_oD {o : Option Nat} {n : Nat} : okD n (oD o) = true := by
  cases o <;> cases n <;> rfl
theorem pq_oD {o : Option Nat} {S : Store} : pk S (oD o) = oD o := by
  cases o <;> rfl
theorem alone_nil {a b : Nat} (ha : a < 256) : (alone 8 a b = []) ↔ b &&& a = a := by
  unfold alone
  rw [List.filter_eq_nil_iff]
  constructor
  · intro h
    apply Nat.eq_of_testBit_eq
    intro i
    rw [Nat.testBit_and]
    by_cases hi : i < 8
    · have := h i (List.mem_range.mpr hi)
      cases ea : a.testBit i <;> cases eb : b.testBit i <;> simp_all
    · rw [Nat.testBit_lt_two_pow (Nat.lt_of_lt_of_le (show a < 2 ^ 8 from ha) (Nat.pow_le_pow_right (by omega) (Nat.le_of_not_lt hi)))]
      simp
  · intro h i _
    have := congrArg (fun z => z.testBit i) h
    simp only [Nat.testBit_and] at this
    cases ea : a.testBit i <;> cases eb : b.testBit i <;> simp_all
section
variable {gl : Nat → Option D} {fs : List Fn}
theorem is_int_ok {m i : Nat} {x a b : Int} {S : Store} (hf : fs[i]? = some f_is_int_f58b) : call gl fs (m + 1) i [.int x, .int a, .int b] S = .ok (.d (.bl (decide (a ≤ x) && decide (x ≤ b))), S) := by
  rw [← sat_def]
  refine sat_call hf rfl rfl rfl ?_
  simp -implicitDefEqProofs only [sat_exs, sat_exs_nil, sat_if, sat_asg, sat_asgT, sat_setix, sat_ex, sat_ret, sat_retN, sat_pass, sat_brk, sat_cnt, sat_raise, sat_evB, sat_ite, sat_for, rest_nx, rest_ret, sat_var, sat_non, sat_bl, sat_int, sat_str, sat_bin, sat_neg, sat_cmp, sat_chain, sat_isN, sat_notN, sat_and, sat_or, sat_not, sat_ifE, sat_tup, sat_lst, sat_ix, sat_slN, sat_slLv, sat_slHv, sat_slLb, sat_slHb, sat_slLi, sat_slHi, sat_slLc, sat_slHc, sat_cal, sat_bi, sat_isi, sat_isis, sat_me, sat_lc, sat_lcIf, sat_lcF, sat_lcFi, sat_lrng, sat_isB, sat_rev1, rv1_l, rv1_t, List.reverse_cons, List.reverse_nil, sat_orv, orvK_int, orvK_non, intO_int, ex_bl, ex_lst, sat_box, sat_unbox, sat_esN, sat_esC, ex_d, ex_int, ex_fl, ex_obj, ex_cell, ex_oi, kept_non, kept_int, kept_tup, kept_lst, kept_str, kept_scr, kept_self, ex_setx, ex_j, shl1, Int.toNat_natCast, Int.natCast_nonneg, start, bin_ii, bin_ll, bin_tt, bin_ss, bin_li, bin_ti, rg_1, rg_2, int_add, int_sub, int_mul, int_fdiv, int_mod, int_pow, int_shl, int_shr, int_band, int_bor, int_bxor, cmp_eq, cmp_ne, cmp_in, cmp_nin, cmp_lt, cmp_le, cmp_gt, cmp_ge, eq_op, in_lst, in_tup, ix_lst, ix_tup, ix_scr, ix_str, sl_lst, sl_tup, sl_str, end_t, end_i, bi_len_l, bi_len_t, bi_len_c, bi_len_s, bi_abs, bi_sum, bi_maxl, bi_minl, bi_max2, bi_min2, bi_any, bi_all, bi_int_i, bi_int_b, bi_list_l, bi_list_t, bi_tuple_l, bi_tuple_t, bi_sorted, bi_sset, ty_non, ty_bl, ty_int, ty_str, ty_lst, ty_tup, ty_scr, toB_bl, set_n, set_t, set_tl, it_seq_l, it_seq_t, it_seq_s, it_rng1, it_rng2, it_enm, it_enmT, it_zp_l, it_zp_t, it_rev_l, it_rev_t, me_append, me_extend, me_pop, me_reverse, me_count, ty_int_int, ty_int_bool, ty_bool_int, ty_bool_bool, ty_list_list, ty_tuple_tuple, ty_list_tuple, ty_tuple_list, ty_tuple_int, ty_tuple_bool, ty_int_tuple, ty_str_str, isNonE, toD_d, toD_fl, clo_d, clo_fl, eqB_nn, eqB_bb, eqB_bi, eqB_ib, eqB_ii, eqB_ss, eqB_ll, eqB_tt, eqB_ni, eqB_in, eqBs_00, eqBs_0c, eqBs_c0, eqBs_cc, okD, okDs, flat, small, powOk, mulOk, most, natAbs_1, natAbs_2, natAbs_10, Int.natAbs_natCast, wipe, intsOf, blsOf, pq_non, pq_bl, pq_int, pq_str, pq_tup, pq_lst, pq_scr, atI_0, atI_1, atI_2, ixN_0, ixN_1, D.closed, D.closeds, sat_ok, sat_bind, sat_guard, sat_err, Res.bind_ok, Res.bind_err, List.map_cons, List.map_nil, List.length_cons, List.length_nil, List.cons_append, List.nil_append, List.getElem?_cons_zero, List.getElem?_cons_succ, List.set_cons_zero, List.set_cons_succ, List.replicate, List.foldl_cons, List.foldl_nil, List.zip_cons_cons, List.zip_nil_left, List.zip_nil_right, Nat.reduceAdd, Nat.reduceSub, Nat.reduceLeDiff, Nat.reduceLT, Int.reduceLT, Int.reduceLE, Int.reduceNeg, Int.reducePow, Int.reduceToNat, Int.reduceAdd, Int.reduceMul, Int.reduceSub, Nat.reducePow, Nat.zero_add, Nat.add_zero, decide_true, decide_false, decide_eq_true_eq, beq_iff_eq, Bool.true_eq_false, reduceCtorEq, if_true, if_false, Bool.false_eq_true, true_and, and_true, Bool.true_and, Bool.and_true, Bool.false_and, Bool.and_false, Bool.not_true, Bool.not_false, Bool.or_true, Bool.true_or, Bool.or_false, Bool.false_or, Bool.and_eq_true, Bool.or_eq_true, Bool.not_eq_true', beq_self_eq_true, Option.map_some, Option.toList, if_true, if_false, f_is_int_f58b]
  by_cases h : a ≤ x <;> by_cases h' : x ≤ b <;> simp [h, h', D.closed]
theorem made_ok {m i j g1 g2 g3 n k : Nat} {t : List (Option Nat)} {S : Store} (hf : fs[i]? = some (f_made_writing_48a6 j g1 g2 g3)) (hj : fs[j]? = some f_is_int_f58b) (e1 : gl g1 = some (.int 8)) (e2 : gl g2 = some (.int 2)) (e3 : gl g3 = some (.int 100))
    (hn : 1 ≤ n) (hn8 : n ≤ 8) (hk : 2 ≤ k) (hk2 : k ≤ 100) (ht : Tab n k t) : call gl fs (m + 2) i [.int n, .int k, .tup (t.map oD)] S = .ok (.d (wrD n k t), S) := by
  rw [← sat_def]
  have p8 := pow_le_256 hn8
  refine sat_call hf rfl rfl (by simp only [D.closeds, D.closed, closeds_oD, Bool.and_true]) ?_
  have h1 : (1 : Int) ≤ n := by omega
  have h2 : (n : Int) ≤ 8 := by omega
  have h3 : (2 : Int) ≤ k := by omega
  have h4 : (k : Int) ≤ 100 := by omega
  have h5 : (n : Int) ≤ 1000000 := by omega
  simp -implicitDefEqProofs only [sat_exs, sat_exs_nil, sat_if, sat_asg, sat_asgT, sat_setix, sat_ex, sat_ret, sat_retN, sat_pass, sat_brk, sat_cnt, sat_raise, sat_evB, sat_ite, sat_for, rest_nx, rest_ret, sat_var, sat_non, sat_bl, sat_int, sat_str, sat_bin, sat_neg, sat_cmp, sat_chain, sat_isN, sat_notN, sat_and, sat_or, sat_not, sat_ifE, sat_tup, sat_lst, sat_ix, sat_slN, sat_slLv, sat_slHv, sat_slLb, sat_slHb, sat_slLi, sat_slHi, sat_slLc, sat_slHc, sat_cal, sat_bi, sat_isi, sat_isis, sat_me, sat_lc, sat_lcIf, sat_lcF, sat_lcFi, sat_lrng, sat_isB, sat_rev1, rv1_l, rv1_t, List.reverse_cons, List.reverse_nil, sat_orv, orvK_int, orvK_non, intO_int, ex_bl, ex_lst, sat_box, sat_unbox, sat_esN, sat_esC, ex_d, ex_int, ex_fl, ex_obj, ex_cell, ex_oi, kept_non, kept_int, kept_tup, kept_lst, kept_str, kept_scr, kept_self, ex_setx, ex_j, shl1, Int.toNat_natCast, Int.natCast_nonneg, start, bin_ii, bin_ll, bin_tt, bin_ss, bin_li, bin_ti, rg_1, rg_2, int_add, int_sub, int_mul, int_fdiv, int_mod, int_pow, int_shl, int_shr, int_band, int_bor, int_bxor, cmp_eq, cmp_ne, cmp_in, cmp_nin, cmp_lt, cmp_le, cmp_gt, cmp_ge, eq_op, in_lst, in_tup, ix_lst, ix_tup, ix_scr, ix_str, sl_lst, sl_tup, sl_str, end_t, end_i, bi_len_l, bi_len_t, bi_len_c, bi_len_s, bi_abs, bi_sum, bi_maxl, bi_minl, bi_max2, bi_min2, bi_any, bi_all, bi_int_i, bi_int_b, bi_list_l, bi_list_t, bi_tuple_l, bi_tuple_t, bi_sorted, bi_sset, ty_non, ty_bl, ty_int, ty_str, ty_lst, ty_tup, ty_scr, toB_bl, set_n, set_t, set_tl, it_seq_l, it_seq_t, it_seq_s, it_rng1, it_rng2, it_enm, it_enmT, it_zp_l, it_zp_t, it_rev_l, it_rev_t, me_append, me_extend, me_pop, me_reverse, me_count, ty_int_int, ty_int_bool, ty_bool_int, ty_bool_bool, ty_list_list, ty_tuple_tuple, ty_list_tuple, ty_tuple_list, ty_tuple_int, ty_tuple_bool, ty_int_tuple, ty_str_str, isNonE, toD_d, toD_fl, clo_d, clo_fl, eqB_nn, eqB_bb, eqB_bi, eqB_ib, eqB_ii, eqB_ss, eqB_ll, eqB_tt, eqB_ni, eqB_in, eqBs_00, eqBs_0c, eqBs_c0, eqBs_cc, okD, okDs, flat, small, powOk, mulOk, most, natAbs_1, natAbs_2, natAbs_10, Int.natAbs_natCast, wipe, intsOf, blsOf, pq_non, pq_bl, pq_int, pq_str, pq_tup, pq_lst, pq_scr, atI_0, atI_1, atI_2, ixN_0, ixN_1, D.closed, D.closeds, sat_ok, sat_bind, sat_guard, sat_err, Res.bind_ok, Res.bind_err, List.map_cons, List.map_nil, List.length_cons, List.length_nil, List.cons_append, List.nil_append, List.getElem?_cons_zero, List.getElem?_cons_succ, List.set_cons_zero, List.set_cons_succ, List.replicate, List.foldl_cons, List.foldl_nil, List.zip_cons_cons, List.zip_nil_left, List.zip_nil_right, Nat.reduceAdd, Nat.reduceSub, Nat.reduceLeDiff, Nat.reduceLT, Int.reduceLT, Int.reduceLE, Int.reduceNeg, Int.reducePow, Int.reduceToNat, Int.reduceAdd, Int.reduceMul, Int.reduceSub, Nat.reducePow, Nat.zero_add, Nat.add_zero, decide_true, decide_false, decide_eq_true_eq, beq_iff_eq, Bool.true_eq_false, reduceCtorEq, if_true, if_false, Bool.false_eq_true, true_and, and_true, Bool.true_and, Bool.and_true, Bool.false_and, Bool.and_false, Bool.not_true, Bool.not_false, Bool.or_true, Bool.true_or, Bool.or_false, Bool.false_or, Bool.and_eq_true, Bool.or_eq_true, Bool.not_eq_true', beq_self_eq_true, Option.map_some, Option.toList, if_true, if_false, f_made_writing_48a6, sat_glob e1, sat_glob e2, sat_glob e3, is_int_ok hj, h1, h2, h3, h4, h5, List.length_map, ht.len]
  refine sat_loop (fun env T => T = [] ∧ ∃ x, env = [some (.int n), some (.int k), some (.tup (t.map oD)), x]) ⟨rfl, _, rfl⟩ (fun d env T hd hI => ?_) (fun env T hI => ?_)
  · obtain ⟨rfl, _, rfl⟩ := hI
    obtain ⟨o, ho, rfl⟩ := List.mem_map.mp hd
    cases o with
    | none =>
      simp -implicitDefEqProofs only [sat_exs, sat_exs_nil, sat_if, sat_asg, sat_asgT, sat_setix, sat_ex, sat_ret, sat_retN, sat_pass, sat_brk, sat_cnt, sat_raise, sat_evB, sat_ite, sat_for, rest_nx, rest_ret, sat_var, sat_non, sat_bl, sat_int, sat_str, sat_bin, sat_neg, sat_cmp, sat_chain, sat_isN, sat_notN, sat_and, sat_or, sat_not, sat_ifE, sat_tup, sat_lst, sat_ix, sat_slN, sat_slLv, sat_slHv, sat_slLb, sat_slHb, sat_slLi, sat_slHi, sat_slLc, sat_slHc, sat_cal, sat_bi, sat_isi, sat_isis, sat_me, sat_lc, sat_lcIf, sat_lcF, sat_lcFi, sat_lrng, sat_isB, sat_rev1, rv1_l, rv1_t, List.reverse_cons, List.reverse_nil, sat_orv, orvK_int, orvK_non, intO_int, ex_bl, ex_lst, sat_box, sat_unbox, sat_esN, sat_esC, ex_d, ex_int, ex_fl, ex_obj, ex_cell, ex_oi, kept_non, kept_int, kept_tup, kept_lst, kept_str, kept_scr, kept_self, ex_setx, ex_j, shl1, Int.toNat_natCast, Int.natCast_nonneg, start, bin_ii, bin_ll, bin_tt, bin_ss, bin_li, bin_ti, rg_1, rg_2, int_add, int_sub, int_mul, int_fdiv, int_mod, int_pow, int_shl, int_shr, int_band, int_bor, int_bxor, cmp_eq, cmp_ne, cmp_in, cmp_nin, cmp_lt, cmp_le, cmp_gt, cmp_ge, eq_op, in_lst, in_tup, ix_lst, ix_tup, ix_scr, ix_str, sl_lst, sl_tup, sl_str, end_t, end_i, bi_len_l, bi_len_t, bi_len_c, bi_len_s, bi_abs, bi_sum, bi_maxl, bi_minl, bi_max2, bi_min2, bi_any, bi_all, bi_int_i, bi_int_b, bi_list_l, bi_list_t, bi_tuple_l, bi_tuple_t, bi_sorted, bi_sset, ty_non, ty_bl, ty_int, ty_str, ty_lst, ty_tup, ty_scr, toB_bl, set_n, set_t, set_tl, it_seq_l, it_seq_t, it_seq_s, it_rng1, it_rng2, it_enm, it_enmT, it_zp_l, it_zp_t, it_rev_l, it_rev_t, me_append, me_extend, me_pop, me_reverse, me_count, ty_int_int, ty_int_bool, ty_bool_int, ty_bool_bool, ty_list_list, ty_tuple_tuple, ty_list_tuple, ty_tuple_list, ty_tuple_int, ty_tuple_bool, ty_int_tuple, ty_str_str, isNonE, toD_d, toD_fl, clo_d, clo_fl, eqB_nn, eqB_bb, eqB_bi, eqB_ib, eqB_ii, eqB_ss, eqB_ll, eqB_tt, eqB_ni, eqB_in, eqBs_00, eqBs_0c, eqBs_c0, eqBs_cc, okD, okDs, flat, small, powOk, mulOk, most, natAbs_1, natAbs_2, natAbs_10, Int.natAbs_natCast, wipe, intsOf, blsOf, pq_non, pq_bl, pq_int, pq_str, pq_tup, pq_lst, pq_scr, atI_0, atI_1, atI_2, ixN_0, ixN_1, D.closed, D.closeds, sat_ok, sat_bind, sat_guard, sat_err, Res.bind_ok, Res.bind_err, List.map_cons, List.map_nil, List.length_cons, List.length_nil, List.cons_append, List.nil_append, List.getElem?_cons_zero, List.getElem?_cons_succ, List.set_cons_zero, List.set_cons_succ, List.replicate, List.foldl_cons, List.foldl_nil, List.zip_cons_cons, List.zip_nil_left, List.zip_nil_right, Nat.reduceAdd, Nat.reduceSub, Nat.reduceLeDiff, Nat.reduceLT, Int.reduceLT, Int.reduceLE, Int.reduceNeg, Int.reducePow, Int.reduceToNat, Int.reduceAdd, Int.reduceMul, Int.reduceSub, Nat.reducePow, Nat.zero_add, Nat.add_zero, decide_true, decide_false, decide_eq_true_eq, beq_iff_eq, Bool.true_eq_false, reduceCtorEq, if_true, if_false, Bool.false_eq_true, true_and, and_true, Bool.true_and, Bool.and_true, Bool.false_and, Bool.and_false, Bool.not_true, Bool.not_false, Bool.or_true, Bool.true_or, Bool.or_false, Bool.false_or, Bool.and_eq_true, Bool.or_eq_true, Bool.not_eq_true', beq_self_eq_true, Option.map_some, Option.toList, if_true, if_false, oD]
      exact ⟨_, rfl⟩
    | some x =>
      have hx := ht.lt x ho
      have h6 : (x : Int) ≤ (k : Int) - 1 := by omega
      simp -implicitDefEqProofs only [sat_exs, sat_exs_nil, sat_if, sat_asg, sat_asgT, sat_setix, sat_ex, sat_ret, sat_retN, sat_pass, sat_brk, sat_cnt, sat_raise, sat_evB, sat_ite, sat_for, rest_nx, rest_ret, sat_var, sat_non, sat_bl, sat_int, sat_str, sat_bin, sat_neg, sat_cmp, sat_chain, sat_isN, sat_notN, sat_and, sat_or, sat_not, sat_ifE, sat_tup, sat_lst, sat_ix, sat_slN, sat_slLv, sat_slHv, sat_slLb, sat_slHb, sat_slLi, sat_slHi, sat_slLc, sat_slHc, sat_cal, sat_bi, sat_isi, sat_isis, sat_me, sat_lc, sat_lcIf, sat_lcF, sat_lcFi, sat_lrng, sat_isB, sat_rev1, rv1_l, rv1_t, List.reverse_cons, List.reverse_nil, sat_orv, orvK_int, orvK_non, intO_int, ex_bl, ex_lst, sat_box, sat_unbox, sat_esN, sat_esC, ex_d, ex_int, ex_fl, ex_obj, ex_cell, ex_oi, kept_non, kept_int, kept_tup, kept_lst, kept_str, kept_scr, kept_self, ex_setx, ex_j, shl1, Int.toNat_natCast, Int.natCast_nonneg, start, bin_ii, bin_ll, bin_tt, bin_ss, bin_li, bin_ti, rg_1, rg_2, int_add, int_sub, int_mul, int_fdiv, int_mod, int_pow, int_shl, int_shr, int_band, int_bor, int_bxor, cmp_eq, cmp_ne, cmp_in, cmp_nin, cmp_lt, cmp_le, cmp_gt, cmp_ge, eq_op, in_lst, in_tup, ix_lst, ix_tup, ix_scr, ix_str, sl_lst, sl_tup, sl_str, end_t, end_i, bi_len_l, bi_len_t, bi_len_c, bi_len_s, bi_abs, bi_sum, bi_maxl, bi_minl, bi_max2, bi_min2, bi_any, bi_all, bi_int_i, bi_int_b, bi_list_l, bi_list_t, bi_tuple_l, bi_tuple_t, bi_sorted, bi_sset, ty_non, ty_bl, ty_int, ty_str, ty_lst, ty_tup, ty_scr, toB_bl, set_n, set_t, set_tl, it_seq_l, it_seq_t, it_seq_s, it_rng1, it_rng2, it_enm, it_enmT, it_zp_l, it_zp_t, it_rev_l, it_rev_t, me_append, me_extend, me_pop, me_reverse, me_count, ty_int_int, ty_int_bool, ty_bool_int, ty_bool_bool, ty_list_list, ty_tuple_tuple, ty_list_tuple, ty_tuple_list, ty_tuple_int, ty_tuple_bool, ty_int_tuple, ty_str_str, isNonE, toD_d, toD_fl, clo_d, clo_fl, eqB_nn, eqB_bb, eqB_bi, eqB_ib, eqB_ii, eqB_ss, eqB_ll, eqB_tt, eqB_ni, eqB_in, eqBs_00, eqBs_0c, eqBs_c0, eqBs_cc, okD, okDs, flat, small, powOk, mulOk, most, natAbs_1, natAbs_2, natAbs_10, Int.natAbs_natCast, wipe, intsOf, blsOf, pq_non, pq_bl, pq_int, pq_str, pq_tup, pq_lst, pq_scr, atI_0, atI_1, atI_2, ixN_0, ixN_1, D.closed, D.closeds, sat_ok, sat_bind, sat_guard, sat_err, Res.bind_ok, Res.bind_err, List.map_cons, List.map_nil, List.length_cons, List.length_nil, List.cons_append, List.nil_append, List.getElem?_cons_zero, List.getElem?_cons_succ, List.set_cons_zero, List.set_cons_succ, List.replicate, List.foldl_cons, List.foldl_nil, List.zip_cons_cons, List.zip_nil_left, List.zip_nil_right, Nat.reduceAdd, Nat.reduceSub, Nat.reduceLeDiff, Nat.reduceLT, Int.reduceLT, Int.reduceLE, Int.reduceNeg, Int.reducePow, Int.reduceToNat, Int.reduceAdd, Int.reduceMul, Int.reduceSub, Nat.reducePow, Nat.zero_add, Nat.add_zero, decide_true, decide_false, decide_eq_true_eq, beq_iff_eq, Bool.true_eq_false, reduceCtorEq, if_true, if_false, Bool.false_eq_true, true_and, and_true, Bool.true_and, Bool.and_true, Bool.false_and, Bool.and_false, Bool.not_true, Bool.not_false, Bool.or_true, Bool.true_or, Bool.or_false, Bool.false_or, Bool.and_eq_true, Bool.or_eq_true, Bool.not_eq_true', beq_self_eq_true, Option.map_some, Option.toList, if_true, if_false, oD, is_int_ok hj, h6]
      exact ⟨_, rfl⟩
  · obtain ⟨rfl, _, rfl⟩ := hI
    simp -implicitDefEqProofs only [sat_exs, sat_exs_nil, sat_if, sat_asg, sat_asgT, sat_setix, sat_ex, sat_ret, sat_retN, sat_pass, sat_brk, sat_cnt, sat_raise, sat_evB, sat_ite, sat_for, rest_nx, rest_ret, sat_var, sat_non, sat_bl, sat_int, sat_str, sat_bin, sat_neg, sat_cmp, sat_chain, sat_isN, sat_notN, sat_and, sat_or, sat_not, sat_ifE, sat_tup, sat_lst, sat_ix, sat_slN, sat_slLv, sat_slHv, sat_slLb, sat_slHb, sat_slLi, sat_slHi, sat_slLc, sat_slHc, sat_cal, sat_bi, sat_isi, sat_isis, sat_me, sat_lc, sat_lcIf, sat_lcF, sat_lcFi, sat_lrng, sat_isB, sat_rev1, rv1_l, rv1_t, List.reverse_cons, List.reverse_nil, sat_orv, orvK_int, orvK_non, intO_int, ex_bl, ex_lst, sat_box, sat_unbox, sat_esN, sat_esC, ex_d, ex_int, ex_fl, ex_obj, ex_cell, ex_oi, kept_non, kept_int, kept_tup, kept_lst, kept_str, kept_scr, kept_self, ex_setx, ex_j, shl1, Int.toNat_natCast, Int.natCast_nonneg, start, bin_ii, bin_ll, bin_tt, bin_ss, bin_li, bin_ti, rg_1, rg_2, int_add, int_sub, int_mul, int_fdiv, int_mod, int_pow, int_shl, int_shr, int_band, int_bor, int_bxor, cmp_eq, cmp_ne, cmp_in, cmp_nin, cmp_lt, cmp_le, cmp_gt, cmp_ge, eq_op, in_lst, in_tup, ix_lst, ix_tup, ix_scr, ix_str, sl_lst, sl_tup, sl_str, end_t, end_i, bi_len_l, bi_len_t, bi_len_c, bi_len_s, bi_abs, bi_sum, bi_maxl, bi_minl, bi_max2, bi_min2, bi_any, bi_all, bi_int_i, bi_int_b, bi_list_l, bi_list_t, bi_tuple_l, bi_tuple_t, bi_sorted, bi_sset, ty_non, ty_bl, ty_int, ty_str, ty_lst, ty_tup, ty_scr, toB_bl, set_n, set_t, set_tl, it_seq_l, it_seq_t, it_seq_s, it_rng1, it_rng2, it_enm, it_enmT, it_zp_l, it_zp_t, it_rev_l, it_rev_t, me_append, me_extend, me_pop, me_reverse, me_count, ty_int_int, ty_int_bool, ty_bool_int, ty_bool_bool, ty_list_list, ty_tuple_tuple, ty_list_tuple, ty_tuple_list, ty_tuple_int, ty_tuple_bool, ty_int_tuple, ty_str_str, isNonE, toD_d, toD_fl, clo_d, clo_fl, eqB_nn, eqB_bb, eqB_bi, eqB_ib, eqB_ii, eqB_ss, eqB_ll, eqB_tt, eqB_ni, eqB_in, eqBs_00, eqBs_0c, eqBs_c0, eqBs_cc, okD, okDs, flat, small, powOk, mulOk, most, natAbs_1, natAbs_2, natAbs_10, Int.natAbs_natCast, wipe, intsOf, blsOf, pq_non, pq_bl, pq_int, pq_str, pq_tup, pq_lst, pq_scr, atI_0, atI_1, atI_2, ixN_0, ixN_1, D.closed, D.closeds, sat_ok, sat_bind, sat_guard, sat_err, Res.bind_ok, Res.bind_err, List.map_cons, List.map_nil, List.length_cons, List.length_nil, List.cons_append, List.nil_append, List.getElem?_cons_zero, List.getElem?_cons_succ, List.set_cons_zero, List.set_cons_succ, List.replicate, List.foldl_cons, List.foldl_nil, List.zip_cons_cons, List.zip_nil_left, List.zip_nil_right, Nat.reduceAdd, Nat.reduceSub, Nat.reduceLeDiff, Nat.reduceLT, Int.reduceLT, Int.reduceLE, Int.reduceNeg, Int.reducePow, Int.reduceToNat, Int.reduceAdd, Int.reduceMul, Int.reduceSub, Nat.reducePow, Nat.zero_add, Nat.add_zero, decide_true, decide_false, decide_eq_true_eq, beq_iff_eq, Bool.true_eq_false, reduceCtorEq, if_true, if_false, Bool.false_eq_true, true_and, and_true, Bool.true_and, Bool.and_true, Bool.false_and, Bool.and_false, Bool.not_true, Bool.not_false, Bool.or_true, Bool.true_or, Bool.or_false, Bool.false_or, Bool.and_eq_true, Bool.or_eq_true, Bool.not_eq_true', beq_self_eq_true, Option.map_some, Option.toList, if_true, if_false, closeds_oD]
    rfl
theorem above_ok {m i j n c : Nat} {S : Store} (hf : fs[i]? = some (f_above_a9ad j)) (hj : fs[j]? = some f_holds_5c7e) (hn : n ≤ 8) (hc : c < 2 ^ n) : call gl fs (m + 2) i [.int n, .int c] S = .ok (.fl ((upL n c).map iD), S) := by
  rw [← sat_def]
  have p8 := pow_le_256 hn
  refine sat_call hf rfl rfl rfl ?_
  have hd : (((2 ^ n : Nat) : Int) - (c : Int)).toNat = 2 ^ n - c := by omega
  simp -implicitDefEqProofs only [sat_exs, sat_exs_nil, sat_if, sat_asg, sat_asgT, sat_setix, sat_ex, sat_ret, sat_retN, sat_pass, sat_brk, sat_cnt, sat_raise, sat_evB, sat_ite, sat_for, rest_nx, rest_ret, sat_var, sat_non, sat_bl, sat_int, sat_str, sat_bin, sat_neg, sat_cmp, sat_chain, sat_isN, sat_notN, sat_and, sat_or, sat_not, sat_ifE, sat_tup, sat_lst, sat_ix, sat_slN, sat_slLv, sat_slHv, sat_slLb, sat_slHb, sat_slLi, sat_slHi, sat_slLc, sat_slHc, sat_cal, sat_bi, sat_isi, sat_isis, sat_me, sat_lc, sat_lcIf, sat_lcF, sat_lcFi, sat_lrng, sat_isB, sat_rev1, rv1_l, rv1_t, List.reverse_cons, List.reverse_nil, sat_orv, orvK_int, orvK_non, intO_int, ex_bl, ex_lst, sat_box, sat_unbox, sat_esN, sat_esC, ex_d, ex_int, ex_fl, ex_obj, ex_cell, ex_oi, kept_non, kept_int, kept_tup, kept_lst, kept_str, kept_scr, kept_self, ex_setx, ex_j, shl1, Int.toNat_natCast, Int.natCast_nonneg, start, bin_ii, bin_ll, bin_tt, bin_ss, bin_li, bin_ti, rg_1, rg_2, int_add, int_sub, int_mul, int_fdiv, int_mod, int_pow, int_shl, int_shr, int_band, int_bor, int_bxor, cmp_eq, cmp_ne, cmp_in, cmp_nin, cmp_lt, cmp_le, cmp_gt, cmp_ge, eq_op, in_lst, in_tup, ix_lst, ix_tup, ix_scr, ix_str, sl_lst, sl_tup, sl_str, end_t, end_i, bi_len_l, bi_len_t, bi_len_c, bi_len_s, bi_abs, bi_sum, bi_maxl, bi_minl, bi_max2, bi_min2, bi_any, bi_all, bi_int_i, bi_int_b, bi_list_l, bi_list_t, bi_tuple_l, bi_tuple_t, bi_sorted, bi_sset, ty_non, ty_bl, ty_int, ty_str, ty_lst, ty_tup, ty_scr, toB_bl, set_n, set_t, set_tl, it_seq_l, it_seq_t, it_seq_s, it_rng1, it_rng2, it_enm, it_enmT, it_zp_l, it_zp_t, it_rev_l, it_rev_t, me_append, me_extend, me_pop, me_reverse, me_count, ty_int_int, ty_int_bool, ty_bool_int, ty_bool_bool, ty_list_list, ty_tuple_tuple, ty_list_tuple, ty_tuple_list, ty_tuple_int, ty_tuple_bool, ty_int_tuple, ty_str_str, isNonE, toD_d, toD_fl, clo_d, clo_fl, eqB_nn, eqB_bb, eqB_bi, eqB_ib, eqB_ii, eqB_ss, eqB_ll, eqB_tt, eqB_ni, eqB_in, eqBs_00, eqBs_0c, eqBs_c0, eqBs_cc, okD, okDs, flat, small, powOk, mulOk, most, natAbs_1, natAbs_2, natAbs_10, Int.natAbs_natCast, wipe, intsOf, blsOf, pq_non, pq_bl, pq_int, pq_str, pq_tup, pq_lst, pq_scr, atI_0, atI_1, atI_2, ixN_0, ixN_1, D.closed, D.closeds, sat_ok, sat_bind, sat_guard, sat_err, Res.bind_ok, Res.bind_err, List.map_cons, List.map_nil, List.length_cons, List.length_nil, List.cons_append, List.nil_append, List.getElem?_cons_zero, List.getElem?_cons_succ, List.set_cons_zero, List.set_cons_succ, List.replicate, List.foldl_cons, List.foldl_nil, List.zip_cons_cons, List.zip_nil_left, List.zip_nil_right, Nat.reduceAdd, Nat.reduceSub, Nat.reduceLeDiff, Nat.reduceLT, Int.reduceLT, Int.reduceLE, Int.reduceNeg, Int.reducePow, Int.reduceToNat, Int.reduceAdd, Int.reduceMul, Int.reduceSub, Nat.reducePow, Nat.zero_add, Nat.add_zero, decide_true, decide_false, decide_eq_true_eq, beq_iff_eq, Bool.true_eq_false, reduceCtorEq, if_true, if_false, Bool.false_eq_true, true_and, and_true, Bool.true_and, Bool.and_true, Bool.false_and, Bool.and_false, Bool.not_true, Bool.not_false, Bool.or_true, Bool.true_or, Bool.or_false, Bool.false_or, Bool.and_eq_true, Bool.or_eq_true, Bool.not_eq_true', beq_self_eq_true, Option.map_some, Option.toList, if_true, if_false, f_above_a9ad, hd, upFrom_iD]
  refine ⟨by omega, ⟨⟨by omega, by omega⟩, by omega, by omega⟩, ?_⟩
  rw [sat_eq (compL_fi (p := fun i => decide ((c + i) &&& c = c)) (h := fun i => iD (c + i)) (by simp [kept]) ?c1)]
  case c1 =>
    intro x hx
    simp -implicitDefEqProofs only [sat_exs, sat_exs_nil, sat_if, sat_asg, sat_asgT, sat_setix, sat_ex, sat_ret, sat_retN, sat_pass, sat_brk, sat_cnt, sat_raise, sat_evB, sat_ite, sat_for, rest_nx, rest_ret, sat_var, sat_non, sat_bl, sat_int, sat_str, sat_bin, sat_neg, sat_cmp, sat_chain, sat_isN, sat_notN, sat_and, sat_or, sat_not, sat_ifE, sat_tup, sat_lst, sat_ix, sat_slN, sat_slLv, sat_slHv, sat_slLb, sat_slHb, sat_slLi, sat_slHi, sat_slLc, sat_slHc, sat_cal, sat_bi, sat_isi, sat_isis, sat_me, sat_lc, sat_lcIf, sat_lcF, sat_lcFi, sat_lrng, sat_isB, sat_rev1, rv1_l, rv1_t, List.reverse_cons, List.reverse_nil, sat_orv, orvK_int, orvK_non, intO_int, ex_bl, ex_lst, sat_box, sat_unbox, sat_esN, sat_esC, ex_d, ex_int, ex_fl, ex_obj, ex_cell, ex_oi, kept_non, kept_int, kept_tup, kept_lst, kept_str, kept_scr, kept_self, ex_setx, ex_j, shl1, Int.toNat_natCast, Int.natCast_nonneg, start, bin_ii, bin_ll, bin_tt, bin_ss, bin_li, bin_ti, rg_1, rg_2, int_add, int_sub, int_mul, int_fdiv, int_mod, int_pow, int_shl, int_shr, int_band, int_bor, int_bxor, cmp_eq, cmp_ne, cmp_in, cmp_nin, cmp_lt, cmp_le, cmp_gt, cmp_ge, eq_op, in_lst, in_tup, ix_lst, ix_tup, ix_scr, ix_str, sl_lst, sl_tup, sl_str, end_t, end_i, bi_len_l, bi_len_t, bi_len_c, bi_len_s, bi_abs, bi_sum, bi_maxl, bi_minl, bi_max2, bi_min2, bi_any, bi_all, bi_int_i, bi_int_b, bi_list_l, bi_list_t, bi_tuple_l, bi_tuple_t, bi_sorted, bi_sset, ty_non, ty_bl, ty_int, ty_str, ty_lst, ty_tup, ty_scr, toB_bl, set_n, set_t, set_tl, it_seq_l, it_seq_t, it_seq_s, it_rng1, it_rng2, it_enm, it_enmT, it_zp_l, it_zp_t, it_rev_l, it_rev_t, me_append, me_extend, me_pop, me_reverse, me_count, ty_int_int, ty_int_bool, ty_bool_int, ty_bool_bool, ty_list_list, ty_tuple_tuple, ty_list_tuple, ty_tuple_list, ty_tuple_int, ty_tuple_bool, ty_int_tuple, ty_str_str, isNonE, toD_d, toD_fl, clo_d, clo_fl, eqB_nn, eqB_bb, eqB_bi, eqB_ib, eqB_ii, eqB_ss, eqB_ll, eqB_tt, eqB_ni, eqB_in, eqBs_00, eqBs_0c, eqBs_c0, eqBs_cc, okD, okDs, flat, small, powOk, mulOk, most, natAbs_1, natAbs_2, natAbs_10, Int.natAbs_natCast, wipe, intsOf, blsOf, pq_non, pq_bl, pq_int, pq_str, pq_tup, pq_lst, pq_scr, atI_0, atI_1, atI_2, ixN_0, ixN_1, D.closed, D.closeds, sat_ok, sat_bind, sat_guard, sat_err, Res.bind_ok, Res.bind_err, List.map_cons, List.map_nil, List.length_cons, List.length_nil, List.cons_append, List.nil_append, List.getElem?_cons_zero, List.getElem?_cons_succ, List.set_cons_zero, List.set_cons_succ, List.replicate, List.foldl_cons, List.foldl_nil, List.zip_cons_cons, List.zip_nil_left, List.zip_nil_right, Nat.reduceAdd, Nat.reduceSub, Nat.reduceLeDiff, Nat.reduceLT, Int.reduceLT, Int.reduceLE, Int.reduceNeg, Int.reducePow, Int.reduceToNat, Int.reduceAdd, Int.reduceMul, Int.reduceSub, Nat.reducePow, Nat.zero_add, Nat.add_zero, decide_true, decide_false, decide_eq_true_eq, beq_iff_eq, Bool.true_eq_false, reduceCtorEq, if_true, if_false, Bool.false_eq_true, true_and, and_true, Bool.true_and, Bool.and_true, Bool.false_and, Bool.and_false, Bool.not_true, Bool.not_false, Bool.or_true, Bool.true_or, Bool.or_false, Bool.false_or, Bool.and_eq_true, Bool.or_eq_true, Bool.not_eq_true', beq_self_eq_true, Option.map_some, Option.toList, if_true, if_false, sat_lcFi, iD, holds_ok hj]
    by_cases h : (c + x) &&& c = c <;> simp [h]
  have e := filter_above (N := 2 ^ n) (c := c) (p := fun s => decide (s &&& c = c)) (by omega) (fun s hs => by
    rw [decide_eq_false_iff_not]
    intro h
    have := and_ge h
    omega)
  rw [e]
  simp -implicitDefEqProofs only [sat_exs, sat_exs_nil, sat_if, sat_asg, sat_asgT, sat_setix, sat_ex, sat_ret, sat_retN, sat_pass, sat_brk, sat_cnt, sat_raise, sat_evB, sat_ite, sat_for, rest_nx, rest_ret, sat_var, sat_non, sat_bl, sat_int, sat_str, sat_bin, sat_neg, sat_cmp, sat_chain, sat_isN, sat_notN, sat_and, sat_or, sat_not, sat_ifE, sat_tup, sat_lst, sat_ix, sat_slN, sat_slLv, sat_slHv, sat_slLb, sat_slHb, sat_slLi, sat_slHi, sat_slLc, sat_slHc, sat_cal, sat_bi, sat_isi, sat_isis, sat_me, sat_lc, sat_lcIf, sat_lcF, sat_lcFi, sat_lrng, sat_isB, sat_rev1, rv1_l, rv1_t, List.reverse_cons, List.reverse_nil, sat_orv, orvK_int, orvK_non, intO_int, ex_bl, ex_lst, sat_box, sat_unbox, sat_esN, sat_esC, ex_d, ex_int, ex_fl, ex_obj, ex_cell, ex_oi, kept_non, kept_int, kept_tup, kept_lst, kept_str, kept_scr, kept_self, ex_setx, ex_j, shl1, Int.toNat_natCast, Int.natCast_nonneg, start, bin_ii, bin_ll, bin_tt, bin_ss, bin_li, bin_ti, rg_1, rg_2, int_add, int_sub, int_mul, int_fdiv, int_mod, int_pow, int_shl, int_shr, int_band, int_bor, int_bxor, cmp_eq, cmp_ne, cmp_in, cmp_nin, cmp_lt, cmp_le, cmp_gt, cmp_ge, eq_op, in_lst, in_tup, ix_lst, ix_tup, ix_scr, ix_str, sl_lst, sl_tup, sl_str, end_t, end_i, bi_len_l, bi_len_t, bi_len_c, bi_len_s, bi_abs, bi_sum, bi_maxl, bi_minl, bi_max2, bi_min2, bi_any, bi_all, bi_int_i, bi_int_b, bi_list_l, bi_list_t, bi_tuple_l, bi_tuple_t, bi_sorted, bi_sset, ty_non, ty_bl, ty_int, ty_str, ty_lst, ty_tup, ty_scr, toB_bl, set_n, set_t, set_tl, it_seq_l, it_seq_t, it_seq_s, it_rng1, it_rng2, it_enm, it_enmT, it_zp_l, it_zp_t, it_rev_l, it_rev_t, me_append, me_extend, me_pop, me_reverse, me_count, ty_int_int, ty_int_bool, ty_bool_int, ty_bool_bool, ty_list_list, ty_tuple_tuple, ty_list_tuple, ty_tuple_list, ty_tuple_int, ty_tuple_bool, ty_int_tuple, ty_str_str, isNonE, toD_d, toD_fl, clo_d, clo_fl, eqB_nn, eqB_bb, eqB_bi, eqB_ib, eqB_ii, eqB_ss, eqB_ll, eqB_tt, eqB_ni, eqB_in, eqBs_00, eqBs_0c, eqBs_c0, eqBs_cc, okD, okDs, flat, small, powOk, mulOk, most, natAbs_1, natAbs_2, natAbs_10, Int.natAbs_natCast, wipe, intsOf, blsOf, pq_non, pq_bl, pq_int, pq_str, pq_tup, pq_lst, pq_scr, atI_0, atI_1, atI_2, ixN_0, ixN_1, D.closed, D.closeds, sat_ok, sat_bind, sat_guard, sat_err, Res.bind_ok, Res.bind_err, List.map_cons, List.map_nil, List.length_cons, List.length_nil, List.cons_append, List.nil_append, List.getElem?_cons_zero, List.getElem?_cons_succ, List.set_cons_zero, List.set_cons_succ, List.replicate, List.foldl_cons, List.foldl_nil, List.zip_cons_cons, List.zip_nil_left, List.zip_nil_right, Nat.reduceAdd, Nat.reduceSub, Nat.reduceLeDiff, Nat.reduceLT, Int.reduceLT, Int.reduceLE, Int.reduceNeg, Int.reducePow, Int.reduceToNat, Int.reduceAdd, Int.reduceMul, Int.reduceSub, Nat.reducePow, Nat.zero_add, Nat.add_zero, decide_true, decide_false, decide_eq_true_eq, beq_iff_eq, Bool.true_eq_false, reduceCtorEq, if_true, if_false, Bool.false_eq_true, true_and, and_true, Bool.true_and, Bool.and_true, Bool.false_and, Bool.and_false, Bool.not_true, Bool.not_false, Bool.or_true, Bool.true_or, Bool.or_false, Bool.false_or, Bool.and_eq_true, Bool.or_eq_true, Bool.not_eq_true', beq_self_eq_true, Option.map_some, Option.toList, if_true, if_false]
  exact ⟨by rw [List.length_map, List.length_range]; omega, closeds_iD _, rfl⟩
theorem ways_ok {m i j l n k c x : Nat} {t : List (Option Nat)} {S : Store} (hf : fs[i]? = some (f_ways_up_8af0 j)) (hj : fs[j]? = some (f_above_a9ad l)) (hl : fs[l]? = some f_holds_5c7e) (hn : n ≤ 8) (hc : c < 2 ^ n) (ht : t.length = 2 ^ n) : call gl fs (m + 3) i [wrD n k t, .int c, .int x] S = .ok (.fl ((wayL t c x).map iD), S) := by
  rw [← sat_def]
  have p8 := pow_le_256 hn
  refine sat_call hf rfl rfl (by simp only [D.closeds, D.closed, closeds_oD, wrD, Bool.and_true]) ?_
  simp -implicitDefEqProofs only [sat_exs, sat_exs_nil, sat_if, sat_asg, sat_asgT, sat_setix, sat_ex, sat_ret, sat_retN, sat_pass, sat_brk, sat_cnt, sat_raise, sat_evB, sat_ite, sat_for, rest_nx, rest_ret, sat_var, sat_non, sat_bl, sat_int, sat_str, sat_bin, sat_neg, sat_cmp, sat_chain, sat_isN, sat_notN, sat_and, sat_or, sat_not, sat_ifE, sat_tup, sat_lst, sat_ix, sat_slN, sat_slLv, sat_slHv, sat_slLb, sat_slHb, sat_slLi, sat_slHi, sat_slLc, sat_slHc, sat_cal, sat_bi, sat_isi, sat_isis, sat_me, sat_lc, sat_lcIf, sat_lcF, sat_lcFi, sat_lrng, sat_isB, sat_rev1, rv1_l, rv1_t, List.reverse_cons, List.reverse_nil, sat_orv, orvK_int, orvK_non, intO_int, ex_bl, ex_lst, sat_box, sat_unbox, sat_esN, sat_esC, ex_d, ex_int, ex_fl, ex_obj, ex_cell, ex_oi, kept_non, kept_int, kept_tup, kept_lst, kept_str, kept_scr, kept_self, ex_setx, ex_j, shl1, Int.toNat_natCast, Int.natCast_nonneg, start, bin_ii, bin_ll, bin_tt, bin_ss, bin_li, bin_ti, rg_1, rg_2, int_add, int_sub, int_mul, int_fdiv, int_mod, int_pow, int_shl, int_shr, int_band, int_bor, int_bxor, cmp_eq, cmp_ne, cmp_in, cmp_nin, cmp_lt, cmp_le, cmp_gt, cmp_ge, eq_op, in_lst, in_tup, ix_lst, ix_tup, ix_scr, ix_str, sl_lst, sl_tup, sl_str, end_t, end_i, bi_len_l, bi_len_t, bi_len_c, bi_len_s, bi_abs, bi_sum, bi_maxl, bi_minl, bi_max2, bi_min2, bi_any, bi_all, bi_int_i, bi_int_b, bi_list_l, bi_list_t, bi_tuple_l, bi_tuple_t, bi_sorted, bi_sset, ty_non, ty_bl, ty_int, ty_str, ty_lst, ty_tup, ty_scr, toB_bl, set_n, set_t, set_tl, it_seq_l, it_seq_t, it_seq_s, it_rng1, it_rng2, it_enm, it_enmT, it_zp_l, it_zp_t, it_rev_l, it_rev_t, me_append, me_extend, me_pop, me_reverse, me_count, ty_int_int, ty_int_bool, ty_bool_int, ty_bool_bool, ty_list_list, ty_tuple_tuple, ty_list_tuple, ty_tuple_list, ty_tuple_int, ty_tuple_bool, ty_int_tuple, ty_str_str, isNonE, toD_d, toD_fl, clo_d, clo_fl, eqB_nn, eqB_bb, eqB_bi, eqB_ib, eqB_ii, eqB_ss, eqB_ll, eqB_tt, eqB_ni, eqB_in, eqBs_00, eqBs_0c, eqBs_c0, eqBs_cc, okD, okDs, flat, small, powOk, mulOk, most, natAbs_1, natAbs_2, natAbs_10, Int.natAbs_natCast, wipe, intsOf, blsOf, pq_non, pq_bl, pq_int, pq_str, pq_tup, pq_lst, pq_scr, atI_0, atI_1, atI_2, ixN_0, ixN_1, D.closed, D.closeds, sat_ok, sat_bind, sat_guard, sat_err, Res.bind_ok, Res.bind_err, List.map_cons, List.map_nil, List.length_cons, List.length_nil, List.cons_append, List.nil_append, List.getElem?_cons_zero, List.getElem?_cons_succ, List.set_cons_zero, List.set_cons_succ, List.replicate, List.foldl_cons, List.foldl_nil, List.zip_cons_cons, List.zip_nil_left, List.zip_nil_right, Nat.reduceAdd, Nat.reduceSub, Nat.reduceLeDiff, Nat.reduceLT, Int.reduceLT, Int.reduceLE, Int.reduceNeg, Int.reducePow, Int.reduceToNat, Int.reduceAdd, Int.reduceMul, Int.reduceSub, Nat.reducePow, Nat.zero_add, Nat.add_zero, decide_true, decide_false, decide_eq_true_eq, beq_iff_eq, Bool.true_eq_false, reduceCtorEq, if_true, if_false, Bool.false_eq_true, true_and, and_true, Bool.true_and, Bool.and_true, Bool.false_and, Bool.and_false, Bool.not_true, Bool.not_false, Bool.or_true, Bool.true_or, Bool.or_false, Bool.false_or, Bool.and_eq_true, Bool.or_eq_true, Bool.not_eq_true', beq_self_eq_true, Option.map_some, Option.toList, if_true, if_false, f_ways_up_8af0, wrD, above_ok hj hl hn hc]
  rw [sat_eq (compL_fi (p := fun s => decide (t[s]? = some (some x))) (h := iD) (by simp [kept]) ?c1)]
  case c1 =>
    intro s hs
    have hs' : s < t.length := by
      rw [ht]
      exact List.mem_range.mp (List.mem_filter.mp hs).1
    have hv : (List.map oD t)[s]? = some (oD t[s]) := by rw [List.getElem?_map, List.getElem?_eq_getElem hs']; rfl
    simp -implicitDefEqProofs only [sat_exs, sat_exs_nil, sat_if, sat_asg, sat_asgT, sat_setix, sat_ex, sat_ret, sat_retN, sat_pass, sat_brk, sat_cnt, sat_raise, sat_evB, sat_ite, sat_for, rest_nx, rest_ret, sat_var, sat_non, sat_bl, sat_int, sat_str, sat_bin, sat_neg, sat_cmp, sat_chain, sat_isN, sat_notN, sat_and, sat_or, sat_not, sat_ifE, sat_tup, sat_lst, sat_ix, sat_slN, sat_slLv, sat_slHv, sat_slLb, sat_slHb, sat_slLi, sat_slHi, sat_slLc, sat_slHc, sat_cal, sat_bi, sat_isi, sat_isis, sat_me, sat_lc, sat_lcIf, sat_lcF, sat_lcFi, sat_lrng, sat_isB, sat_rev1, rv1_l, rv1_t, List.reverse_cons, List.reverse_nil, sat_orv, orvK_int, orvK_non, intO_int, ex_bl, ex_lst, sat_box, sat_unbox, sat_esN, sat_esC, ex_d, ex_int, ex_fl, ex_obj, ex_cell, ex_oi, kept_non, kept_int, kept_tup, kept_lst, kept_str, kept_scr, kept_self, ex_setx, ex_j, shl1, Int.toNat_natCast, Int.natCast_nonneg, start, bin_ii, bin_ll, bin_tt, bin_ss, bin_li, bin_ti, rg_1, rg_2, int_add, int_sub, int_mul, int_fdiv, int_mod, int_pow, int_shl, int_shr, int_band, int_bor, int_bxor, cmp_eq, cmp_ne, cmp_in, cmp_nin, cmp_lt, cmp_le, cmp_gt, cmp_ge, eq_op, in_lst, in_tup, ix_lst, ix_tup, ix_scr, ix_str, sl_lst, sl_tup, sl_str, end_t, end_i, bi_len_l, bi_len_t, bi_len_c, bi_len_s, bi_abs, bi_sum, bi_maxl, bi_minl, bi_max2, bi_min2, bi_any, bi_all, bi_int_i, bi_int_b, bi_list_l, bi_list_t, bi_tuple_l, bi_tuple_t, bi_sorted, bi_sset, ty_non, ty_bl, ty_int, ty_str, ty_lst, ty_tup, ty_scr, toB_bl, set_n, set_t, set_tl, it_seq_l, it_seq_t, it_seq_s, it_rng1, it_rng2, it_enm, it_enmT, it_zp_l, it_zp_t, it_rev_l, it_rev_t, me_append, me_extend, me_pop, me_reverse, me_count, ty_int_int, ty_int_bool, ty_bool_int, ty_bool_bool, ty_list_list, ty_tuple_tuple, ty_list_tuple, ty_tuple_list, ty_tuple_int, ty_tuple_bool, ty_int_tuple, ty_str_str, isNonE, toD_d, toD_fl, clo_d, clo_fl, eqB_nn, eqB_bb, eqB_bi, eqB_ib, eqB_ii, eqB_ss, eqB_ll, eqB_tt, eqB_ni, eqB_in, eqBs_00, eqBs_0c, eqBs_c0, eqBs_cc, okD, okDs, flat, small, powOk, mulOk, most, natAbs_1, natAbs_2, natAbs_10, Int.natAbs_natCast, wipe, intsOf, blsOf, pq_non, pq_bl, pq_int, pq_str, pq_tup, pq_lst, pq_scr, atI_0, atI_1, atI_2, ixN_0, ixN_1, D.closed, D.closeds, sat_ok, sat_bind, sat_guard, sat_err, Res.bind_ok, Res.bind_err, List.map_cons, List.map_nil, List.length_cons, List.length_nil, List.cons_append, List.nil_append, List.getElem?_cons_zero, List.getElem?_cons_succ, List.set_cons_zero, List.set_cons_succ, List.replicate, List.foldl_cons, List.foldl_nil, List.zip_cons_cons, List.zip_nil_left, List.zip_nil_right, Nat.reduceAdd, Nat.reduceSub, Nat.reduceLeDiff, Nat.reduceLT, Int.reduceLT, Int.reduceLE, Int.reduceNeg, Int.reducePow, Int.reduceToNat, Int.reduceAdd, Int.reduceMul, Int.reduceSub, Nat.reducePow, Nat.zero_add, Nat.add_zero, decide_true, decide_false, decide_eq_true_eq, beq_iff_eq, Bool.true_eq_false, reduceCtorEq, if_true, if_false, Bool.false_eq_true, true_and, and_true, Bool.true_and, Bool.and_true, Bool.false_and, Bool.and_false, Bool.not_true, Bool.not_false, Bool.or_true, Bool.true_or, Bool.or_false, Bool.false_or, Bool.and_eq_true, Bool.or_eq_true, Bool.not_eq_true', beq_self_eq_true, Option.map_some, Option.toList, if_true, if_false, sat_lcFi, iD, atI_nat, hv, oD_eq, okD_oD, pq_oD, List.getElem?_eq_getElem hs']
    by_cases h : t[s] = some x <;> simp [h]
  have e : (upL n c).filter (fun s => decide (t[s]? = some (some x))) = wayL t c x := by
    unfold upL wayL
    rw [List.filter_filter, ht]
    congr 1
    funext s
    rw [Bool.and_comm]
  rw [e]
  simp -implicitDefEqProofs only [sat_exs, sat_exs_nil, sat_if, sat_asg, sat_asgT, sat_setix, sat_ex, sat_ret, sat_retN, sat_pass, sat_brk, sat_cnt, sat_raise, sat_evB, sat_ite, sat_for, rest_nx, rest_ret, sat_var, sat_non, sat_bl, sat_int, sat_str, sat_bin, sat_neg, sat_cmp, sat_chain, sat_isN, sat_notN, sat_and, sat_or, sat_not, sat_ifE, sat_tup, sat_lst, sat_ix, sat_slN, sat_slLv, sat_slHv, sat_slLb, sat_slHb, sat_slLi, sat_slHi, sat_slLc, sat_slHc, sat_cal, sat_bi, sat_isi, sat_isis, sat_me, sat_lc, sat_lcIf, sat_lcF, sat_lcFi, sat_lrng, sat_isB, sat_rev1, rv1_l, rv1_t, List.reverse_cons, List.reverse_nil, sat_orv, orvK_int, orvK_non, intO_int, ex_bl, ex_lst, sat_box, sat_unbox, sat_esN, sat_esC, ex_d, ex_int, ex_fl, ex_obj, ex_cell, ex_oi, kept_non, kept_int, kept_tup, kept_lst, kept_str, kept_scr, kept_self, ex_setx, ex_j, shl1, Int.toNat_natCast, Int.natCast_nonneg, start, bin_ii, bin_ll, bin_tt, bin_ss, bin_li, bin_ti, rg_1, rg_2, int_add, int_sub, int_mul, int_fdiv, int_mod, int_pow, int_shl, int_shr, int_band, int_bor, int_bxor, cmp_eq, cmp_ne, cmp_in, cmp_nin, cmp_lt, cmp_le, cmp_gt, cmp_ge, eq_op, in_lst, in_tup, ix_lst, ix_tup, ix_scr, ix_str, sl_lst, sl_tup, sl_str, end_t, end_i, bi_len_l, bi_len_t, bi_len_c, bi_len_s, bi_abs, bi_sum, bi_maxl, bi_minl, bi_max2, bi_min2, bi_any, bi_all, bi_int_i, bi_int_b, bi_list_l, bi_list_t, bi_tuple_l, bi_tuple_t, bi_sorted, bi_sset, ty_non, ty_bl, ty_int, ty_str, ty_lst, ty_tup, ty_scr, toB_bl, set_n, set_t, set_tl, it_seq_l, it_seq_t, it_seq_s, it_rng1, it_rng2, it_enm, it_enmT, it_zp_l, it_zp_t, it_rev_l, it_rev_t, me_append, me_extend, me_pop, me_reverse, me_count, ty_int_int, ty_int_bool, ty_bool_int, ty_bool_bool, ty_list_list, ty_tuple_tuple, ty_list_tuple, ty_tuple_list, ty_tuple_int, ty_tuple_bool, ty_int_tuple, ty_str_str, isNonE, toD_d, toD_fl, clo_d, clo_fl, eqB_nn, eqB_bb, eqB_bi, eqB_ib, eqB_ii, eqB_ss, eqB_ll, eqB_tt, eqB_ni, eqB_in, eqBs_00, eqBs_0c, eqBs_c0, eqBs_cc, okD, okDs, flat, small, powOk, mulOk, most, natAbs_1, natAbs_2, natAbs_10, Int.natAbs_natCast, wipe, intsOf, blsOf, pq_non, pq_bl, pq_int, pq_str, pq_tup, pq_lst, pq_scr, atI_0, atI_1, atI_2, ixN_0, ixN_1, D.closed, D.closeds, sat_ok, sat_bind, sat_guard, sat_err, Res.bind_ok, Res.bind_err, List.map_cons, List.map_nil, List.length_cons, List.length_nil, List.cons_append, List.nil_append, List.getElem?_cons_zero, List.getElem?_cons_succ, List.set_cons_zero, List.set_cons_succ, List.replicate, List.foldl_cons, List.foldl_nil, List.zip_cons_cons, List.zip_nil_left, List.zip_nil_right, Nat.reduceAdd, Nat.reduceSub, Nat.reduceLeDiff, Nat.reduceLT, Int.reduceLT, Int.reduceLE, Int.reduceNeg, Int.reducePow, Int.reduceToNat, Int.reduceAdd, Int.reduceMul, Int.reduceSub, Nat.reducePow, Nat.zero_add, Nat.add_zero, decide_true, decide_false, decide_eq_true_eq, beq_iff_eq, Bool.true_eq_false, reduceCtorEq, if_true, if_false, Bool.false_eq_true, true_and, and_true, Bool.true_and, Bool.and_true, Bool.false_and, Bool.and_false, Bool.not_true, Bool.not_false, Bool.or_true, Bool.true_or, Bool.or_false, Bool.false_or, Bool.and_eq_true, Bool.or_eq_true, Bool.not_eq_true', beq_self_eq_true, Option.map_some, Option.toList, if_true, if_false]
  refine ⟨?_, closeds_iD _⟩
  rw [List.length_map]
  have := List.length_filter_le (fun s => decide (s &&& c = c)) (List.range (2 ^ n))
  rw [List.length_range] at this
  exact Nat.le_trans this (by omega)
theorem within_ok {m i a b : Nat} {S : Store} (hf : fs[i]? = some f_law_within_90ef) (ha : a < 256) : call gl fs (m + 1) i [.int a, .int b] S = .ok (.d (.bl (decide (b &&& a = a))), S) := by
  rw [← sat_def]
  refine sat_call hf rfl rfl rfl ?_
  simp -implicitDefEqProofs only [sat_exs, sat_exs_nil, sat_if, sat_asg, sat_asgT, sat_setix, sat_ex, sat_ret, sat_retN, sat_pass, sat_brk, sat_cnt, sat_raise, sat_evB, sat_ite, sat_for, rest_nx, rest_ret, sat_var, sat_non, sat_bl, sat_int, sat_str, sat_bin, sat_neg, sat_cmp, sat_chain, sat_isN, sat_notN, sat_and, sat_or, sat_not, sat_ifE, sat_tup, sat_lst, sat_ix, sat_slN, sat_slLv, sat_slHv, sat_slLb, sat_slHb, sat_slLi, sat_slHi, sat_slLc, sat_slHc, sat_cal, sat_bi, sat_isi, sat_isis, sat_me, sat_lc, sat_lcIf, sat_lcF, sat_lcFi, sat_lrng, sat_isB, sat_rev1, rv1_l, rv1_t, List.reverse_cons, List.reverse_nil, sat_orv, orvK_int, orvK_non, intO_int, ex_bl, ex_lst, sat_box, sat_unbox, sat_esN, sat_esC, ex_d, ex_int, ex_fl, ex_obj, ex_cell, ex_oi, kept_non, kept_int, kept_tup, kept_lst, kept_str, kept_scr, kept_self, ex_setx, ex_j, shl1, Int.toNat_natCast, Int.natCast_nonneg, start, bin_ii, bin_ll, bin_tt, bin_ss, bin_li, bin_ti, rg_1, rg_2, int_add, int_sub, int_mul, int_fdiv, int_mod, int_pow, int_shl, int_shr, int_band, int_bor, int_bxor, cmp_eq, cmp_ne, cmp_in, cmp_nin, cmp_lt, cmp_le, cmp_gt, cmp_ge, eq_op, in_lst, in_tup, ix_lst, ix_tup, ix_scr, ix_str, sl_lst, sl_tup, sl_str, end_t, end_i, bi_len_l, bi_len_t, bi_len_c, bi_len_s, bi_abs, bi_sum, bi_maxl, bi_minl, bi_max2, bi_min2, bi_any, bi_all, bi_int_i, bi_int_b, bi_list_l, bi_list_t, bi_tuple_l, bi_tuple_t, bi_sorted, bi_sset, ty_non, ty_bl, ty_int, ty_str, ty_lst, ty_tup, ty_scr, toB_bl, set_n, set_t, set_tl, it_seq_l, it_seq_t, it_seq_s, it_rng1, it_rng2, it_enm, it_enmT, it_zp_l, it_zp_t, it_rev_l, it_rev_t, me_append, me_extend, me_pop, me_reverse, me_count, ty_int_int, ty_int_bool, ty_bool_int, ty_bool_bool, ty_list_list, ty_tuple_tuple, ty_list_tuple, ty_tuple_list, ty_tuple_int, ty_tuple_bool, ty_int_tuple, ty_str_str, isNonE, toD_d, toD_fl, clo_d, clo_fl, eqB_nn, eqB_bb, eqB_bi, eqB_ib, eqB_ii, eqB_ss, eqB_ll, eqB_tt, eqB_ni, eqB_in, eqBs_00, eqBs_0c, eqBs_c0, eqBs_cc, okD, okDs, flat, small, powOk, mulOk, most, natAbs_1, natAbs_2, natAbs_10, Int.natAbs_natCast, wipe, intsOf, blsOf, pq_non, pq_bl, pq_int, pq_str, pq_tup, pq_lst, pq_scr, atI_0, atI_1, atI_2, ixN_0, ixN_1, D.closed, D.closeds, sat_ok, sat_bind, sat_guard, sat_err, Res.bind_ok, Res.bind_err, List.map_cons, List.map_nil, List.length_cons, List.length_nil, List.cons_append, List.nil_append, List.getElem?_cons_zero, List.getElem?_cons_succ, List.set_cons_zero, List.set_cons_succ, List.replicate, List.foldl_cons, List.foldl_nil, List.zip_cons_cons, List.zip_nil_left, List.zip_nil_right, Nat.reduceAdd, Nat.reduceSub, Nat.reduceLeDiff, Nat.reduceLT, Int.reduceLT, Int.reduceLE, Int.reduceNeg, Int.reducePow, Int.reduceToNat, Int.reduceAdd, Int.reduceMul, Int.reduceSub, Nat.reducePow, Nat.zero_add, Nat.add_zero, decide_true, decide_false, decide_eq_true_eq, beq_iff_eq, Bool.true_eq_false, reduceCtorEq, if_true, if_false, Bool.false_eq_true, true_and, and_true, Bool.true_and, Bool.and_true, Bool.false_and, Bool.and_false, Bool.not_true, Bool.not_false, Bool.or_true, Bool.true_or, Bool.or_false, Bool.false_or, Bool.and_eq_true, Bool.or_eq_true, Bool.not_eq_true', beq_self_eq_true, Option.map_some, Option.toList, if_true, if_false, f_law_within_90ef, up0_eq]
  rw [sat_eq (compL_fi (p := fun x => a.testBit x && !b.testBit x) (h := iD) (by simp [kept]) ?c1)]
  case c1 =>
    intro x hx
    simp -implicitDefEqProofs only [sat_exs, sat_exs_nil, sat_if, sat_asg, sat_asgT, sat_setix, sat_ex, sat_ret, sat_retN, sat_pass, sat_brk, sat_cnt, sat_raise, sat_evB, sat_ite, sat_for, rest_nx, rest_ret, sat_var, sat_non, sat_bl, sat_int, sat_str, sat_bin, sat_neg, sat_cmp, sat_chain, sat_isN, sat_notN, sat_and, sat_or, sat_not, sat_ifE, sat_tup, sat_lst, sat_ix, sat_slN, sat_slLv, sat_slHv, sat_slLb, sat_slHb, sat_slLi, sat_slHi, sat_slLc, sat_slHc, sat_cal, sat_bi, sat_isi, sat_isis, sat_me, sat_lc, sat_lcIf, sat_lcF, sat_lcFi, sat_lrng, sat_isB, sat_rev1, rv1_l, rv1_t, List.reverse_cons, List.reverse_nil, sat_orv, orvK_int, orvK_non, intO_int, ex_bl, ex_lst, sat_box, sat_unbox, sat_esN, sat_esC, ex_d, ex_int, ex_fl, ex_obj, ex_cell, ex_oi, kept_non, kept_int, kept_tup, kept_lst, kept_str, kept_scr, kept_self, ex_setx, ex_j, shl1, Int.toNat_natCast, Int.natCast_nonneg, start, bin_ii, bin_ll, bin_tt, bin_ss, bin_li, bin_ti, rg_1, rg_2, int_add, int_sub, int_mul, int_fdiv, int_mod, int_pow, int_shl, int_shr, int_band, int_bor, int_bxor, cmp_eq, cmp_ne, cmp_in, cmp_nin, cmp_lt, cmp_le, cmp_gt, cmp_ge, eq_op, in_lst, in_tup, ix_lst, ix_tup, ix_scr, ix_str, sl_lst, sl_tup, sl_str, end_t, end_i, bi_len_l, bi_len_t, bi_len_c, bi_len_s, bi_abs, bi_sum, bi_maxl, bi_minl, bi_max2, bi_min2, bi_any, bi_all, bi_int_i, bi_int_b, bi_list_l, bi_list_t, bi_tuple_l, bi_tuple_t, bi_sorted, bi_sset, ty_non, ty_bl, ty_int, ty_str, ty_lst, ty_tup, ty_scr, toB_bl, set_n, set_t, set_tl, it_seq_l, it_seq_t, it_seq_s, it_rng1, it_rng2, it_enm, it_enmT, it_zp_l, it_zp_t, it_rev_l, it_rev_t, me_append, me_extend, me_pop, me_reverse, me_count, ty_int_int, ty_int_bool, ty_bool_int, ty_bool_bool, ty_list_list, ty_tuple_tuple, ty_list_tuple, ty_tuple_list, ty_tuple_int, ty_tuple_bool, ty_int_tuple, ty_str_str, isNonE, toD_d, toD_fl, clo_d, clo_fl, eqB_nn, eqB_bb, eqB_bi, eqB_ib, eqB_ii, eqB_ss, eqB_ll, eqB_tt, eqB_ni, eqB_in, eqBs_00, eqBs_0c, eqBs_c0, eqBs_cc, okD, okDs, flat, small, powOk, mulOk, most, natAbs_1, natAbs_2, natAbs_10, Int.natAbs_natCast, wipe, intsOf, blsOf, pq_non, pq_bl, pq_int, pq_str, pq_tup, pq_lst, pq_scr, atI_0, atI_1, atI_2, ixN_0, ixN_1, D.closed, D.closeds, sat_ok, sat_bind, sat_guard, sat_err, Res.bind_ok, Res.bind_err, List.map_cons, List.map_nil, List.length_cons, List.length_nil, List.cons_append, List.nil_append, List.getElem?_cons_zero, List.getElem?_cons_succ, List.set_cons_zero, List.set_cons_succ, List.replicate, List.foldl_cons, List.foldl_nil, List.zip_cons_cons, List.zip_nil_left, List.zip_nil_right, Nat.reduceAdd, Nat.reduceSub, Nat.reduceLeDiff, Nat.reduceLT, Int.reduceLT, Int.reduceLE, Int.reduceNeg, Int.reducePow, Int.reduceToNat, Int.reduceAdd, Int.reduceMul, Int.reduceSub, Nat.reducePow, Nat.zero_add, Nat.add_zero, decide_true, decide_false, decide_eq_true_eq, beq_iff_eq, Bool.true_eq_false, reduceCtorEq, if_true, if_false, Bool.false_eq_true, true_and, and_true, Bool.true_and, Bool.and_true, Bool.false_and, Bool.and_false, Bool.not_true, Bool.not_false, Bool.or_true, Bool.true_or, Bool.or_false, Bool.false_or, Bool.and_eq_true, Bool.or_eq_true, Bool.not_eq_true', beq_self_eq_true, Option.map_some, Option.toList, if_true, if_false, sat_lcFi, iD, shr_nat, and_1, bit_eq, bit_eq0]
    cases a.testBit x <;> cases b.testBit x <;> simp
  simp -implicitDefEqProofs only [sat_exs, sat_exs_nil, sat_if, sat_asg, sat_asgT, sat_setix, sat_ex, sat_ret, sat_retN, sat_pass, sat_brk, sat_cnt, sat_raise, sat_evB, sat_ite, sat_for, rest_nx, rest_ret, sat_var, sat_non, sat_bl, sat_int, sat_str, sat_bin, sat_neg, sat_cmp, sat_chain, sat_isN, sat_notN, sat_and, sat_or, sat_not, sat_ifE, sat_tup, sat_lst, sat_ix, sat_slN, sat_slLv, sat_slHv, sat_slLb, sat_slHb, sat_slLi, sat_slHi, sat_slLc, sat_slHc, sat_cal, sat_bi, sat_isi, sat_isis, sat_me, sat_lc, sat_lcIf, sat_lcF, sat_lcFi, sat_lrng, sat_isB, sat_rev1, rv1_l, rv1_t, List.reverse_cons, List.reverse_nil, sat_orv, orvK_int, orvK_non, intO_int, ex_bl, ex_lst, sat_box, sat_unbox, sat_esN, sat_esC, ex_d, ex_int, ex_fl, ex_obj, ex_cell, ex_oi, kept_non, kept_int, kept_tup, kept_lst, kept_str, kept_scr, kept_self, ex_setx, ex_j, shl1, Int.toNat_natCast, Int.natCast_nonneg, start, bin_ii, bin_ll, bin_tt, bin_ss, bin_li, bin_ti, rg_1, rg_2, int_add, int_sub, int_mul, int_fdiv, int_mod, int_pow, int_shl, int_shr, int_band, int_bor, int_bxor, cmp_eq, cmp_ne, cmp_in, cmp_nin, cmp_lt, cmp_le, cmp_gt, cmp_ge, eq_op, in_lst, in_tup, ix_lst, ix_tup, ix_scr, ix_str, sl_lst, sl_tup, sl_str, end_t, end_i, bi_len_l, bi_len_t, bi_len_c, bi_len_s, bi_abs, bi_sum, bi_maxl, bi_minl, bi_max2, bi_min2, bi_any, bi_all, bi_int_i, bi_int_b, bi_list_l, bi_list_t, bi_tuple_l, bi_tuple_t, bi_sorted, bi_sset, ty_non, ty_bl, ty_int, ty_str, ty_lst, ty_tup, ty_scr, toB_bl, set_n, set_t, set_tl, it_seq_l, it_seq_t, it_seq_s, it_rng1, it_rng2, it_enm, it_enmT, it_zp_l, it_zp_t, it_rev_l, it_rev_t, me_append, me_extend, me_pop, me_reverse, me_count, ty_int_int, ty_int_bool, ty_bool_int, ty_bool_bool, ty_list_list, ty_tuple_tuple, ty_list_tuple, ty_tuple_list, ty_tuple_int, ty_tuple_bool, ty_int_tuple, ty_str_str, isNonE, toD_d, toD_fl, clo_d, clo_fl, eqB_nn, eqB_bb, eqB_bi, eqB_ib, eqB_ii, eqB_ss, eqB_ll, eqB_tt, eqB_ni, eqB_in, eqBs_00, eqBs_0c, eqBs_c0, eqBs_cc, okD, okDs, flat, small, powOk, mulOk, most, natAbs_1, natAbs_2, natAbs_10, Int.natAbs_natCast, wipe, intsOf, blsOf, pq_non, pq_bl, pq_int, pq_str, pq_tup, pq_lst, pq_scr, atI_0, atI_1, atI_2, ixN_0, ixN_1, D.closed, D.closeds, sat_ok, sat_bind, sat_guard, sat_err, Res.bind_ok, Res.bind_err, List.map_cons, List.map_nil, List.length_cons, List.length_nil, List.cons_append, List.nil_append, List.getElem?_cons_zero, List.getElem?_cons_succ, List.set_cons_zero, List.set_cons_succ, List.replicate, List.foldl_cons, List.foldl_nil, List.zip_cons_cons, List.zip_nil_left, List.zip_nil_right, Nat.reduceAdd, Nat.reduceSub, Nat.reduceLeDiff, Nat.reduceLT, Int.reduceLT, Int.reduceLE, Int.reduceNeg, Int.reducePow, Int.reduceToNat, Int.reduceAdd, Int.reduceMul, Int.reduceSub, Nat.reducePow, Nat.zero_add, Nat.add_zero, decide_true, decide_false, decide_eq_true_eq, beq_iff_eq, Bool.true_eq_false, reduceCtorEq, if_true, if_false, Bool.false_eq_true, true_and, and_true, Bool.true_and, Bool.and_true, Bool.false_and, Bool.and_false, Bool.not_true, Bool.not_false, Bool.or_true, Bool.true_or, Bool.or_false, Bool.false_or, Bool.and_eq_true, Bool.or_eq_true, Bool.not_eq_true', beq_self_eq_true, Option.map_some, Option.toList, if_true, if_false, okDs_iD]
  refine ⟨by simp, ?_⟩
  congr 3
  have := alone_nil (a := a) (b := b) ha
  rw [Bool.eq_iff_iff, decide_eq_true_eq, ← this]
  unfold alone
  cases (List.filter (fun x => a.testBit x && !b.testBit x) (List.range 8)) <;> simp [eqBs]
theorem law_ways_ok {m i j c x : Nat} {t : List (Option Nat)} {S : Store} (hf : fs[i]? = some (f_law_ways_b3e3 j)) (hj : fs[j]? = some f_law_within_90ef) (hc : c < 256) (ht : t.length ≤ 256) : call gl fs (m + 2) i [.tup (t.map oD), .int c, .int x] S = .ok (.fl ((wayL t c x).map iD), S) := by
  rw [← sat_def]
  refine sat_call hf rfl rfl (by simp only [D.closeds, D.closed, closeds_oD, Bool.and_true]) ?_
  simp -implicitDefEqProofs only [sat_exs, sat_exs_nil, sat_if, sat_asg, sat_asgT, sat_setix, sat_ex, sat_ret, sat_retN, sat_pass, sat_brk, sat_cnt, sat_raise, sat_evB, sat_ite, sat_for, rest_nx, rest_ret, sat_var, sat_non, sat_bl, sat_int, sat_str, sat_bin, sat_neg, sat_cmp, sat_chain, sat_isN, sat_notN, sat_and, sat_or, sat_not, sat_ifE, sat_tup, sat_lst, sat_ix, sat_slN, sat_slLv, sat_slHv, sat_slLb, sat_slHb, sat_slLi, sat_slHi, sat_slLc, sat_slHc, sat_cal, sat_bi, sat_isi, sat_isis, sat_me, sat_lc, sat_lcIf, sat_lcF, sat_lcFi, sat_lrng, sat_isB, sat_rev1, rv1_l, rv1_t, List.reverse_cons, List.reverse_nil, sat_orv, orvK_int, orvK_non, intO_int, ex_bl, ex_lst, sat_box, sat_unbox, sat_esN, sat_esC, ex_d, ex_int, ex_fl, ex_obj, ex_cell, ex_oi, kept_non, kept_int, kept_tup, kept_lst, kept_str, kept_scr, kept_self, ex_setx, ex_j, shl1, Int.toNat_natCast, Int.natCast_nonneg, start, bin_ii, bin_ll, bin_tt, bin_ss, bin_li, bin_ti, rg_1, rg_2, int_add, int_sub, int_mul, int_fdiv, int_mod, int_pow, int_shl, int_shr, int_band, int_bor, int_bxor, cmp_eq, cmp_ne, cmp_in, cmp_nin, cmp_lt, cmp_le, cmp_gt, cmp_ge, eq_op, in_lst, in_tup, ix_lst, ix_tup, ix_scr, ix_str, sl_lst, sl_tup, sl_str, end_t, end_i, bi_len_l, bi_len_t, bi_len_c, bi_len_s, bi_abs, bi_sum, bi_maxl, bi_minl, bi_max2, bi_min2, bi_any, bi_all, bi_int_i, bi_int_b, bi_list_l, bi_list_t, bi_tuple_l, bi_tuple_t, bi_sorted, bi_sset, ty_non, ty_bl, ty_int, ty_str, ty_lst, ty_tup, ty_scr, toB_bl, set_n, set_t, set_tl, it_seq_l, it_seq_t, it_seq_s, it_rng1, it_rng2, it_enm, it_enmT, it_zp_l, it_zp_t, it_rev_l, it_rev_t, me_append, me_extend, me_pop, me_reverse, me_count, ty_int_int, ty_int_bool, ty_bool_int, ty_bool_bool, ty_list_list, ty_tuple_tuple, ty_list_tuple, ty_tuple_list, ty_tuple_int, ty_tuple_bool, ty_int_tuple, ty_str_str, isNonE, toD_d, toD_fl, clo_d, clo_fl, eqB_nn, eqB_bb, eqB_bi, eqB_ib, eqB_ii, eqB_ss, eqB_ll, eqB_tt, eqB_ni, eqB_in, eqBs_00, eqBs_0c, eqBs_c0, eqBs_cc, okD, okDs, flat, small, powOk, mulOk, most, natAbs_1, natAbs_2, natAbs_10, Int.natAbs_natCast, wipe, intsOf, blsOf, pq_non, pq_bl, pq_int, pq_str, pq_tup, pq_lst, pq_scr, atI_0, atI_1, atI_2, ixN_0, ixN_1, D.closed, D.closeds, sat_ok, sat_bind, sat_guard, sat_err, Res.bind_ok, Res.bind_err, List.map_cons, List.map_nil, List.length_cons, List.length_nil, List.cons_append, List.nil_append, List.getElem?_cons_zero, List.getElem?_cons_succ, List.set_cons_zero, List.set_cons_succ, List.replicate, List.foldl_cons, List.foldl_nil, List.zip_cons_cons, List.zip_nil_left, List.zip_nil_right, Nat.reduceAdd, Nat.reduceSub, Nat.reduceLeDiff, Nat.reduceLT, Int.reduceLT, Int.reduceLE, Int.reduceNeg, Int.reducePow, Int.reduceToNat, Int.reduceAdd, Int.reduceMul, Int.reduceSub, Nat.reducePow, Nat.zero_add, Nat.add_zero, decide_true, decide_false, decide_eq_true_eq, beq_iff_eq, Bool.true_eq_false, reduceCtorEq, if_true, if_false, Bool.false_eq_true, true_and, and_true, Bool.true_and, Bool.and_true, Bool.false_and, Bool.and_false, Bool.not_true, Bool.not_false, Bool.or_true, Bool.true_or, Bool.or_false, Bool.false_or, Bool.and_eq_true, Bool.or_eq_true, Bool.not_eq_true', beq_self_eq_true, Option.map_some, Option.toList, if_true, if_false, f_law_ways_b3e3, up0_eq, List.length_map]
  refine ⟨by omega, ?_⟩
  rw [sat_eq (compL_fi (p := fun s => decide (s &&& c = c) && decide (t[s]? = some (some x))) (h := iD) (by simp [kept]) ?c1)]
  case c1 =>
    intro s hs
    have hs' : s < t.length := List.mem_range.mp hs
    have hv : (List.map oD t)[s]? = some (oD t[s]) := by rw [List.getElem?_map, List.getElem?_eq_getElem hs']; rfl
    simp -implicitDefEqProofs only [sat_exs, sat_exs_nil, sat_if, sat_asg, sat_asgT, sat_setix, sat_ex, sat_ret, sat_retN, sat_pass, sat_brk, sat_cnt, sat_raise, sat_evB, sat_ite, sat_for, rest_nx, rest_ret, sat_var, sat_non, sat_bl, sat_int, sat_str, sat_bin, sat_neg, sat_cmp, sat_chain, sat_isN, sat_notN, sat_and, sat_or, sat_not, sat_ifE, sat_tup, sat_lst, sat_ix, sat_slN, sat_slLv, sat_slHv, sat_slLb, sat_slHb, sat_slLi, sat_slHi, sat_slLc, sat_slHc, sat_cal, sat_bi, sat_isi, sat_isis, sat_me, sat_lc, sat_lcIf, sat_lcF, sat_lcFi, sat_lrng, sat_isB, sat_rev1, rv1_l, rv1_t, List.reverse_cons, List.reverse_nil, sat_orv, orvK_int, orvK_non, intO_int, ex_bl, ex_lst, sat_box, sat_unbox, sat_esN, sat_esC, ex_d, ex_int, ex_fl, ex_obj, ex_cell, ex_oi, kept_non, kept_int, kept_tup, kept_lst, kept_str, kept_scr, kept_self, ex_setx, ex_j, shl1, Int.toNat_natCast, Int.natCast_nonneg, start, bin_ii, bin_ll, bin_tt, bin_ss, bin_li, bin_ti, rg_1, rg_2, int_add, int_sub, int_mul, int_fdiv, int_mod, int_pow, int_shl, int_shr, int_band, int_bor, int_bxor, cmp_eq, cmp_ne, cmp_in, cmp_nin, cmp_lt, cmp_le, cmp_gt, cmp_ge, eq_op, in_lst, in_tup, ix_lst, ix_tup, ix_scr, ix_str, sl_lst, sl_tup, sl_str, end_t, end_i, bi_len_l, bi_len_t, bi_len_c, bi_len_s, bi_abs, bi_sum, bi_maxl, bi_minl, bi_max2, bi_min2, bi_any, bi_all, bi_int_i, bi_int_b, bi_list_l, bi_list_t, bi_tuple_l, bi_tuple_t, bi_sorted, bi_sset, ty_non, ty_bl, ty_int, ty_str, ty_lst, ty_tup, ty_scr, toB_bl, set_n, set_t, set_tl, it_seq_l, it_seq_t, it_seq_s, it_rng1, it_rng2, it_enm, it_enmT, it_zp_l, it_zp_t, it_rev_l, it_rev_t, me_append, me_extend, me_pop, me_reverse, me_count, ty_int_int, ty_int_bool, ty_bool_int, ty_bool_bool, ty_list_list, ty_tuple_tuple, ty_list_tuple, ty_tuple_list, ty_tuple_int, ty_tuple_bool, ty_int_tuple, ty_str_str, isNonE, toD_d, toD_fl, clo_d, clo_fl, eqB_nn, eqB_bb, eqB_bi, eqB_ib, eqB_ii, eqB_ss, eqB_ll, eqB_tt, eqB_ni, eqB_in, eqBs_00, eqBs_0c, eqBs_c0, eqBs_cc, okD, okDs, flat, small, powOk, mulOk, most, natAbs_1, natAbs_2, natAbs_10, Int.natAbs_natCast, wipe, intsOf, blsOf, pq_non, pq_bl, pq_int, pq_str, pq_tup, pq_lst, pq_scr, atI_0, atI_1, atI_2, ixN_0, ixN_1, D.closed, D.closeds, sat_ok, sat_bind, sat_guard, sat_err, Res.bind_ok, Res.bind_err, List.map_cons, List.map_nil, List.length_cons, List.length_nil, List.cons_append, List.nil_append, List.getElem?_cons_zero, List.getElem?_cons_succ, List.set_cons_zero, List.set_cons_succ, List.replicate, List.foldl_cons, List.foldl_nil, List.zip_cons_cons, List.zip_nil_left, List.zip_nil_right, Nat.reduceAdd, Nat.reduceSub, Nat.reduceLeDiff, Nat.reduceLT, Int.reduceLT, Int.reduceLE, Int.reduceNeg, Int.reducePow, Int.reduceToNat, Int.reduceAdd, Int.reduceMul, Int.reduceSub, Nat.reducePow, Nat.zero_add, Nat.add_zero, decide_true, decide_false, decide_eq_true_eq, beq_iff_eq, Bool.true_eq_false, reduceCtorEq, if_true, if_false, Bool.false_eq_true, true_and, and_true, Bool.true_and, Bool.and_true, Bool.false_and, Bool.and_false, Bool.not_true, Bool.not_false, Bool.or_true, Bool.true_or, Bool.or_false, Bool.false_or, Bool.and_eq_true, Bool.or_eq_true, Bool.not_eq_true', beq_self_eq_true, Option.map_some, Option.toList, if_true, if_false, sat_lcFi, iD, within_ok hj hc, atI_nat, hv, oD_eq, okD_oD, pq_oD, List.getElem?_eq_getElem hs']
    by_cases h : s &&& c = c <;> by_cases h' : t[s] = some x <;> simp [h, h']
  simp -implicitDefEqProofs only [sat_exs, sat_exs_nil, sat_if, sat_asg, sat_asgT, sat_setix, sat_ex, sat_ret, sat_retN, sat_pass, sat_brk, sat_cnt, sat_raise, sat_evB, sat_ite, sat_for, rest_nx, rest_ret, sat_var, sat_non, sat_bl, sat_int, sat_str, sat_bin, sat_neg, sat_cmp, sat_chain, sat_isN, sat_notN, sat_and, sat_or, sat_not, sat_ifE, sat_tup, sat_lst, sat_ix, sat_slN, sat_slLv, sat_slHv, sat_slLb, sat_slHb, sat_slLi, sat_slHi, sat_slLc, sat_slHc, sat_cal, sat_bi, sat_isi, sat_isis, sat_me, sat_lc, sat_lcIf, sat_lcF, sat_lcFi, sat_lrng, sat_isB, sat_rev1, rv1_l, rv1_t, List.reverse_cons, List.reverse_nil, sat_orv, orvK_int, orvK_non, intO_int, ex_bl, ex_lst, sat_box, sat_unbox, sat_esN, sat_esC, ex_d, ex_int, ex_fl, ex_obj, ex_cell, ex_oi, kept_non, kept_int, kept_tup, kept_lst, kept_str, kept_scr, kept_self, ex_setx, ex_j, shl1, Int.toNat_natCast, Int.natCast_nonneg, start, bin_ii, bin_ll, bin_tt, bin_ss, bin_li, bin_ti, rg_1, rg_2, int_add, int_sub, int_mul, int_fdiv, int_mod, int_pow, int_shl, int_shr, int_band, int_bor, int_bxor, cmp_eq, cmp_ne, cmp_in, cmp_nin, cmp_lt, cmp_le, cmp_gt, cmp_ge, eq_op, in_lst, in_tup, ix_lst, ix_tup, ix_scr, ix_str, sl_lst, sl_tup, sl_str, end_t, end_i, bi_len_l, bi_len_t, bi_len_c, bi_len_s, bi_abs, bi_sum, bi_maxl, bi_minl, bi_max2, bi_min2, bi_any, bi_all, bi_int_i, bi_int_b, bi_list_l, bi_list_t, bi_tuple_l, bi_tuple_t, bi_sorted, bi_sset, ty_non, ty_bl, ty_int, ty_str, ty_lst, ty_tup, ty_scr, toB_bl, set_n, set_t, set_tl, it_seq_l, it_seq_t, it_seq_s, it_rng1, it_rng2, it_enm, it_enmT, it_zp_l, it_zp_t, it_rev_l, it_rev_t, me_append, me_extend, me_pop, me_reverse, me_count, ty_int_int, ty_int_bool, ty_bool_int, ty_bool_bool, ty_list_list, ty_tuple_tuple, ty_list_tuple, ty_tuple_list, ty_tuple_int, ty_tuple_bool, ty_int_tuple, ty_str_str, isNonE, toD_d, toD_fl, clo_d, clo_fl, eqB_nn, eqB_bb, eqB_bi, eqB_ib, eqB_ii, eqB_ss, eqB_ll, eqB_tt, eqB_ni, eqB_in, eqBs_00, eqBs_0c, eqBs_c0, eqBs_cc, okD, okDs, flat, small, powOk, mulOk, most, natAbs_1, natAbs_2, natAbs_10, Int.natAbs_natCast, wipe, intsOf, blsOf, pq_non, pq_bl, pq_int, pq_str, pq_tup, pq_lst, pq_scr, atI_0, atI_1, atI_2, ixN_0, ixN_1, D.closed, D.closeds, sat_ok, sat_bind, sat_guard, sat_err, Res.bind_ok, Res.bind_err, List.map_cons, List.map_nil, List.length_cons, List.length_nil, List.cons_append, List.nil_append, List.getElem?_cons_zero, List.getElem?_cons_succ, List.set_cons_zero, List.set_cons_succ, List.replicate, List.foldl_cons, List.foldl_nil, List.zip_cons_cons, List.zip_nil_left, List.zip_nil_right, Nat.reduceAdd, Nat.reduceSub, Nat.reduceLeDiff, Nat.reduceLT, Int.reduceLT, Int.reduceLE, Int.reduceNeg, Int.reducePow, Int.reduceToNat, Int.reduceAdd, Int.reduceMul, Int.reduceSub, Nat.reducePow, Nat.zero_add, Nat.add_zero, decide_true, decide_false, decide_eq_true_eq, beq_iff_eq, Bool.true_eq_false, reduceCtorEq, if_true, if_false, Bool.false_eq_true, true_and, and_true, Bool.true_and, Bool.and_true, Bool.false_and, Bool.and_false, Bool.not_true, Bool.not_false, Bool.or_true, Bool.true_or, Bool.or_false, Bool.false_or, Bool.and_eq_true, Bool.or_eq_true, Bool.not_eq_true', beq_self_eq_true, Option.map_some, Option.toList, if_true, if_false]
  exact ⟨by rw [List.length_range]; omega, closeds_iD _, rfl⟩
end
end Nl

/-! sorted(set(..)) of numbers, truths of lists. -/
namespace Nl
theorem intsOf_iD (xs : List Nat) : intsOf (xs.map iD) = some (xs.map fun x : Nat => (x : Int)) := intsOf_map (fun x : Nat => (x : Int)) xs
theorem range_lt (n : Nat) : (List.range n).Pairwise (· < ·) := List.pairwise_lt_range
/-- sorted(set(..)) of numbers below k, as those of range(k) that are in it -/
theorem sortU_range {k : Nat} {ns : List Nat} {p : Nat → Bool} (hp : ∀ x, x < k → (p x = true ↔ x ∈ ns)) (hk : ∀ x ∈ ns, x < k) : (sortU (ns.map fun x : Nat => (x : Int))).map D.int = ((List.range k).filter p).map iD := by
  have e : ((List.range k).filter p).map (fun x : Nat => (x : Int)) = sortU (ns.map fun x : Nat => (x : Int)) := by
    refine sortU_unique ?_ fun z => ?_
    · rw [List.pairwise_map]
      exact ((range_lt k).filter p).imp fun h => by omega
    · simp only [List.mem_map, List.mem_filter, List.mem_range]
      constructor
      · rintro ⟨x, ⟨h1, h2⟩, rfl⟩
        exact ⟨x, (hp x h1).mp h2, rfl⟩
      · rintro ⟨x, h1, rfl⟩
        exact ⟨x, ⟨hk x h1, (hp x (hk x h1)).mpr h1⟩, rfl⟩
  rw [← e, List.map_map]
  rfl
theorem sortU_range_len {k : Nat} {ns : List Nat} (hk : ∀ x ∈ ns, x < k) : (sortU (ns.map fun x : Nat => (x : Int))).length ≤ k := by
  have := congrArg List.length (sortU_range (k := k) (ns := ns) (p := fun x => decide (x ∈ ns)) (fun x _ => by simp) hk)
  rw [List.length_map, List.length_map] at this
  rw [this]
  have := List.length_filter_le (fun x => decide (x ∈ ns)) (List.range k)
  rwa [List.length_range] at this
theorem blsOf_map {α : Type} (f : α → Bool) : ∀ xs : List α, blsOf (xs.map fun x => D.bl (f x)) = some (xs.map f)
  | [] => rfl
  | x :: xs => by simp [blsOf, blsOf_map f xs]
end Nl

/-! More of what many laws need: all cuts, readable ones, a look at a writing. -/
namespace Nl
theorem eqBs_oD : ∀ t : List (Option Nat), eqBs (t.map oD) (t.map oD) = true
  | [] => rfl
  | x :: xs => by
    rw [List.map_cons, eqBs, eqBs_oD xs, Bool.and_true]
    cases x <;> simp [oD, eqB]
theorem some_iD : ∀ t : List (Option Nat), (t.filter Option.isSome).map oD = (t.filterMap id).map iD
  | [] => rfl
  | none :: xs => by
    rw [List.filter_cons, List.filterMap_cons]
    exact some_iD xs
  | some x :: xs => by
    rw [List.filter_cons, List.filterMap_cons]
    show oD (some x) :: _ = iD x :: _
    rw [some_iD xs]
    rfl
theorem mod_two_succ (x i : Nat) : x % 2 ^ (i + 1) = x % 2 ^ i + 2 ^ i * (x.testBit i).toNat := by
  rw [Nat.pow_succ, Nat.mod_mul, Nat.testBit_eq_decide_div_mod_eq]
  have : x / 2 ^ i % 2 = 0 ∨ x / 2 ^ i % 2 = 1 := by omega
  rcases this with e | e <;> simp [e]
/-- the cuts that read a number -/
def readL (t : List (Option Nat)) : List Nat := (List.range t.length).filter fun c => (t.getD c none).isSome
theorem mem_readL {t : List (Option Nat)} {c : Nat} : c ∈ readL t ↔ ∃ x, t[c]? = some (some x) := by
  unfold readL
  rw [List.mem_filter, List.mem_range, List.getD_eq_getElem?_getD]
  constructor
  · rintro ⟨h1, h2⟩
    rw [List.getElem?_eq_getElem h1] at h2 ⊢
    obtain ⟨x, hx⟩ := Option.isSome_iff_exists.mp h2
    exact ⟨x, congrArg some hx⟩
  · rintro ⟨x, hx⟩
    exact ⟨(List.getElem?_eq_some_iff.mp hx).1, by rw [hx]; rfl⟩
section
variable {gl : Nat → Option D} {fs : List Fn}
theorem spots_in_ok {m i n k : Nat} {t : List (Option Nat)} {S : Store} (hf : fs[i]? = some f_spots_in_67fa) : call gl fs (m + 1) i [wrD n k t] S = .ok (.d (.int n), S) := by
  rw [← sat_def]
  refine sat_call hf rfl rfl (by simp only [D.closeds, wr_closed, Bool.and_true]) ?_
  simp -implicitDefEqProofs only [sat_exs, sat_exs_nil, sat_if, sat_asg, sat_asgT, sat_setix, sat_ex, sat_ret, sat_retN, sat_pass, sat_brk, sat_cnt, sat_raise, sat_evB, sat_ite, sat_for, rest_nx, rest_ret, sat_var, sat_non, sat_bl, sat_int, sat_str, sat_bin, sat_neg, sat_cmp, sat_chain, sat_isN, sat_notN, sat_and, sat_or, sat_not, sat_ifE, sat_tup, sat_lst, sat_ix, sat_slN, sat_slLv, sat_slHv, sat_slLb, sat_slHb, sat_slLi, sat_slHi, sat_slLc, sat_slHc, sat_cal, sat_bi, sat_isi, sat_isis, sat_me, sat_lc, sat_lcIf, sat_lcF, sat_lcFi, sat_lrng, sat_isB, sat_rev1, rv1_l, rv1_t, List.reverse_cons, List.reverse_nil, sat_orv, orvK_int, orvK_non, intO_int, ex_bl, ex_lst, sat_box, sat_unbox, sat_esN, sat_esC, ex_d, ex_int, ex_fl, ex_obj, ex_cell, ex_oi, kept_non, kept_int, kept_tup, kept_lst, kept_str, kept_scr, kept_self, ex_setx, ex_j, shl1, Int.toNat_natCast, Int.natCast_nonneg, start, bin_ii, bin_ll, bin_tt, bin_ss, bin_li, bin_ti, rg_1, rg_2, int_add, int_sub, int_mul, int_fdiv, int_mod, int_pow, int_shl, int_shr, int_band, int_bor, int_bxor, cmp_eq, cmp_ne, cmp_in, cmp_nin, cmp_lt, cmp_le, cmp_gt, cmp_ge, eq_op, in_lst, in_tup, ix_lst, ix_tup, ix_scr, ix_str, sl_lst, sl_tup, sl_str, end_t, end_i, bi_len_l, bi_len_t, bi_len_c, bi_len_s, bi_abs, bi_sum, bi_maxl, bi_minl, bi_max2, bi_min2, bi_any, bi_all, bi_int_i, bi_int_b, bi_list_l, bi_list_t, bi_tuple_l, bi_tuple_t, bi_sorted, bi_sset, ty_non, ty_bl, ty_int, ty_str, ty_lst, ty_tup, ty_scr, toB_bl, set_n, set_t, set_tl, it_seq_l, it_seq_t, it_seq_s, it_rng1, it_rng2, it_enm, it_enmT, it_zp_l, it_zp_t, it_rev_l, it_rev_t, me_append, me_extend, me_pop, me_reverse, me_count, ty_int_int, ty_int_bool, ty_bool_int, ty_bool_bool, ty_list_list, ty_tuple_tuple, ty_list_tuple, ty_tuple_list, ty_tuple_int, ty_tuple_bool, ty_int_tuple, ty_str_str, isNonE, toD_d, toD_fl, clo_d, clo_fl, eqB_nn, eqB_bb, eqB_bi, eqB_ib, eqB_ii, eqB_ss, eqB_ll, eqB_tt, eqB_ni, eqB_in, eqBs_00, eqBs_0c, eqBs_c0, eqBs_cc, okD, okDs, flat, small, powOk, mulOk, most, natAbs_1, natAbs_2, natAbs_10, Int.natAbs_natCast, wipe, intsOf, blsOf, pq_non, pq_bl, pq_int, pq_str, pq_tup, pq_lst, pq_scr, atI_0, atI_1, atI_2, ixN_0, ixN_1, D.closed, D.closeds, sat_ok, sat_bind, sat_guard, sat_err, Res.bind_ok, Res.bind_err, List.map_cons, List.map_nil, List.length_cons, List.length_nil, List.cons_append, List.nil_append, List.getElem?_cons_zero, List.getElem?_cons_succ, List.set_cons_zero, List.set_cons_succ, List.replicate, List.foldl_cons, List.foldl_nil, List.zip_cons_cons, List.zip_nil_left, List.zip_nil_right, Nat.reduceAdd, Nat.reduceSub, Nat.reduceLeDiff, Nat.reduceLT, Int.reduceLT, Int.reduceLE, Int.reduceNeg, Int.reducePow, Int.reduceToNat, Int.reduceAdd, Int.reduceMul, Int.reduceSub, Nat.reducePow, Nat.zero_add, Nat.add_zero, decide_true, decide_false, decide_eq_true_eq, beq_iff_eq, Bool.true_eq_false, reduceCtorEq, if_true, if_false, Bool.false_eq_true, true_and, and_true, Bool.true_and, Bool.and_true, Bool.false_and, Bool.and_false, Bool.not_true, Bool.not_false, Bool.or_true, Bool.true_or, Bool.or_false, Bool.false_or, Bool.and_eq_true, Bool.or_eq_true, Bool.not_eq_true', beq_self_eq_true, Option.map_some, Option.toList, if_true, if_false, f_spots_in_67fa, wrD]
theorem reading_wr {m i n k c : Nat} {t : List (Option Nat)} {S : Store} (hf : fs[i]? = some f_reading_8431) (hc : c < t.length) : call gl fs (m + 1) i [wrD n k t, .int c] S = .ok (.d (oD t[c]), S) := reading_ok hf hc
theorem tab_set {n k : Nat} {t : List (Option Nat)} (ht : Tab n k t) {i : Nat} {x : Option Nat} (hx : ∀ y, x = some y → y < k) : Tab n k (t.set i x) := ⟨by rw [List.length_set]; exact ht.len, fun y hy => by
  rcases List.mem_or_eq_of_mem_set hy with h | h
  · exact ht.lt y h
  · exact hx y h.symm⟩
theorem numbers_in_ok {m i n k : Nat} {t : List (Option Nat)} {S : Store} (hf : fs[i]? = some f_numbers_in_f315) : call gl fs (m + 1) i [wrD n k t] S = .ok (.d (.int k), S) := by
  rw [← sat_def]
  refine sat_call hf rfl rfl (by simp only [D.closeds, wr_closed, Bool.and_true]) ?_
  simp -implicitDefEqProofs only [sat_exs, sat_exs_nil, sat_if, sat_asg, sat_asgT, sat_setix, sat_ex, sat_ret, sat_retN, sat_pass, sat_brk, sat_cnt, sat_raise, sat_evB, sat_ite, sat_for, rest_nx, rest_ret, sat_var, sat_non, sat_bl, sat_int, sat_str, sat_bin, sat_neg, sat_cmp, sat_chain, sat_isN, sat_notN, sat_and, sat_or, sat_not, sat_ifE, sat_tup, sat_lst, sat_ix, sat_slN, sat_slLv, sat_slHv, sat_slLb, sat_slHb, sat_slLi, sat_slHi, sat_slLc, sat_slHc, sat_cal, sat_bi, sat_isi, sat_isis, sat_me, sat_lc, sat_lcIf, sat_lcF, sat_lcFi, sat_lrng, sat_isB, sat_rev1, rv1_l, rv1_t, List.reverse_cons, List.reverse_nil, sat_orv, orvK_int, orvK_non, intO_int, ex_bl, ex_lst, sat_box, sat_unbox, sat_esN, sat_esC, ex_d, ex_int, ex_fl, ex_obj, ex_cell, ex_oi, kept_non, kept_int, kept_tup, kept_lst, kept_str, kept_scr, kept_self, ex_setx, ex_j, shl1, Int.toNat_natCast, Int.natCast_nonneg, start, bin_ii, bin_ll, bin_tt, bin_ss, bin_li, bin_ti, rg_1, rg_2, int_add, int_sub, int_mul, int_fdiv, int_mod, int_pow, int_shl, int_shr, int_band, int_bor, int_bxor, cmp_eq, cmp_ne, cmp_in, cmp_nin, cmp_lt, cmp_le, cmp_gt, cmp_ge, eq_op, in_lst, in_tup, ix_lst, ix_tup, ix_scr, ix_str, sl_lst, sl_tup, sl_str, end_t, end_i, bi_len_l, bi_len_t, bi_len_c, bi_len_s, bi_abs, bi_sum, bi_maxl, bi_minl, bi_max2, bi_min2, bi_any, bi_all, bi_int_i, bi_int_b, bi_list_l, bi_list_t, bi_tuple_l, bi_tuple_t, bi_sorted, bi_sset, ty_non, ty_bl, ty_int, ty_str, ty_lst, ty_tup, ty_scr, toB_bl, set_n, set_t, set_tl, it_seq_l, it_seq_t, it_seq_s, it_rng1, it_rng2, it_enm, it_enmT, it_zp_l, it_zp_t, it_rev_l, it_rev_t, me_append, me_extend, me_pop, me_reverse, me_count, ty_int_int, ty_int_bool, ty_bool_int, ty_bool_bool, ty_list_list, ty_tuple_tuple, ty_list_tuple, ty_tuple_list, ty_tuple_int, ty_tuple_bool, ty_int_tuple, ty_str_str, isNonE, toD_d, toD_fl, clo_d, clo_fl, eqB_nn, eqB_bb, eqB_bi, eqB_ib, eqB_ii, eqB_ss, eqB_ll, eqB_tt, eqB_ni, eqB_in, eqBs_00, eqBs_0c, eqBs_c0, eqBs_cc, okD, okDs, flat, small, powOk, mulOk, most, natAbs_1, natAbs_2, natAbs_10, Int.natAbs_natCast, wipe, intsOf, blsOf, pq_non, pq_bl, pq_int, pq_str, pq_tup, pq_lst, pq_scr, atI_0, atI_1, atI_2, ixN_0, ixN_1, D.closed, D.closeds, sat_ok, sat_bind, sat_guard, sat_err, Res.bind_ok, Res.bind_err, List.map_cons, List.map_nil, List.length_cons, List.length_nil, List.cons_append, List.nil_append, List.getElem?_cons_zero, List.getElem?_cons_succ, List.set_cons_zero, List.set_cons_succ, List.replicate, List.foldl_cons, List.foldl_nil, List.zip_cons_cons, List.zip_nil_left, List.zip_nil_right, Nat.reduceAdd, Nat.reduceSub, Nat.reduceLeDiff, Nat.reduceLT, Int.reduceLT, Int.reduceLE, Int.reduceNeg, Int.reducePow, Int.reduceToNat, Int.reduceAdd, Int.reduceMul, Int.reduceSub, Nat.reducePow, Nat.zero_add, Nat.add_zero, decide_true, decide_false, decide_eq_true_eq, beq_iff_eq, Bool.true_eq_false, reduceCtorEq, if_true, if_false, Bool.false_eq_true, true_and, and_true, Bool.true_and, Bool.and_true, Bool.false_and, Bool.and_false, Bool.not_true, Bool.not_false, Bool.or_true, Bool.true_or, Bool.or_false, Bool.false_or, Bool.and_eq_true, Bool.or_eq_true, Bool.not_eq_true', beq_self_eq_true, Option.map_some, Option.toList, if_true, if_false, f_numbers_in_f315, wrD]
theorem table_of_ok {m i n k : Nat} {t : List (Option Nat)} {S : Store} (hf : fs[i]? = some f_table_of_6333) : call gl fs (m + 1) i [wrD n k t] S = .ok (.d (.tup (t.map oD)), S) := by
  rw [← sat_def]
  refine sat_call hf rfl rfl (by simp only [D.closeds, wr_closed, Bool.and_true]) ?_
  simp -implicitDefEqProofs only [sat_exs, sat_exs_nil, sat_if, sat_asg, sat_asgT, sat_setix, sat_ex, sat_ret, sat_retN, sat_pass, sat_brk, sat_cnt, sat_raise, sat_evB, sat_ite, sat_for, rest_nx, rest_ret, sat_var, sat_non, sat_bl, sat_int, sat_str, sat_bin, sat_neg, sat_cmp, sat_chain, sat_isN, sat_notN, sat_and, sat_or, sat_not, sat_ifE, sat_tup, sat_lst, sat_ix, sat_slN, sat_slLv, sat_slHv, sat_slLb, sat_slHb, sat_slLi, sat_slHi, sat_slLc, sat_slHc, sat_cal, sat_bi, sat_isi, sat_isis, sat_me, sat_lc, sat_lcIf, sat_lcF, sat_lcFi, sat_lrng, sat_isB, sat_rev1, rv1_l, rv1_t, List.reverse_cons, List.reverse_nil, sat_orv, orvK_int, orvK_non, intO_int, ex_bl, ex_lst, sat_box, sat_unbox, sat_esN, sat_esC, ex_d, ex_int, ex_fl, ex_obj, ex_cell, ex_oi, kept_non, kept_int, kept_tup, kept_lst, kept_str, kept_scr, kept_self, ex_setx, ex_j, shl1, Int.toNat_natCast, Int.natCast_nonneg, start, bin_ii, bin_ll, bin_tt, bin_ss, bin_li, bin_ti, rg_1, rg_2, int_add, int_sub, int_mul, int_fdiv, int_mod, int_pow, int_shl, int_shr, int_band, int_bor, int_bxor, cmp_eq, cmp_ne, cmp_in, cmp_nin, cmp_lt, cmp_le, cmp_gt, cmp_ge, eq_op, in_lst, in_tup, ix_lst, ix_tup, ix_scr, ix_str, sl_lst, sl_tup, sl_str, end_t, end_i, bi_len_l, bi_len_t, bi_len_c, bi_len_s, bi_abs, bi_sum, bi_maxl, bi_minl, bi_max2, bi_min2, bi_any, bi_all, bi_int_i, bi_int_b, bi_list_l, bi_list_t, bi_tuple_l, bi_tuple_t, bi_sorted, bi_sset, ty_non, ty_bl, ty_int, ty_str, ty_lst, ty_tup, ty_scr, toB_bl, set_n, set_t, set_tl, it_seq_l, it_seq_t, it_seq_s, it_rng1, it_rng2, it_enm, it_enmT, it_zp_l, it_zp_t, it_rev_l, it_rev_t, me_append, me_extend, me_pop, me_reverse, me_count, ty_int_int, ty_int_bool, ty_bool_int, ty_bool_bool, ty_list_list, ty_tuple_tuple, ty_list_tuple, ty_tuple_list, ty_tuple_int, ty_tuple_bool, ty_int_tuple, ty_str_str, isNonE, toD_d, toD_fl, clo_d, clo_fl, eqB_nn, eqB_bb, eqB_bi, eqB_ib, eqB_ii, eqB_ss, eqB_ll, eqB_tt, eqB_ni, eqB_in, eqBs_00, eqBs_0c, eqBs_c0, eqBs_cc, okD, okDs, flat, small, powOk, mulOk, most, natAbs_1, natAbs_2, natAbs_10, Int.natAbs_natCast, wipe, intsOf, blsOf, pq_non, pq_bl, pq_int, pq_str, pq_tup, pq_lst, pq_scr, atI_0, atI_1, atI_2, ixN_0, ixN_1, D.closed, D.closeds, sat_ok, sat_bind, sat_guard, sat_err, Res.bind_ok, Res.bind_err, List.map_cons, List.map_nil, List.length_cons, List.length_nil, List.cons_append, List.nil_append, List.getElem?_cons_zero, List.getElem?_cons_succ, List.set_cons_zero, List.set_cons_succ, List.replicate, List.foldl_cons, List.foldl_nil, List.zip_cons_cons, List.zip_nil_left, List.zip_nil_right, Nat.reduceAdd, Nat.reduceSub, Nat.reduceLeDiff, Nat.reduceLT, Int.reduceLT, Int.reduceLE, Int.reduceNeg, Int.reducePow, Int.reduceToNat, Int.reduceAdd, Int.reduceMul, Int.reduceSub, Nat.reducePow, Nat.zero_add, Nat.add_zero, decide_true, decide_false, decide_eq_true_eq, beq_iff_eq, Bool.true_eq_false, reduceCtorEq, if_true, if_false, Bool.false_eq_true, true_and, and_true, Bool.true_and, Bool.and_true, Bool.false_and, Bool.and_false, Bool.not_true, Bool.not_false, Bool.or_true, Bool.true_or, Bool.or_false, Bool.false_or, Bool.and_eq_true, Bool.or_eq_true, Bool.not_eq_true', beq_self_eq_true, Option.map_some, Option.toList, if_true, if_false, f_table_of_6333, wrD, closeds_oD]
theorem all_cuts_ok {m i n : Nat} {S : Store} (hf : fs[i]? = some f_all_cuts_5693) (hn : n ≤ 8) : call gl fs (m + 1) i [.int n] S = .ok (.fl ((List.range (2 ^ n)).map iD), S) := by
  rw [← sat_def]
  have p8 := pow_le_256 hn
  refine sat_call hf rfl rfl rfl ?_
  generalize hN : 2 ^ n = N at *
  simp -implicitDefEqProofs only [sat_exs, sat_exs_nil, sat_if, sat_asg, sat_asgT, sat_setix, sat_ex, sat_ret, sat_retN, sat_pass, sat_brk, sat_cnt, sat_raise, sat_evB, sat_ite, sat_for, rest_nx, rest_ret, sat_var, sat_non, sat_bl, sat_int, sat_str, sat_bin, sat_neg, sat_cmp, sat_chain, sat_isN, sat_notN, sat_and, sat_or, sat_not, sat_ifE, sat_tup, sat_lst, sat_ix, sat_slN, sat_slLv, sat_slHv, sat_slLb, sat_slHb, sat_slLi, sat_slHi, sat_slLc, sat_slHc, sat_cal, sat_bi, sat_isi, sat_isis, sat_me, sat_lc, sat_lcIf, sat_lcF, sat_lcFi, sat_lrng, sat_isB, sat_rev1, rv1_l, rv1_t, List.reverse_cons, List.reverse_nil, sat_orv, orvK_int, orvK_non, intO_int, ex_bl, ex_lst, sat_box, sat_unbox, sat_esN, sat_esC, ex_d, ex_int, ex_fl, ex_obj, ex_cell, ex_oi, kept_non, kept_int, kept_tup, kept_lst, kept_str, kept_scr, kept_self, ex_setx, ex_j, shl1, Int.toNat_natCast, Int.natCast_nonneg, start, bin_ii, bin_ll, bin_tt, bin_ss, bin_li, bin_ti, rg_1, rg_2, int_add, int_sub, int_mul, int_fdiv, int_mod, int_pow, int_shl, int_shr, int_band, int_bor, int_bxor, cmp_eq, cmp_ne, cmp_in, cmp_nin, cmp_lt, cmp_le, cmp_gt, cmp_ge, eq_op, in_lst, in_tup, ix_lst, ix_tup, ix_scr, ix_str, sl_lst, sl_tup, sl_str, end_t, end_i, bi_len_l, bi_len_t, bi_len_c, bi_len_s, bi_abs, bi_sum, bi_maxl, bi_minl, bi_max2, bi_min2, bi_any, bi_all, bi_int_i, bi_int_b, bi_list_l, bi_list_t, bi_tuple_l, bi_tuple_t, bi_sorted, bi_sset, ty_non, ty_bl, ty_int, ty_str, ty_lst, ty_tup, ty_scr, toB_bl, set_n, set_t, set_tl, it_seq_l, it_seq_t, it_seq_s, it_rng1, it_rng2, it_enm, it_enmT, it_zp_l, it_zp_t, it_rev_l, it_rev_t, me_append, me_extend, me_pop, me_reverse, me_count, ty_int_int, ty_int_bool, ty_bool_int, ty_bool_bool, ty_list_list, ty_tuple_tuple, ty_list_tuple, ty_tuple_list, ty_tuple_int, ty_tuple_bool, ty_int_tuple, ty_str_str, isNonE, toD_d, toD_fl, clo_d, clo_fl, eqB_nn, eqB_bb, eqB_bi, eqB_ib, eqB_ii, eqB_ss, eqB_ll, eqB_tt, eqB_ni, eqB_in, eqBs_00, eqBs_0c, eqBs_c0, eqBs_cc, okD, okDs, flat, small, powOk, mulOk, most, natAbs_1, natAbs_2, natAbs_10, Int.natAbs_natCast, wipe, intsOf, blsOf, pq_non, pq_bl, pq_int, pq_str, pq_tup, pq_lst, pq_scr, atI_0, atI_1, atI_2, ixN_0, ixN_1, D.closed, D.closeds, sat_ok, sat_bind, sat_guard, sat_err, Res.bind_ok, Res.bind_err, List.map_cons, List.map_nil, List.length_cons, List.length_nil, List.cons_append, List.nil_append, List.getElem?_cons_zero, List.getElem?_cons_succ, List.set_cons_zero, List.set_cons_succ, List.replicate, List.foldl_cons, List.foldl_nil, List.zip_cons_cons, List.zip_nil_left, List.zip_nil_right, Nat.reduceAdd, Nat.reduceSub, Nat.reduceLeDiff, Nat.reduceLT, Int.reduceLT, Int.reduceLE, Int.reduceNeg, Int.reducePow, Int.reduceToNat, Int.reduceAdd, Int.reduceMul, Int.reduceSub, Nat.reducePow, Nat.zero_add, Nat.add_zero, decide_true, decide_false, decide_eq_true_eq, beq_iff_eq, Bool.true_eq_false, reduceCtorEq, if_true, if_false, Bool.false_eq_true, true_and, and_true, Bool.true_and, Bool.and_true, Bool.false_and, Bool.and_false, Bool.not_true, Bool.not_false, Bool.or_true, Bool.true_or, Bool.or_false, Bool.false_or, Bool.and_eq_true, Bool.or_eq_true, Bool.not_eq_true', beq_self_eq_true, Option.map_some, Option.toList, if_true, if_false, f_all_cuts_5693, up0_eq, List.length_map, List.length_range, closeds_iD, hN]
  refine ⟨by omega, by omega, by omega⟩
theorem readable_ok {m i j n k : Nat} {t : List (Option Nat)} {S : Store} (hf : fs[i]? = some (f_readable_f297 j)) (hj : fs[j]? = some f_all_cuts_5693) (hn : n ≤ 8) (ht : t.length = 2 ^ n) : call gl fs (m + 2) i [wrD n k t] S = .ok (.fl ((readL t).map iD), S) := by
  rw [← sat_def]
  have p8 := pow_le_256 hn
  refine sat_call hf rfl rfl (by simp only [D.closeds, wr_closed, Bool.and_true]) ?_
  simp -implicitDefEqProofs only [sat_exs, sat_exs_nil, sat_if, sat_asg, sat_asgT, sat_setix, sat_ex, sat_ret, sat_retN, sat_pass, sat_brk, sat_cnt, sat_raise, sat_evB, sat_ite, sat_for, rest_nx, rest_ret, sat_var, sat_non, sat_bl, sat_int, sat_str, sat_bin, sat_neg, sat_cmp, sat_chain, sat_isN, sat_notN, sat_and, sat_or, sat_not, sat_ifE, sat_tup, sat_lst, sat_ix, sat_slN, sat_slLv, sat_slHv, sat_slLb, sat_slHb, sat_slLi, sat_slHi, sat_slLc, sat_slHc, sat_cal, sat_bi, sat_isi, sat_isis, sat_me, sat_lc, sat_lcIf, sat_lcF, sat_lcFi, sat_lrng, sat_isB, sat_rev1, rv1_l, rv1_t, List.reverse_cons, List.reverse_nil, sat_orv, orvK_int, orvK_non, intO_int, ex_bl, ex_lst, sat_box, sat_unbox, sat_esN, sat_esC, ex_d, ex_int, ex_fl, ex_obj, ex_cell, ex_oi, kept_non, kept_int, kept_tup, kept_lst, kept_str, kept_scr, kept_self, ex_setx, ex_j, shl1, Int.toNat_natCast, Int.natCast_nonneg, start, bin_ii, bin_ll, bin_tt, bin_ss, bin_li, bin_ti, rg_1, rg_2, int_add, int_sub, int_mul, int_fdiv, int_mod, int_pow, int_shl, int_shr, int_band, int_bor, int_bxor, cmp_eq, cmp_ne, cmp_in, cmp_nin, cmp_lt, cmp_le, cmp_gt, cmp_ge, eq_op, in_lst, in_tup, ix_lst, ix_tup, ix_scr, ix_str, sl_lst, sl_tup, sl_str, end_t, end_i, bi_len_l, bi_len_t, bi_len_c, bi_len_s, bi_abs, bi_sum, bi_maxl, bi_minl, bi_max2, bi_min2, bi_any, bi_all, bi_int_i, bi_int_b, bi_list_l, bi_list_t, bi_tuple_l, bi_tuple_t, bi_sorted, bi_sset, ty_non, ty_bl, ty_int, ty_str, ty_lst, ty_tup, ty_scr, toB_bl, set_n, set_t, set_tl, it_seq_l, it_seq_t, it_seq_s, it_rng1, it_rng2, it_enm, it_enmT, it_zp_l, it_zp_t, it_rev_l, it_rev_t, me_append, me_extend, me_pop, me_reverse, me_count, ty_int_int, ty_int_bool, ty_bool_int, ty_bool_bool, ty_list_list, ty_tuple_tuple, ty_list_tuple, ty_tuple_list, ty_tuple_int, ty_tuple_bool, ty_int_tuple, ty_str_str, isNonE, toD_d, toD_fl, clo_d, clo_fl, eqB_nn, eqB_bb, eqB_bi, eqB_ib, eqB_ii, eqB_ss, eqB_ll, eqB_tt, eqB_ni, eqB_in, eqBs_00, eqBs_0c, eqBs_c0, eqBs_cc, okD, okDs, flat, small, powOk, mulOk, most, natAbs_1, natAbs_2, natAbs_10, Int.natAbs_natCast, wipe, intsOf, blsOf, pq_non, pq_bl, pq_int, pq_str, pq_tup, pq_lst, pq_scr, atI_0, atI_1, atI_2, ixN_0, ixN_1, D.closed, D.closeds, sat_ok, sat_bind, sat_guard, sat_err, Res.bind_ok, Res.bind_err, List.map_cons, List.map_nil, List.length_cons, List.length_nil, List.cons_append, List.nil_append, List.getElem?_cons_zero, List.getElem?_cons_succ, List.set_cons_zero, List.set_cons_succ, List.replicate, List.foldl_cons, List.foldl_nil, List.zip_cons_cons, List.zip_nil_left, List.zip_nil_right, Nat.reduceAdd, Nat.reduceSub, Nat.reduceLeDiff, Nat.reduceLT, Int.reduceLT, Int.reduceLE, Int.reduceNeg, Int.reducePow, Int.reduceToNat, Int.reduceAdd, Int.reduceMul, Int.reduceSub, Nat.reducePow, Nat.zero_add, Nat.add_zero, decide_true, decide_false, decide_eq_true_eq, beq_iff_eq, Bool.true_eq_false, reduceCtorEq, if_true, if_false, Bool.false_eq_true, true_and, and_true, Bool.true_and, Bool.and_true, Bool.false_and, Bool.and_false, Bool.not_true, Bool.not_false, Bool.or_true, Bool.true_or, Bool.or_false, Bool.false_or, Bool.and_eq_true, Bool.or_eq_true, Bool.not_eq_true', beq_self_eq_true, Option.map_some, Option.toList, if_true, if_false, f_readable_f297, wrD, all_cuts_ok hj hn]
  rw [sat_eq (compL_fi (p := fun c => (t.getD c none).isSome) (h := iD) (by simp [kept]) ?c1)]
  case c1 =>
    intro c hc
    have hc := List.mem_range.mp hc
    have hc' : c < t.length := by omega
    have e : t.getD c none = t[c] := by rw [List.getD_eq_getElem?_getD, List.getElem?_eq_getElem hc']; rfl
    simp -implicitDefEqProofs only [sat_exs, sat_exs_nil, sat_if, sat_asg, sat_asgT, sat_setix, sat_ex, sat_ret, sat_retN, sat_pass, sat_brk, sat_cnt, sat_raise, sat_evB, sat_ite, sat_for, rest_nx, rest_ret, sat_var, sat_non, sat_bl, sat_int, sat_str, sat_bin, sat_neg, sat_cmp, sat_chain, sat_isN, sat_notN, sat_and, sat_or, sat_not, sat_ifE, sat_tup, sat_lst, sat_ix, sat_slN, sat_slLv, sat_slHv, sat_slLb, sat_slHb, sat_slLi, sat_slHi, sat_slLc, sat_slHc, sat_cal, sat_bi, sat_isi, sat_isis, sat_me, sat_lc, sat_lcIf, sat_lcF, sat_lcFi, sat_lrng, sat_isB, sat_rev1, rv1_l, rv1_t, List.reverse_cons, List.reverse_nil, sat_orv, orvK_int, orvK_non, intO_int, ex_bl, ex_lst, sat_box, sat_unbox, sat_esN, sat_esC, ex_d, ex_int, ex_fl, ex_obj, ex_cell, ex_oi, kept_non, kept_int, kept_tup, kept_lst, kept_str, kept_scr, kept_self, ex_setx, ex_j, shl1, Int.toNat_natCast, Int.natCast_nonneg, start, bin_ii, bin_ll, bin_tt, bin_ss, bin_li, bin_ti, rg_1, rg_2, int_add, int_sub, int_mul, int_fdiv, int_mod, int_pow, int_shl, int_shr, int_band, int_bor, int_bxor, cmp_eq, cmp_ne, cmp_in, cmp_nin, cmp_lt, cmp_le, cmp_gt, cmp_ge, eq_op, in_lst, in_tup, ix_lst, ix_tup, ix_scr, ix_str, sl_lst, sl_tup, sl_str, end_t, end_i, bi_len_l, bi_len_t, bi_len_c, bi_len_s, bi_abs, bi_sum, bi_maxl, bi_minl, bi_max2, bi_min2, bi_any, bi_all, bi_int_i, bi_int_b, bi_list_l, bi_list_t, bi_tuple_l, bi_tuple_t, bi_sorted, bi_sset, ty_non, ty_bl, ty_int, ty_str, ty_lst, ty_tup, ty_scr, toB_bl, set_n, set_t, set_tl, it_seq_l, it_seq_t, it_seq_s, it_rng1, it_rng2, it_enm, it_enmT, it_zp_l, it_zp_t, it_rev_l, it_rev_t, me_append, me_extend, me_pop, me_reverse, me_count, ty_int_int, ty_int_bool, ty_bool_int, ty_bool_bool, ty_list_list, ty_tuple_tuple, ty_list_tuple, ty_tuple_list, ty_tuple_int, ty_tuple_bool, ty_int_tuple, ty_str_str, isNonE, toD_d, toD_fl, clo_d, clo_fl, eqB_nn, eqB_bb, eqB_bi, eqB_ib, eqB_ii, eqB_ss, eqB_ll, eqB_tt, eqB_ni, eqB_in, eqBs_00, eqBs_0c, eqBs_c0, eqBs_cc, okD, okDs, flat, small, powOk, mulOk, most, natAbs_1, natAbs_2, natAbs_10, Int.natAbs_natCast, wipe, intsOf, blsOf, pq_non, pq_bl, pq_int, pq_str, pq_tup, pq_lst, pq_scr, atI_0, atI_1, atI_2, ixN_0, ixN_1, D.closed, D.closeds, sat_ok, sat_bind, sat_guard, sat_err, Res.bind_ok, Res.bind_err, List.map_cons, List.map_nil, List.length_cons, List.length_nil, List.cons_append, List.nil_append, List.getElem?_cons_zero, List.getElem?_cons_succ, List.set_cons_zero, List.set_cons_succ, List.replicate, List.foldl_cons, List.foldl_nil, List.zip_cons_cons, List.zip_nil_left, List.zip_nil_right, Nat.reduceAdd, Nat.reduceSub, Nat.reduceLeDiff, Nat.reduceLT, Int.reduceLT, Int.reduceLE, Int.reduceNeg, Int.reducePow, Int.reduceToNat, Int.reduceAdd, Int.reduceMul, Int.reduceSub, Nat.reducePow, Nat.zero_add, Nat.add_zero, decide_true, decide_false, decide_eq_true_eq, beq_iff_eq, Bool.true_eq_false, reduceCtorEq, if_true, if_false, Bool.false_eq_true, true_and, and_true, Bool.true_and, Bool.and_true, Bool.false_and, Bool.and_false, Bool.not_true, Bool.not_false, Bool.or_true, Bool.true_or, Bool.or_false, Bool.false_or, Bool.and_eq_true, Bool.or_eq_true, Bool.not_eq_true', beq_self_eq_true, Option.map_some, Option.toList, if_true, if_false, sat_lcFi, iD, atI_nat, List.getElem?_map, List.getElem?_eq_getElem hc', e]
    cases t[c] <;> simp -implicitDefEqProofs only [sat_exs, sat_exs_nil, sat_if, sat_asg, sat_asgT, sat_setix, sat_ex, sat_ret, sat_retN, sat_pass, sat_brk, sat_cnt, sat_raise, sat_evB, sat_ite, sat_for, rest_nx, rest_ret, sat_var, sat_non, sat_bl, sat_int, sat_str, sat_bin, sat_neg, sat_cmp, sat_chain, sat_isN, sat_notN, sat_and, sat_or, sat_not, sat_ifE, sat_tup, sat_lst, sat_ix, sat_slN, sat_slLv, sat_slHv, sat_slLb, sat_slHb, sat_slLi, sat_slHi, sat_slLc, sat_slHc, sat_cal, sat_bi, sat_isi, sat_isis, sat_me, sat_lc, sat_lcIf, sat_lcF, sat_lcFi, sat_lrng, sat_isB, sat_rev1, rv1_l, rv1_t, List.reverse_cons, List.reverse_nil, sat_orv, orvK_int, orvK_non, intO_int, ex_bl, ex_lst, sat_box, sat_unbox, sat_esN, sat_esC, ex_d, ex_int, ex_fl, ex_obj, ex_cell, ex_oi, kept_non, kept_int, kept_tup, kept_lst, kept_str, kept_scr, kept_self, ex_setx, ex_j, shl1, Int.toNat_natCast, Int.natCast_nonneg, start, bin_ii, bin_ll, bin_tt, bin_ss, bin_li, bin_ti, rg_1, rg_2, int_add, int_sub, int_mul, int_fdiv, int_mod, int_pow, int_shl, int_shr, int_band, int_bor, int_bxor, cmp_eq, cmp_ne, cmp_in, cmp_nin, cmp_lt, cmp_le, cmp_gt, cmp_ge, eq_op, in_lst, in_tup, ix_lst, ix_tup, ix_scr, ix_str, sl_lst, sl_tup, sl_str, end_t, end_i, bi_len_l, bi_len_t, bi_len_c, bi_len_s, bi_abs, bi_sum, bi_maxl, bi_minl, bi_max2, bi_min2, bi_any, bi_all, bi_int_i, bi_int_b, bi_list_l, bi_list_t, bi_tuple_l, bi_tuple_t, bi_sorted, bi_sset, ty_non, ty_bl, ty_int, ty_str, ty_lst, ty_tup, ty_scr, toB_bl, set_n, set_t, set_tl, it_seq_l, it_seq_t, it_seq_s, it_rng1, it_rng2, it_enm, it_enmT, it_zp_l, it_zp_t, it_rev_l, it_rev_t, me_append, me_extend, me_pop, me_reverse, me_count, ty_int_int, ty_int_bool, ty_bool_int, ty_bool_bool, ty_list_list, ty_tuple_tuple, ty_list_tuple, ty_tuple_list, ty_tuple_int, ty_tuple_bool, ty_int_tuple, ty_str_str, isNonE, toD_d, toD_fl, clo_d, clo_fl, eqB_nn, eqB_bb, eqB_bi, eqB_ib, eqB_ii, eqB_ss, eqB_ll, eqB_tt, eqB_ni, eqB_in, eqBs_00, eqBs_0c, eqBs_c0, eqBs_cc, okD, okDs, flat, small, powOk, mulOk, most, natAbs_1, natAbs_2, natAbs_10, Int.natAbs_natCast, wipe, intsOf, blsOf, pq_non, pq_bl, pq_int, pq_str, pq_tup, pq_lst, pq_scr, atI_0, atI_1, atI_2, ixN_0, ixN_1, D.closed, D.closeds, sat_ok, sat_bind, sat_guard, sat_err, Res.bind_ok, Res.bind_err, List.map_cons, List.map_nil, List.length_cons, List.length_nil, List.cons_append, List.nil_append, List.getElem?_cons_zero, List.getElem?_cons_succ, List.set_cons_zero, List.set_cons_succ, List.replicate, List.foldl_cons, List.foldl_nil, List.zip_cons_cons, List.zip_nil_left, List.zip_nil_right, Nat.reduceAdd, Nat.reduceSub, Nat.reduceLeDiff, Nat.reduceLT, Int.reduceLT, Int.reduceLE, Int.reduceNeg, Int.reducePow, Int.reduceToNat, Int.reduceAdd, Int.reduceMul, Int.reduceSub, Nat.reducePow, Nat.zero_add, Nat.add_zero, decide_true, decide_false, decide_eq_true_eq, beq_iff_eq, Bool.true_eq_false, reduceCtorEq, if_true, if_false, Bool.false_eq_true, true_and, and_true, Bool.true_and, Bool.and_true, Bool.false_and, Bool.and_false, Bool.not_true, Bool.not_false, Bool.or_true, Bool.true_or, Bool.or_false, Bool.false_or, Bool.and_eq_true, Bool.or_eq_true, Bool.not_eq_true', beq_self_eq_true, Option.map_some, Option.toList, if_true, if_false, oD, Option.isSome]
  simp -implicitDefEqProofs only [sat_exs, sat_exs_nil, sat_if, sat_asg, sat_asgT, sat_setix, sat_ex, sat_ret, sat_retN, sat_pass, sat_brk, sat_cnt, sat_raise, sat_evB, sat_ite, sat_for, rest_nx, rest_ret, sat_var, sat_non, sat_bl, sat_int, sat_str, sat_bin, sat_neg, sat_cmp, sat_chain, sat_isN, sat_notN, sat_and, sat_or, sat_not, sat_ifE, sat_tup, sat_lst, sat_ix, sat_slN, sat_slLv, sat_slHv, sat_slLb, sat_slHb, sat_slLi, sat_slHi, sat_slLc, sat_slHc, sat_cal, sat_bi, sat_isi, sat_isis, sat_me, sat_lc, sat_lcIf, sat_lcF, sat_lcFi, sat_lrng, sat_isB, sat_rev1, rv1_l, rv1_t, List.reverse_cons, List.reverse_nil, sat_orv, orvK_int, orvK_non, intO_int, ex_bl, ex_lst, sat_box, sat_unbox, sat_esN, sat_esC, ex_d, ex_int, ex_fl, ex_obj, ex_cell, ex_oi, kept_non, kept_int, kept_tup, kept_lst, kept_str, kept_scr, kept_self, ex_setx, ex_j, shl1, Int.toNat_natCast, Int.natCast_nonneg, start, bin_ii, bin_ll, bin_tt, bin_ss, bin_li, bin_ti, rg_1, rg_2, int_add, int_sub, int_mul, int_fdiv, int_mod, int_pow, int_shl, int_shr, int_band, int_bor, int_bxor, cmp_eq, cmp_ne, cmp_in, cmp_nin, cmp_lt, cmp_le, cmp_gt, cmp_ge, eq_op, in_lst, in_tup, ix_lst, ix_tup, ix_scr, ix_str, sl_lst, sl_tup, sl_str, end_t, end_i, bi_len_l, bi_len_t, bi_len_c, bi_len_s, bi_abs, bi_sum, bi_maxl, bi_minl, bi_max2, bi_min2, bi_any, bi_all, bi_int_i, bi_int_b, bi_list_l, bi_list_t, bi_tuple_l, bi_tuple_t, bi_sorted, bi_sset, ty_non, ty_bl, ty_int, ty_str, ty_lst, ty_tup, ty_scr, toB_bl, set_n, set_t, set_tl, it_seq_l, it_seq_t, it_seq_s, it_rng1, it_rng2, it_enm, it_enmT, it_zp_l, it_zp_t, it_rev_l, it_rev_t, me_append, me_extend, me_pop, me_reverse, me_count, ty_int_int, ty_int_bool, ty_bool_int, ty_bool_bool, ty_list_list, ty_tuple_tuple, ty_list_tuple, ty_tuple_list, ty_tuple_int, ty_tuple_bool, ty_int_tuple, ty_str_str, isNonE, toD_d, toD_fl, clo_d, clo_fl, eqB_nn, eqB_bb, eqB_bi, eqB_ib, eqB_ii, eqB_ss, eqB_ll, eqB_tt, eqB_ni, eqB_in, eqBs_00, eqBs_0c, eqBs_c0, eqBs_cc, okD, okDs, flat, small, powOk, mulOk, most, natAbs_1, natAbs_2, natAbs_10, Int.natAbs_natCast, wipe, intsOf, blsOf, pq_non, pq_bl, pq_int, pq_str, pq_tup, pq_lst, pq_scr, atI_0, atI_1, atI_2, ixN_0, ixN_1, D.closed, D.closeds, sat_ok, sat_bind, sat_guard, sat_err, Res.bind_ok, Res.bind_err, List.map_cons, List.map_nil, List.length_cons, List.length_nil, List.cons_append, List.nil_append, List.getElem?_cons_zero, List.getElem?_cons_succ, List.set_cons_zero, List.set_cons_succ, List.replicate, List.foldl_cons, List.foldl_nil, List.zip_cons_cons, List.zip_nil_left, List.zip_nil_right, Nat.reduceAdd, Nat.reduceSub, Nat.reduceLeDiff, Nat.reduceLT, Int.reduceLT, Int.reduceLE, Int.reduceNeg, Int.reducePow, Int.reduceToNat, Int.reduceAdd, Int.reduceMul, Int.reduceSub, Nat.reducePow, Nat.zero_add, Nat.add_zero, decide_true, decide_false, decide_eq_true_eq, beq_iff_eq, Bool.true_eq_false, reduceCtorEq, if_true, if_false, Bool.false_eq_true, true_and, and_true, Bool.true_and, Bool.and_true, Bool.false_and, Bool.and_false, Bool.not_true, Bool.not_false, Bool.or_true, Bool.true_or, Bool.or_false, Bool.false_or, Bool.and_eq_true, Bool.or_eq_true, Bool.not_eq_true', beq_self_eq_true, Option.map_some, Option.toList, if_true, if_false, List.length_map, List.length_range]
  rw [closeds_iD]
  unfold readL
  rw [ht]
  exact ⟨by omega, rfl, rfl⟩
theorem is_ok {m i j n k : Nat} {t : List (Option Nat)} {S : Store} (hf : fs[i]? = some (f_law_is_d1b5 j)) (hj : fs[j]? = some f_law_whole_a601) (ht : t.length ≤ 1000) : call gl fs (m + 2) i [wrD n k t, .int n, .int k, .lst (t.map oD)] S = .ok (.d (.bl true), S) := by
  rw [← sat_def]
  refine sat_call hf rfl rfl (by simp only [D.closeds, D.closed, wr_closed, closeds_oD, Bool.and_true]) ?_
  simp -implicitDefEqProofs only [sat_exs, sat_exs_nil, sat_if, sat_asg, sat_asgT, sat_setix, sat_ex, sat_ret, sat_retN, sat_pass, sat_brk, sat_cnt, sat_raise, sat_evB, sat_ite, sat_for, rest_nx, rest_ret, sat_var, sat_non, sat_bl, sat_int, sat_str, sat_bin, sat_neg, sat_cmp, sat_chain, sat_isN, sat_notN, sat_and, sat_or, sat_not, sat_ifE, sat_tup, sat_lst, sat_ix, sat_slN, sat_slLv, sat_slHv, sat_slLb, sat_slHb, sat_slLi, sat_slHi, sat_slLc, sat_slHc, sat_cal, sat_bi, sat_isi, sat_isis, sat_me, sat_lc, sat_lcIf, sat_lcF, sat_lcFi, sat_lrng, sat_isB, sat_rev1, rv1_l, rv1_t, List.reverse_cons, List.reverse_nil, sat_orv, orvK_int, orvK_non, intO_int, ex_bl, ex_lst, sat_box, sat_unbox, sat_esN, sat_esC, ex_d, ex_int, ex_fl, ex_obj, ex_cell, ex_oi, kept_non, kept_int, kept_tup, kept_lst, kept_str, kept_scr, kept_self, ex_setx, ex_j, shl1, Int.toNat_natCast, Int.natCast_nonneg, start, bin_ii, bin_ll, bin_tt, bin_ss, bin_li, bin_ti, rg_1, rg_2, int_add, int_sub, int_mul, int_fdiv, int_mod, int_pow, int_shl, int_shr, int_band, int_bor, int_bxor, cmp_eq, cmp_ne, cmp_in, cmp_nin, cmp_lt, cmp_le, cmp_gt, cmp_ge, eq_op, in_lst, in_tup, ix_lst, ix_tup, ix_scr, ix_str, sl_lst, sl_tup, sl_str, end_t, end_i, bi_len_l, bi_len_t, bi_len_c, bi_len_s, bi_abs, bi_sum, bi_maxl, bi_minl, bi_max2, bi_min2, bi_any, bi_all, bi_int_i, bi_int_b, bi_list_l, bi_list_t, bi_tuple_l, bi_tuple_t, bi_sorted, bi_sset, ty_non, ty_bl, ty_int, ty_str, ty_lst, ty_tup, ty_scr, toB_bl, set_n, set_t, set_tl, it_seq_l, it_seq_t, it_seq_s, it_rng1, it_rng2, it_enm, it_enmT, it_zp_l, it_zp_t, it_rev_l, it_rev_t, me_append, me_extend, me_pop, me_reverse, me_count, ty_int_int, ty_int_bool, ty_bool_int, ty_bool_bool, ty_list_list, ty_tuple_tuple, ty_list_tuple, ty_tuple_list, ty_tuple_int, ty_tuple_bool, ty_int_tuple, ty_str_str, isNonE, toD_d, toD_fl, clo_d, clo_fl, eqB_nn, eqB_bb, eqB_bi, eqB_ib, eqB_ii, eqB_ss, eqB_ll, eqB_tt, eqB_ni, eqB_in, eqBs_00, eqBs_0c, eqBs_c0, eqBs_cc, okD, okDs, flat, small, powOk, mulOk, most, natAbs_1, natAbs_2, natAbs_10, Int.natAbs_natCast, wipe, intsOf, blsOf, pq_non, pq_bl, pq_int, pq_str, pq_tup, pq_lst, pq_scr, atI_0, atI_1, atI_2, ixN_0, ixN_1, D.closed, D.closeds, sat_ok, sat_bind, sat_guard, sat_err, Res.bind_ok, Res.bind_err, List.map_cons, List.map_nil, List.length_cons, List.length_nil, List.cons_append, List.nil_append, List.getElem?_cons_zero, List.getElem?_cons_succ, List.set_cons_zero, List.set_cons_succ, List.replicate, List.foldl_cons, List.foldl_nil, List.zip_cons_cons, List.zip_nil_left, List.zip_nil_right, Nat.reduceAdd, Nat.reduceSub, Nat.reduceLeDiff, Nat.reduceLT, Int.reduceLT, Int.reduceLE, Int.reduceNeg, Int.reducePow, Int.reduceToNat, Int.reduceAdd, Int.reduceMul, Int.reduceSub, Nat.reducePow, Nat.zero_add, Nat.add_zero, decide_true, decide_false, decide_eq_true_eq, beq_iff_eq, Bool.true_eq_false, reduceCtorEq, if_true, if_false, Bool.false_eq_true, true_and, and_true, Bool.true_and, Bool.and_true, Bool.false_and, Bool.and_false, Bool.not_true, Bool.not_false, Bool.or_true, Bool.true_or, Bool.or_false, Bool.false_or, Bool.and_eq_true, Bool.or_eq_true, Bool.not_eq_true', beq_self_eq_true, Option.map_some, Option.toList, if_true, if_false, f_law_is_d1b5, wrD]
  rw [sat_eq (compL_fi (p := Option.isSome) (h := oD) (by simp [kept]) ?c1)]
  case c1 =>
    intro o ho
    cases o <;> simp -implicitDefEqProofs only [sat_exs, sat_exs_nil, sat_if, sat_asg, sat_asgT, sat_setix, sat_ex, sat_ret, sat_retN, sat_pass, sat_brk, sat_cnt, sat_raise, sat_evB, sat_ite, sat_for, rest_nx, rest_ret, sat_var, sat_non, sat_bl, sat_int, sat_str, sat_bin, sat_neg, sat_cmp, sat_chain, sat_isN, sat_notN, sat_and, sat_or, sat_not, sat_ifE, sat_tup, sat_lst, sat_ix, sat_slN, sat_slLv, sat_slHv, sat_slLb, sat_slHb, sat_slLi, sat_slHi, sat_slLc, sat_slHc, sat_cal, sat_bi, sat_isi, sat_isis, sat_me, sat_lc, sat_lcIf, sat_lcF, sat_lcFi, sat_lrng, sat_isB, sat_rev1, rv1_l, rv1_t, List.reverse_cons, List.reverse_nil, sat_orv, orvK_int, orvK_non, intO_int, ex_bl, ex_lst, sat_box, sat_unbox, sat_esN, sat_esC, ex_d, ex_int, ex_fl, ex_obj, ex_cell, ex_oi, kept_non, kept_int, kept_tup, kept_lst, kept_str, kept_scr, kept_self, ex_setx, ex_j, shl1, Int.toNat_natCast, Int.natCast_nonneg, start, bin_ii, bin_ll, bin_tt, bin_ss, bin_li, bin_ti, rg_1, rg_2, int_add, int_sub, int_mul, int_fdiv, int_mod, int_pow, int_shl, int_shr, int_band, int_bor, int_bxor, cmp_eq, cmp_ne, cmp_in, cmp_nin, cmp_lt, cmp_le, cmp_gt, cmp_ge, eq_op, in_lst, in_tup, ix_lst, ix_tup, ix_scr, ix_str, sl_lst, sl_tup, sl_str, end_t, end_i, bi_len_l, bi_len_t, bi_len_c, bi_len_s, bi_abs, bi_sum, bi_maxl, bi_minl, bi_max2, bi_min2, bi_any, bi_all, bi_int_i, bi_int_b, bi_list_l, bi_list_t, bi_tuple_l, bi_tuple_t, bi_sorted, bi_sset, ty_non, ty_bl, ty_int, ty_str, ty_lst, ty_tup, ty_scr, toB_bl, set_n, set_t, set_tl, it_seq_l, it_seq_t, it_seq_s, it_rng1, it_rng2, it_enm, it_enmT, it_zp_l, it_zp_t, it_rev_l, it_rev_t, me_append, me_extend, me_pop, me_reverse, me_count, ty_int_int, ty_int_bool, ty_bool_int, ty_bool_bool, ty_list_list, ty_tuple_tuple, ty_list_tuple, ty_tuple_list, ty_tuple_int, ty_tuple_bool, ty_int_tuple, ty_str_str, isNonE, toD_d, toD_fl, clo_d, clo_fl, eqB_nn, eqB_bb, eqB_bi, eqB_ib, eqB_ii, eqB_ss, eqB_ll, eqB_tt, eqB_ni, eqB_in, eqBs_00, eqBs_0c, eqBs_c0, eqBs_cc, okD, okDs, flat, small, powOk, mulOk, most, natAbs_1, natAbs_2, natAbs_10, Int.natAbs_natCast, wipe, intsOf, blsOf, pq_non, pq_bl, pq_int, pq_str, pq_tup, pq_lst, pq_scr, atI_0, atI_1, atI_2, ixN_0, ixN_1, D.closed, D.closeds, sat_ok, sat_bind, sat_guard, sat_err, Res.bind_ok, Res.bind_err, List.map_cons, List.map_nil, List.length_cons, List.length_nil, List.cons_append, List.nil_append, List.getElem?_cons_zero, List.getElem?_cons_succ, List.set_cons_zero, List.set_cons_succ, List.replicate, List.foldl_cons, List.foldl_nil, List.zip_cons_cons, List.zip_nil_left, List.zip_nil_right, Nat.reduceAdd, Nat.reduceSub, Nat.reduceLeDiff, Nat.reduceLT, Int.reduceLT, Int.reduceLE, Int.reduceNeg, Int.reducePow, Int.reduceToNat, Int.reduceAdd, Int.reduceMul, Int.reduceSub, Nat.reducePow, Nat.zero_add, Nat.add_zero, decide_true, decide_false, decide_eq_true_eq, beq_iff_eq, Bool.true_eq_false, reduceCtorEq, if_true, if_false, Bool.false_eq_true, true_and, and_true, Bool.true_and, Bool.and_true, Bool.false_and, Bool.and_false, Bool.not_true, Bool.not_false, Bool.or_true, Bool.true_or, Bool.or_false, Bool.false_or, Bool.and_eq_true, Bool.or_eq_true, Bool.not_eq_true', beq_self_eq_true, Option.map_some, Option.toList, if_true, if_false, sat_lcFi, oD, Option.isSome]
  simp -implicitDefEqProofs only [sat_exs, sat_exs_nil, sat_if, sat_asg, sat_asgT, sat_setix, sat_ex, sat_ret, sat_retN, sat_pass, sat_brk, sat_cnt, sat_raise, sat_evB, sat_ite, sat_for, rest_nx, rest_ret, sat_var, sat_non, sat_bl, sat_int, sat_str, sat_bin, sat_neg, sat_cmp, sat_chain, sat_isN, sat_notN, sat_and, sat_or, sat_not, sat_ifE, sat_tup, sat_lst, sat_ix, sat_slN, sat_slLv, sat_slHv, sat_slLb, sat_slHb, sat_slLi, sat_slHi, sat_slLc, sat_slHc, sat_cal, sat_bi, sat_isi, sat_isis, sat_me, sat_lc, sat_lcIf, sat_lcF, sat_lcFi, sat_lrng, sat_isB, sat_rev1, rv1_l, rv1_t, List.reverse_cons, List.reverse_nil, sat_orv, orvK_int, orvK_non, intO_int, ex_bl, ex_lst, sat_box, sat_unbox, sat_esN, sat_esC, ex_d, ex_int, ex_fl, ex_obj, ex_cell, ex_oi, kept_non, kept_int, kept_tup, kept_lst, kept_str, kept_scr, kept_self, ex_setx, ex_j, shl1, Int.toNat_natCast, Int.natCast_nonneg, start, bin_ii, bin_ll, bin_tt, bin_ss, bin_li, bin_ti, rg_1, rg_2, int_add, int_sub, int_mul, int_fdiv, int_mod, int_pow, int_shl, int_shr, int_band, int_bor, int_bxor, cmp_eq, cmp_ne, cmp_in, cmp_nin, cmp_lt, cmp_le, cmp_gt, cmp_ge, eq_op, in_lst, in_tup, ix_lst, ix_tup, ix_scr, ix_str, sl_lst, sl_tup, sl_str, end_t, end_i, bi_len_l, bi_len_t, bi_len_c, bi_len_s, bi_abs, bi_sum, bi_maxl, bi_minl, bi_max2, bi_min2, bi_any, bi_all, bi_int_i, bi_int_b, bi_list_l, bi_list_t, bi_tuple_l, bi_tuple_t, bi_sorted, bi_sset, ty_non, ty_bl, ty_int, ty_str, ty_lst, ty_tup, ty_scr, toB_bl, set_n, set_t, set_tl, it_seq_l, it_seq_t, it_seq_s, it_rng1, it_rng2, it_enm, it_enmT, it_zp_l, it_zp_t, it_rev_l, it_rev_t, me_append, me_extend, me_pop, me_reverse, me_count, ty_int_int, ty_int_bool, ty_bool_int, ty_bool_bool, ty_list_list, ty_tuple_tuple, ty_list_tuple, ty_tuple_list, ty_tuple_int, ty_tuple_bool, ty_int_tuple, ty_str_str, isNonE, toD_d, toD_fl, clo_d, clo_fl, eqB_nn, eqB_bb, eqB_bi, eqB_ib, eqB_ii, eqB_ss, eqB_ll, eqB_tt, eqB_ni, eqB_in, eqBs_00, eqBs_0c, eqBs_c0, eqBs_cc, okD, okDs, flat, small, powOk, mulOk, most, natAbs_1, natAbs_2, natAbs_10, Int.natAbs_natCast, wipe, intsOf, blsOf, pq_non, pq_bl, pq_int, pq_str, pq_tup, pq_lst, pq_scr, atI_0, atI_1, atI_2, ixN_0, ixN_1, D.closed, D.closeds, sat_ok, sat_bind, sat_guard, sat_err, Res.bind_ok, Res.bind_err, List.map_cons, List.map_nil, List.length_cons, List.length_nil, List.cons_append, List.nil_append, List.getElem?_cons_zero, List.getElem?_cons_succ, List.set_cons_zero, List.set_cons_succ, List.replicate, List.foldl_cons, List.foldl_nil, List.zip_cons_cons, List.zip_nil_left, List.zip_nil_right, Nat.reduceAdd, Nat.reduceSub, Nat.reduceLeDiff, Nat.reduceLT, Int.reduceLT, Int.reduceLE, Int.reduceNeg, Int.reducePow, Int.reduceToNat, Int.reduceAdd, Int.reduceMul, Int.reduceSub, Nat.reducePow, Nat.zero_add, Nat.add_zero, decide_true, decide_false, decide_eq_true_eq, beq_iff_eq, Bool.true_eq_false, reduceCtorEq, if_true, if_false, Bool.false_eq_true, true_and, and_true, Bool.true_and, Bool.and_true, Bool.false_and, Bool.and_false, Bool.not_true, Bool.not_false, Bool.or_true, Bool.true_or, Bool.or_false, Bool.false_or, Bool.and_eq_true, Bool.or_eq_true, Bool.not_eq_true', beq_self_eq_true, Option.map_some, Option.toList, if_true, if_false, some_iD, List.length_map]
  have hfl : (t.filterMap id).length ≤ t.length := List.length_filterMap_le _ _
  refine ⟨by omega, by omega, ?_⟩
  rw [show (D.int (n : Int) :: D.int (k : Int) :: (t.filterMap id).map iD) = (n :: k :: t.filterMap id).map iD from rfl, sat_eq (compL_fi (p := fun _ => false) (h := iD) (by simp [kept]) ?c2)]
  case c2 =>
    intro x hx
    simp -implicitDefEqProofs only [sat_exs, sat_exs_nil, sat_if, sat_asg, sat_asgT, sat_setix, sat_ex, sat_ret, sat_retN, sat_pass, sat_brk, sat_cnt, sat_raise, sat_evB, sat_ite, sat_for, rest_nx, rest_ret, sat_var, sat_non, sat_bl, sat_int, sat_str, sat_bin, sat_neg, sat_cmp, sat_chain, sat_isN, sat_notN, sat_and, sat_or, sat_not, sat_ifE, sat_tup, sat_lst, sat_ix, sat_slN, sat_slLv, sat_slHv, sat_slLb, sat_slHb, sat_slLi, sat_slHi, sat_slLc, sat_slHc, sat_cal, sat_bi, sat_isi, sat_isis, sat_me, sat_lc, sat_lcIf, sat_lcF, sat_lcFi, sat_lrng, sat_isB, sat_rev1, rv1_l, rv1_t, List.reverse_cons, List.reverse_nil, sat_orv, orvK_int, orvK_non, intO_int, ex_bl, ex_lst, sat_box, sat_unbox, sat_esN, sat_esC, ex_d, ex_int, ex_fl, ex_obj, ex_cell, ex_oi, kept_non, kept_int, kept_tup, kept_lst, kept_str, kept_scr, kept_self, ex_setx, ex_j, shl1, Int.toNat_natCast, Int.natCast_nonneg, start, bin_ii, bin_ll, bin_tt, bin_ss, bin_li, bin_ti, rg_1, rg_2, int_add, int_sub, int_mul, int_fdiv, int_mod, int_pow, int_shl, int_shr, int_band, int_bor, int_bxor, cmp_eq, cmp_ne, cmp_in, cmp_nin, cmp_lt, cmp_le, cmp_gt, cmp_ge, eq_op, in_lst, in_tup, ix_lst, ix_tup, ix_scr, ix_str, sl_lst, sl_tup, sl_str, end_t, end_i, bi_len_l, bi_len_t, bi_len_c, bi_len_s, bi_abs, bi_sum, bi_maxl, bi_minl, bi_max2, bi_min2, bi_any, bi_all, bi_int_i, bi_int_b, bi_list_l, bi_list_t, bi_tuple_l, bi_tuple_t, bi_sorted, bi_sset, ty_non, ty_bl, ty_int, ty_str, ty_lst, ty_tup, ty_scr, toB_bl, set_n, set_t, set_tl, it_seq_l, it_seq_t, it_seq_s, it_rng1, it_rng2, it_enm, it_enmT, it_zp_l, it_zp_t, it_rev_l, it_rev_t, me_append, me_extend, me_pop, me_reverse, me_count, ty_int_int, ty_int_bool, ty_bool_int, ty_bool_bool, ty_list_list, ty_tuple_tuple, ty_list_tuple, ty_tuple_list, ty_tuple_int, ty_tuple_bool, ty_int_tuple, ty_str_str, isNonE, toD_d, toD_fl, clo_d, clo_fl, eqB_nn, eqB_bb, eqB_bi, eqB_ib, eqB_ii, eqB_ss, eqB_ll, eqB_tt, eqB_ni, eqB_in, eqBs_00, eqBs_0c, eqBs_c0, eqBs_cc, okD, okDs, flat, small, powOk, mulOk, most, natAbs_1, natAbs_2, natAbs_10, Int.natAbs_natCast, wipe, intsOf, blsOf, pq_non, pq_bl, pq_int, pq_str, pq_tup, pq_lst, pq_scr, atI_0, atI_1, atI_2, ixN_0, ixN_1, D.closed, D.closeds, sat_ok, sat_bind, sat_guard, sat_err, Res.bind_ok, Res.bind_err, List.map_cons, List.map_nil, List.length_cons, List.length_nil, List.cons_append, List.nil_append, List.getElem?_cons_zero, List.getElem?_cons_succ, List.set_cons_zero, List.set_cons_succ, List.replicate, List.foldl_cons, List.foldl_nil, List.zip_cons_cons, List.zip_nil_left, List.zip_nil_right, Nat.reduceAdd, Nat.reduceSub, Nat.reduceLeDiff, Nat.reduceLT, Int.reduceLT, Int.reduceLE, Int.reduceNeg, Int.reducePow, Int.reduceToNat, Int.reduceAdd, Int.reduceMul, Int.reduceSub, Nat.reducePow, Nat.zero_add, Nat.add_zero, decide_true, decide_false, decide_eq_true_eq, beq_iff_eq, Bool.true_eq_false, reduceCtorEq, if_true, if_false, Bool.false_eq_true, true_and, and_true, Bool.true_and, Bool.and_true, Bool.false_and, Bool.and_false, Bool.not_true, Bool.not_false, Bool.or_true, Bool.true_or, Bool.or_false, Bool.false_or, Bool.and_eq_true, Bool.or_eq_true, Bool.not_eq_true', beq_self_eq_true, Option.map_some, Option.toList, if_true, if_false, sat_lcFi, iD, whole_ok hj]
  have f0 : ∀ xs : List Nat, xs.filter (fun _ => false) = [] := fun xs => by simp
  rw [f0]
  simp -implicitDefEqProofs only [sat_exs, sat_exs_nil, sat_if, sat_asg, sat_asgT, sat_setix, sat_ex, sat_ret, sat_retN, sat_pass, sat_brk, sat_cnt, sat_raise, sat_evB, sat_ite, sat_for, rest_nx, rest_ret, sat_var, sat_non, sat_bl, sat_int, sat_str, sat_bin, sat_neg, sat_cmp, sat_chain, sat_isN, sat_notN, sat_and, sat_or, sat_not, sat_ifE, sat_tup, sat_lst, sat_ix, sat_slN, sat_slLv, sat_slHv, sat_slLb, sat_slHb, sat_slLi, sat_slHi, sat_slLc, sat_slHc, sat_cal, sat_bi, sat_isi, sat_isis, sat_me, sat_lc, sat_lcIf, sat_lcF, sat_lcFi, sat_lrng, sat_isB, sat_rev1, rv1_l, rv1_t, List.reverse_cons, List.reverse_nil, sat_orv, orvK_int, orvK_non, intO_int, ex_bl, ex_lst, sat_box, sat_unbox, sat_esN, sat_esC, ex_d, ex_int, ex_fl, ex_obj, ex_cell, ex_oi, kept_non, kept_int, kept_tup, kept_lst, kept_str, kept_scr, kept_self, ex_setx, ex_j, shl1, Int.toNat_natCast, Int.natCast_nonneg, start, bin_ii, bin_ll, bin_tt, bin_ss, bin_li, bin_ti, rg_1, rg_2, int_add, int_sub, int_mul, int_fdiv, int_mod, int_pow, int_shl, int_shr, int_band, int_bor, int_bxor, cmp_eq, cmp_ne, cmp_in, cmp_nin, cmp_lt, cmp_le, cmp_gt, cmp_ge, eq_op, in_lst, in_tup, ix_lst, ix_tup, ix_scr, ix_str, sl_lst, sl_tup, sl_str, end_t, end_i, bi_len_l, bi_len_t, bi_len_c, bi_len_s, bi_abs, bi_sum, bi_maxl, bi_minl, bi_max2, bi_min2, bi_any, bi_all, bi_int_i, bi_int_b, bi_list_l, bi_list_t, bi_tuple_l, bi_tuple_t, bi_sorted, bi_sset, ty_non, ty_bl, ty_int, ty_str, ty_lst, ty_tup, ty_scr, toB_bl, set_n, set_t, set_tl, it_seq_l, it_seq_t, it_seq_s, it_rng1, it_rng2, it_enm, it_enmT, it_zp_l, it_zp_t, it_rev_l, it_rev_t, me_append, me_extend, me_pop, me_reverse, me_count, ty_int_int, ty_int_bool, ty_bool_int, ty_bool_bool, ty_list_list, ty_tuple_tuple, ty_list_tuple, ty_tuple_list, ty_tuple_int, ty_tuple_bool, ty_int_tuple, ty_str_str, isNonE, toD_d, toD_fl, clo_d, clo_fl, eqB_nn, eqB_bb, eqB_bi, eqB_ib, eqB_ii, eqB_ss, eqB_ll, eqB_tt, eqB_ni, eqB_in, eqBs_00, eqBs_0c, eqBs_c0, eqBs_cc, okD, okDs, flat, small, powOk, mulOk, most, natAbs_1, natAbs_2, natAbs_10, Int.natAbs_natCast, wipe, intsOf, blsOf, pq_non, pq_bl, pq_int, pq_str, pq_tup, pq_lst, pq_scr, atI_0, atI_1, atI_2, ixN_0, ixN_1, D.closed, D.closeds, sat_ok, sat_bind, sat_guard, sat_err, Res.bind_ok, Res.bind_err, List.map_cons, List.map_nil, List.length_cons, List.length_nil, List.cons_append, List.nil_append, List.getElem?_cons_zero, List.getElem?_cons_succ, List.set_cons_zero, List.set_cons_succ, List.replicate, List.foldl_cons, List.foldl_nil, List.zip_cons_cons, List.zip_nil_left, List.zip_nil_right, Nat.reduceAdd, Nat.reduceSub, Nat.reduceLeDiff, Nat.reduceLT, Int.reduceLT, Int.reduceLE, Int.reduceNeg, Int.reducePow, Int.reduceToNat, Int.reduceAdd, Int.reduceMul, Int.reduceSub, Nat.reducePow, Nat.zero_add, Nat.add_zero, decide_true, decide_false, decide_eq_true_eq, beq_iff_eq, Bool.true_eq_false, reduceCtorEq, if_true, if_false, Bool.false_eq_true, true_and, and_true, Bool.true_and, Bool.and_true, Bool.false_and, Bool.and_false, Bool.not_true, Bool.not_false, Bool.or_true, Bool.true_or, Bool.or_false, Bool.false_or, Bool.and_eq_true, Bool.or_eq_true, Bool.not_eq_true', beq_self_eq_true, Option.map_some, Option.toList, if_true, if_false, List.length_map, okDs_oD, eqBs_oD]
  omega
theorem ask_int_ok {m i j : Nat} {x a b : Int} {S : Store} (hf : fs[i]? = some (f_ask_int_4321 j)) (hj : fs[j]? = some f_is_int_f58b) (h1 : a ≤ x) (h2 : x ≤ b) : call gl fs (m + 2) i [.int x, .int a, .int b] S = .ok (.d .non, S) := by
  rw [← sat_def]
  refine sat_call hf rfl rfl rfl ?_
  simp -implicitDefEqProofs only [sat_exs, sat_exs_nil, sat_if, sat_asg, sat_asgT, sat_setix, sat_ex, sat_ret, sat_retN, sat_pass, sat_brk, sat_cnt, sat_raise, sat_evB, sat_ite, sat_for, rest_nx, rest_ret, sat_var, sat_non, sat_bl, sat_int, sat_str, sat_bin, sat_neg, sat_cmp, sat_chain, sat_isN, sat_notN, sat_and, sat_or, sat_not, sat_ifE, sat_tup, sat_lst, sat_ix, sat_slN, sat_slLv, sat_slHv, sat_slLb, sat_slHb, sat_slLi, sat_slHi, sat_slLc, sat_slHc, sat_cal, sat_bi, sat_isi, sat_isis, sat_me, sat_lc, sat_lcIf, sat_lcF, sat_lcFi, sat_lrng, sat_isB, sat_rev1, rv1_l, rv1_t, List.reverse_cons, List.reverse_nil, sat_orv, orvK_int, orvK_non, intO_int, ex_bl, ex_lst, sat_box, sat_unbox, sat_esN, sat_esC, ex_d, ex_int, ex_fl, ex_obj, ex_cell, ex_oi, kept_non, kept_int, kept_tup, kept_lst, kept_str, kept_scr, kept_self, ex_setx, ex_j, shl1, Int.toNat_natCast, Int.natCast_nonneg, start, bin_ii, bin_ll, bin_tt, bin_ss, bin_li, bin_ti, rg_1, rg_2, int_add, int_sub, int_mul, int_fdiv, int_mod, int_pow, int_shl, int_shr, int_band, int_bor, int_bxor, cmp_eq, cmp_ne, cmp_in, cmp_nin, cmp_lt, cmp_le, cmp_gt, cmp_ge, eq_op, in_lst, in_tup, ix_lst, ix_tup, ix_scr, ix_str, sl_lst, sl_tup, sl_str, end_t, end_i, bi_len_l, bi_len_t, bi_len_c, bi_len_s, bi_abs, bi_sum, bi_maxl, bi_minl, bi_max2, bi_min2, bi_any, bi_all, bi_int_i, bi_int_b, bi_list_l, bi_list_t, bi_tuple_l, bi_tuple_t, bi_sorted, bi_sset, ty_non, ty_bl, ty_int, ty_str, ty_lst, ty_tup, ty_scr, toB_bl, set_n, set_t, set_tl, it_seq_l, it_seq_t, it_seq_s, it_rng1, it_rng2, it_enm, it_enmT, it_zp_l, it_zp_t, it_rev_l, it_rev_t, me_append, me_extend, me_pop, me_reverse, me_count, ty_int_int, ty_int_bool, ty_bool_int, ty_bool_bool, ty_list_list, ty_tuple_tuple, ty_list_tuple, ty_tuple_list, ty_tuple_int, ty_tuple_bool, ty_int_tuple, ty_str_str, isNonE, toD_d, toD_fl, clo_d, clo_fl, eqB_nn, eqB_bb, eqB_bi, eqB_ib, eqB_ii, eqB_ss, eqB_ll, eqB_tt, eqB_ni, eqB_in, eqBs_00, eqBs_0c, eqBs_c0, eqBs_cc, okD, okDs, flat, small, powOk, mulOk, most, natAbs_1, natAbs_2, natAbs_10, Int.natAbs_natCast, wipe, intsOf, blsOf, pq_non, pq_bl, pq_int, pq_str, pq_tup, pq_lst, pq_scr, atI_0, atI_1, atI_2, ixN_0, ixN_1, D.closed, D.closeds, sat_ok, sat_bind, sat_guard, sat_err, Res.bind_ok, Res.bind_err, List.map_cons, List.map_nil, List.length_cons, List.length_nil, List.cons_append, List.nil_append, List.getElem?_cons_zero, List.getElem?_cons_succ, List.set_cons_zero, List.set_cons_succ, List.replicate, List.foldl_cons, List.foldl_nil, List.zip_cons_cons, List.zip_nil_left, List.zip_nil_right, Nat.reduceAdd, Nat.reduceSub, Nat.reduceLeDiff, Nat.reduceLT, Int.reduceLT, Int.reduceLE, Int.reduceNeg, Int.reducePow, Int.reduceToNat, Int.reduceAdd, Int.reduceMul, Int.reduceSub, Nat.reducePow, Nat.zero_add, Nat.add_zero, decide_true, decide_false, decide_eq_true_eq, beq_iff_eq, Bool.true_eq_false, reduceCtorEq, if_true, if_false, Bool.false_eq_true, true_and, and_true, Bool.true_and, Bool.and_true, Bool.false_and, Bool.and_false, Bool.not_true, Bool.not_false, Bool.or_true, Bool.true_or, Bool.or_false, Bool.false_or, Bool.and_eq_true, Bool.or_eq_true, Bool.not_eq_true', beq_self_eq_true, Option.map_some, Option.toList, if_true, if_false, f_ask_int_4321, is_int_ok hj, h1, h2]
theorem ask_list_ok {m i j l g : Nat} {xs : List Nat} {mo : Int} {S : Store} (hf : fs[i]? = some (f_ask_list_96f9 j g)) (hj : fs[j]? = some (f_ask_int_4321 l)) (hl : fs[l]? = some f_is_int_f58b) (e1 : gl g = some (.int 8)) (hn : 1 ≤ xs.length) (hn8 : xs.length ≤ 8) (hx : ∀ x ∈ xs, (x : Int) ≤ mo) :
    call gl fs (m + 3) i [.lst (xs.map iD), .int mo] S = .ok (.d .non, S) := by
  rw [← sat_def]
  refine sat_call hf rfl rfl (by simp only [D.closeds, D.closed, closeds_iD, Bool.and_true]) ?_
  have h1 : (1 : Int) ≤ (xs.length : Int) := by omega
  have h2 : (xs.length : Int) ≤ 8 := by omega
  simp -implicitDefEqProofs only [sat_exs, sat_exs_nil, sat_if, sat_asg, sat_asgT, sat_setix, sat_ex, sat_ret, sat_retN, sat_pass, sat_brk, sat_cnt, sat_raise, sat_evB, sat_ite, sat_for, rest_nx, rest_ret, sat_var, sat_non, sat_bl, sat_int, sat_str, sat_bin, sat_neg, sat_cmp, sat_chain, sat_isN, sat_notN, sat_and, sat_or, sat_not, sat_ifE, sat_tup, sat_lst, sat_ix, sat_slN, sat_slLv, sat_slHv, sat_slLb, sat_slHb, sat_slLi, sat_slHi, sat_slLc, sat_slHc, sat_cal, sat_bi, sat_isi, sat_isis, sat_me, sat_lc, sat_lcIf, sat_lcF, sat_lcFi, sat_lrng, sat_isB, sat_rev1, rv1_l, rv1_t, List.reverse_cons, List.reverse_nil, sat_orv, orvK_int, orvK_non, intO_int, ex_bl, ex_lst, sat_box, sat_unbox, sat_esN, sat_esC, ex_d, ex_int, ex_fl, ex_obj, ex_cell, ex_oi, kept_non, kept_int, kept_tup, kept_lst, kept_str, kept_scr, kept_self, ex_setx, ex_j, shl1, Int.toNat_natCast, Int.natCast_nonneg, start, bin_ii, bin_ll, bin_tt, bin_ss, bin_li, bin_ti, rg_1, rg_2, int_add, int_sub, int_mul, int_fdiv, int_mod, int_pow, int_shl, int_shr, int_band, int_bor, int_bxor, cmp_eq, cmp_ne, cmp_in, cmp_nin, cmp_lt, cmp_le, cmp_gt, cmp_ge, eq_op, in_lst, in_tup, ix_lst, ix_tup, ix_scr, ix_str, sl_lst, sl_tup, sl_str, end_t, end_i, bi_len_l, bi_len_t, bi_len_c, bi_len_s, bi_abs, bi_sum, bi_maxl, bi_minl, bi_max2, bi_min2, bi_any, bi_all, bi_int_i, bi_int_b, bi_list_l, bi_list_t, bi_tuple_l, bi_tuple_t, bi_sorted, bi_sset, ty_non, ty_bl, ty_int, ty_str, ty_lst, ty_tup, ty_scr, toB_bl, set_n, set_t, set_tl, it_seq_l, it_seq_t, it_seq_s, it_rng1, it_rng2, it_enm, it_enmT, it_zp_l, it_zp_t, it_rev_l, it_rev_t, me_append, me_extend, me_pop, me_reverse, me_count, ty_int_int, ty_int_bool, ty_bool_int, ty_bool_bool, ty_list_list, ty_tuple_tuple, ty_list_tuple, ty_tuple_list, ty_tuple_int, ty_tuple_bool, ty_int_tuple, ty_str_str, isNonE, toD_d, toD_fl, clo_d, clo_fl, eqB_nn, eqB_bb, eqB_bi, eqB_ib, eqB_ii, eqB_ss, eqB_ll, eqB_tt, eqB_ni, eqB_in, eqBs_00, eqBs_0c, eqBs_c0, eqBs_cc, okD, okDs, flat, small, powOk, mulOk, most, natAbs_1, natAbs_2, natAbs_10, Int.natAbs_natCast, wipe, intsOf, blsOf, pq_non, pq_bl, pq_int, pq_str, pq_tup, pq_lst, pq_scr, atI_0, atI_1, atI_2, ixN_0, ixN_1, D.closed, D.closeds, sat_ok, sat_bind, sat_guard, sat_err, Res.bind_ok, Res.bind_err, List.map_cons, List.map_nil, List.length_cons, List.length_nil, List.cons_append, List.nil_append, List.getElem?_cons_zero, List.getElem?_cons_succ, List.set_cons_zero, List.set_cons_succ, List.replicate, List.foldl_cons, List.foldl_nil, List.zip_cons_cons, List.zip_nil_left, List.zip_nil_right, Nat.reduceAdd, Nat.reduceSub, Nat.reduceLeDiff, Nat.reduceLT, Int.reduceLT, Int.reduceLE, Int.reduceNeg, Int.reducePow, Int.reduceToNat, Int.reduceAdd, Int.reduceMul, Int.reduceSub, Nat.reducePow, Nat.zero_add, Nat.add_zero, decide_true, decide_false, decide_eq_true_eq, beq_iff_eq, Bool.true_eq_false, reduceCtorEq, if_true, if_false, Bool.false_eq_true, true_and, and_true, Bool.true_and, Bool.and_true, Bool.false_and, Bool.and_false, Bool.not_true, Bool.not_false, Bool.or_true, Bool.true_or, Bool.or_false, Bool.false_or, Bool.and_eq_true, Bool.or_eq_true, Bool.not_eq_true', beq_self_eq_true, Option.map_some, Option.toList, if_true, if_false, f_ask_list_96f9, sat_glob e1, List.length_map, h1, h2]
  refine sat_loop (fun env T => T = [] ∧ ∃ x, env = [some (.lst (xs.map iD)), some (.int mo), x]) ⟨rfl, _, rfl⟩ (fun d env T hd hI => ?_) (fun env T hI => ?_)
  · obtain ⟨rfl, _, rfl⟩ := hI
    obtain ⟨x, hm, rfl⟩ := List.mem_map.mp hd
    simp -implicitDefEqProofs only [sat_exs, sat_exs_nil, sat_if, sat_asg, sat_asgT, sat_setix, sat_ex, sat_ret, sat_retN, sat_pass, sat_brk, sat_cnt, sat_raise, sat_evB, sat_ite, sat_for, rest_nx, rest_ret, sat_var, sat_non, sat_bl, sat_int, sat_str, sat_bin, sat_neg, sat_cmp, sat_chain, sat_isN, sat_notN, sat_and, sat_or, sat_not, sat_ifE, sat_tup, sat_lst, sat_ix, sat_slN, sat_slLv, sat_slHv, sat_slLb, sat_slHb, sat_slLi, sat_slHi, sat_slLc, sat_slHc, sat_cal, sat_bi, sat_isi, sat_isis, sat_me, sat_lc, sat_lcIf, sat_lcF, sat_lcFi, sat_lrng, sat_isB, sat_rev1, rv1_l, rv1_t, List.reverse_cons, List.reverse_nil, sat_orv, orvK_int, orvK_non, intO_int, ex_bl, ex_lst, sat_box, sat_unbox, sat_esN, sat_esC, ex_d, ex_int, ex_fl, ex_obj, ex_cell, ex_oi, kept_non, kept_int, kept_tup, kept_lst, kept_str, kept_scr, kept_self, ex_setx, ex_j, shl1, Int.toNat_natCast, Int.natCast_nonneg, start, bin_ii, bin_ll, bin_tt, bin_ss, bin_li, bin_ti, rg_1, rg_2, int_add, int_sub, int_mul, int_fdiv, int_mod, int_pow, int_shl, int_shr, int_band, int_bor, int_bxor, cmp_eq, cmp_ne, cmp_in, cmp_nin, cmp_lt, cmp_le, cmp_gt, cmp_ge, eq_op, in_lst, in_tup, ix_lst, ix_tup, ix_scr, ix_str, sl_lst, sl_tup, sl_str, end_t, end_i, bi_len_l, bi_len_t, bi_len_c, bi_len_s, bi_abs, bi_sum, bi_maxl, bi_minl, bi_max2, bi_min2, bi_any, bi_all, bi_int_i, bi_int_b, bi_list_l, bi_list_t, bi_tuple_l, bi_tuple_t, bi_sorted, bi_sset, ty_non, ty_bl, ty_int, ty_str, ty_lst, ty_tup, ty_scr, toB_bl, set_n, set_t, set_tl, it_seq_l, it_seq_t, it_seq_s, it_rng1, it_rng2, it_enm, it_enmT, it_zp_l, it_zp_t, it_rev_l, it_rev_t, me_append, me_extend, me_pop, me_reverse, me_count, ty_int_int, ty_int_bool, ty_bool_int, ty_bool_bool, ty_list_list, ty_tuple_tuple, ty_list_tuple, ty_tuple_list, ty_tuple_int, ty_tuple_bool, ty_int_tuple, ty_str_str, isNonE, toD_d, toD_fl, clo_d, clo_fl, eqB_nn, eqB_bb, eqB_bi, eqB_ib, eqB_ii, eqB_ss, eqB_ll, eqB_tt, eqB_ni, eqB_in, eqBs_00, eqBs_0c, eqBs_c0, eqBs_cc, okD, okDs, flat, small, powOk, mulOk, most, natAbs_1, natAbs_2, natAbs_10, Int.natAbs_natCast, wipe, intsOf, blsOf, pq_non, pq_bl, pq_int, pq_str, pq_tup, pq_lst, pq_scr, atI_0, atI_1, atI_2, ixN_0, ixN_1, D.closed, D.closeds, sat_ok, sat_bind, sat_guard, sat_err, Res.bind_ok, Res.bind_err, List.map_cons, List.map_nil, List.length_cons, List.length_nil, List.cons_append, List.nil_append, List.getElem?_cons_zero, List.getElem?_cons_succ, List.set_cons_zero, List.set_cons_succ, List.replicate, List.foldl_cons, List.foldl_nil, List.zip_cons_cons, List.zip_nil_left, List.zip_nil_right, Nat.reduceAdd, Nat.reduceSub, Nat.reduceLeDiff, Nat.reduceLT, Int.reduceLT, Int.reduceLE, Int.reduceNeg, Int.reducePow, Int.reduceToNat, Int.reduceAdd, Int.reduceMul, Int.reduceSub, Nat.reducePow, Nat.zero_add, Nat.add_zero, decide_true, decide_false, decide_eq_true_eq, beq_iff_eq, Bool.true_eq_false, reduceCtorEq, if_true, if_false, Bool.false_eq_true, true_and, and_true, Bool.true_and, Bool.and_true, Bool.false_and, Bool.and_false, Bool.not_true, Bool.not_false, Bool.or_true, Bool.true_or, Bool.or_false, Bool.false_or, Bool.and_eq_true, Bool.or_eq_true, Bool.not_eq_true', beq_self_eq_true, Option.map_some, Option.toList, if_true, if_false, iD, ask_int_ok hj hl (Int.natCast_nonneg x) (hx x hm)]
    exact ⟨_, rfl⟩
  · obtain ⟨rfl, _, rfl⟩ := hI
    simp -implicitDefEqProofs only [sat_exs, sat_exs_nil, sat_if, sat_asg, sat_asgT, sat_setix, sat_ex, sat_ret, sat_retN, sat_pass, sat_brk, sat_cnt, sat_raise, sat_evB, sat_ite, sat_for, rest_nx, rest_ret, sat_var, sat_non, sat_bl, sat_int, sat_str, sat_bin, sat_neg, sat_cmp, sat_chain, sat_isN, sat_notN, sat_and, sat_or, sat_not, sat_ifE, sat_tup, sat_lst, sat_ix, sat_slN, sat_slLv, sat_slHv, sat_slLb, sat_slHb, sat_slLi, sat_slHi, sat_slLc, sat_slHc, sat_cal, sat_bi, sat_isi, sat_isis, sat_me, sat_lc, sat_lcIf, sat_lcF, sat_lcFi, sat_lrng, sat_isB, sat_rev1, rv1_l, rv1_t, List.reverse_cons, List.reverse_nil, sat_orv, orvK_int, orvK_non, intO_int, ex_bl, ex_lst, sat_box, sat_unbox, sat_esN, sat_esC, ex_d, ex_int, ex_fl, ex_obj, ex_cell, ex_oi, kept_non, kept_int, kept_tup, kept_lst, kept_str, kept_scr, kept_self, ex_setx, ex_j, shl1, Int.toNat_natCast, Int.natCast_nonneg, start, bin_ii, bin_ll, bin_tt, bin_ss, bin_li, bin_ti, rg_1, rg_2, int_add, int_sub, int_mul, int_fdiv, int_mod, int_pow, int_shl, int_shr, int_band, int_bor, int_bxor, cmp_eq, cmp_ne, cmp_in, cmp_nin, cmp_lt, cmp_le, cmp_gt, cmp_ge, eq_op, in_lst, in_tup, ix_lst, ix_tup, ix_scr, ix_str, sl_lst, sl_tup, sl_str, end_t, end_i, bi_len_l, bi_len_t, bi_len_c, bi_len_s, bi_abs, bi_sum, bi_maxl, bi_minl, bi_max2, bi_min2, bi_any, bi_all, bi_int_i, bi_int_b, bi_list_l, bi_list_t, bi_tuple_l, bi_tuple_t, bi_sorted, bi_sset, ty_non, ty_bl, ty_int, ty_str, ty_lst, ty_tup, ty_scr, toB_bl, set_n, set_t, set_tl, it_seq_l, it_seq_t, it_seq_s, it_rng1, it_rng2, it_enm, it_enmT, it_zp_l, it_zp_t, it_rev_l, it_rev_t, me_append, me_extend, me_pop, me_reverse, me_count, ty_int_int, ty_int_bool, ty_bool_int, ty_bool_bool, ty_list_list, ty_tuple_tuple, ty_list_tuple, ty_tuple_list, ty_tuple_int, ty_tuple_bool, ty_int_tuple, ty_str_str, isNonE, toD_d, toD_fl, clo_d, clo_fl, eqB_nn, eqB_bb, eqB_bi, eqB_ib, eqB_ii, eqB_ss, eqB_ll, eqB_tt, eqB_ni, eqB_in, eqBs_00, eqBs_0c, eqBs_c0, eqBs_cc, okD, okDs, flat, small, powOk, mulOk, most, natAbs_1, natAbs_2, natAbs_10, Int.natAbs_natCast, wipe, intsOf, blsOf, pq_non, pq_bl, pq_int, pq_str, pq_tup, pq_lst, pq_scr, atI_0, atI_1, atI_2, ixN_0, ixN_1, D.closed, D.closeds, sat_ok, sat_bind, sat_guard, sat_err, Res.bind_ok, Res.bind_err, List.map_cons, List.map_nil, List.length_cons, List.length_nil, List.cons_append, List.nil_append, List.getElem?_cons_zero, List.getElem?_cons_succ, List.set_cons_zero, List.set_cons_succ, List.replicate, List.foldl_cons, List.foldl_nil, List.zip_cons_cons, List.zip_nil_left, List.zip_nil_right, Nat.reduceAdd, Nat.reduceSub, Nat.reduceLeDiff, Nat.reduceLT, Int.reduceLT, Int.reduceLE, Int.reduceNeg, Int.reducePow, Int.reduceToNat, Int.reduceAdd, Int.reduceMul, Int.reduceSub, Nat.reducePow, Nat.zero_add, Nat.add_zero, decide_true, decide_false, decide_eq_true_eq, beq_iff_eq, Bool.true_eq_false, reduceCtorEq, if_true, if_false, Bool.false_eq_true, true_and, and_true, Bool.true_and, Bool.and_true, Bool.false_and, Bool.and_false, Bool.not_true, Bool.not_false, Bool.or_true, Bool.true_or, Bool.or_false, Bool.false_or, Bool.and_eq_true, Bool.or_eq_true, Bool.not_eq_true', beq_self_eq_true, Option.map_some, Option.toList, if_true, if_false]
end
end Nl

/-! Rules to walk: dicts, instances, tuple(range), len(set), index, reversed(range). -/
namespace Nl
section
variable {gl : Nat → Option D} {cf : Cf} {env : Env} {S : Store} {Q : W × Store → Prop}
theorem sat_trng {k : Ik} {a b : E} : (ev gl cf (.trng k a b) env S).sat Q ↔ (ev gl cf a env S).sat fun x => (ev gl cf b env x.2).sat fun y => (rgItems k (pk y.2 x.1.toD) (pk y.2 y.1.toD)).sat fun ds => ds.length ≤ most ∧ Q (.d (.tup ds), y.2) := by
  simp only [ev, sat_bind, sat_ok, sat_guard, decide_eq_true_eq]
def lsnR (d : D) : Res D := match d with
  | .lst xs => (match intsOf xs with
    | some ns => guard' (decide (ns.length ≤ 1000)) (.ok (.int (sortU ns).length))
    | none => .err)
  | _ => .err
theorem lsn_l {xs : List D} {ns : List Int} (h : intsOf xs = some ns) : lsnR (.lst xs) = guard' (decide (ns.length ≤ 1000)) (.ok (.int (sortU ns).length)) := by
  simp only [lsnR, h]
theorem sat_lsn {a : E} : (ev gl cf (.lsn a) env S).sat Q ↔ (ev gl cf a env S).sat fun x => (lsnR (pk x.2 x.1.toD)).sat fun d => Q (.d d, x.2) := by
  simp only [ev, sat_bind]
  constructor
  · rintro ⟨x, e, h⟩
    refine ⟨x, e, ?_⟩
    split at h
    · rename_i xs hx
      split at h
      · rename_i ns hn
        rw [hx, lsn_l hn]
        rw [sat_guard, sat_ok] at h ⊢
        exact h
      · exact (sat_err.mp h).elim
    · exact (sat_err.mp h).elim
  · rintro ⟨x, e, h⟩
    refine ⟨x, e, ?_⟩
    dsimp only
    cases hx : pk x.2 x.1.toD with
    | lst xs =>
      rw [hx] at h
      cases hn : intsOf xs with
      | some ns =>
        rw [lsn_l hn] at h
        simp only [hn]
        rw [sat_guard, sat_ok] at h ⊢
        exact h
      | none =>
        simp only [lsnR, hn] at h
        exact (sat_err.mp h).elim
    | _ => rw [hx] at h; exact (sat_err.mp h).elim
def lidR (d z : D) : Res D := match d, z with
  | .lst xs, .int i => (match intsOf xs with
    | some ns => guard' (ns.contains i) (.ok (.int (ns.idxOf i)))
    | none => .err)
  | _, _ => .err
theorem lid_l {xs : List D} {ns : List Int} {i : Int} (h : intsOf xs = some ns) : lidR (.lst xs) (.int i) = guard' (ns.contains i) (.ok (.int (ns.idxOf i))) := by
  simp only [lidR, h]
theorem sat_lidx {a b : E} : (ev gl cf (.lidx a b) env S).sat Q ↔ (ev gl cf a env S).sat fun x => ∃ us, pk x.2 x.1.toD = .lst us ∧ (ev gl cf b env x.2).sat fun y => (lidR (pk y.2 x.1.toD) y.1.toD).sat fun d => Q (.d d, y.2) := by
  simp only [ev, sat_bind]
  constructor
  · rintro ⟨x, e, h⟩
    refine ⟨x, e, ?_⟩
    split at h
    · rename_i us hu
      refine ⟨us, hu, ?_⟩
      rw [sat_bind] at h
      refine h.imp fun y hy => ?_
      split at hy
      · rename_i xs i hx hi
        split at hy
        · rename_i ns hn
          rw [hx, hi, lid_l hn]
          rw [sat_guard, sat_ok] at hy ⊢
          exact hy
        · exact (sat_err.mp hy).elim
      · exact (sat_err.mp hy).elim
    · exact (sat_err.mp h).elim
  · rintro ⟨x, e, us, hu, h⟩
    refine ⟨x, e, ?_⟩
    dsimp only
    rw [hu]
    dsimp only
    rw [sat_bind]
    refine h.imp fun y hy => ?_
    revert hy
    generalize pk y.2 x.1.toD = A
    generalize y.1.toD = B
    intro hy
    cases A with
    | lst xs =>
      cases B with
      | int i =>
        revert hy
        simp only [lidR]
        cases intsOf xs with
        | none => exact fun hy => (sat_err.mp hy).elim
        | some ns =>
          intro hy
          rw [sat_guard, sat_ok] at hy ⊢
          exact hy
      | _ => exact (sat_err.mp hy).elim
    | _ => exact (sat_err.mp hy).elim
theorem it_rr1 {n : Int} {b : D} : items .rr1 (.int n) b = guard' (small n) (.ok (upFrom 0 n.toNat).reverse) := by
  simp only [items, rng1Items, guard']
  split <;> rfl
theorem it_rr2 {m n : Int} : items .rr2 (.int m) (.int n) = guard' (small m && small n) (.ok (upFrom m (n - m).toNat).reverse) := by
  simp only [items, rng2Items, guard']
  split <;> rfl
theorem bi_sortP {xs : List D} : biOp .sortP [.lst xs] = match prsOf xs with | some ps => .ok (.fl ((sortPr ps).map prD)) | none => .err := rfl
theorem bi_repr {i : Int} : biOp .repr [.int i] = guard' (decide (i.natAbs < 2 ^ 1920)) (.ok (.d (.str (figs i)))) := rfl
theorem me_insert {S : Store} {n : Nat} {xs : List D} {i : Int} {d : D} (h : S[n]? = some (.lst xs)) : meOp .insert n [.int i, d] S = guard' (decide (xs.length < most) && (decide (0 ≤ i) && decide (i < 2 ^ 63))) (.ok (.d .non, S.set n (.lst (xs.take i.toNat ++ [d] ++ xs.drop i.toNat)))) := by
  simp only [meOp, h]
/-! ### dicts -/
theorem sat_dnew {t : Bool} : (ev gl cf (.dnew t) env S).sat Q ↔ Q (.d (.obj S.length), S ++ [if t = true then .dT [] else .dK []]) := by
  simp only [ev, sat_ok]
def dinR (neg : Bool) (k : D) (y : W × Store) : Res (W × Store) := match y.1 with
  | .d (.obj n) => (match (y.2[n]?).bind fun c => dGet c k with
    | some o => .ok (.d (.bl (if neg then !o.isSome else o.isSome)), y.2)
    | none => .err)
  | _ => .err
theorem sat_din {neg : Bool} {k d : E} : (ev gl cf (.din neg k d) env S).sat Q ↔ (ev gl cf k env S).sat fun x => (ev gl cf d env x.2).sat fun y => (dinR neg x.1.toD y).sat Q := by
  simp only [ev, sat_bind]
  exact Iff.rfl
theorem din_o {neg : Bool} {k : D} {n : Nat} {T : Store} {c : Cell} {o : Option D} (h : T[n]? = some c) (hg : dGet c k = some o) : dinR neg k (.d (.obj n), T) = .ok (.d (.bl (if neg then !o.isSome else o.isSome)), T) := by
  simp only [dinR, h, Option.bind_some, hg]
def dgetR (w : W) (k : D) (T : Store) : Res (W × Store) := match w with
  | .d (.obj n) => (match (T[n]?).bind fun c => dGet c k with
    | some (some v) => .ok (.d v, T)
    | _ => .err)
  | _ => .err
theorem sat_dget {d k : E} : (ev gl cf (.dget d k) env S).sat Q ↔ (ev gl cf d env S).sat fun x => (ev gl cf k env x.2).sat fun y => (dgetR x.1 y.1.toD y.2).sat Q := by
  simp only [ev, sat_bind]
  exact Iff.rfl
theorem dget_o {k v : D} {n : Nat} {T : Store} {c : Cell} (h : T[n]? = some c) (hg : dGet c k = some (some v)) : dgetR (.d (.obj n)) k T = .ok (.d v, T) := by
  simp only [dgetR, h, Option.bind_some, hg]
def dgdR (n : Nat) (k : D) (u : W × Store) : Res (W × Store) := match (u.2[n]?).bind fun c => dGet c k with
  | some o => .ok (.d (o.getD u.1.toD), u.2)
  | none => .err
theorem sat_dgetD {d k z : E} : (ev gl cf (.dgetD d k z) env S).sat Q ↔ (ev gl cf d env S).sat fun x => ∃ n ks, x.1 = .d (.obj n) ∧ (x.2[n]?).bind dKeys = some ks ∧ (ev gl cf k env x.2).sat fun y => (ev gl cf z env y.2).sat fun u => (dgdR n y.1.toD u).sat Q := by
  simp only [ev, sat_bind]
  constructor
  · rintro ⟨x, e, h⟩
    refine ⟨x, e, ?_⟩
    obtain ⟨x1, x2⟩ := x
    dsimp only at h ⊢
    split at h
    · rename_i n
      split at h
      · rename_i ks hk
        refine ⟨n, ks, rfl, hk, ?_⟩
        rw [sat_bind] at h
        refine h.imp fun y hy => ?_
        rw [sat_bind] at hy
        exact hy
      · exact (sat_err.mp h).elim
    · exact (sat_err.mp h).elim
  · rintro ⟨x, e, n, ks, h1, h2, h3⟩
    refine ⟨x, e, ?_⟩
    obtain ⟨x1, x2⟩ := x
    cases h1
    dsimp only at h2 ⊢
    rw [h2]
    dsimp only
    rw [sat_bind]
    refine h3.imp fun y hy => ?_
    rw [sat_bind]
    exact hy
theorem dgd_o {k : D} {n : Nat} {T : Store} {c : Cell} {o : Option D} {w : W} (h : T[n]? = some c) (hg : dGet c k = some o) : dgdR n k (w, T) = .ok (.d (o.getD w.toD), T) := by
  simp only [dgdR, h, Option.bind_some, hg]
def dlenR (x : W × Store) : Res (W × Store) := match x.1 with
  | .d (.obj n) => (match (x.2[n]?).bind dKeys with
    | some ks => .ok (.d (.int ks.length), x.2)
    | none => .err)
  | _ => .err
theorem sat_dlen {d : E} : (ev gl cf (.dlen d) env S).sat Q ↔ (ev gl cf d env S).sat fun x => (dlenR x).sat Q := by
  simp only [ev, sat_bind]
  exact Iff.rfl
theorem dlen_o {n : Nat} {T : Store} {c : Cell} {ks : List D} (h : T[n]? = some c) (hk : dKeys c = some ks) : dlenR (.d (.obj n), T) = .ok (.d (.int ks.length), T) := by
  simp only [dlenR, h, Option.bind_some, hk]
def dlistR (x : W × Store) : Res (W × Store) := match x.1 with
  | .d (.obj n) => (match (x.2[n]?).bind dKeys with
    | some ks => .ok (.fl ks, x.2)
    | none => .err)
  | _ => .err
theorem sat_dlist {d : E} : (ev gl cf (.dlist d) env S).sat Q ↔ (ev gl cf d env S).sat fun x => (dlistR x).sat Q := by
  simp only [ev, sat_bind]
  exact Iff.rfl
theorem dlist_o {n : Nat} {T : Store} {c : Cell} {ks : List D} (h : T[n]? = some c) (hk : dKeys c = some ks) : dlistR (.d (.obj n), T) = .ok (.fl ks, T) := by
  simp only [dlistR, h, Option.bind_some, hk]
def dputR (env : Env) (w : W) (k v : D) (T : Store) : Res (Fl × Store) := match w with
  | .d (.obj n) => (match (T[n]?).bind fun c => dPut c k v with
    | some c => .ok (.nx env, T.set n c)
    | none => .err)
  | _ => .err
theorem sat_dput {d k e : E} {Q : Fl × Store → Prop} : (ex gl cf (.dput d k e) env S).sat Q ↔ (ev gl cf e env S).sat fun x => (ev gl cf d env x.2).sat fun y => (ev gl cf k env y.2).sat fun z => (dputR env y.1 z.1.toD x.1.toD z.2).sat Q := by
  simp only [ex, sat_bind]
  exact Iff.rfl
theorem dput_o {env : Env} {k v : D} {n : Nat} {T : Store} {c c' : Cell} (h : T[n]? = some c) (hg : dPut c k v = some c') : dputR env (.d (.obj n)) k v T = .ok (.nx env, T.set n c') := by
  simp only [dputR, h, Option.bind_some, hg]
/-! ### instances -/
def fldR (c f : Nat) (x : W × Store) : Res (W × Store) := match x.1 with
  | .d (.obj n) => (match x.2[n]? with
    | some (.ins c' fs) => guard' (c' == c) (match getF f fs with
      | some d => .ok (.d d, x.2)
      | none => .err)
    | _ => .err)
  | _ => .err
theorem sat_fld {c : Nat} {a : E} {f : Nat} : (ev gl cf (.fld c a f) env S).sat Q ↔ (ev gl cf a env S).sat fun x => (fldR c f x).sat Q := by
  simp only [ev, sat_bind]
  exact Iff.rfl
theorem fld_o {c f n : Nat} {T : Store} {fs : List (Nat × D)} {d : D} (h : T[n]? = some (.ins c fs)) (hf : getF f fs = some d) : fldR c f (.d (.obj n), T) = .ok (.d d, T) := by
  simp only [fldR, h, beq_self_eq_true, guard', if_true, hf]
theorem sat_meth {f c : Nat} {a : E} {es : Es} : (ev gl cf (.meth f c a es) env S).sat Q ↔ (ev gl cf a env S).sat fun x => ∃ n fs, x.1 = .d (.obj n) ∧ x.2[n]? = some (.ins c fs) ∧ (evs gl cf es env x.2).sat fun y => (cf f (.obj n :: y.1) y.2).sat Q := by
  simp only [ev, sat_bind]
  constructor
  · rintro ⟨x, e, h⟩
    refine ⟨x, e, ?_⟩
    obtain ⟨x1, x2⟩ := x
    dsimp only at h ⊢
    split at h
    · rename_i n
      split at h
      · rename_i c' fs hc
        rw [sat_guard, sat_bind, beq_iff_eq] at h
        obtain ⟨rfl, h⟩ := h
        exact ⟨n, fs, rfl, hc, h⟩
      · exact (sat_err.mp h).elim
    · exact (sat_err.mp h).elim
  · rintro ⟨x, e, n, fs, h1, h2, h3⟩
    refine ⟨x, e, ?_⟩
    obtain ⟨x1, x2⟩ := x
    cases h1
    dsimp only at h2 ⊢
    rw [h2]
    dsimp only
    rw [sat_guard, sat_bind, beq_iff_eq]
    exact ⟨rfl, h3⟩
theorem sat_make {f c : Nat} {es : Es} : (ev gl cf (.make f c es) env S).sat Q ↔ (evs gl cf es env S).sat fun y => (cf f (.obj y.2.length :: y.1) (y.2 ++ [.ins c []])).sat fun r => r.1 = .d .non ∧ Q (.d (.obj y.2.length), r.2) := by
  simp only [ev, sat_bind, sat_calm]
  constructor
  · rintro ⟨y, e, r, e2, h⟩
    refine ⟨y, e, r, e2, ?_⟩
    obtain ⟨r1, r2⟩ := r
    dsimp only at h ⊢
    split at h
    · exact ⟨rfl, sat_ok.mp h⟩
    · exact (sat_err.mp h).elim
  · rintro ⟨y, e, r, e2, h1, h2⟩
    refine ⟨y, e, r, e2, ?_⟩
    obtain ⟨r1, r2⟩ := r
    cases h1
    exact sat_ok.mpr h2
theorem sat_setfld {c : Nat} {o : E} {f : Nat} {e : E} {Q : Fl × Store → Prop} : (ex gl cf (.setfld c o f e) env S).sat Q ↔ (ev gl cf e env S).sat fun x => (ev gl cf o env x.2).sat fun y => ∃ n fs, y.1 = .d (.obj n) ∧ y.2[n]? = some (.ins c fs) ∧ f < fdNames.length ∧ fs.length < 100 ∧ Q (.nx env, y.2.set n (.ins c (putF f x.1.toD fs))) := by
  simp only [ex, sat_bind]
  constructor
  · rintro ⟨x, e, y, e2, h⟩
    refine ⟨x, e, y, e2, ?_⟩
    obtain ⟨y1, y2⟩ := y
    dsimp only at h ⊢
    split at h
    · rename_i n
      split at h
      · rename_i c' fs hc
        rw [sat_guard, sat_ok] at h
        simp only [Bool.and_eq_true, beq_iff_eq, decide_eq_true_eq] at h
        obtain ⟨⟨rfl, h1, h2⟩, h3⟩ := h
        exact ⟨n, fs, rfl, hc, h1, h2, h3⟩
      · exact (sat_err.mp h).elim
    · exact (sat_err.mp h).elim
  · rintro ⟨x, e, y, e2, n, fs, h1, h2, h3, h4, h5⟩
    refine ⟨x, e, y, e2, ?_⟩
    obtain ⟨y1, y2⟩ := y
    cases h1
    dsimp only at h2 ⊢
    rw [h2]
    dsimp only
    rw [sat_guard, sat_ok]
    simp only [Bool.and_eq_true, beq_iff_eq, decide_eq_true_eq]
    exact ⟨⟨trivial, h3, h4⟩, h5⟩
end
theorem dg_Ki {kvs : List (Ky × D)} {i : Int} : dGet (.dK kvs) (.int i) = some (valK kvs (.i i)) := rfl
theorem dg_Ks {kvs : List (Ky × D)} {s : List Nat} : dGet (.dK kvs) (.str s) = some (valK kvs (.s s)) := rfl
theorem dp_Ki {kvs : List (Ky × D)} {i : Int} {v : D} (h : kvs.length < most) : dPut (.dK kvs) (.int i) v = some (.dK (setK kvs (.i i) v)) := by
  simp only [dPut, h, if_true]; rfl
theorem dp_Ks {kvs : List (Ky × D)} {s : List Nat} {v : D} (h : kvs.length < most) : dPut (.dK kvs) (.str s) v = some (.dK (setK kvs (.s s) v)) := by
  simp only [dPut, h, if_true]; rfl
theorem dk_K {kvs : List (Ky × D)} : dKeys (.dK kvs) = some (kvs.map fun kv => kyD kv.1) := rfl
end Nl

/-! The nearest way up, the least ones. -/
namespace Nl
/-- the least ones of a rising list: each one that holds none of those found ahead -/
def leastL (ws : List Nat) : List Nat := ws.foldl (fun f one => if f.filter (fun o => decide (one &&& o = o)) = [] then f ++ [one] else f) []
theorem leastL_snoc (ws : List Nat) (x : Nat) : leastL (ws ++ [x]) = if (leastL ws).filter (fun o => decide (x &&& o = o)) = [] then leastL ws ++ [x] else leastL ws := by
  unfold leastL
  rw [List.foldl_append]
  rfl
/-- one with the fewest further spots, the first of them -/
def nearL (c : Nat) (ws : List Nat) : Option Nat := ws.foldl (fun f one => match f with
  | none => some one
  | some g => if (alone 8 one c).length < (alone 8 g c).length then some one else some g) none
theorem nearL_snoc (c : Nat) (ws : List Nat) (x : Nat) : nearL c (ws ++ [x]) = match nearL c ws with
  | none => some x
  | some g => if (alone 8 x c).length < (alone 8 g c).length then some x else some g := by
  unfold nearL
  rw [List.foldl_append]
  rfl
section
variable {gl : Nat → Option D} {fs : List Fn}
theorem nearest_ok {m i j1 j2 j3 jf j4 j5 n k c x : Nat} {t : List (Option Nat)} {S : Store} (hf : fs[i]? = some (f_nearest_b761 j1 jf)) (h1 : fs[j1]? = some (f_ways_up_8af0 j2)) (h2 : fs[j2]? = some (f_above_a9ad j3)) (h3 : fs[j3]? = some f_holds_5c7e) (h4 : fs[jf]? = some (f_further_8139 j4)) (h5 : fs[j4]? = some (f_how_many_5a9b j5)) (h6 : fs[j5]? = some f_spots_of_ec1d)
    (hn : n ≤ 8) (hc : c < 2 ^ n) (ht : t.length = 2 ^ n) : call gl fs (m + 4) i [wrD n k t, .int c, .int x] S = .ok (.d (oD (nearL c (wayL t c x))), S) := by
  rw [← sat_def]
  have p8 := pow_le_256 hn
  refine sat_call hf rfl rfl (by simp only [D.closeds, D.closed, wr_closed, Bool.and_true]) ?_
  have hlt : ∀ w ∈ wayL t c x, w < 256 := fun w hw => by
    have := List.mem_range.mp (List.mem_filter.mp hw).1
    omega
  simp -implicitDefEqProofs only [sat_exs, sat_exs_nil, sat_if, sat_asg, sat_asgT, sat_setix, sat_ex, sat_ret, sat_retN, sat_pass, sat_brk, sat_cnt, sat_raise, sat_evB, sat_ite, sat_for, rest_nx, rest_ret, sat_var, sat_non, sat_bl, sat_int, sat_str, sat_bin, sat_neg, sat_cmp, sat_chain, sat_isN, sat_notN, sat_and, sat_or, sat_not, sat_ifE, sat_tup, sat_lst, sat_ix, sat_slN, sat_slLv, sat_slHv, sat_slLb, sat_slHb, sat_slLi, sat_slHi, sat_slLc, sat_slHc, sat_cal, sat_bi, sat_isi, sat_isis, sat_me, sat_lc, sat_lcIf, sat_lcF, sat_lcFi, sat_lrng, sat_isB, sat_rev1, rv1_l, rv1_t, List.reverse_cons, List.reverse_nil, sat_orv, orvK_int, orvK_non, intO_int, ex_bl, ex_lst, sat_box, sat_unbox, sat_esN, sat_esC, ex_d, ex_int, ex_fl, ex_obj, ex_cell, ex_oi, kept_non, kept_int, kept_tup, kept_lst, kept_str, kept_scr, kept_self, ex_setx, ex_j, shl1, Int.toNat_natCast, Int.natCast_nonneg, start, bin_ii, bin_ll, bin_tt, bin_ss, bin_li, bin_ti, rg_1, rg_2, int_add, int_sub, int_mul, int_fdiv, int_mod, int_pow, int_shl, int_shr, int_band, int_bor, int_bxor, cmp_eq, cmp_ne, cmp_in, cmp_nin, cmp_lt, cmp_le, cmp_gt, cmp_ge, eq_op, in_lst, in_tup, ix_lst, ix_tup, ix_scr, ix_str, sl_lst, sl_tup, sl_str, end_t, end_i, bi_len_l, bi_len_t, bi_len_c, bi_len_s, bi_abs, bi_sum, bi_maxl, bi_minl, bi_max2, bi_min2, bi_any, bi_all, bi_int_i, bi_int_b, bi_list_l, bi_list_t, bi_tuple_l, bi_tuple_t, bi_sorted, bi_sset, ty_non, ty_bl, ty_int, ty_str, ty_lst, ty_tup, ty_scr, toB_bl, set_n, set_t, set_tl, it_seq_l, it_seq_t, it_seq_s, it_rng1, it_rng2, it_enm, it_enmT, it_zp_l, it_zp_t, it_rev_l, it_rev_t, me_append, me_extend, me_pop, me_reverse, me_count, ty_int_int, ty_int_bool, ty_bool_int, ty_bool_bool, ty_list_list, ty_tuple_tuple, ty_list_tuple, ty_tuple_list, ty_tuple_int, ty_tuple_bool, ty_int_tuple, ty_str_str, isNonE, toD_d, toD_fl, clo_d, clo_fl, eqB_nn, eqB_bb, eqB_bi, eqB_ib, eqB_ii, eqB_ss, eqB_ll, eqB_tt, eqB_ni, eqB_in, eqBs_00, eqBs_0c, eqBs_c0, eqBs_cc, okD, okDs, flat, small, powOk, mulOk, most, natAbs_1, natAbs_2, natAbs_10, Int.natAbs_natCast, wipe, intsOf, blsOf, pq_non, pq_bl, pq_int, pq_str, pq_tup, pq_lst, pq_scr, atI_0, atI_1, atI_2, ixN_0, ixN_1, D.closed, D.closeds, sat_ok, sat_bind, sat_guard, sat_err, Res.bind_ok, Res.bind_err, List.map_cons, List.map_nil, List.length_cons, List.length_nil, List.cons_append, List.nil_append, List.getElem?_cons_zero, List.getElem?_cons_succ, List.set_cons_zero, List.set_cons_succ, List.replicate, List.foldl_cons, List.foldl_nil, List.zip_cons_cons, List.zip_nil_left, List.zip_nil_right, Nat.reduceAdd, Nat.reduceSub, Nat.reduceLeDiff, Nat.reduceLT, Int.reduceLT, Int.reduceLE, Int.reduceNeg, Int.reducePow, Int.reduceToNat, Int.reduceAdd, Int.reduceMul, Int.reduceSub, Nat.reducePow, Nat.zero_add, Nat.add_zero, decide_true, decide_false, decide_eq_true_eq, beq_iff_eq, Bool.true_eq_false, reduceCtorEq, if_true, if_false, Bool.false_eq_true, true_and, and_true, Bool.true_and, Bool.and_true, Bool.false_and, Bool.and_false, Bool.not_true, Bool.not_false, Bool.or_true, Bool.true_or, Bool.or_false, Bool.false_or, Bool.and_eq_true, Bool.or_eq_true, Bool.not_eq_true', beq_self_eq_true, Option.map_some, Option.toList, if_true, if_false, f_nearest_b761, ways_ok h1 h2 h3 hn hc ht]
  generalize wayL t c x = ws at hlt
  refine sat_loopF (fun i env T => T = [] ∧ ∃ q : Option D, (∀ g, nearL c (ws.take i) = some g → g < 256) ∧ env = [some (wrD n k t), some (.int c), some (.int x), some (oD (nearL c (ws.take i))), q]) _ 0 _ _ ⟨rfl, _, by simp [nearL], rfl⟩ (fun a d env T hd hI => ?_) (fun env T hI => ?_)
  · obtain ⟨rfl, _, hg, rfl⟩ := hI
    rw [Nat.zero_add] at hg ⊢
    rw [List.getElem?_map] at hd
    obtain ⟨w, hw, rfl⟩ := Option.map_eq_some_iff.mp hd
    have hw' := hlt w (List.mem_of_getElem? hw)
    have et : ws.take (a + 1) = ws.take a ++ [w] := by
      rw [List.take_add_one, hw]
      rfl
    rw [et, nearL_snoc]
    cases hv : nearL c (ws.take a) with
    | none =>
      simp -implicitDefEqProofs only [sat_exs, sat_exs_nil, sat_if, sat_asg, sat_asgT, sat_setix, sat_ex, sat_ret, sat_retN, sat_pass, sat_brk, sat_cnt, sat_raise, sat_evB, sat_ite, sat_for, rest_nx, rest_ret, sat_var, sat_non, sat_bl, sat_int, sat_str, sat_bin, sat_neg, sat_cmp, sat_chain, sat_isN, sat_notN, sat_and, sat_or, sat_not, sat_ifE, sat_tup, sat_lst, sat_ix, sat_slN, sat_slLv, sat_slHv, sat_slLb, sat_slHb, sat_slLi, sat_slHi, sat_slLc, sat_slHc, sat_cal, sat_bi, sat_isi, sat_isis, sat_me, sat_lc, sat_lcIf, sat_lcF, sat_lcFi, sat_lrng, sat_isB, sat_rev1, rv1_l, rv1_t, List.reverse_cons, List.reverse_nil, sat_orv, orvK_int, orvK_non, intO_int, ex_bl, ex_lst, sat_box, sat_unbox, sat_esN, sat_esC, ex_d, ex_int, ex_fl, ex_obj, ex_cell, ex_oi, kept_non, kept_int, kept_tup, kept_lst, kept_str, kept_scr, kept_self, ex_setx, ex_j, shl1, Int.toNat_natCast, Int.natCast_nonneg, start, bin_ii, bin_ll, bin_tt, bin_ss, bin_li, bin_ti, rg_1, rg_2, int_add, int_sub, int_mul, int_fdiv, int_mod, int_pow, int_shl, int_shr, int_band, int_bor, int_bxor, cmp_eq, cmp_ne, cmp_in, cmp_nin, cmp_lt, cmp_le, cmp_gt, cmp_ge, eq_op, in_lst, in_tup, ix_lst, ix_tup, ix_scr, ix_str, sl_lst, sl_tup, sl_str, end_t, end_i, bi_len_l, bi_len_t, bi_len_c, bi_len_s, bi_abs, bi_sum, bi_maxl, bi_minl, bi_max2, bi_min2, bi_any, bi_all, bi_int_i, bi_int_b, bi_list_l, bi_list_t, bi_tuple_l, bi_tuple_t, bi_sorted, bi_sset, ty_non, ty_bl, ty_int, ty_str, ty_lst, ty_tup, ty_scr, toB_bl, set_n, set_t, set_tl, it_seq_l, it_seq_t, it_seq_s, it_rng1, it_rng2, it_enm, it_enmT, it_zp_l, it_zp_t, it_rev_l, it_rev_t, me_append, me_extend, me_pop, me_reverse, me_count, ty_int_int, ty_int_bool, ty_bool_int, ty_bool_bool, ty_list_list, ty_tuple_tuple, ty_list_tuple, ty_tuple_list, ty_tuple_int, ty_tuple_bool, ty_int_tuple, ty_str_str, isNonE, toD_d, toD_fl, clo_d, clo_fl, eqB_nn, eqB_bb, eqB_bi, eqB_ib, eqB_ii, eqB_ss, eqB_ll, eqB_tt, eqB_ni, eqB_in, eqBs_00, eqBs_0c, eqBs_c0, eqBs_cc, okD, okDs, flat, small, powOk, mulOk, most, natAbs_1, natAbs_2, natAbs_10, Int.natAbs_natCast, wipe, intsOf, blsOf, pq_non, pq_bl, pq_int, pq_str, pq_tup, pq_lst, pq_scr, atI_0, atI_1, atI_2, ixN_0, ixN_1, D.closed, D.closeds, sat_ok, sat_bind, sat_guard, sat_err, Res.bind_ok, Res.bind_err, List.map_cons, List.map_nil, List.length_cons, List.length_nil, List.cons_append, List.nil_append, List.getElem?_cons_zero, List.getElem?_cons_succ, List.set_cons_zero, List.set_cons_succ, List.replicate, List.foldl_cons, List.foldl_nil, List.zip_cons_cons, List.zip_nil_left, List.zip_nil_right, Nat.reduceAdd, Nat.reduceSub, Nat.reduceLeDiff, Nat.reduceLT, Int.reduceLT, Int.reduceLE, Int.reduceNeg, Int.reducePow, Int.reduceToNat, Int.reduceAdd, Int.reduceMul, Int.reduceSub, Nat.reducePow, Nat.zero_add, Nat.add_zero, decide_true, decide_false, decide_eq_true_eq, beq_iff_eq, Bool.true_eq_false, reduceCtorEq, if_true, if_false, Bool.false_eq_true, true_and, and_true, Bool.true_and, Bool.and_true, Bool.false_and, Bool.and_false, Bool.not_true, Bool.not_false, Bool.or_true, Bool.true_or, Bool.or_false, Bool.false_or, Bool.and_eq_true, Bool.or_eq_true, Bool.not_eq_true', beq_self_eq_true, Option.map_some, Option.toList, if_true, if_false, oD, iD]
      exact ⟨_, fun g hg => by cases hg; exact hw', rfl⟩
    | some g =>
      have hg' := hg g hv
      simp -implicitDefEqProofs only [sat_exs, sat_exs_nil, sat_if, sat_asg, sat_asgT, sat_setix, sat_ex, sat_ret, sat_retN, sat_pass, sat_brk, sat_cnt, sat_raise, sat_evB, sat_ite, sat_for, rest_nx, rest_ret, sat_var, sat_non, sat_bl, sat_int, sat_str, sat_bin, sat_neg, sat_cmp, sat_chain, sat_isN, sat_notN, sat_and, sat_or, sat_not, sat_ifE, sat_tup, sat_lst, sat_ix, sat_slN, sat_slLv, sat_slHv, sat_slLb, sat_slHb, sat_slLi, sat_slHi, sat_slLc, sat_slHc, sat_cal, sat_bi, sat_isi, sat_isis, sat_me, sat_lc, sat_lcIf, sat_lcF, sat_lcFi, sat_lrng, sat_isB, sat_rev1, rv1_l, rv1_t, List.reverse_cons, List.reverse_nil, sat_orv, orvK_int, orvK_non, intO_int, ex_bl, ex_lst, sat_box, sat_unbox, sat_esN, sat_esC, ex_d, ex_int, ex_fl, ex_obj, ex_cell, ex_oi, kept_non, kept_int, kept_tup, kept_lst, kept_str, kept_scr, kept_self, ex_setx, ex_j, shl1, Int.toNat_natCast, Int.natCast_nonneg, start, bin_ii, bin_ll, bin_tt, bin_ss, bin_li, bin_ti, rg_1, rg_2, int_add, int_sub, int_mul, int_fdiv, int_mod, int_pow, int_shl, int_shr, int_band, int_bor, int_bxor, cmp_eq, cmp_ne, cmp_in, cmp_nin, cmp_lt, cmp_le, cmp_gt, cmp_ge, eq_op, in_lst, in_tup, ix_lst, ix_tup, ix_scr, ix_str, sl_lst, sl_tup, sl_str, end_t, end_i, bi_len_l, bi_len_t, bi_len_c, bi_len_s, bi_abs, bi_sum, bi_maxl, bi_minl, bi_max2, bi_min2, bi_any, bi_all, bi_int_i, bi_int_b, bi_list_l, bi_list_t, bi_tuple_l, bi_tuple_t, bi_sorted, bi_sset, ty_non, ty_bl, ty_int, ty_str, ty_lst, ty_tup, ty_scr, toB_bl, set_n, set_t, set_tl, it_seq_l, it_seq_t, it_seq_s, it_rng1, it_rng2, it_enm, it_enmT, it_zp_l, it_zp_t, it_rev_l, it_rev_t, me_append, me_extend, me_pop, me_reverse, me_count, ty_int_int, ty_int_bool, ty_bool_int, ty_bool_bool, ty_list_list, ty_tuple_tuple, ty_list_tuple, ty_tuple_list, ty_tuple_int, ty_tuple_bool, ty_int_tuple, ty_str_str, isNonE, toD_d, toD_fl, clo_d, clo_fl, eqB_nn, eqB_bb, eqB_bi, eqB_ib, eqB_ii, eqB_ss, eqB_ll, eqB_tt, eqB_ni, eqB_in, eqBs_00, eqBs_0c, eqBs_c0, eqBs_cc, okD, okDs, flat, small, powOk, mulOk, most, natAbs_1, natAbs_2, natAbs_10, Int.natAbs_natCast, wipe, intsOf, blsOf, pq_non, pq_bl, pq_int, pq_str, pq_tup, pq_lst, pq_scr, atI_0, atI_1, atI_2, ixN_0, ixN_1, D.closed, D.closeds, sat_ok, sat_bind, sat_guard, sat_err, Res.bind_ok, Res.bind_err, List.map_cons, List.map_nil, List.length_cons, List.length_nil, List.cons_append, List.nil_append, List.getElem?_cons_zero, List.getElem?_cons_succ, List.set_cons_zero, List.set_cons_succ, List.replicate, List.foldl_cons, List.foldl_nil, List.zip_cons_cons, List.zip_nil_left, List.zip_nil_right, Nat.reduceAdd, Nat.reduceSub, Nat.reduceLeDiff, Nat.reduceLT, Int.reduceLT, Int.reduceLE, Int.reduceNeg, Int.reducePow, Int.reduceToNat, Int.reduceAdd, Int.reduceMul, Int.reduceSub, Nat.reducePow, Nat.zero_add, Nat.add_zero, decide_true, decide_false, decide_eq_true_eq, beq_iff_eq, Bool.true_eq_false, reduceCtorEq, if_true, if_false, Bool.false_eq_true, true_and, and_true, Bool.true_and, Bool.and_true, Bool.false_and, Bool.and_false, Bool.not_true, Bool.not_false, Bool.or_true, Bool.true_or, Bool.or_false, Bool.false_or, Bool.and_eq_true, Bool.or_eq_true, Bool.not_eq_true', beq_self_eq_true, Option.map_some, Option.toList, if_true, if_false, oD, iD, further_ok h4 h5 h6 hw' (show c < 256 by omega), further_ok h4 h5 h6 hg' (show c < 256 by omega)]
      by_cases hlt2 : (alone 8 w c).length < (alone 8 g c).length
      · have : ((alone 8 w c).length : Int) < ((alone 8 g c).length : Int) := by omega
        simp only [this, hlt2, if_true]
        exact ⟨_, fun g hg => by cases hg; exact hw', rfl⟩
      · have : ¬ ((alone 8 w c).length : Int) < ((alone 8 g c).length : Int) := by omega
        simp only [this, hlt2, if_false]
        exact ⟨_, fun g hg => by cases hg; exact hg', rfl⟩
  · obtain ⟨rfl, _, hg, rfl⟩ := hI
    rw [Nat.zero_add, List.length_map, List.take_length]
    simp -implicitDefEqProofs only [sat_exs, sat_exs_nil, sat_if, sat_asg, sat_asgT, sat_setix, sat_ex, sat_ret, sat_retN, sat_pass, sat_brk, sat_cnt, sat_raise, sat_evB, sat_ite, sat_for, rest_nx, rest_ret, sat_var, sat_non, sat_bl, sat_int, sat_str, sat_bin, sat_neg, sat_cmp, sat_chain, sat_isN, sat_notN, sat_and, sat_or, sat_not, sat_ifE, sat_tup, sat_lst, sat_ix, sat_slN, sat_slLv, sat_slHv, sat_slLb, sat_slHb, sat_slLi, sat_slHi, sat_slLc, sat_slHc, sat_cal, sat_bi, sat_isi, sat_isis, sat_me, sat_lc, sat_lcIf, sat_lcF, sat_lcFi, sat_lrng, sat_isB, sat_rev1, rv1_l, rv1_t, List.reverse_cons, List.reverse_nil, sat_orv, orvK_int, orvK_non, intO_int, ex_bl, ex_lst, sat_box, sat_unbox, sat_esN, sat_esC, ex_d, ex_int, ex_fl, ex_obj, ex_cell, ex_oi, kept_non, kept_int, kept_tup, kept_lst, kept_str, kept_scr, kept_self, ex_setx, ex_j, shl1, Int.toNat_natCast, Int.natCast_nonneg, start, bin_ii, bin_ll, bin_tt, bin_ss, bin_li, bin_ti, rg_1, rg_2, int_add, int_sub, int_mul, int_fdiv, int_mod, int_pow, int_shl, int_shr, int_band, int_bor, int_bxor, cmp_eq, cmp_ne, cmp_in, cmp_nin, cmp_lt, cmp_le, cmp_gt, cmp_ge, eq_op, in_lst, in_tup, ix_lst, ix_tup, ix_scr, ix_str, sl_lst, sl_tup, sl_str, end_t, end_i, bi_len_l, bi_len_t, bi_len_c, bi_len_s, bi_abs, bi_sum, bi_maxl, bi_minl, bi_max2, bi_min2, bi_any, bi_all, bi_int_i, bi_int_b, bi_list_l, bi_list_t, bi_tuple_l, bi_tuple_t, bi_sorted, bi_sset, ty_non, ty_bl, ty_int, ty_str, ty_lst, ty_tup, ty_scr, toB_bl, set_n, set_t, set_tl, it_seq_l, it_seq_t, it_seq_s, it_rng1, it_rng2, it_enm, it_enmT, it_zp_l, it_zp_t, it_rev_l, it_rev_t, me_append, me_extend, me_pop, me_reverse, me_count, ty_int_int, ty_int_bool, ty_bool_int, ty_bool_bool, ty_list_list, ty_tuple_tuple, ty_list_tuple, ty_tuple_list, ty_tuple_int, ty_tuple_bool, ty_int_tuple, ty_str_str, isNonE, toD_d, toD_fl, clo_d, clo_fl, eqB_nn, eqB_bb, eqB_bi, eqB_ib, eqB_ii, eqB_ss, eqB_ll, eqB_tt, eqB_ni, eqB_in, eqBs_00, eqBs_0c, eqBs_c0, eqBs_cc, okD, okDs, flat, small, powOk, mulOk, most, natAbs_1, natAbs_2, natAbs_10, Int.natAbs_natCast, wipe, intsOf, blsOf, pq_non, pq_bl, pq_int, pq_str, pq_tup, pq_lst, pq_scr, atI_0, atI_1, atI_2, ixN_0, ixN_1, D.closed, D.closeds, sat_ok, sat_bind, sat_guard, sat_err, Res.bind_ok, Res.bind_err, List.map_cons, List.map_nil, List.length_cons, List.length_nil, List.cons_append, List.nil_append, List.getElem?_cons_zero, List.getElem?_cons_succ, List.set_cons_zero, List.set_cons_succ, List.replicate, List.foldl_cons, List.foldl_nil, List.zip_cons_cons, List.zip_nil_left, List.zip_nil_right, Nat.reduceAdd, Nat.reduceSub, Nat.reduceLeDiff, Nat.reduceLT, Int.reduceLT, Int.reduceLE, Int.reduceNeg, Int.reducePow, Int.reduceToNat, Int.reduceAdd, Int.reduceMul, Int.reduceSub, Nat.reducePow, Nat.zero_add, Nat.add_zero, decide_true, decide_false, decide_eq_true_eq, beq_iff_eq, Bool.true_eq_false, reduceCtorEq, if_true, if_false, Bool.false_eq_true, true_and, and_true, Bool.true_and, Bool.and_true, Bool.false_and, Bool.and_false, Bool.not_true, Bool.not_false, Bool.or_true, Bool.true_or, Bool.or_false, Bool.false_or, Bool.and_eq_true, Bool.or_eq_true, Bool.not_eq_true', beq_self_eq_true, Option.map_some, Option.toList, if_true, if_false]
    cases nearL c ws <;> rfl
theorem least_ok {m i j1 j2 j3 n k c x : Nat} {t : List (Option Nat)} {S : Store} (hf : fs[i]? = some (f_least_up_2a53 j1 j3)) (h1 : fs[j1]? = some (f_ways_up_8af0 j2)) (h2 : fs[j2]? = some (f_above_a9ad j3)) (h3 : fs[j3]? = some f_holds_5c7e)
    (hn : n ≤ 8) (hc : c < 2 ^ n) (ht : t.length = 2 ^ n) : call gl fs (m + 4) i [wrD n k t, .int c, .int x] S = .ok (.fl ((leastL (wayL t c x)).map iD), S) := by
  rw [← sat_def]
  have p8 := pow_le_256 hn
  refine sat_call hf rfl rfl (by simp only [D.closeds, D.closed, wr_closed, Bool.and_true]) ?_
  have hlen : (wayL t c x).length ≤ 256 := by
    have := List.length_filter_le (fun s => decide (s &&& c = c) && decide (t[s]? = some (some x))) (List.range t.length)
    rw [List.length_range] at this
    exact Nat.le_trans this (by omega)
  simp -implicitDefEqProofs only [sat_exs, sat_exs_nil, sat_if, sat_asg, sat_asgT, sat_setix, sat_ex, sat_ret, sat_retN, sat_pass, sat_brk, sat_cnt, sat_raise, sat_evB, sat_ite, sat_for, rest_nx, rest_ret, sat_var, sat_non, sat_bl, sat_int, sat_str, sat_bin, sat_neg, sat_cmp, sat_chain, sat_isN, sat_notN, sat_and, sat_or, sat_not, sat_ifE, sat_tup, sat_lst, sat_ix, sat_slN, sat_slLv, sat_slHv, sat_slLb, sat_slHb, sat_slLi, sat_slHi, sat_slLc, sat_slHc, sat_cal, sat_bi, sat_isi, sat_isis, sat_me, sat_lc, sat_lcIf, sat_lcF, sat_lcFi, sat_lrng, sat_isB, sat_rev1, rv1_l, rv1_t, List.reverse_cons, List.reverse_nil, sat_orv, orvK_int, orvK_non, intO_int, ex_bl, ex_lst, sat_box, sat_unbox, sat_esN, sat_esC, ex_d, ex_int, ex_fl, ex_obj, ex_cell, ex_oi, kept_non, kept_int, kept_tup, kept_lst, kept_str, kept_scr, kept_self, ex_setx, ex_j, shl1, Int.toNat_natCast, Int.natCast_nonneg, start, bin_ii, bin_ll, bin_tt, bin_ss, bin_li, bin_ti, rg_1, rg_2, int_add, int_sub, int_mul, int_fdiv, int_mod, int_pow, int_shl, int_shr, int_band, int_bor, int_bxor, cmp_eq, cmp_ne, cmp_in, cmp_nin, cmp_lt, cmp_le, cmp_gt, cmp_ge, eq_op, in_lst, in_tup, ix_lst, ix_tup, ix_scr, ix_str, sl_lst, sl_tup, sl_str, end_t, end_i, bi_len_l, bi_len_t, bi_len_c, bi_len_s, bi_abs, bi_sum, bi_maxl, bi_minl, bi_max2, bi_min2, bi_any, bi_all, bi_int_i, bi_int_b, bi_list_l, bi_list_t, bi_tuple_l, bi_tuple_t, bi_sorted, bi_sset, ty_non, ty_bl, ty_int, ty_str, ty_lst, ty_tup, ty_scr, toB_bl, set_n, set_t, set_tl, it_seq_l, it_seq_t, it_seq_s, it_rng1, it_rng2, it_enm, it_enmT, it_zp_l, it_zp_t, it_rev_l, it_rev_t, me_append, me_extend, me_pop, me_reverse, me_count, ty_int_int, ty_int_bool, ty_bool_int, ty_bool_bool, ty_list_list, ty_tuple_tuple, ty_list_tuple, ty_tuple_list, ty_tuple_int, ty_tuple_bool, ty_int_tuple, ty_str_str, isNonE, toD_d, toD_fl, clo_d, clo_fl, eqB_nn, eqB_bb, eqB_bi, eqB_ib, eqB_ii, eqB_ss, eqB_ll, eqB_tt, eqB_ni, eqB_in, eqBs_00, eqBs_0c, eqBs_c0, eqBs_cc, okD, okDs, flat, small, powOk, mulOk, most, natAbs_1, natAbs_2, natAbs_10, Int.natAbs_natCast, wipe, intsOf, blsOf, pq_non, pq_bl, pq_int, pq_str, pq_tup, pq_lst, pq_scr, atI_0, atI_1, atI_2, ixN_0, ixN_1, D.closed, D.closeds, sat_ok, sat_bind, sat_guard, sat_err, Res.bind_ok, Res.bind_err, List.map_cons, List.map_nil, List.length_cons, List.length_nil, List.cons_append, List.nil_append, List.getElem?_cons_zero, List.getElem?_cons_succ, List.set_cons_zero, List.set_cons_succ, List.replicate, List.foldl_cons, List.foldl_nil, List.zip_cons_cons, List.zip_nil_left, List.zip_nil_right, Nat.reduceAdd, Nat.reduceSub, Nat.reduceLeDiff, Nat.reduceLT, Int.reduceLT, Int.reduceLE, Int.reduceNeg, Int.reducePow, Int.reduceToNat, Int.reduceAdd, Int.reduceMul, Int.reduceSub, Nat.reducePow, Nat.zero_add, Nat.add_zero, decide_true, decide_false, decide_eq_true_eq, beq_iff_eq, Bool.true_eq_false, reduceCtorEq, if_true, if_false, Bool.false_eq_true, true_and, and_true, Bool.true_and, Bool.and_true, Bool.false_and, Bool.and_false, Bool.not_true, Bool.not_false, Bool.or_true, Bool.true_or, Bool.or_false, Bool.false_or, Bool.and_eq_true, Bool.or_eq_true, Bool.not_eq_true', beq_self_eq_true, Option.map_some, Option.toList, if_true, if_false, f_least_up_2a53, ways_ok h1 h2 h3 hn hc ht]
  generalize wayL t c x = ws at hlen
  have hll : ∀ i, i ≤ ws.length → (leastL (ws.take i)).length ≤ i := fun i => by
    induction i with
    | zero => intro _; simp [leastL]
    | succ i ih =>
      intro hi
      have hi' : i < ws.length := by omega
      rw [List.take_add_one, List.getElem?_eq_getElem hi', Option.toList, leastL_snoc]
      split
      · rw [List.length_append]
        have := ih (by omega)
        simp
        omega
      · have := ih (by omega)
        omega
  refine sat_loopF (fun i env T => T = [.lst ((leastL (ws.take i)).map iD)] ∧ ∃ q q2 : Option D, env = [some (wrD n k t), some (.int c), some (.int x), some (.obj 0), q, q2]) _ 0 _ _ ⟨rfl, _, _, rfl⟩ (fun a d env T hd hI => ?_) (fun env T hI => ?_)
  · obtain ⟨rfl, _, _, rfl⟩ := hI
    rw [Nat.zero_add]
    rw [List.getElem?_map] at hd
    obtain ⟨w, hw, rfl⟩ := Option.map_eq_some_iff.mp hd
    have ha := (List.getElem?_eq_some_iff.mp hw).1
    have hl := hll a (by omega)
    have et : ws.take (a + 1) = ws.take a ++ [w] := by
      rw [List.take_add_one, hw]
      rfl
    rw [et, leastL_snoc]
    generalize leastL (ws.take a) = L at hl
    have c0 : ([Cell.lst (L.map iD)] : Store)[0]? = some (.lst (L.map iD)) := rfl
    simp -implicitDefEqProofs only [sat_exs, sat_exs_nil, sat_if, sat_asg, sat_asgT, sat_setix, sat_ex, sat_ret, sat_retN, sat_pass, sat_brk, sat_cnt, sat_raise, sat_evB, sat_ite, sat_for, rest_nx, rest_ret, sat_var, sat_non, sat_bl, sat_int, sat_str, sat_bin, sat_neg, sat_cmp, sat_chain, sat_isN, sat_notN, sat_and, sat_or, sat_not, sat_ifE, sat_tup, sat_lst, sat_ix, sat_slN, sat_slLv, sat_slHv, sat_slLb, sat_slHb, sat_slLi, sat_slHi, sat_slLc, sat_slHc, sat_cal, sat_bi, sat_isi, sat_isis, sat_me, sat_lc, sat_lcIf, sat_lcF, sat_lcFi, sat_lrng, sat_isB, sat_rev1, rv1_l, rv1_t, List.reverse_cons, List.reverse_nil, sat_orv, orvK_int, orvK_non, intO_int, ex_bl, ex_lst, sat_box, sat_unbox, sat_esN, sat_esC, ex_d, ex_int, ex_fl, ex_obj, ex_cell, ex_oi, kept_non, kept_int, kept_tup, kept_lst, kept_str, kept_scr, kept_self, ex_setx, ex_j, shl1, Int.toNat_natCast, Int.natCast_nonneg, start, bin_ii, bin_ll, bin_tt, bin_ss, bin_li, bin_ti, rg_1, rg_2, int_add, int_sub, int_mul, int_fdiv, int_mod, int_pow, int_shl, int_shr, int_band, int_bor, int_bxor, cmp_eq, cmp_ne, cmp_in, cmp_nin, cmp_lt, cmp_le, cmp_gt, cmp_ge, eq_op, in_lst, in_tup, ix_lst, ix_tup, ix_scr, ix_str, sl_lst, sl_tup, sl_str, end_t, end_i, bi_len_l, bi_len_t, bi_len_c, bi_len_s, bi_abs, bi_sum, bi_maxl, bi_minl, bi_max2, bi_min2, bi_any, bi_all, bi_int_i, bi_int_b, bi_list_l, bi_list_t, bi_tuple_l, bi_tuple_t, bi_sorted, bi_sset, ty_non, ty_bl, ty_int, ty_str, ty_lst, ty_tup, ty_scr, toB_bl, set_n, set_t, set_tl, it_seq_l, it_seq_t, it_seq_s, it_rng1, it_rng2, it_enm, it_enmT, it_zp_l, it_zp_t, it_rev_l, it_rev_t, me_append, me_extend, me_pop, me_reverse, me_count, ty_int_int, ty_int_bool, ty_bool_int, ty_bool_bool, ty_list_list, ty_tuple_tuple, ty_list_tuple, ty_tuple_list, ty_tuple_int, ty_tuple_bool, ty_int_tuple, ty_str_str, isNonE, toD_d, toD_fl, clo_d, clo_fl, eqB_nn, eqB_bb, eqB_bi, eqB_ib, eqB_ii, eqB_ss, eqB_ll, eqB_tt, eqB_ni, eqB_in, eqBs_00, eqBs_0c, eqBs_c0, eqBs_cc, okD, okDs, flat, small, powOk, mulOk, most, natAbs_1, natAbs_2, natAbs_10, Int.natAbs_natCast, wipe, intsOf, blsOf, pq_non, pq_bl, pq_int, pq_str, pq_tup, pq_lst, pq_scr, atI_0, atI_1, atI_2, ixN_0, ixN_1, D.closed, D.closeds, sat_ok, sat_bind, sat_guard, sat_err, Res.bind_ok, Res.bind_err, List.map_cons, List.map_nil, List.length_cons, List.length_nil, List.cons_append, List.nil_append, List.getElem?_cons_zero, List.getElem?_cons_succ, List.set_cons_zero, List.set_cons_succ, List.replicate, List.foldl_cons, List.foldl_nil, List.zip_cons_cons, List.zip_nil_left, List.zip_nil_right, Nat.reduceAdd, Nat.reduceSub, Nat.reduceLeDiff, Nat.reduceLT, Int.reduceLT, Int.reduceLE, Int.reduceNeg, Int.reducePow, Int.reduceToNat, Int.reduceAdd, Int.reduceMul, Int.reduceSub, Nat.reducePow, Nat.zero_add, Nat.add_zero, decide_true, decide_false, decide_eq_true_eq, beq_iff_eq, Bool.true_eq_false, reduceCtorEq, if_true, if_false, Bool.false_eq_true, true_and, and_true, Bool.true_and, Bool.and_true, Bool.false_and, Bool.and_false, Bool.not_true, Bool.not_false, Bool.or_true, Bool.true_or, Bool.or_false, Bool.false_or, Bool.and_eq_true, Bool.or_eq_true, Bool.not_eq_true', beq_self_eq_true, Option.map_some, Option.toList, if_true, if_false, iD, pq_obj c0]
    rw [sat_eq (compL_fi (p := fun o => decide (w &&& o = o)) (h := iD) (by simp [kept]) ?c1)]
    case c1 =>
      intro o ho
      simp -implicitDefEqProofs only [sat_exs, sat_exs_nil, sat_if, sat_asg, sat_asgT, sat_setix, sat_ex, sat_ret, sat_retN, sat_pass, sat_brk, sat_cnt, sat_raise, sat_evB, sat_ite, sat_for, rest_nx, rest_ret, sat_var, sat_non, sat_bl, sat_int, sat_str, sat_bin, sat_neg, sat_cmp, sat_chain, sat_isN, sat_notN, sat_and, sat_or, sat_not, sat_ifE, sat_tup, sat_lst, sat_ix, sat_slN, sat_slLv, sat_slHv, sat_slLb, sat_slHb, sat_slLi, sat_slHi, sat_slLc, sat_slHc, sat_cal, sat_bi, sat_isi, sat_isis, sat_me, sat_lc, sat_lcIf, sat_lcF, sat_lcFi, sat_lrng, sat_isB, sat_rev1, rv1_l, rv1_t, List.reverse_cons, List.reverse_nil, sat_orv, orvK_int, orvK_non, intO_int, ex_bl, ex_lst, sat_box, sat_unbox, sat_esN, sat_esC, ex_d, ex_int, ex_fl, ex_obj, ex_cell, ex_oi, kept_non, kept_int, kept_tup, kept_lst, kept_str, kept_scr, kept_self, ex_setx, ex_j, shl1, Int.toNat_natCast, Int.natCast_nonneg, start, bin_ii, bin_ll, bin_tt, bin_ss, bin_li, bin_ti, rg_1, rg_2, int_add, int_sub, int_mul, int_fdiv, int_mod, int_pow, int_shl, int_shr, int_band, int_bor, int_bxor, cmp_eq, cmp_ne, cmp_in, cmp_nin, cmp_lt, cmp_le, cmp_gt, cmp_ge, eq_op, in_lst, in_tup, ix_lst, ix_tup, ix_scr, ix_str, sl_lst, sl_tup, sl_str, end_t, end_i, bi_len_l, bi_len_t, bi_len_c, bi_len_s, bi_abs, bi_sum, bi_maxl, bi_minl, bi_max2, bi_min2, bi_any, bi_all, bi_int_i, bi_int_b, bi_list_l, bi_list_t, bi_tuple_l, bi_tuple_t, bi_sorted, bi_sset, ty_non, ty_bl, ty_int, ty_str, ty_lst, ty_tup, ty_scr, toB_bl, set_n, set_t, set_tl, it_seq_l, it_seq_t, it_seq_s, it_rng1, it_rng2, it_enm, it_enmT, it_zp_l, it_zp_t, it_rev_l, it_rev_t, me_append, me_extend, me_pop, me_reverse, me_count, ty_int_int, ty_int_bool, ty_bool_int, ty_bool_bool, ty_list_list, ty_tuple_tuple, ty_list_tuple, ty_tuple_list, ty_tuple_int, ty_tuple_bool, ty_int_tuple, ty_str_str, isNonE, toD_d, toD_fl, clo_d, clo_fl, eqB_nn, eqB_bb, eqB_bi, eqB_ib, eqB_ii, eqB_ss, eqB_ll, eqB_tt, eqB_ni, eqB_in, eqBs_00, eqBs_0c, eqBs_c0, eqBs_cc, okD, okDs, flat, small, powOk, mulOk, most, natAbs_1, natAbs_2, natAbs_10, Int.natAbs_natCast, wipe, intsOf, blsOf, pq_non, pq_bl, pq_int, pq_str, pq_tup, pq_lst, pq_scr, atI_0, atI_1, atI_2, ixN_0, ixN_1, D.closed, D.closeds, sat_ok, sat_bind, sat_guard, sat_err, Res.bind_ok, Res.bind_err, List.map_cons, List.map_nil, List.length_cons, List.length_nil, List.cons_append, List.nil_append, List.getElem?_cons_zero, List.getElem?_cons_succ, List.set_cons_zero, List.set_cons_succ, List.replicate, List.foldl_cons, List.foldl_nil, List.zip_cons_cons, List.zip_nil_left, List.zip_nil_right, Nat.reduceAdd, Nat.reduceSub, Nat.reduceLeDiff, Nat.reduceLT, Int.reduceLT, Int.reduceLE, Int.reduceNeg, Int.reducePow, Int.reduceToNat, Int.reduceAdd, Int.reduceMul, Int.reduceSub, Nat.reducePow, Nat.zero_add, Nat.add_zero, decide_true, decide_false, decide_eq_true_eq, beq_iff_eq, Bool.true_eq_false, reduceCtorEq, if_true, if_false, Bool.false_eq_true, true_and, and_true, Bool.true_and, Bool.and_true, Bool.false_and, Bool.and_false, Bool.not_true, Bool.not_false, Bool.or_true, Bool.true_or, Bool.or_false, Bool.false_or, Bool.and_eq_true, Bool.or_eq_true, Bool.not_eq_true', beq_self_eq_true, Option.map_some, Option.toList, if_true, if_false, sat_lcFi, iD, holds_ok h3]
      by_cases h : w &&& o = o <;> simp [h]
    simp -implicitDefEqProofs only [sat_exs, sat_exs_nil, sat_if, sat_asg, sat_asgT, sat_setix, sat_ex, sat_ret, sat_retN, sat_pass, sat_brk, sat_cnt, sat_raise, sat_evB, sat_ite, sat_for, rest_nx, rest_ret, sat_var, sat_non, sat_bl, sat_int, sat_str, sat_bin, sat_neg, sat_cmp, sat_chain, sat_isN, sat_notN, sat_and, sat_or, sat_not, sat_ifE, sat_tup, sat_lst, sat_ix, sat_slN, sat_slLv, sat_slHv, sat_slLb, sat_slHb, sat_slLi, sat_slHi, sat_slLc, sat_slHc, sat_cal, sat_bi, sat_isi, sat_isis, sat_me, sat_lc, sat_lcIf, sat_lcF, sat_lcFi, sat_lrng, sat_isB, sat_rev1, rv1_l, rv1_t, List.reverse_cons, List.reverse_nil, sat_orv, orvK_int, orvK_non, intO_int, ex_bl, ex_lst, sat_box, sat_unbox, sat_esN, sat_esC, ex_d, ex_int, ex_fl, ex_obj, ex_cell, ex_oi, kept_non, kept_int, kept_tup, kept_lst, kept_str, kept_scr, kept_self, ex_setx, ex_j, shl1, Int.toNat_natCast, Int.natCast_nonneg, start, bin_ii, bin_ll, bin_tt, bin_ss, bin_li, bin_ti, rg_1, rg_2, int_add, int_sub, int_mul, int_fdiv, int_mod, int_pow, int_shl, int_shr, int_band, int_bor, int_bxor, cmp_eq, cmp_ne, cmp_in, cmp_nin, cmp_lt, cmp_le, cmp_gt, cmp_ge, eq_op, in_lst, in_tup, ix_lst, ix_tup, ix_scr, ix_str, sl_lst, sl_tup, sl_str, end_t, end_i, bi_len_l, bi_len_t, bi_len_c, bi_len_s, bi_abs, bi_sum, bi_maxl, bi_minl, bi_max2, bi_min2, bi_any, bi_all, bi_int_i, bi_int_b, bi_list_l, bi_list_t, bi_tuple_l, bi_tuple_t, bi_sorted, bi_sset, ty_non, ty_bl, ty_int, ty_str, ty_lst, ty_tup, ty_scr, toB_bl, set_n, set_t, set_tl, it_seq_l, it_seq_t, it_seq_s, it_rng1, it_rng2, it_enm, it_enmT, it_zp_l, it_zp_t, it_rev_l, it_rev_t, me_append, me_extend, me_pop, me_reverse, me_count, ty_int_int, ty_int_bool, ty_bool_int, ty_bool_bool, ty_list_list, ty_tuple_tuple, ty_list_tuple, ty_tuple_list, ty_tuple_int, ty_tuple_bool, ty_int_tuple, ty_str_str, isNonE, toD_d, toD_fl, clo_d, clo_fl, eqB_nn, eqB_bb, eqB_bi, eqB_ib, eqB_ii, eqB_ss, eqB_ll, eqB_tt, eqB_ni, eqB_in, eqBs_00, eqBs_0c, eqBs_c0, eqBs_cc, okD, okDs, flat, small, powOk, mulOk, most, natAbs_1, natAbs_2, natAbs_10, Int.natAbs_natCast, wipe, intsOf, blsOf, pq_non, pq_bl, pq_int, pq_str, pq_tup, pq_lst, pq_scr, atI_0, atI_1, atI_2, ixN_0, ixN_1, D.closed, D.closeds, sat_ok, sat_bind, sat_guard, sat_err, Res.bind_ok, Res.bind_err, List.map_cons, List.map_nil, List.length_cons, List.length_nil, List.cons_append, List.nil_append, List.getElem?_cons_zero, List.getElem?_cons_succ, List.set_cons_zero, List.set_cons_succ, List.replicate, List.foldl_cons, List.foldl_nil, List.zip_cons_cons, List.zip_nil_left, List.zip_nil_right, Nat.reduceAdd, Nat.reduceSub, Nat.reduceLeDiff, Nat.reduceLT, Int.reduceLT, Int.reduceLE, Int.reduceNeg, Int.reducePow, Int.reduceToNat, Int.reduceAdd, Int.reduceMul, Int.reduceSub, Nat.reducePow, Nat.zero_add, Nat.add_zero, decide_true, decide_false, decide_eq_true_eq, beq_iff_eq, Bool.true_eq_false, reduceCtorEq, if_true, if_false, Bool.false_eq_true, true_and, and_true, Bool.true_and, Bool.and_true, Bool.false_and, Bool.and_false, Bool.not_true, Bool.not_false, Bool.or_true, Bool.true_or, Bool.or_false, Bool.false_or, Bool.and_eq_true, Bool.or_eq_true, Bool.not_eq_true', beq_self_eq_true, Option.map_some, Option.toList, if_true, if_false, okDs_iD]
    refine ⟨by rw [List.length_map]; omega, ?_⟩
    have hz : (eqBs ((L.filter fun o => decide (w &&& o = o)).map iD) [] = true) ↔ L.filter (fun o => decide (w &&& o = o)) = [] := by
      cases L.filter (fun o => decide (w &&& o = o)) <;> simp [eqBs]
    simp only [hz]
    split
    · rw [me_append c0, sat_guard, sat_ok]
      refine ⟨decide_eq_true (show _ < 16777216 by rw [List.length_map]; omega), ?_, _, _, rfl⟩
      rw [List.map_append]
      rfl
    · exact ⟨rfl, _, _, rfl⟩
  · obtain ⟨rfl, _, _, rfl⟩ := hI
    rw [Nat.zero_add, List.length_map, List.take_length]
    simp -implicitDefEqProofs only [sat_exs, sat_exs_nil, sat_if, sat_asg, sat_asgT, sat_setix, sat_ex, sat_ret, sat_retN, sat_pass, sat_brk, sat_cnt, sat_raise, sat_evB, sat_ite, sat_for, rest_nx, rest_ret, sat_var, sat_non, sat_bl, sat_int, sat_str, sat_bin, sat_neg, sat_cmp, sat_chain, sat_isN, sat_notN, sat_and, sat_or, sat_not, sat_ifE, sat_tup, sat_lst, sat_ix, sat_slN, sat_slLv, sat_slHv, sat_slLb, sat_slHb, sat_slLi, sat_slHi, sat_slLc, sat_slHc, sat_cal, sat_bi, sat_isi, sat_isis, sat_me, sat_lc, sat_lcIf, sat_lcF, sat_lcFi, sat_lrng, sat_isB, sat_rev1, rv1_l, rv1_t, List.reverse_cons, List.reverse_nil, sat_orv, orvK_int, orvK_non, intO_int, ex_bl, ex_lst, sat_box, sat_unbox, sat_esN, sat_esC, ex_d, ex_int, ex_fl, ex_obj, ex_cell, ex_oi, kept_non, kept_int, kept_tup, kept_lst, kept_str, kept_scr, kept_self, ex_setx, ex_j, shl1, Int.toNat_natCast, Int.natCast_nonneg, start, bin_ii, bin_ll, bin_tt, bin_ss, bin_li, bin_ti, rg_1, rg_2, int_add, int_sub, int_mul, int_fdiv, int_mod, int_pow, int_shl, int_shr, int_band, int_bor, int_bxor, cmp_eq, cmp_ne, cmp_in, cmp_nin, cmp_lt, cmp_le, cmp_gt, cmp_ge, eq_op, in_lst, in_tup, ix_lst, ix_tup, ix_scr, ix_str, sl_lst, sl_tup, sl_str, end_t, end_i, bi_len_l, bi_len_t, bi_len_c, bi_len_s, bi_abs, bi_sum, bi_maxl, bi_minl, bi_max2, bi_min2, bi_any, bi_all, bi_int_i, bi_int_b, bi_list_l, bi_list_t, bi_tuple_l, bi_tuple_t, bi_sorted, bi_sset, ty_non, ty_bl, ty_int, ty_str, ty_lst, ty_tup, ty_scr, toB_bl, set_n, set_t, set_tl, it_seq_l, it_seq_t, it_seq_s, it_rng1, it_rng2, it_enm, it_enmT, it_zp_l, it_zp_t, it_rev_l, it_rev_t, me_append, me_extend, me_pop, me_reverse, me_count, ty_int_int, ty_int_bool, ty_bool_int, ty_bool_bool, ty_list_list, ty_tuple_tuple, ty_list_tuple, ty_tuple_list, ty_tuple_int, ty_tuple_bool, ty_int_tuple, ty_str_str, isNonE, toD_d, toD_fl, clo_d, clo_fl, eqB_nn, eqB_bb, eqB_bi, eqB_ib, eqB_ii, eqB_ss, eqB_ll, eqB_tt, eqB_ni, eqB_in, eqBs_00, eqBs_0c, eqBs_c0, eqBs_cc, okD, okDs, flat, small, powOk, mulOk, most, natAbs_1, natAbs_2, natAbs_10, Int.natAbs_natCast, wipe, intsOf, blsOf, pq_non, pq_bl, pq_int, pq_str, pq_tup, pq_lst, pq_scr, atI_0, atI_1, atI_2, ixN_0, ixN_1, D.closed, D.closeds, sat_ok, sat_bind, sat_guard, sat_err, Res.bind_ok, Res.bind_err, List.map_cons, List.map_nil, List.length_cons, List.length_nil, List.cons_append, List.nil_append, List.getElem?_cons_zero, List.getElem?_cons_succ, List.set_cons_zero, List.set_cons_succ, List.replicate, List.foldl_cons, List.foldl_nil, List.zip_cons_cons, List.zip_nil_left, List.zip_nil_right, Nat.reduceAdd, Nat.reduceSub, Nat.reduceLeDiff, Nat.reduceLT, Int.reduceLT, Int.reduceLE, Int.reduceNeg, Int.reducePow, Int.reduceToNat, Int.reduceAdd, Int.reduceMul, Int.reduceSub, Nat.reducePow, Nat.zero_add, Nat.add_zero, decide_true, decide_false, decide_eq_true_eq, beq_iff_eq, Bool.true_eq_false, reduceCtorEq, if_true, if_false, Bool.false_eq_true, true_and, and_true, Bool.true_and, Bool.and_true, Bool.false_and, Bool.and_false, Bool.not_true, Bool.not_false, Bool.or_true, Bool.true_or, Bool.or_false, Bool.false_or, Bool.and_eq_true, Bool.or_eq_true, Bool.not_eq_true', beq_self_eq_true, Option.map_some, Option.toList, if_true, if_false]
    exact closeds_iD _
/-! ### what they are -/
end
theorem snoc_ind {P : List Nat → Prop} (h0 : P []) (h1 : ∀ ws x, P ws → P (ws ++ [x])) (ws : List Nat) : P ws := by
  rw [← List.reverse_reverse ws]
  induction ws.reverse with
  | nil => exact h0
  | cons x l ih =>
    rw [List.reverse_cons]
    exact h1 _ x ih
theorem leastL_sub (ws : List Nat) : ∀ x ∈ leastL ws, x ∈ ws := by
  refine snoc_ind (P := fun ws => ∀ x ∈ leastL ws, x ∈ ws) (by simp [leastL]) (fun ws y ih x h => ?_) ws
  rw [leastL_snoc] at h
  split at h
  · rcases List.mem_append.mp h with h | h
    · exact List.mem_append_left _ (ih x h)
    · exact List.mem_append_right _ h
  · exact List.mem_append_left _ (ih x h)
theorem leastL_all (ws : List Nat) : ∀ w ∈ ws, ∃ o ∈ leastL ws, w &&& o = o := by
  refine snoc_ind (P := fun ws => ∀ w ∈ ws, ∃ o ∈ leastL ws, w &&& o = o) (by simp) (fun ws y ih w h => ?_) ws
  rw [leastL_snoc]
  have keep : ∀ w ∈ ws, ∃ o ∈ (if (leastL ws).filter (fun o => decide (y &&& o = o)) = [] then leastL ws ++ [y] else leastL ws), w &&& o = o := fun w hw => by
    obtain ⟨o, h1, h2⟩ := ih w hw
    refine ⟨o, ?_, h2⟩
    split
    · exact List.mem_append_left _ h1
    · exact h1
  rcases List.mem_append.mp h with h | h
  · exact keep w h
  · cases List.mem_singleton.mp h
    split
    · exact ⟨y, List.mem_append_right _ (List.mem_singleton.mpr rfl), Nat.and_self y⟩
    · rename_i hne
      cases hz : (leastL ws).filter (fun o => decide (y &&& o = o)) with
      | nil => exact absurd hz hne
      | cons o os =>
        have : o ∈ (leastL ws).filter (fun o => decide (y &&& o = o)) := by rw [hz]; exact List.mem_cons_self
        obtain ⟨h1, h2⟩ := List.mem_filter.mp this
        exact ⟨o, h1, of_decide_eq_true h2⟩
theorem leastL_apart (ws : List Nat) (hs : ws.Pairwise (· < ·)) : ∀ a ∈ leastL ws, ∀ b ∈ leastL ws, b ≠ a → a &&& b ≠ b := by
  refine snoc_ind (P := fun ws => ws.Pairwise (· < ·) → ∀ a ∈ leastL ws, ∀ b ∈ leastL ws, b ≠ a → a &&& b ≠ b) (by simp [leastL]) (fun ws y ih hs a ha b hb hab => ?_) ws hs
  obtain ⟨s1, _, s2⟩ := List.pairwise_append.mp hs
  rw [leastL_snoc] at ha hb
  split at ha
  · rename_i hz
    rw [if_pos hz] at hb
    rcases List.mem_append.mp ha with ha | ha
    · rcases List.mem_append.mp hb with hb | hb
      · exact ih s1 a ha b hb hab
      · cases List.mem_singleton.mp hb
        have := s2 a (leastL_sub ws a ha) y (List.mem_singleton.mpr rfl)
        intro h
        have := and_ge h
        omega
    · cases List.mem_singleton.mp ha
      rcases List.mem_append.mp hb with hb | hb
      · intro h
        have : b ∈ (leastL ws).filter (fun o => decide (y &&& o = o)) := List.mem_filter.mpr ⟨hb, decide_eq_true h⟩
        rw [hz] at this
        simp at this
      · exact absurd (List.mem_singleton.mp hb) hab
  · rename_i hz
    rw [if_neg hz] at hb
    exact ih s1 a ha b hb hab
theorem leastL_nil (ws : List Nat) : leastL ws = [] ↔ ws = [] := by
  constructor
  · intro h
    cases ws with
    | nil => rfl
    | cons w ws =>
      obtain ⟨o, h1, _⟩ := leastL_all (w :: ws) w List.mem_cons_self
      rw [h] at h1
      simp at h1
  · rintro rfl
    rfl
theorem nearL_spec (c : Nat) (ws : List Nat) : (nearL c ws = none ↔ ws = []) ∧ ∀ g, nearL c ws = some g → g ∈ ws ∧ ∀ w ∈ ws, (alone 8 g c).length ≤ (alone 8 w c).length := by
  refine snoc_ind (P := fun ws => (nearL c ws = none ↔ ws = []) ∧ ∀ g, nearL c ws = some g → g ∈ ws ∧ ∀ w ∈ ws, (alone 8 g c).length ≤ (alone 8 w c).length) ⟨by simp [nearL], by simp [nearL]⟩ (fun ws y ih => ?_) ws
  rw [nearL_snoc]
  cases hv : nearL c ws with
  | none =>
    have := ih.1.mp hv
    subst this
    refine ⟨by simp, fun g hg => ?_⟩
    cases hg
    simp
  | some h =>
    obtain ⟨h1, h2⟩ := ih.2 h hv
    dsimp only
    split
    · rename_i hlt
      refine ⟨by simp, fun g hg => ?_⟩
      cases hg
      refine ⟨by simp, fun w hw => ?_⟩
      rcases List.mem_append.mp hw with hw | hw
      · exact Nat.le_trans (Nat.le_of_lt hlt) (h2 w hw)
      · cases List.mem_singleton.mp hw
        exact Nat.le_refl _
    · rename_i hlt
      refine ⟨by simp, fun g hg => ?_⟩
      cases hg
      refine ⟨List.mem_append_left _ h1, fun w hw => ?_⟩
      rcases List.mem_append.mp hw with hw | hw
      · exact h2 w hw
      · cases List.mem_singleton.mp hw
        omega
end Nl

/-! k07: nearest. -/
namespace Nl
theorem lePr_iff7 {p q : Int × Int} : lePr p q = true ↔ (p.1 < q.1 ∨ (p.1 = q.1 ∧ p.2 ≤ q.2)) := by simp [lePr]
/-- what comes first in a sorted list of pairs -/
theorem sortPr_head (ps : List (Int × Int)) : (sortPr ps = [] ↔ ps = []) ∧ ∀ h r, sortPr ps = h :: r → h ∈ ps ∧ ∀ q ∈ ps, lePr h q = true := by
  induction ps with
  | nil => exact ⟨Iff.rfl, fun h r e => by cases e⟩
  | cons p ps ih =>
    have hins : ∀ ys : List (Int × Int), insP p ys ≠ [] := fun ys => by
      cases ys with
      | nil => simp [insP]
      | cons y ys => unfold insP; split <;> simp
    refine ⟨⟨fun e => absurd e (hins _), fun e => by cases e⟩, fun h r e => ?_⟩
    change insP p (sortPr ps) = h :: r at e
    cases hs : sortPr ps with
    | nil =>
      rw [hs] at e
      have := ih.1.mp hs
      subst this
      simp [insP] at e
      obtain ⟨rfl, rfl⟩ := e
      exact ⟨by simp, fun q hq => by simp at hq; subst hq; rw [lePr_iff7]; omega⟩
    | cons y ys =>
      rw [hs] at e
      obtain ⟨h1, h2⟩ := ih.2 y ys hs
      unfold insP at e
      split at e
      · rename_i hp
        cases e
        refine ⟨List.mem_cons_self, fun q hq => ?_⟩
        rcases List.mem_cons.mp hq with rfl | hq
        · rw [lePr_iff7]; omega
        · have := h2 q hq
          rw [lePr_iff7] at *
          omega
      · rename_i hp
        cases e
        refine ⟨List.mem_cons_of_mem _ h1, fun q hq => ?_⟩
        rcases List.mem_cons.mp hq with rfl | hq
        · rw [lePr_iff7] at *
          omega
        · exact h2 q hq
theorem nearL_least (c : Nat) (ws : List Nat) : ws.Pairwise (· < ·) → ∀ g, nearL c ws = some g → ∀ w ∈ ws, (alone 8 w c).length = (alone 8 g c).length → g ≤ w := by
  refine snoc_ind (P := fun ws => ws.Pairwise (· < ·) → ∀ g, nearL c ws = some g → ∀ w ∈ ws, (alone 8 w c).length = (alone 8 g c).length → g ≤ w) ?_ ?_ ws
  · intro _ g e
    cases e
  · intro ws x ih hp g e w hw he
    obtain ⟨p1, p2, p3⟩ := List.pairwise_append.mp hp
    have hle : ∀ v ∈ ws, v < x := fun v hv => p3 v hv x (by simp)
    rw [nearL_snoc] at e
    obtain ⟨s1, s2⟩ := nearL_spec c ws
    cases hn : nearL c ws with
    | none =>
      rw [hn] at e
      have hws := s1.mp hn
      subst hws
      simp at hw
      subst hw
      cases e
      exact Nat.le_refl _
    | some f =>
      rw [hn] at e
      obtain ⟨f1, f2⟩ := s2 f hn
      dsimp only at e
      split at e
      · rename_i hlt
        cases e
        rcases List.mem_append.mp hw with hw | hw
        · have := f2 w hw
          omega
        · simp at hw; omega
      · rename_i hlt
        cases e
        rcases List.mem_append.mp hw with hw | hw
        · exact ih p1 g hn w hw he
        · simp at hw
          subst hw
          exact Nat.le_of_lt (hle g f1)
def prN (c : Nat) (w : Nat) : Int × Int := (((alone 8 w c).length : Nat), (w : Nat))
theorem prsOf_map (c : Nat) : ∀ ws : List Nat, prsOf (ws.map fun w => prD (prN c w)) = some (ws.map (prN c))
  | [] => rfl
  | w :: ws => by
    simp only [List.map_cons, prD, prN, prsOf]
    have := prsOf_map c ws
    simp only [prD, prN] at this
    rw [this]
    rfl
theorem near_head (c : Nat) (ws : List Nat) (hp : ws.Pairwise (· < ·)) : match nearL c ws with
    | none => sortPr (ws.map (prN c)) = []
    | some g => ∃ r, sortPr (ws.map (prN c)) = prN c g :: r := by
  obtain ⟨s1, s2⟩ := nearL_spec c ws
  obtain ⟨h1, h2⟩ := sortPr_head (ws.map (prN c))
  cases hn : nearL c ws with
  | none =>
    have := s1.mp hn
    subst this
    rfl
  | some g =>
    obtain ⟨g1, g2⟩ := s2 g hn
    cases hs : sortPr (ws.map (prN c)) with
    | nil =>
      have := h1.mp hs
      rw [List.map_eq_nil_iff] at this
      subst this
      cases g1
    | cons y r =>
      obtain ⟨m1, m2⟩ := h2 y r hs
      obtain ⟨w, hw, rfl⟩ := List.mem_map.mp m1
      have a1 := m2 _ (List.mem_map.mpr ⟨g, g1, rfl⟩)
      have a2 := g2 w hw
      rw [lePr_iff7] at a1
      simp only [prN] at a1
      have e : w = g := by
        have hle := nearL_least c ws hp g hn w hw
        omega
      subst e
      exact ⟨r, rfl⟩
section
variable {gl : Nat → Option D} {fs : List Fn}
theorem more_ok {m i a b : Nat} {S : Store} (hf : fs[i]? = some f_law_more_336a) : call gl fs (m + 1) i [.int a, .int b] S = .ok (.d (.int ((alone 8 a b).length : Nat)), S) := by
  rw [← sat_def]
  refine sat_call hf rfl rfl rfl ?_
  simp -implicitDefEqProofs only [sat_exs, sat_exs_nil, sat_if, sat_asg, sat_asgT, sat_setix, sat_ex, sat_ret, sat_retN, sat_pass, sat_brk, sat_cnt, sat_raise, sat_evB, sat_ite, sat_for, rest_nx, rest_ret, sat_var, sat_non, sat_bl, sat_int, sat_str, sat_bin, sat_neg, sat_cmp, sat_chain, sat_isN, sat_notN, sat_and, sat_or, sat_not, sat_ifE, sat_tup, sat_lst, sat_ix, sat_slN, sat_slLv, sat_slHv, sat_slLb, sat_slHb, sat_slLi, sat_slHi, sat_slLc, sat_slHc, sat_cal, sat_bi, sat_isi, sat_isis, sat_trng, sat_lsn, sat_lidx, it_rr1, it_rr2, bi_sortP, bi_repr, sat_dnew, sat_din, sat_dget, sat_dgetD, sat_dlen, sat_dlist, sat_dput, sat_fld, sat_meth, sat_make, sat_setfld, sat_me, sat_lc, sat_lcIf, sat_lcF, sat_lcFi, sat_lrng, sat_isB, sat_rev1, rv1_l, rv1_t, List.reverse_cons, List.reverse_nil, sat_orv, orvK_int, orvK_non, intO_int, ex_bl, ex_lst, sat_box, sat_unbox, sat_esN, sat_esC, ex_d, ex_int, ex_fl, ex_obj, ex_cell, ex_oi, kept_non, kept_int, kept_tup, kept_lst, kept_str, kept_scr, kept_self, ex_setx, ex_j, shl1, Int.toNat_natCast, Int.natCast_nonneg, start, bin_ii, bin_ll, bin_tt, bin_ss, bin_li, bin_ti, rg_1, rg_2, int_add, int_sub, int_mul, int_fdiv, int_mod, int_pow, int_shl, int_shr, int_band, int_bor, int_bxor, cmp_eq, cmp_ne, cmp_in, cmp_nin, cmp_lt, cmp_le, cmp_gt, cmp_ge, eq_op, in_lst, in_tup, ix_lst, ix_tup, ix_scr, ix_str, sl_lst, sl_tup, sl_str, end_t, end_i, bi_len_l, bi_len_t, bi_len_c, bi_len_s, bi_abs, bi_sum, bi_maxl, bi_minl, bi_max2, bi_min2, bi_any, bi_all, bi_int_i, bi_int_b, bi_list_l, bi_list_t, bi_tuple_l, bi_tuple_t, bi_sorted, bi_sset, ty_non, ty_bl, ty_int, ty_str, ty_lst, ty_tup, ty_scr, toB_bl, set_n, set_t, set_tl, it_seq_l, it_seq_t, it_seq_s, it_rng1, it_rng2, it_enm, it_enmT, it_zp_l, it_zp_t, it_rev_l, it_rev_t, me_append, me_extend, me_pop, me_reverse, me_count, ty_int_int, ty_int_bool, ty_bool_int, ty_bool_bool, ty_list_list, ty_tuple_tuple, ty_list_tuple, ty_tuple_list, ty_tuple_int, ty_tuple_bool, ty_int_tuple, ty_str_str, isNonE, toD_d, toD_fl, clo_d, clo_fl, eqB_nn, eqB_bb, eqB_bi, eqB_ib, eqB_ii, eqB_ss, eqB_ll, eqB_tt, eqB_ni, eqB_in, eqBs_00, eqBs_0c, eqBs_c0, eqBs_cc, okD, okDs, flat, small, powOk, mulOk, most, natAbs_1, natAbs_2, natAbs_10, Int.natAbs_natCast, wipe, intsOf, blsOf, pq_non, pq_bl, pq_int, pq_str, pq_tup, pq_lst, pq_scr, atI_0, atI_1, atI_2, ixN_0, ixN_1, D.closed, D.closeds, sat_ok, sat_bind, sat_guard, sat_err, Res.bind_ok, Res.bind_err, List.map_cons, List.map_nil, List.length_cons, List.length_nil, List.cons_append, List.nil_append, List.getElem?_cons_zero, List.getElem?_cons_succ, List.set_cons_zero, List.set_cons_succ, List.replicate, List.foldl_cons, List.foldl_nil, List.zip_cons_cons, List.zip_nil_left, List.zip_nil_right, Nat.reduceAdd, Nat.reduceSub, Nat.reduceLeDiff, Nat.reduceLT, Int.reduceLT, Int.reduceLE, Int.reduceNeg, Int.reducePow, Int.reduceToNat, Int.reduceAdd, Int.reduceMul, Int.reduceSub, Nat.reducePow, Nat.zero_add, Nat.add_zero, decide_true, decide_false, decide_eq_true_eq, beq_iff_eq, Bool.true_eq_false, reduceCtorEq, if_true, if_false, Bool.false_eq_true, true_and, and_true, Bool.true_and, Bool.and_true, Bool.false_and, Bool.and_false, Bool.not_true, Bool.not_false, Bool.or_true, Bool.true_or, Bool.or_false, Bool.false_or, Bool.and_eq_true, Bool.or_eq_true, Bool.not_eq_true', beq_self_eq_true, Option.map_some, Option.toList, if_true, if_false, f_law_more_336a, up0_eq]
  rw [sat_eq (compL_fi (p := fun s => a.testBit s && !b.testBit s) (h := iD) (by simp [kept]) ?c1)]
  case c1 =>
    intro s hs
    simp -implicitDefEqProofs only [sat_exs, sat_exs_nil, sat_if, sat_asg, sat_asgT, sat_setix, sat_ex, sat_ret, sat_retN, sat_pass, sat_brk, sat_cnt, sat_raise, sat_evB, sat_ite, sat_for, rest_nx, rest_ret, sat_var, sat_non, sat_bl, sat_int, sat_str, sat_bin, sat_neg, sat_cmp, sat_chain, sat_isN, sat_notN, sat_and, sat_or, sat_not, sat_ifE, sat_tup, sat_lst, sat_ix, sat_slN, sat_slLv, sat_slHv, sat_slLb, sat_slHb, sat_slLi, sat_slHi, sat_slLc, sat_slHc, sat_cal, sat_bi, sat_isi, sat_isis, sat_trng, sat_lsn, sat_lidx, it_rr1, it_rr2, bi_sortP, bi_repr, sat_dnew, sat_din, sat_dget, sat_dgetD, sat_dlen, sat_dlist, sat_dput, sat_fld, sat_meth, sat_make, sat_setfld, sat_me, sat_lc, sat_lcIf, sat_lcF, sat_lcFi, sat_lrng, sat_isB, sat_rev1, rv1_l, rv1_t, List.reverse_cons, List.reverse_nil, sat_orv, orvK_int, orvK_non, intO_int, ex_bl, ex_lst, sat_box, sat_unbox, sat_esN, sat_esC, ex_d, ex_int, ex_fl, ex_obj, ex_cell, ex_oi, kept_non, kept_int, kept_tup, kept_lst, kept_str, kept_scr, kept_self, ex_setx, ex_j, shl1, Int.toNat_natCast, Int.natCast_nonneg, start, bin_ii, bin_ll, bin_tt, bin_ss, bin_li, bin_ti, rg_1, rg_2, int_add, int_sub, int_mul, int_fdiv, int_mod, int_pow, int_shl, int_shr, int_band, int_bor, int_bxor, cmp_eq, cmp_ne, cmp_in, cmp_nin, cmp_lt, cmp_le, cmp_gt, cmp_ge, eq_op, in_lst, in_tup, ix_lst, ix_tup, ix_scr, ix_str, sl_lst, sl_tup, sl_str, end_t, end_i, bi_len_l, bi_len_t, bi_len_c, bi_len_s, bi_abs, bi_sum, bi_maxl, bi_minl, bi_max2, bi_min2, bi_any, bi_all, bi_int_i, bi_int_b, bi_list_l, bi_list_t, bi_tuple_l, bi_tuple_t, bi_sorted, bi_sset, ty_non, ty_bl, ty_int, ty_str, ty_lst, ty_tup, ty_scr, toB_bl, set_n, set_t, set_tl, it_seq_l, it_seq_t, it_seq_s, it_rng1, it_rng2, it_enm, it_enmT, it_zp_l, it_zp_t, it_rev_l, it_rev_t, me_append, me_extend, me_pop, me_reverse, me_count, ty_int_int, ty_int_bool, ty_bool_int, ty_bool_bool, ty_list_list, ty_tuple_tuple, ty_list_tuple, ty_tuple_list, ty_tuple_int, ty_tuple_bool, ty_int_tuple, ty_str_str, isNonE, toD_d, toD_fl, clo_d, clo_fl, eqB_nn, eqB_bb, eqB_bi, eqB_ib, eqB_ii, eqB_ss, eqB_ll, eqB_tt, eqB_ni, eqB_in, eqBs_00, eqBs_0c, eqBs_c0, eqBs_cc, okD, okDs, flat, small, powOk, mulOk, most, natAbs_1, natAbs_2, natAbs_10, Int.natAbs_natCast, wipe, intsOf, blsOf, pq_non, pq_bl, pq_int, pq_str, pq_tup, pq_lst, pq_scr, atI_0, atI_1, atI_2, ixN_0, ixN_1, D.closed, D.closeds, sat_ok, sat_bind, sat_guard, sat_err, Res.bind_ok, Res.bind_err, List.map_cons, List.map_nil, List.length_cons, List.length_nil, List.cons_append, List.nil_append, List.getElem?_cons_zero, List.getElem?_cons_succ, List.set_cons_zero, List.set_cons_succ, List.replicate, List.foldl_cons, List.foldl_nil, List.zip_cons_cons, List.zip_nil_left, List.zip_nil_right, Nat.reduceAdd, Nat.reduceSub, Nat.reduceLeDiff, Nat.reduceLT, Int.reduceLT, Int.reduceLE, Int.reduceNeg, Int.reducePow, Int.reduceToNat, Int.reduceAdd, Int.reduceMul, Int.reduceSub, Nat.reducePow, Nat.zero_add, Nat.add_zero, decide_true, decide_false, decide_eq_true_eq, beq_iff_eq, Bool.true_eq_false, reduceCtorEq, if_true, if_false, Bool.false_eq_true, true_and, and_true, Bool.true_and, Bool.and_true, Bool.false_and, Bool.and_false, Bool.not_true, Bool.not_false, Bool.or_true, Bool.true_or, Bool.or_false, Bool.false_or, Bool.and_eq_true, Bool.or_eq_true, Bool.not_eq_true', beq_self_eq_true, Option.map_some, Option.toList, if_true, if_false, sat_lcFi, iD, shr_nat, and_1, bit_eq, bit_eq0]
    cases a.testBit s <;> cases b.testBit s <;> simp
  rw [show (List.range 8).filter (fun s => a.testBit s && !b.testBit s) = alone 8 a b from rfl]
  simp -implicitDefEqProofs only [sat_exs, sat_exs_nil, sat_if, sat_asg, sat_asgT, sat_setix, sat_ex, sat_ret, sat_retN, sat_pass, sat_brk, sat_cnt, sat_raise, sat_evB, sat_ite, sat_for, rest_nx, rest_ret, sat_var, sat_non, sat_bl, sat_int, sat_str, sat_bin, sat_neg, sat_cmp, sat_chain, sat_isN, sat_notN, sat_and, sat_or, sat_not, sat_ifE, sat_tup, sat_lst, sat_ix, sat_slN, sat_slLv, sat_slHv, sat_slLb, sat_slHb, sat_slLi, sat_slHi, sat_slLc, sat_slHc, sat_cal, sat_bi, sat_isi, sat_isis, sat_trng, sat_lsn, sat_lidx, it_rr1, it_rr2, bi_sortP, bi_repr, sat_dnew, sat_din, sat_dget, sat_dgetD, sat_dlen, sat_dlist, sat_dput, sat_fld, sat_meth, sat_make, sat_setfld, sat_me, sat_lc, sat_lcIf, sat_lcF, sat_lcFi, sat_lrng, sat_isB, sat_rev1, rv1_l, rv1_t, List.reverse_cons, List.reverse_nil, sat_orv, orvK_int, orvK_non, intO_int, ex_bl, ex_lst, sat_box, sat_unbox, sat_esN, sat_esC, ex_d, ex_int, ex_fl, ex_obj, ex_cell, ex_oi, kept_non, kept_int, kept_tup, kept_lst, kept_str, kept_scr, kept_self, ex_setx, ex_j, shl1, Int.toNat_natCast, Int.natCast_nonneg, start, bin_ii, bin_ll, bin_tt, bin_ss, bin_li, bin_ti, rg_1, rg_2, int_add, int_sub, int_mul, int_fdiv, int_mod, int_pow, int_shl, int_shr, int_band, int_bor, int_bxor, cmp_eq, cmp_ne, cmp_in, cmp_nin, cmp_lt, cmp_le, cmp_gt, cmp_ge, eq_op, in_lst, in_tup, ix_lst, ix_tup, ix_scr, ix_str, sl_lst, sl_tup, sl_str, end_t, end_i, bi_len_l, bi_len_t, bi_len_c, bi_len_s, bi_abs, bi_sum, bi_maxl, bi_minl, bi_max2, bi_min2, bi_any, bi_all, bi_int_i, bi_int_b, bi_list_l, bi_list_t, bi_tuple_l, bi_tuple_t, bi_sorted, bi_sset, ty_non, ty_bl, ty_int, ty_str, ty_lst, ty_tup, ty_scr, toB_bl, set_n, set_t, set_tl, it_seq_l, it_seq_t, it_seq_s, it_rng1, it_rng2, it_enm, it_enmT, it_zp_l, it_zp_t, it_rev_l, it_rev_t, me_append, me_extend, me_pop, me_reverse, me_count, ty_int_int, ty_int_bool, ty_bool_int, ty_bool_bool, ty_list_list, ty_tuple_tuple, ty_list_tuple, ty_tuple_list, ty_tuple_int, ty_tuple_bool, ty_int_tuple, ty_str_str, isNonE, toD_d, toD_fl, clo_d, clo_fl, eqB_nn, eqB_bb, eqB_bi, eqB_ib, eqB_ii, eqB_ss, eqB_ll, eqB_tt, eqB_ni, eqB_in, eqBs_00, eqBs_0c, eqBs_c0, eqBs_cc, okD, okDs, flat, small, powOk, mulOk, most, natAbs_1, natAbs_2, natAbs_10, Int.natAbs_natCast, wipe, intsOf, blsOf, pq_non, pq_bl, pq_int, pq_str, pq_tup, pq_lst, pq_scr, atI_0, atI_1, atI_2, ixN_0, ixN_1, D.closed, D.closeds, sat_ok, sat_bind, sat_guard, sat_err, Res.bind_ok, Res.bind_err, List.map_cons, List.map_nil, List.length_cons, List.length_nil, List.cons_append, List.nil_append, List.getElem?_cons_zero, List.getElem?_cons_succ, List.set_cons_zero, List.set_cons_succ, List.replicate, List.foldl_cons, List.foldl_nil, List.zip_cons_cons, List.zip_nil_left, List.zip_nil_right, Nat.reduceAdd, Nat.reduceSub, Nat.reduceLeDiff, Nat.reduceLT, Int.reduceLT, Int.reduceLE, Int.reduceNeg, Int.reducePow, Int.reduceToNat, Int.reduceAdd, Int.reduceMul, Int.reduceSub, Nat.reducePow, Nat.zero_add, Nat.add_zero, decide_true, decide_false, decide_eq_true_eq, beq_iff_eq, Bool.true_eq_false, reduceCtorEq, if_true, if_false, Bool.false_eq_true, true_and, and_true, Bool.true_and, Bool.and_true, Bool.false_and, Bool.and_false, Bool.not_true, Bool.not_false, Bool.or_true, Bool.true_or, Bool.or_false, Bool.false_or, Bool.and_eq_true, Bool.or_eq_true, Bool.not_eq_true', beq_self_eq_true, Option.map_some, Option.toList, if_true, if_false, List.length_map, List.length_range]
theorem eqBs_n7 (xs : List D) : eqBs xs [] = decide (xs = []) := by
  cases xs <;> simp [eqBs]
theorem okDs_prD {n : Nat} (ps : List (Int × Int)) : okDs (n + 1) (ps.map prD) = true := by
  induction ps with
  | nil => rfl
  | cons p ps ih => rw [List.map_cons, okDs, ih]; rfl
theorem wayL_lt (t : List (Option Nat)) (c x : Nat) : (wayL t c x).Pairwise (· < ·) := (range_lt _).filter _
theorem right07_ok {m i i1 i2 i3 jw j1 j2 j3 jf j4 j5 n k c x : Nat} {t : List (Option Nat)} {S : Store} (hf : fs[i]? = some (f_law_right_fc80 i1 i2 i3)) (hw : fs[i1]? = some (f_law_ways_b3e3 jw)) (hwi : fs[jw]? = some f_law_within_90ef) (hm : fs[i2]? = some f_law_more_336a)
    (hnr : fs[i3]? = some (f_nearest_b761 j1 jf)) (h1 : fs[j1]? = some (f_ways_up_8af0 j2)) (h2 : fs[j2]? = some (f_above_a9ad j3)) (h3 : fs[j3]? = some f_holds_5c7e) (h4 : fs[jf]? = some (f_further_8139 j4)) (h5 : fs[j4]? = some (f_how_many_5a9b j5)) (h6 : fs[j5]? = some f_spots_of_ec1d)
    (hn : n ≤ 8) (hc : c < 2 ^ n) (ht : t.length = 2 ^ n) : call gl fs (m + 5) i [wrD n k t, .tup (t.map oD), .int c, .int x] S = .ok (.d (.bl true), S) := by
  rw [← sat_def]
  have p8 := pow_le_256 hn
  refine sat_call hf rfl rfl (by simp only [D.closeds, D.closed, wr_closed, closeds_oD, Bool.and_true]) ?_
  have hwl : (wayL t c x).length ≤ 256 := by
    have := List.length_filter_le (fun s => decide (s &&& c = c) && decide (t[s]? = some (some x))) (List.range t.length)
    rw [List.length_range] at this
    exact Nat.le_trans this (by omega)
  simp -implicitDefEqProofs only [sat_exs, sat_exs_nil, sat_if, sat_asg, sat_asgT, sat_setix, sat_ex, sat_ret, sat_retN, sat_pass, sat_brk, sat_cnt, sat_raise, sat_evB, sat_ite, sat_for, rest_nx, rest_ret, sat_var, sat_non, sat_bl, sat_int, sat_str, sat_bin, sat_neg, sat_cmp, sat_chain, sat_isN, sat_notN, sat_and, sat_or, sat_not, sat_ifE, sat_tup, sat_lst, sat_ix, sat_slN, sat_slLv, sat_slHv, sat_slLb, sat_slHb, sat_slLi, sat_slHi, sat_slLc, sat_slHc, sat_cal, sat_bi, sat_isi, sat_isis, sat_trng, sat_lsn, sat_lidx, it_rr1, it_rr2, bi_sortP, bi_repr, sat_dnew, sat_din, sat_dget, sat_dgetD, sat_dlen, sat_dlist, sat_dput, sat_fld, sat_meth, sat_make, sat_setfld, sat_me, sat_lc, sat_lcIf, sat_lcF, sat_lcFi, sat_lrng, sat_isB, sat_rev1, rv1_l, rv1_t, List.reverse_cons, List.reverse_nil, sat_orv, orvK_int, orvK_non, intO_int, ex_bl, ex_lst, sat_box, sat_unbox, sat_esN, sat_esC, ex_d, ex_int, ex_fl, ex_obj, ex_cell, ex_oi, kept_non, kept_int, kept_tup, kept_lst, kept_str, kept_scr, kept_self, ex_setx, ex_j, shl1, Int.toNat_natCast, Int.natCast_nonneg, start, bin_ii, bin_ll, bin_tt, bin_ss, bin_li, bin_ti, rg_1, rg_2, int_add, int_sub, int_mul, int_fdiv, int_mod, int_pow, int_shl, int_shr, int_band, int_bor, int_bxor, cmp_eq, cmp_ne, cmp_in, cmp_nin, cmp_lt, cmp_le, cmp_gt, cmp_ge, eq_op, in_lst, in_tup, ix_lst, ix_tup, ix_scr, ix_str, sl_lst, sl_tup, sl_str, end_t, end_i, bi_len_l, bi_len_t, bi_len_c, bi_len_s, bi_abs, bi_sum, bi_maxl, bi_minl, bi_max2, bi_min2, bi_any, bi_all, bi_int_i, bi_int_b, bi_list_l, bi_list_t, bi_tuple_l, bi_tuple_t, bi_sorted, bi_sset, ty_non, ty_bl, ty_int, ty_str, ty_lst, ty_tup, ty_scr, toB_bl, set_n, set_t, set_tl, it_seq_l, it_seq_t, it_seq_s, it_rng1, it_rng2, it_enm, it_enmT, it_zp_l, it_zp_t, it_rev_l, it_rev_t, me_append, me_extend, me_pop, me_reverse, me_count, ty_int_int, ty_int_bool, ty_bool_int, ty_bool_bool, ty_list_list, ty_tuple_tuple, ty_list_tuple, ty_tuple_list, ty_tuple_int, ty_tuple_bool, ty_int_tuple, ty_str_str, isNonE, toD_d, toD_fl, clo_d, clo_fl, eqB_nn, eqB_bb, eqB_bi, eqB_ib, eqB_ii, eqB_ss, eqB_ll, eqB_tt, eqB_ni, eqB_in, eqBs_00, eqBs_0c, eqBs_c0, eqBs_cc, okD, okDs, flat, small, powOk, mulOk, most, natAbs_1, natAbs_2, natAbs_10, Int.natAbs_natCast, wipe, intsOf, blsOf, pq_non, pq_bl, pq_int, pq_str, pq_tup, pq_lst, pq_scr, atI_0, atI_1, atI_2, ixN_0, ixN_1, D.closed, D.closeds, sat_ok, sat_bind, sat_guard, sat_err, Res.bind_ok, Res.bind_err, List.map_cons, List.map_nil, List.length_cons, List.length_nil, List.cons_append, List.nil_append, List.getElem?_cons_zero, List.getElem?_cons_succ, List.set_cons_zero, List.set_cons_succ, List.replicate, List.foldl_cons, List.foldl_nil, List.zip_cons_cons, List.zip_nil_left, List.zip_nil_right, Nat.reduceAdd, Nat.reduceSub, Nat.reduceLeDiff, Nat.reduceLT, Int.reduceLT, Int.reduceLE, Int.reduceNeg, Int.reducePow, Int.reduceToNat, Int.reduceAdd, Int.reduceMul, Int.reduceSub, Nat.reducePow, Nat.zero_add, Nat.add_zero, decide_true, decide_false, decide_eq_true_eq, beq_iff_eq, Bool.true_eq_false, reduceCtorEq, if_true, if_false, Bool.false_eq_true, true_and, and_true, Bool.true_and, Bool.and_true, Bool.false_and, Bool.and_false, Bool.not_true, Bool.not_false, Bool.or_true, Bool.true_or, Bool.or_false, Bool.false_or, Bool.and_eq_true, Bool.or_eq_true, Bool.not_eq_true', beq_self_eq_true, Option.map_some, Option.toList, if_true, if_false, f_law_right_fc80, law_ways_ok hw hwi (show c < 256 by omega) (show t.length ≤ 256 by omega)]
  rw [sat_eq (compL_f (h := fun w => prD (prN c w)) (by simp [kept]) ?c1)]
  case c1 =>
    intro w hw
    simp -implicitDefEqProofs only [sat_exs, sat_exs_nil, sat_if, sat_asg, sat_asgT, sat_setix, sat_ex, sat_ret, sat_retN, sat_pass, sat_brk, sat_cnt, sat_raise, sat_evB, sat_ite, sat_for, rest_nx, rest_ret, sat_var, sat_non, sat_bl, sat_int, sat_str, sat_bin, sat_neg, sat_cmp, sat_chain, sat_isN, sat_notN, sat_and, sat_or, sat_not, sat_ifE, sat_tup, sat_lst, sat_ix, sat_slN, sat_slLv, sat_slHv, sat_slLb, sat_slHb, sat_slLi, sat_slHi, sat_slLc, sat_slHc, sat_cal, sat_bi, sat_isi, sat_isis, sat_trng, sat_lsn, sat_lidx, it_rr1, it_rr2, bi_sortP, bi_repr, sat_dnew, sat_din, sat_dget, sat_dgetD, sat_dlen, sat_dlist, sat_dput, sat_fld, sat_meth, sat_make, sat_setfld, sat_me, sat_lc, sat_lcIf, sat_lcF, sat_lcFi, sat_lrng, sat_isB, sat_rev1, rv1_l, rv1_t, List.reverse_cons, List.reverse_nil, sat_orv, orvK_int, orvK_non, intO_int, ex_bl, ex_lst, sat_box, sat_unbox, sat_esN, sat_esC, ex_d, ex_int, ex_fl, ex_obj, ex_cell, ex_oi, kept_non, kept_int, kept_tup, kept_lst, kept_str, kept_scr, kept_self, ex_setx, ex_j, shl1, Int.toNat_natCast, Int.natCast_nonneg, start, bin_ii, bin_ll, bin_tt, bin_ss, bin_li, bin_ti, rg_1, rg_2, int_add, int_sub, int_mul, int_fdiv, int_mod, int_pow, int_shl, int_shr, int_band, int_bor, int_bxor, cmp_eq, cmp_ne, cmp_in, cmp_nin, cmp_lt, cmp_le, cmp_gt, cmp_ge, eq_op, in_lst, in_tup, ix_lst, ix_tup, ix_scr, ix_str, sl_lst, sl_tup, sl_str, end_t, end_i, bi_len_l, bi_len_t, bi_len_c, bi_len_s, bi_abs, bi_sum, bi_maxl, bi_minl, bi_max2, bi_min2, bi_any, bi_all, bi_int_i, bi_int_b, bi_list_l, bi_list_t, bi_tuple_l, bi_tuple_t, bi_sorted, bi_sset, ty_non, ty_bl, ty_int, ty_str, ty_lst, ty_tup, ty_scr, toB_bl, set_n, set_t, set_tl, it_seq_l, it_seq_t, it_seq_s, it_rng1, it_rng2, it_enm, it_enmT, it_zp_l, it_zp_t, it_rev_l, it_rev_t, me_append, me_extend, me_pop, me_reverse, me_count, ty_int_int, ty_int_bool, ty_bool_int, ty_bool_bool, ty_list_list, ty_tuple_tuple, ty_list_tuple, ty_tuple_list, ty_tuple_int, ty_tuple_bool, ty_int_tuple, ty_str_str, isNonE, toD_d, toD_fl, clo_d, clo_fl, eqB_nn, eqB_bb, eqB_bi, eqB_ib, eqB_ii, eqB_ss, eqB_ll, eqB_tt, eqB_ni, eqB_in, eqBs_00, eqBs_0c, eqBs_c0, eqBs_cc, okD, okDs, flat, small, powOk, mulOk, most, natAbs_1, natAbs_2, natAbs_10, Int.natAbs_natCast, wipe, intsOf, blsOf, pq_non, pq_bl, pq_int, pq_str, pq_tup, pq_lst, pq_scr, atI_0, atI_1, atI_2, ixN_0, ixN_1, D.closed, D.closeds, sat_ok, sat_bind, sat_guard, sat_err, Res.bind_ok, Res.bind_err, List.map_cons, List.map_nil, List.length_cons, List.length_nil, List.cons_append, List.nil_append, List.getElem?_cons_zero, List.getElem?_cons_succ, List.set_cons_zero, List.set_cons_succ, List.replicate, List.foldl_cons, List.foldl_nil, List.zip_cons_cons, List.zip_nil_left, List.zip_nil_right, Nat.reduceAdd, Nat.reduceSub, Nat.reduceLeDiff, Nat.reduceLT, Int.reduceLT, Int.reduceLE, Int.reduceNeg, Int.reducePow, Int.reduceToNat, Int.reduceAdd, Int.reduceMul, Int.reduceSub, Nat.reducePow, Nat.zero_add, Nat.add_zero, decide_true, decide_false, decide_eq_true_eq, beq_iff_eq, Bool.true_eq_false, reduceCtorEq, if_true, if_false, Bool.false_eq_true, true_and, and_true, Bool.true_and, Bool.and_true, Bool.false_and, Bool.and_false, Bool.not_true, Bool.not_false, Bool.or_true, Bool.true_or, Bool.or_false, Bool.false_or, Bool.and_eq_true, Bool.or_eq_true, Bool.not_eq_true', beq_self_eq_true, Option.map_some, Option.toList, if_true, if_false, sat_lcF, iD, more_ok hm]
    rfl
  have hh := near_head c (wayL t c x) (wayL_lt t c x)
  simp -implicitDefEqProofs only [sat_exs, sat_exs_nil, sat_if, sat_asg, sat_asgT, sat_setix, sat_ex, sat_ret, sat_retN, sat_pass, sat_brk, sat_cnt, sat_raise, sat_evB, sat_ite, sat_for, rest_nx, rest_ret, sat_var, sat_non, sat_bl, sat_int, sat_str, sat_bin, sat_neg, sat_cmp, sat_chain, sat_isN, sat_notN, sat_and, sat_or, sat_not, sat_ifE, sat_tup, sat_lst, sat_ix, sat_slN, sat_slLv, sat_slHv, sat_slLb, sat_slHb, sat_slLi, sat_slHi, sat_slLc, sat_slHc, sat_cal, sat_bi, sat_isi, sat_isis, sat_trng, sat_lsn, sat_lidx, it_rr1, it_rr2, bi_sortP, bi_repr, sat_dnew, sat_din, sat_dget, sat_dgetD, sat_dlen, sat_dlist, sat_dput, sat_fld, sat_meth, sat_make, sat_setfld, sat_me, sat_lc, sat_lcIf, sat_lcF, sat_lcFi, sat_lrng, sat_isB, sat_rev1, rv1_l, rv1_t, List.reverse_cons, List.reverse_nil, sat_orv, orvK_int, orvK_non, intO_int, ex_bl, ex_lst, sat_box, sat_unbox, sat_esN, sat_esC, ex_d, ex_int, ex_fl, ex_obj, ex_cell, ex_oi, kept_non, kept_int, kept_tup, kept_lst, kept_str, kept_scr, kept_self, ex_setx, ex_j, shl1, Int.toNat_natCast, Int.natCast_nonneg, start, bin_ii, bin_ll, bin_tt, bin_ss, bin_li, bin_ti, rg_1, rg_2, int_add, int_sub, int_mul, int_fdiv, int_mod, int_pow, int_shl, int_shr, int_band, int_bor, int_bxor, cmp_eq, cmp_ne, cmp_in, cmp_nin, cmp_lt, cmp_le, cmp_gt, cmp_ge, eq_op, in_lst, in_tup, ix_lst, ix_tup, ix_scr, ix_str, sl_lst, sl_tup, sl_str, end_t, end_i, bi_len_l, bi_len_t, bi_len_c, bi_len_s, bi_abs, bi_sum, bi_maxl, bi_minl, bi_max2, bi_min2, bi_any, bi_all, bi_int_i, bi_int_b, bi_list_l, bi_list_t, bi_tuple_l, bi_tuple_t, bi_sorted, bi_sset, ty_non, ty_bl, ty_int, ty_str, ty_lst, ty_tup, ty_scr, toB_bl, set_n, set_t, set_tl, it_seq_l, it_seq_t, it_seq_s, it_rng1, it_rng2, it_enm, it_enmT, it_zp_l, it_zp_t, it_rev_l, it_rev_t, me_append, me_extend, me_pop, me_reverse, me_count, ty_int_int, ty_int_bool, ty_bool_int, ty_bool_bool, ty_list_list, ty_tuple_tuple, ty_list_tuple, ty_tuple_list, ty_tuple_int, ty_tuple_bool, ty_int_tuple, ty_str_str, isNonE, toD_d, toD_fl, clo_d, clo_fl, eqB_nn, eqB_bb, eqB_bi, eqB_ib, eqB_ii, eqB_ss, eqB_ll, eqB_tt, eqB_ni, eqB_in, eqBs_00, eqBs_0c, eqBs_c0, eqBs_cc, okD, okDs, flat, small, powOk, mulOk, most, natAbs_1, natAbs_2, natAbs_10, Int.natAbs_natCast, wipe, intsOf, blsOf, pq_non, pq_bl, pq_int, pq_str, pq_tup, pq_lst, pq_scr, atI_0, atI_1, atI_2, ixN_0, ixN_1, D.closed, D.closeds, sat_ok, sat_bind, sat_guard, sat_err, Res.bind_ok, Res.bind_err, List.map_cons, List.map_nil, List.length_cons, List.length_nil, List.cons_append, List.nil_append, List.getElem?_cons_zero, List.getElem?_cons_succ, List.set_cons_zero, List.set_cons_succ, List.replicate, List.foldl_cons, List.foldl_nil, List.zip_cons_cons, List.zip_nil_left, List.zip_nil_right, Nat.reduceAdd, Nat.reduceSub, Nat.reduceLeDiff, Nat.reduceLT, Int.reduceLT, Int.reduceLE, Int.reduceNeg, Int.reducePow, Int.reduceToNat, Int.reduceAdd, Int.reduceMul, Int.reduceSub, Nat.reducePow, Nat.zero_add, Nat.add_zero, decide_true, decide_false, decide_eq_true_eq, beq_iff_eq, Bool.true_eq_false, reduceCtorEq, if_true, if_false, Bool.false_eq_true, true_and, and_true, Bool.true_and, Bool.and_true, Bool.false_and, Bool.and_false, Bool.not_true, Bool.not_false, Bool.or_true, Bool.true_or, Bool.or_false, Bool.false_or, Bool.and_eq_true, Bool.or_eq_true, Bool.not_eq_true', beq_self_eq_true, Option.map_some, Option.toList, if_true, if_false, prsOf_map, nearest_ok hnr h1 h2 h3 h4 h5 h6 hn hc ht, List.length_map, eqBs_n7, okDs_prD]
  refine ⟨by omega, ?_⟩
  cases hn : nearL c (wayL t c x) with
  | none =>
    rw [hn] at hh
    rw [hh]
    simp -implicitDefEqProofs only [sat_exs, sat_exs_nil, sat_if, sat_asg, sat_asgT, sat_setix, sat_ex, sat_ret, sat_retN, sat_pass, sat_brk, sat_cnt, sat_raise, sat_evB, sat_ite, sat_for, rest_nx, rest_ret, sat_var, sat_non, sat_bl, sat_int, sat_str, sat_bin, sat_neg, sat_cmp, sat_chain, sat_isN, sat_notN, sat_and, sat_or, sat_not, sat_ifE, sat_tup, sat_lst, sat_ix, sat_slN, sat_slLv, sat_slHv, sat_slLb, sat_slHb, sat_slLi, sat_slHi, sat_slLc, sat_slHc, sat_cal, sat_bi, sat_isi, sat_isis, sat_trng, sat_lsn, sat_lidx, it_rr1, it_rr2, bi_sortP, bi_repr, sat_dnew, sat_din, sat_dget, sat_dgetD, sat_dlen, sat_dlist, sat_dput, sat_fld, sat_meth, sat_make, sat_setfld, sat_me, sat_lc, sat_lcIf, sat_lcF, sat_lcFi, sat_lrng, sat_isB, sat_rev1, rv1_l, rv1_t, List.reverse_cons, List.reverse_nil, sat_orv, orvK_int, orvK_non, intO_int, ex_bl, ex_lst, sat_box, sat_unbox, sat_esN, sat_esC, ex_d, ex_int, ex_fl, ex_obj, ex_cell, ex_oi, kept_non, kept_int, kept_tup, kept_lst, kept_str, kept_scr, kept_self, ex_setx, ex_j, shl1, Int.toNat_natCast, Int.natCast_nonneg, start, bin_ii, bin_ll, bin_tt, bin_ss, bin_li, bin_ti, rg_1, rg_2, int_add, int_sub, int_mul, int_fdiv, int_mod, int_pow, int_shl, int_shr, int_band, int_bor, int_bxor, cmp_eq, cmp_ne, cmp_in, cmp_nin, cmp_lt, cmp_le, cmp_gt, cmp_ge, eq_op, in_lst, in_tup, ix_lst, ix_tup, ix_scr, ix_str, sl_lst, sl_tup, sl_str, end_t, end_i, bi_len_l, bi_len_t, bi_len_c, bi_len_s, bi_abs, bi_sum, bi_maxl, bi_minl, bi_max2, bi_min2, bi_any, bi_all, bi_int_i, bi_int_b, bi_list_l, bi_list_t, bi_tuple_l, bi_tuple_t, bi_sorted, bi_sset, ty_non, ty_bl, ty_int, ty_str, ty_lst, ty_tup, ty_scr, toB_bl, set_n, set_t, set_tl, it_seq_l, it_seq_t, it_seq_s, it_rng1, it_rng2, it_enm, it_enmT, it_zp_l, it_zp_t, it_rev_l, it_rev_t, me_append, me_extend, me_pop, me_reverse, me_count, ty_int_int, ty_int_bool, ty_bool_int, ty_bool_bool, ty_list_list, ty_tuple_tuple, ty_list_tuple, ty_tuple_list, ty_tuple_int, ty_tuple_bool, ty_int_tuple, ty_str_str, isNonE, toD_d, toD_fl, clo_d, clo_fl, eqB_nn, eqB_bb, eqB_bi, eqB_ib, eqB_ii, eqB_ss, eqB_ll, eqB_tt, eqB_ni, eqB_in, eqBs_00, eqBs_0c, eqBs_c0, eqBs_cc, okD, okDs, flat, small, powOk, mulOk, most, natAbs_1, natAbs_2, natAbs_10, Int.natAbs_natCast, wipe, intsOf, blsOf, pq_non, pq_bl, pq_int, pq_str, pq_tup, pq_lst, pq_scr, atI_0, atI_1, atI_2, ixN_0, ixN_1, D.closed, D.closeds, sat_ok, sat_bind, sat_guard, sat_err, Res.bind_ok, Res.bind_err, List.map_cons, List.map_nil, List.length_cons, List.length_nil, List.cons_append, List.nil_append, List.getElem?_cons_zero, List.getElem?_cons_succ, List.set_cons_zero, List.set_cons_succ, List.replicate, List.foldl_cons, List.foldl_nil, List.zip_cons_cons, List.zip_nil_left, List.zip_nil_right, Nat.reduceAdd, Nat.reduceSub, Nat.reduceLeDiff, Nat.reduceLT, Int.reduceLT, Int.reduceLE, Int.reduceNeg, Int.reducePow, Int.reduceToNat, Int.reduceAdd, Int.reduceMul, Int.reduceSub, Nat.reducePow, Nat.zero_add, Nat.add_zero, decide_true, decide_false, decide_eq_true_eq, beq_iff_eq, Bool.true_eq_false, reduceCtorEq, if_true, if_false, Bool.false_eq_true, true_and, and_true, Bool.true_and, Bool.and_true, Bool.false_and, Bool.and_false, Bool.not_true, Bool.not_false, Bool.or_true, Bool.true_or, Bool.or_false, Bool.false_or, Bool.and_eq_true, Bool.or_eq_true, Bool.not_eq_true', beq_self_eq_true, Option.map_some, Option.toList, if_true, if_false, oD]
  | some g =>
    rw [hn] at hh
    obtain ⟨r, hr⟩ := hh
    rw [hr]
    simp -implicitDefEqProofs only [sat_exs, sat_exs_nil, sat_if, sat_asg, sat_asgT, sat_setix, sat_ex, sat_ret, sat_retN, sat_pass, sat_brk, sat_cnt, sat_raise, sat_evB, sat_ite, sat_for, rest_nx, rest_ret, sat_var, sat_non, sat_bl, sat_int, sat_str, sat_bin, sat_neg, sat_cmp, sat_chain, sat_isN, sat_notN, sat_and, sat_or, sat_not, sat_ifE, sat_tup, sat_lst, sat_ix, sat_slN, sat_slLv, sat_slHv, sat_slLb, sat_slHb, sat_slLi, sat_slHi, sat_slLc, sat_slHc, sat_cal, sat_bi, sat_isi, sat_isis, sat_trng, sat_lsn, sat_lidx, it_rr1, it_rr2, bi_sortP, bi_repr, sat_dnew, sat_din, sat_dget, sat_dgetD, sat_dlen, sat_dlist, sat_dput, sat_fld, sat_meth, sat_make, sat_setfld, sat_me, sat_lc, sat_lcIf, sat_lcF, sat_lcFi, sat_lrng, sat_isB, sat_rev1, rv1_l, rv1_t, List.reverse_cons, List.reverse_nil, sat_orv, orvK_int, orvK_non, intO_int, ex_bl, ex_lst, sat_box, sat_unbox, sat_esN, sat_esC, ex_d, ex_int, ex_fl, ex_obj, ex_cell, ex_oi, kept_non, kept_int, kept_tup, kept_lst, kept_str, kept_scr, kept_self, ex_setx, ex_j, shl1, Int.toNat_natCast, Int.natCast_nonneg, start, bin_ii, bin_ll, bin_tt, bin_ss, bin_li, bin_ti, rg_1, rg_2, int_add, int_sub, int_mul, int_fdiv, int_mod, int_pow, int_shl, int_shr, int_band, int_bor, int_bxor, cmp_eq, cmp_ne, cmp_in, cmp_nin, cmp_lt, cmp_le, cmp_gt, cmp_ge, eq_op, in_lst, in_tup, ix_lst, ix_tup, ix_scr, ix_str, sl_lst, sl_tup, sl_str, end_t, end_i, bi_len_l, bi_len_t, bi_len_c, bi_len_s, bi_abs, bi_sum, bi_maxl, bi_minl, bi_max2, bi_min2, bi_any, bi_all, bi_int_i, bi_int_b, bi_list_l, bi_list_t, bi_tuple_l, bi_tuple_t, bi_sorted, bi_sset, ty_non, ty_bl, ty_int, ty_str, ty_lst, ty_tup, ty_scr, toB_bl, set_n, set_t, set_tl, it_seq_l, it_seq_t, it_seq_s, it_rng1, it_rng2, it_enm, it_enmT, it_zp_l, it_zp_t, it_rev_l, it_rev_t, me_append, me_extend, me_pop, me_reverse, me_count, ty_int_int, ty_int_bool, ty_bool_int, ty_bool_bool, ty_list_list, ty_tuple_tuple, ty_list_tuple, ty_tuple_list, ty_tuple_int, ty_tuple_bool, ty_int_tuple, ty_str_str, isNonE, toD_d, toD_fl, clo_d, clo_fl, eqB_nn, eqB_bb, eqB_bi, eqB_ib, eqB_ii, eqB_ss, eqB_ll, eqB_tt, eqB_ni, eqB_in, eqBs_00, eqBs_0c, eqBs_c0, eqBs_cc, okD, okDs, flat, small, powOk, mulOk, most, natAbs_1, natAbs_2, natAbs_10, Int.natAbs_natCast, wipe, intsOf, blsOf, pq_non, pq_bl, pq_int, pq_str, pq_tup, pq_lst, pq_scr, atI_0, atI_1, atI_2, ixN_0, ixN_1, D.closed, D.closeds, sat_ok, sat_bind, sat_guard, sat_err, Res.bind_ok, Res.bind_err, List.map_cons, List.map_nil, List.length_cons, List.length_nil, List.cons_append, List.nil_append, List.getElem?_cons_zero, List.getElem?_cons_succ, List.set_cons_zero, List.set_cons_succ, List.replicate, List.foldl_cons, List.foldl_nil, List.zip_cons_cons, List.zip_nil_left, List.zip_nil_right, Nat.reduceAdd, Nat.reduceSub, Nat.reduceLeDiff, Nat.reduceLT, Int.reduceLT, Int.reduceLE, Int.reduceNeg, Int.reducePow, Int.reduceToNat, Int.reduceAdd, Int.reduceMul, Int.reduceSub, Nat.reducePow, Nat.zero_add, Nat.add_zero, decide_true, decide_false, decide_eq_true_eq, beq_iff_eq, Bool.true_eq_false, reduceCtorEq, if_true, if_false, Bool.false_eq_true, true_and, and_true, Bool.true_and, Bool.and_true, Bool.false_and, Bool.and_false, Bool.not_true, Bool.not_false, Bool.or_true, Bool.true_or, Bool.or_false, Bool.false_or, Bool.and_eq_true, Bool.or_eq_true, Bool.not_eq_true', beq_self_eq_true, Option.map_some, Option.toList, if_true, if_false, oD, prD, prN]
theorem law07_ok {m i_is_int i_spots_of i_how_many i_holds i_further i_above i_made_writing i_ways_up i_nearest i_stream i_take i_table i_within i_ways i_more i_right il g_MOST_SPOTS g_FEWEST_NUMBERS g_MOST_NUMBERS : Nat} {ns : List Int} (h_is_int : fs[i_is_int]? = some f_is_int_f58b) (h_spots_of : fs[i_spots_of]? = some f_spots_of_ec1d) (h_how_many : fs[i_how_many]? = some (f_how_many_5a9b i_spots_of)) (h_holds : fs[i_holds]? = some f_holds_5c7e) (h_further : fs[i_further]? = some (f_further_8139 i_how_many)) (h_above : fs[i_above]? = some (f_above_a9ad i_holds)) (h_made_writing : fs[i_made_writing]? = some (f_made_writing_48a6 i_is_int g_MOST_SPOTS g_FEWEST_NUMBERS g_MOST_NUMBERS)) (h_ways_up : fs[i_ways_up]? = some (f_ways_up_8af0 i_above)) (h_nearest : fs[i_nearest]? = some (f_nearest_b761 i_ways_up i_further)) (h_stream : fs[i_stream]? = some f_law_stream_dd9d) (h_take : fs[i_take]? = some f_law_take_ed9d) (h_table : fs[i_table]? = some (f_law_table_f5e2 i_take)) (h_within : fs[i_within]? = some f_law_within_90ef) (h_ways : fs[i_ways]? = some (f_law_ways_b3e3 i_within)) (h_more : fs[i_more]? = some f_law_more_336a) (h_right : fs[i_right]? = some (f_law_right_fc80 i_ways i_more i_nearest)) (h_law : fs[il]? = some (f_law_4ddf i_stream i_take i_table i_made_writing i_right)) (e_MOST_SPOTS : gl g_MOST_SPOTS = some (.int 8)) (e_FEWEST_NUMBERS : gl g_FEWEST_NUMBERS = some (.int 2)) (e_MOST_NUMBERS : gl g_MOST_NUMBERS = some (.int 100)) : (call gl fs (m + 10) il [.scr ns] []).sat fun r => r = (.d (.bl true), []) := by
  refine sat_call h_law rfl rfl rfl ?_
  simp -implicitDefEqProofs only [sat_exs, sat_exs_nil, sat_if, sat_asg, sat_asgT, sat_setix, sat_ex, sat_ret, sat_retN, sat_pass, sat_brk, sat_cnt, sat_raise, sat_evB, sat_ite, sat_for, rest_nx, rest_ret, sat_var, sat_non, sat_bl, sat_int, sat_str, sat_bin, sat_neg, sat_cmp, sat_chain, sat_isN, sat_notN, sat_and, sat_or, sat_not, sat_ifE, sat_tup, sat_lst, sat_ix, sat_slN, sat_slLv, sat_slHv, sat_slLb, sat_slHb, sat_slLi, sat_slHi, sat_slLc, sat_slHc, sat_cal, sat_bi, sat_isi, sat_isis, sat_trng, sat_lsn, sat_lidx, it_rr1, it_rr2, bi_sortP, bi_repr, sat_dnew, sat_din, sat_dget, sat_dgetD, sat_dlen, sat_dlist, sat_dput, sat_fld, sat_meth, sat_make, sat_setfld, sat_me, sat_lc, sat_lcIf, sat_lcF, sat_lcFi, sat_lrng, sat_isB, sat_rev1, rv1_l, rv1_t, List.reverse_cons, List.reverse_nil, sat_orv, orvK_int, orvK_non, intO_int, ex_bl, ex_lst, sat_box, sat_unbox, sat_esN, sat_esC, ex_d, ex_int, ex_fl, ex_obj, ex_cell, ex_oi, kept_non, kept_int, kept_tup, kept_lst, kept_str, kept_scr, kept_self, ex_setx, ex_j, shl1, Int.toNat_natCast, Int.natCast_nonneg, start, bin_ii, bin_ll, bin_tt, bin_ss, bin_li, bin_ti, rg_1, rg_2, int_add, int_sub, int_mul, int_fdiv, int_mod, int_pow, int_shl, int_shr, int_band, int_bor, int_bxor, cmp_eq, cmp_ne, cmp_in, cmp_nin, cmp_lt, cmp_le, cmp_gt, cmp_ge, eq_op, in_lst, in_tup, ix_lst, ix_tup, ix_scr, ix_str, sl_lst, sl_tup, sl_str, end_t, end_i, bi_len_l, bi_len_t, bi_len_c, bi_len_s, bi_abs, bi_sum, bi_maxl, bi_minl, bi_max2, bi_min2, bi_any, bi_all, bi_int_i, bi_int_b, bi_list_l, bi_list_t, bi_tuple_l, bi_tuple_t, bi_sorted, bi_sset, ty_non, ty_bl, ty_int, ty_str, ty_lst, ty_tup, ty_scr, toB_bl, set_n, set_t, set_tl, it_seq_l, it_seq_t, it_seq_s, it_rng1, it_rng2, it_enm, it_enmT, it_zp_l, it_zp_t, it_rev_l, it_rev_t, me_append, me_extend, me_pop, me_reverse, me_count, ty_int_int, ty_int_bool, ty_bool_int, ty_bool_bool, ty_list_list, ty_tuple_tuple, ty_list_tuple, ty_tuple_list, ty_tuple_int, ty_tuple_bool, ty_int_tuple, ty_str_str, isNonE, toD_d, toD_fl, clo_d, clo_fl, eqB_nn, eqB_bb, eqB_bi, eqB_ib, eqB_ii, eqB_ss, eqB_ll, eqB_tt, eqB_ni, eqB_in, eqBs_00, eqBs_0c, eqBs_c0, eqBs_cc, okD, okDs, flat, small, powOk, mulOk, most, natAbs_1, natAbs_2, natAbs_10, Int.natAbs_natCast, wipe, intsOf, blsOf, pq_non, pq_bl, pq_int, pq_str, pq_tup, pq_lst, pq_scr, atI_0, atI_1, atI_2, ixN_0, ixN_1, D.closed, D.closeds, sat_ok, sat_bind, sat_guard, sat_err, Res.bind_ok, Res.bind_err, List.map_cons, List.map_nil, List.length_cons, List.length_nil, List.cons_append, List.nil_append, List.getElem?_cons_zero, List.getElem?_cons_succ, List.set_cons_zero, List.set_cons_succ, List.replicate, List.foldl_cons, List.foldl_nil, List.zip_cons_cons, List.zip_nil_left, List.zip_nil_right, Nat.reduceAdd, Nat.reduceSub, Nat.reduceLeDiff, Nat.reduceLT, Int.reduceLT, Int.reduceLE, Int.reduceNeg, Int.reducePow, Int.reduceToNat, Int.reduceAdd, Int.reduceMul, Int.reduceSub, Nat.reducePow, Nat.zero_add, Nat.add_zero, decide_true, decide_false, decide_eq_true_eq, beq_iff_eq, Bool.true_eq_false, reduceCtorEq, if_true, if_false, Bool.false_eq_true, true_and, and_true, Bool.true_and, Bool.and_true, Bool.false_and, Bool.and_false, Bool.not_true, Bool.not_false, Bool.or_true, Bool.true_or, Bool.or_false, Bool.false_or, Bool.and_eq_true, Bool.or_eq_true, Bool.not_eq_true', beq_self_eq_true, Option.map_some, Option.toList, if_true, if_false, f_law_4ddf]
  refine ⟨by split <;> split <;> omega, ?_⟩
  refine sat_loop (fun env S => ∃ a b c d e f g h i j, env = [some (.scr ns), a, b, c, d, e, f, g, h, i, j]) ⟨_, _, _, _, _, _, _, _, _, _, rfl⟩ (fun d env S hd hI => ?_) (fun env S hI => ?_)
  · obtain ⟨_, _, _, _, _, _, _, _, _, _, rfl⟩ := hI
    obtain ⟨j, hj, rfl⟩ := up0_mem hd
    simp -implicitDefEqProofs only [sat_exs, sat_exs_nil, sat_if, sat_asg, sat_asgT, sat_setix, sat_ex, sat_ret, sat_retN, sat_pass, sat_brk, sat_cnt, sat_raise, sat_evB, sat_ite, sat_for, rest_nx, rest_ret, sat_var, sat_non, sat_bl, sat_int, sat_str, sat_bin, sat_neg, sat_cmp, sat_chain, sat_isN, sat_notN, sat_and, sat_or, sat_not, sat_ifE, sat_tup, sat_lst, sat_ix, sat_slN, sat_slLv, sat_slHv, sat_slLb, sat_slHb, sat_slLi, sat_slHi, sat_slLc, sat_slHc, sat_cal, sat_bi, sat_isi, sat_isis, sat_trng, sat_lsn, sat_lidx, it_rr1, it_rr2, bi_sortP, bi_repr, sat_dnew, sat_din, sat_dget, sat_dgetD, sat_dlen, sat_dlist, sat_dput, sat_fld, sat_meth, sat_make, sat_setfld, sat_me, sat_lc, sat_lcIf, sat_lcF, sat_lcFi, sat_lrng, sat_isB, sat_rev1, rv1_l, rv1_t, List.reverse_cons, List.reverse_nil, sat_orv, orvK_int, orvK_non, intO_int, ex_bl, ex_lst, sat_box, sat_unbox, sat_esN, sat_esC, ex_d, ex_int, ex_fl, ex_obj, ex_cell, ex_oi, kept_non, kept_int, kept_tup, kept_lst, kept_str, kept_scr, kept_self, ex_setx, ex_j, shl1, Int.toNat_natCast, Int.natCast_nonneg, start, bin_ii, bin_ll, bin_tt, bin_ss, bin_li, bin_ti, rg_1, rg_2, int_add, int_sub, int_mul, int_fdiv, int_mod, int_pow, int_shl, int_shr, int_band, int_bor, int_bxor, cmp_eq, cmp_ne, cmp_in, cmp_nin, cmp_lt, cmp_le, cmp_gt, cmp_ge, eq_op, in_lst, in_tup, ix_lst, ix_tup, ix_scr, ix_str, sl_lst, sl_tup, sl_str, end_t, end_i, bi_len_l, bi_len_t, bi_len_c, bi_len_s, bi_abs, bi_sum, bi_maxl, bi_minl, bi_max2, bi_min2, bi_any, bi_all, bi_int_i, bi_int_b, bi_list_l, bi_list_t, bi_tuple_l, bi_tuple_t, bi_sorted, bi_sset, ty_non, ty_bl, ty_int, ty_str, ty_lst, ty_tup, ty_scr, toB_bl, set_n, set_t, set_tl, it_seq_l, it_seq_t, it_seq_s, it_rng1, it_rng2, it_enm, it_enmT, it_zp_l, it_zp_t, it_rev_l, it_rev_t, me_append, me_extend, me_pop, me_reverse, me_count, ty_int_int, ty_int_bool, ty_bool_int, ty_bool_bool, ty_list_list, ty_tuple_tuple, ty_list_tuple, ty_tuple_list, ty_tuple_int, ty_tuple_bool, ty_int_tuple, ty_str_str, isNonE, toD_d, toD_fl, clo_d, clo_fl, eqB_nn, eqB_bb, eqB_bi, eqB_ib, eqB_ii, eqB_ss, eqB_ll, eqB_tt, eqB_ni, eqB_in, eqBs_00, eqBs_0c, eqBs_c0, eqBs_cc, okD, okDs, flat, small, powOk, mulOk, most, natAbs_1, natAbs_2, natAbs_10, Int.natAbs_natCast, wipe, intsOf, blsOf, pq_non, pq_bl, pq_int, pq_str, pq_tup, pq_lst, pq_scr, atI_0, atI_1, atI_2, ixN_0, ixN_1, D.closed, D.closeds, sat_ok, sat_bind, sat_guard, sat_err, Res.bind_ok, Res.bind_err, List.map_cons, List.map_nil, List.length_cons, List.length_nil, List.cons_append, List.nil_append, List.getElem?_cons_zero, List.getElem?_cons_succ, List.set_cons_zero, List.set_cons_succ, List.replicate, List.foldl_cons, List.foldl_nil, List.zip_cons_cons, List.zip_nil_left, List.zip_nil_right, Nat.reduceAdd, Nat.reduceSub, Nat.reduceLeDiff, Nat.reduceLT, Int.reduceLT, Int.reduceLE, Int.reduceNeg, Int.reducePow, Int.reduceToNat, Int.reduceAdd, Int.reduceMul, Int.reduceSub, Nat.reducePow, Nat.zero_add, Nat.add_zero, decide_true, decide_false, decide_eq_true_eq, beq_iff_eq, Bool.true_eq_false, reduceCtorEq, if_true, if_false, Bool.false_eq_true, true_and, and_true, Bool.true_and, Bool.and_true, Bool.false_and, Bool.and_false, Bool.not_true, Bool.not_false, Bool.or_true, Bool.true_or, Bool.or_false, Bool.false_or, Bool.and_eq_true, Bool.or_eq_true, Bool.not_eq_true', beq_self_eq_true, Option.map_some, Option.toList, if_true, if_false]
    refine stream_sat h_stream (by revert hj; split <;> split <;> omega) fun a b => ?_
    simp -implicitDefEqProofs only [sat_exs, sat_exs_nil, sat_if, sat_asg, sat_asgT, sat_setix, sat_ex, sat_ret, sat_retN, sat_pass, sat_brk, sat_cnt, sat_raise, sat_evB, sat_ite, sat_for, rest_nx, rest_ret, sat_var, sat_non, sat_bl, sat_int, sat_str, sat_bin, sat_neg, sat_cmp, sat_chain, sat_isN, sat_notN, sat_and, sat_or, sat_not, sat_ifE, sat_tup, sat_lst, sat_ix, sat_slN, sat_slLv, sat_slHv, sat_slLb, sat_slHb, sat_slLi, sat_slHi, sat_slLc, sat_slHc, sat_cal, sat_bi, sat_isi, sat_isis, sat_trng, sat_lsn, sat_lidx, it_rr1, it_rr2, bi_sortP, bi_repr, sat_dnew, sat_din, sat_dget, sat_dgetD, sat_dlen, sat_dlist, sat_dput, sat_fld, sat_meth, sat_make, sat_setfld, sat_me, sat_lc, sat_lcIf, sat_lcF, sat_lcFi, sat_lrng, sat_isB, sat_rev1, rv1_l, rv1_t, List.reverse_cons, List.reverse_nil, sat_orv, orvK_int, orvK_non, intO_int, ex_bl, ex_lst, sat_box, sat_unbox, sat_esN, sat_esC, ex_d, ex_int, ex_fl, ex_obj, ex_cell, ex_oi, kept_non, kept_int, kept_tup, kept_lst, kept_str, kept_scr, kept_self, ex_setx, ex_j, shl1, Int.toNat_natCast, Int.natCast_nonneg, start, bin_ii, bin_ll, bin_tt, bin_ss, bin_li, bin_ti, rg_1, rg_2, int_add, int_sub, int_mul, int_fdiv, int_mod, int_pow, int_shl, int_shr, int_band, int_bor, int_bxor, cmp_eq, cmp_ne, cmp_in, cmp_nin, cmp_lt, cmp_le, cmp_gt, cmp_ge, eq_op, in_lst, in_tup, ix_lst, ix_tup, ix_scr, ix_str, sl_lst, sl_tup, sl_str, end_t, end_i, bi_len_l, bi_len_t, bi_len_c, bi_len_s, bi_abs, bi_sum, bi_maxl, bi_minl, bi_max2, bi_min2, bi_any, bi_all, bi_int_i, bi_int_b, bi_list_l, bi_list_t, bi_tuple_l, bi_tuple_t, bi_sorted, bi_sset, ty_non, ty_bl, ty_int, ty_str, ty_lst, ty_tup, ty_scr, toB_bl, set_n, set_t, set_tl, it_seq_l, it_seq_t, it_seq_s, it_rng1, it_rng2, it_enm, it_enmT, it_zp_l, it_zp_t, it_rev_l, it_rev_t, me_append, me_extend, me_pop, me_reverse, me_count, ty_int_int, ty_int_bool, ty_bool_int, ty_bool_bool, ty_list_list, ty_tuple_tuple, ty_list_tuple, ty_tuple_list, ty_tuple_int, ty_tuple_bool, ty_int_tuple, ty_str_str, isNonE, toD_d, toD_fl, clo_d, clo_fl, eqB_nn, eqB_bb, eqB_bi, eqB_ib, eqB_ii, eqB_ss, eqB_ll, eqB_tt, eqB_ni, eqB_in, eqBs_00, eqBs_0c, eqBs_c0, eqBs_cc, okD, okDs, flat, small, powOk, mulOk, most, natAbs_1, natAbs_2, natAbs_10, Int.natAbs_natCast, wipe, intsOf, blsOf, pq_non, pq_bl, pq_int, pq_str, pq_tup, pq_lst, pq_scr, atI_0, atI_1, atI_2, ixN_0, ixN_1, D.closed, D.closeds, sat_ok, sat_bind, sat_guard, sat_err, Res.bind_ok, Res.bind_err, List.map_cons, List.map_nil, List.length_cons, List.length_nil, List.cons_append, List.nil_append, List.getElem?_cons_zero, List.getElem?_cons_succ, List.set_cons_zero, List.set_cons_succ, List.replicate, List.foldl_cons, List.foldl_nil, List.zip_cons_cons, List.zip_nil_left, List.zip_nil_right, Nat.reduceAdd, Nat.reduceSub, Nat.reduceLeDiff, Nat.reduceLT, Int.reduceLT, Int.reduceLE, Int.reduceNeg, Int.reducePow, Int.reduceToNat, Int.reduceAdd, Int.reduceMul, Int.reduceSub, Nat.reducePow, Nat.zero_add, Nat.add_zero, decide_true, decide_false, decide_eq_true_eq, beq_iff_eq, Bool.true_eq_false, reduceCtorEq, if_true, if_false, Bool.false_eq_true, true_and, and_true, Bool.true_and, Bool.and_true, Bool.false_and, Bool.and_false, Bool.not_true, Bool.not_false, Bool.or_true, Bool.true_or, Bool.or_false, Bool.false_or, Bool.and_eq_true, Bool.or_eq_true, Bool.not_eq_true', beq_self_eq_true, Option.map_some, Option.toList, if_true, if_false]
    have d0 : Dr (S ++ [.lst [.int a, .int b]]) S.length := ⟨a, b, by simp⟩
    refine take_ext h_take d0 (by omega) (by omega) fun n S1 hn e1' l1 => ?_
    simp -implicitDefEqProofs only [sat_exs, sat_exs_nil, sat_if, sat_asg, sat_asgT, sat_setix, sat_ex, sat_ret, sat_retN, sat_pass, sat_brk, sat_cnt, sat_raise, sat_evB, sat_ite, sat_for, rest_nx, rest_ret, sat_var, sat_non, sat_bl, sat_int, sat_str, sat_bin, sat_neg, sat_cmp, sat_chain, sat_isN, sat_notN, sat_and, sat_or, sat_not, sat_ifE, sat_tup, sat_lst, sat_ix, sat_slN, sat_slLv, sat_slHv, sat_slLb, sat_slHb, sat_slLi, sat_slHi, sat_slLc, sat_slHc, sat_cal, sat_bi, sat_isi, sat_isis, sat_trng, sat_lsn, sat_lidx, it_rr1, it_rr2, bi_sortP, bi_repr, sat_dnew, sat_din, sat_dget, sat_dgetD, sat_dlen, sat_dlist, sat_dput, sat_fld, sat_meth, sat_make, sat_setfld, sat_me, sat_lc, sat_lcIf, sat_lcF, sat_lcFi, sat_lrng, sat_isB, sat_rev1, rv1_l, rv1_t, List.reverse_cons, List.reverse_nil, sat_orv, orvK_int, orvK_non, intO_int, ex_bl, ex_lst, sat_box, sat_unbox, sat_esN, sat_esC, ex_d, ex_int, ex_fl, ex_obj, ex_cell, ex_oi, kept_non, kept_int, kept_tup, kept_lst, kept_str, kept_scr, kept_self, ex_setx, ex_j, shl1, Int.toNat_natCast, Int.natCast_nonneg, start, bin_ii, bin_ll, bin_tt, bin_ss, bin_li, bin_ti, rg_1, rg_2, int_add, int_sub, int_mul, int_fdiv, int_mod, int_pow, int_shl, int_shr, int_band, int_bor, int_bxor, cmp_eq, cmp_ne, cmp_in, cmp_nin, cmp_lt, cmp_le, cmp_gt, cmp_ge, eq_op, in_lst, in_tup, ix_lst, ix_tup, ix_scr, ix_str, sl_lst, sl_tup, sl_str, end_t, end_i, bi_len_l, bi_len_t, bi_len_c, bi_len_s, bi_abs, bi_sum, bi_maxl, bi_minl, bi_max2, bi_min2, bi_any, bi_all, bi_int_i, bi_int_b, bi_list_l, bi_list_t, bi_tuple_l, bi_tuple_t, bi_sorted, bi_sset, ty_non, ty_bl, ty_int, ty_str, ty_lst, ty_tup, ty_scr, toB_bl, set_n, set_t, set_tl, it_seq_l, it_seq_t, it_seq_s, it_rng1, it_rng2, it_enm, it_enmT, it_zp_l, it_zp_t, it_rev_l, it_rev_t, me_append, me_extend, me_pop, me_reverse, me_count, ty_int_int, ty_int_bool, ty_bool_int, ty_bool_bool, ty_list_list, ty_tuple_tuple, ty_list_tuple, ty_tuple_list, ty_tuple_int, ty_tuple_bool, ty_int_tuple, ty_str_str, isNonE, toD_d, toD_fl, clo_d, clo_fl, eqB_nn, eqB_bb, eqB_bi, eqB_ib, eqB_ii, eqB_ss, eqB_ll, eqB_tt, eqB_ni, eqB_in, eqBs_00, eqBs_0c, eqBs_c0, eqBs_cc, okD, okDs, flat, small, powOk, mulOk, most, natAbs_1, natAbs_2, natAbs_10, Int.natAbs_natCast, wipe, intsOf, blsOf, pq_non, pq_bl, pq_int, pq_str, pq_tup, pq_lst, pq_scr, atI_0, atI_1, atI_2, ixN_0, ixN_1, D.closed, D.closeds, sat_ok, sat_bind, sat_guard, sat_err, Res.bind_ok, Res.bind_err, List.map_cons, List.map_nil, List.length_cons, List.length_nil, List.cons_append, List.nil_append, List.getElem?_cons_zero, List.getElem?_cons_succ, List.set_cons_zero, List.set_cons_succ, List.replicate, List.foldl_cons, List.foldl_nil, List.zip_cons_cons, List.zip_nil_left, List.zip_nil_right, Nat.reduceAdd, Nat.reduceSub, Nat.reduceLeDiff, Nat.reduceLT, Int.reduceLT, Int.reduceLE, Int.reduceNeg, Int.reducePow, Int.reduceToNat, Int.reduceAdd, Int.reduceMul, Int.reduceSub, Nat.reducePow, Nat.zero_add, Nat.add_zero, decide_true, decide_false, decide_eq_true_eq, beq_iff_eq, Bool.true_eq_false, reduceCtorEq, if_true, if_false, Bool.false_eq_true, true_and, and_true, Bool.true_and, Bool.and_true, Bool.false_and, Bool.and_false, Bool.not_true, Bool.not_false, Bool.or_true, Bool.true_or, Bool.or_false, Bool.false_or, Bool.and_eq_true, Bool.or_eq_true, Bool.not_eq_true', beq_self_eq_true, Option.map_some, Option.toList, if_true, if_false]
    refine take_ext h_take e1'.dr (by omega) (by omega) fun k S2 hk e2' l2 => ?_
    simp -implicitDefEqProofs only [sat_exs, sat_exs_nil, sat_if, sat_asg, sat_asgT, sat_setix, sat_ex, sat_ret, sat_retN, sat_pass, sat_brk, sat_cnt, sat_raise, sat_evB, sat_ite, sat_for, rest_nx, rest_ret, sat_var, sat_non, sat_bl, sat_int, sat_str, sat_bin, sat_neg, sat_cmp, sat_chain, sat_isN, sat_notN, sat_and, sat_or, sat_not, sat_ifE, sat_tup, sat_lst, sat_ix, sat_slN, sat_slLv, sat_slHv, sat_slLb, sat_slHb, sat_slLi, sat_slHi, sat_slLc, sat_slHc, sat_cal, sat_bi, sat_isi, sat_isis, sat_trng, sat_lsn, sat_lidx, it_rr1, it_rr2, bi_sortP, bi_repr, sat_dnew, sat_din, sat_dget, sat_dgetD, sat_dlen, sat_dlist, sat_dput, sat_fld, sat_meth, sat_make, sat_setfld, sat_me, sat_lc, sat_lcIf, sat_lcF, sat_lcFi, sat_lrng, sat_isB, sat_rev1, rv1_l, rv1_t, List.reverse_cons, List.reverse_nil, sat_orv, orvK_int, orvK_non, intO_int, ex_bl, ex_lst, sat_box, sat_unbox, sat_esN, sat_esC, ex_d, ex_int, ex_fl, ex_obj, ex_cell, ex_oi, kept_non, kept_int, kept_tup, kept_lst, kept_str, kept_scr, kept_self, ex_setx, ex_j, shl1, Int.toNat_natCast, Int.natCast_nonneg, start, bin_ii, bin_ll, bin_tt, bin_ss, bin_li, bin_ti, rg_1, rg_2, int_add, int_sub, int_mul, int_fdiv, int_mod, int_pow, int_shl, int_shr, int_band, int_bor, int_bxor, cmp_eq, cmp_ne, cmp_in, cmp_nin, cmp_lt, cmp_le, cmp_gt, cmp_ge, eq_op, in_lst, in_tup, ix_lst, ix_tup, ix_scr, ix_str, sl_lst, sl_tup, sl_str, end_t, end_i, bi_len_l, bi_len_t, bi_len_c, bi_len_s, bi_abs, bi_sum, bi_maxl, bi_minl, bi_max2, bi_min2, bi_any, bi_all, bi_int_i, bi_int_b, bi_list_l, bi_list_t, bi_tuple_l, bi_tuple_t, bi_sorted, bi_sset, ty_non, ty_bl, ty_int, ty_str, ty_lst, ty_tup, ty_scr, toB_bl, set_n, set_t, set_tl, it_seq_l, it_seq_t, it_seq_s, it_rng1, it_rng2, it_enm, it_enmT, it_zp_l, it_zp_t, it_rev_l, it_rev_t, me_append, me_extend, me_pop, me_reverse, me_count, ty_int_int, ty_int_bool, ty_bool_int, ty_bool_bool, ty_list_list, ty_tuple_tuple, ty_list_tuple, ty_tuple_list, ty_tuple_int, ty_tuple_bool, ty_int_tuple, ty_str_str, isNonE, toD_d, toD_fl, clo_d, clo_fl, eqB_nn, eqB_bb, eqB_bi, eqB_ib, eqB_ii, eqB_ss, eqB_ll, eqB_tt, eqB_ni, eqB_in, eqBs_00, eqBs_0c, eqBs_c0, eqBs_cc, okD, okDs, flat, small, powOk, mulOk, most, natAbs_1, natAbs_2, natAbs_10, Int.natAbs_natCast, wipe, intsOf, blsOf, pq_non, pq_bl, pq_int, pq_str, pq_tup, pq_lst, pq_scr, atI_0, atI_1, atI_2, ixN_0, ixN_1, D.closed, D.closeds, sat_ok, sat_bind, sat_guard, sat_err, Res.bind_ok, Res.bind_err, List.map_cons, List.map_nil, List.length_cons, List.length_nil, List.cons_append, List.nil_append, List.getElem?_cons_zero, List.getElem?_cons_succ, List.set_cons_zero, List.set_cons_succ, List.replicate, List.foldl_cons, List.foldl_nil, List.zip_cons_cons, List.zip_nil_left, List.zip_nil_right, Nat.reduceAdd, Nat.reduceSub, Nat.reduceLeDiff, Nat.reduceLT, Int.reduceLT, Int.reduceLE, Int.reduceNeg, Int.reducePow, Int.reduceToNat, Int.reduceAdd, Int.reduceMul, Int.reduceSub, Nat.reducePow, Nat.zero_add, Nat.add_zero, decide_true, decide_false, decide_eq_true_eq, beq_iff_eq, Bool.true_eq_false, reduceCtorEq, if_true, if_false, Bool.false_eq_true, true_and, and_true, Bool.true_and, Bool.and_true, Bool.false_and, Bool.and_false, Bool.not_true, Bool.not_false, Bool.or_true, Bool.true_or, Bool.or_false, Bool.false_or, Bool.and_eq_true, Bool.or_eq_true, Bool.not_eq_true', beq_self_eq_true, Option.map_some, Option.toList, if_true, if_false]
    rw [show (1 : Int) + (n : Int) = ((n + 1 : Nat) : Int) by omega, show (2 : Int) + (k : Int) = ((k + 2 : Nat) : Int) by omega]
    have n8 : n + 1 ≤ 8 := by omega
    have n1 : 1 ≤ n + 1 := by omega
    have k1 : 2 ≤ k + 2 := by omega
    have k2 : k + 2 ≤ 100 := by omega
    have p8 := pow_le_256 n8
    have p0 : 0 < 2 ^ (n + 1) := Nat.pos_of_ne_zero (by simp)
    refine table_sat h_table h_take e2'.dr n8 (by omega) (by omega) fun t S3 ht3 e3 => ?_
    generalize n + 1 = n at *
    generalize k + 2 = k at *
    have htl := ht3.len
    have hp0 : (0 : Int) < (2 ^ n : Nat) := by exact_mod_cast p0
    have hR : ∀ (c x : Nat) (T : Store), c < 2 ^ n → call gl fs (m + 9) i_right [wrD n k t, .tup (t.map oD), .int c, .int x] T = .ok (.d (.bl true), T) := fun c x T hc => right07_ok h_right h_ways h_within h_more h_nearest h_ways_up h_above h_holds h_further h_how_many h_spots_of n8 hc htl
    have n6 : (n : Int) ≤ 1000000 := by omega
    simp -implicitDefEqProofs only [sat_exs, sat_exs_nil, sat_if, sat_asg, sat_asgT, sat_setix, sat_ex, sat_ret, sat_retN, sat_pass, sat_brk, sat_cnt, sat_raise, sat_evB, sat_ite, sat_for, rest_nx, rest_ret, sat_var, sat_non, sat_bl, sat_int, sat_str, sat_bin, sat_neg, sat_cmp, sat_chain, sat_isN, sat_notN, sat_and, sat_or, sat_not, sat_ifE, sat_tup, sat_lst, sat_ix, sat_slN, sat_slLv, sat_slHv, sat_slLb, sat_slHb, sat_slLi, sat_slHi, sat_slLc, sat_slHc, sat_cal, sat_bi, sat_isi, sat_isis, sat_trng, sat_lsn, sat_lidx, it_rr1, it_rr2, bi_sortP, bi_repr, sat_dnew, sat_din, sat_dget, sat_dgetD, sat_dlen, sat_dlist, sat_dput, sat_fld, sat_meth, sat_make, sat_setfld, sat_me, sat_lc, sat_lcIf, sat_lcF, sat_lcFi, sat_lrng, sat_isB, sat_rev1, rv1_l, rv1_t, List.reverse_cons, List.reverse_nil, sat_orv, orvK_int, orvK_non, intO_int, ex_bl, ex_lst, sat_box, sat_unbox, sat_esN, sat_esC, ex_d, ex_int, ex_fl, ex_obj, ex_cell, ex_oi, kept_non, kept_int, kept_tup, kept_lst, kept_str, kept_scr, kept_self, ex_setx, ex_j, shl1, Int.toNat_natCast, Int.natCast_nonneg, start, bin_ii, bin_ll, bin_tt, bin_ss, bin_li, bin_ti, rg_1, rg_2, int_add, int_sub, int_mul, int_fdiv, int_mod, int_pow, int_shl, int_shr, int_band, int_bor, int_bxor, cmp_eq, cmp_ne, cmp_in, cmp_nin, cmp_lt, cmp_le, cmp_gt, cmp_ge, eq_op, in_lst, in_tup, ix_lst, ix_tup, ix_scr, ix_str, sl_lst, sl_tup, sl_str, end_t, end_i, bi_len_l, bi_len_t, bi_len_c, bi_len_s, bi_abs, bi_sum, bi_maxl, bi_minl, bi_max2, bi_min2, bi_any, bi_all, bi_int_i, bi_int_b, bi_list_l, bi_list_t, bi_tuple_l, bi_tuple_t, bi_sorted, bi_sset, ty_non, ty_bl, ty_int, ty_str, ty_lst, ty_tup, ty_scr, toB_bl, set_n, set_t, set_tl, it_seq_l, it_seq_t, it_seq_s, it_rng1, it_rng2, it_enm, it_enmT, it_zp_l, it_zp_t, it_rev_l, it_rev_t, me_append, me_extend, me_pop, me_reverse, me_count, ty_int_int, ty_int_bool, ty_bool_int, ty_bool_bool, ty_list_list, ty_tuple_tuple, ty_list_tuple, ty_tuple_list, ty_tuple_int, ty_tuple_bool, ty_int_tuple, ty_str_str, isNonE, toD_d, toD_fl, clo_d, clo_fl, eqB_nn, eqB_bb, eqB_bi, eqB_ib, eqB_ii, eqB_ss, eqB_ll, eqB_tt, eqB_ni, eqB_in, eqBs_00, eqBs_0c, eqBs_c0, eqBs_cc, okD, okDs, flat, small, powOk, mulOk, most, natAbs_1, natAbs_2, natAbs_10, Int.natAbs_natCast, wipe, intsOf, blsOf, pq_non, pq_bl, pq_int, pq_str, pq_tup, pq_lst, pq_scr, atI_0, atI_1, atI_2, ixN_0, ixN_1, D.closed, D.closeds, sat_ok, sat_bind, sat_guard, sat_err, Res.bind_ok, Res.bind_err, List.map_cons, List.map_nil, List.length_cons, List.length_nil, List.cons_append, List.nil_append, List.getElem?_cons_zero, List.getElem?_cons_succ, List.set_cons_zero, List.set_cons_succ, List.replicate, List.foldl_cons, List.foldl_nil, List.zip_cons_cons, List.zip_nil_left, List.zip_nil_right, Nat.reduceAdd, Nat.reduceSub, Nat.reduceLeDiff, Nat.reduceLT, Int.reduceLT, Int.reduceLE, Int.reduceNeg, Int.reducePow, Int.reduceToNat, Int.reduceAdd, Int.reduceMul, Int.reduceSub, Nat.reducePow, Nat.zero_add, Nat.add_zero, decide_true, decide_false, decide_eq_true_eq, beq_iff_eq, Bool.true_eq_false, reduceCtorEq, if_true, if_false, Bool.false_eq_true, true_and, and_true, Bool.true_and, Bool.and_true, Bool.false_and, Bool.and_false, Bool.not_true, Bool.not_false, Bool.or_true, Bool.true_or, Bool.or_false, Bool.false_or, Bool.and_eq_true, Bool.or_eq_true, Bool.not_eq_true', beq_self_eq_true, Option.map_some, Option.toList, if_true, if_false, made_ok h_made_writing h_is_int e_MOST_SPOTS e_FEWEST_NUMBERS e_MOST_NUMBERS n1 n8 k1 k2 ht3]
    refine sat_loop (fun env T => Dr T S.length ∧ ∃ f g h i, env = [some (.scr ns), some (.int j), some (.obj S.length), some (.int n), some (.int k), some (.tup (t.map oD)), some (wrD n k t), f, g, h, i]) ⟨e3.dr, _, _, _, _, rfl⟩ (fun d env T hd hI => ?_) (fun env T hI => ?_)
    · obtain ⟨dT, _, _, _, _, rfl⟩ := hI
      obtain ⟨q, hq, rfl⟩ := up0_mem hd
      simp -implicitDefEqProofs only [sat_exs, sat_exs_nil, sat_if, sat_asg, sat_asgT, sat_setix, sat_ex, sat_ret, sat_retN, sat_pass, sat_brk, sat_cnt, sat_raise, sat_evB, sat_ite, sat_for, rest_nx, rest_ret, sat_var, sat_non, sat_bl, sat_int, sat_str, sat_bin, sat_neg, sat_cmp, sat_chain, sat_isN, sat_notN, sat_and, sat_or, sat_not, sat_ifE, sat_tup, sat_lst, sat_ix, sat_slN, sat_slLv, sat_slHv, sat_slLb, sat_slHb, sat_slLi, sat_slHi, sat_slLc, sat_slHc, sat_cal, sat_bi, sat_isi, sat_isis, sat_trng, sat_lsn, sat_lidx, it_rr1, it_rr2, bi_sortP, bi_repr, sat_dnew, sat_din, sat_dget, sat_dgetD, sat_dlen, sat_dlist, sat_dput, sat_fld, sat_meth, sat_make, sat_setfld, sat_me, sat_lc, sat_lcIf, sat_lcF, sat_lcFi, sat_lrng, sat_isB, sat_rev1, rv1_l, rv1_t, List.reverse_cons, List.reverse_nil, sat_orv, orvK_int, orvK_non, intO_int, ex_bl, ex_lst, sat_box, sat_unbox, sat_esN, sat_esC, ex_d, ex_int, ex_fl, ex_obj, ex_cell, ex_oi, kept_non, kept_int, kept_tup, kept_lst, kept_str, kept_scr, kept_self, ex_setx, ex_j, shl1, Int.toNat_natCast, Int.natCast_nonneg, start, bin_ii, bin_ll, bin_tt, bin_ss, bin_li, bin_ti, rg_1, rg_2, int_add, int_sub, int_mul, int_fdiv, int_mod, int_pow, int_shl, int_shr, int_band, int_bor, int_bxor, cmp_eq, cmp_ne, cmp_in, cmp_nin, cmp_lt, cmp_le, cmp_gt, cmp_ge, eq_op, in_lst, in_tup, ix_lst, ix_tup, ix_scr, ix_str, sl_lst, sl_tup, sl_str, end_t, end_i, bi_len_l, bi_len_t, bi_len_c, bi_len_s, bi_abs, bi_sum, bi_maxl, bi_minl, bi_max2, bi_min2, bi_any, bi_all, bi_int_i, bi_int_b, bi_list_l, bi_list_t, bi_tuple_l, bi_tuple_t, bi_sorted, bi_sset, ty_non, ty_bl, ty_int, ty_str, ty_lst, ty_tup, ty_scr, toB_bl, set_n, set_t, set_tl, it_seq_l, it_seq_t, it_seq_s, it_rng1, it_rng2, it_enm, it_enmT, it_zp_l, it_zp_t, it_rev_l, it_rev_t, me_append, me_extend, me_pop, me_reverse, me_count, ty_int_int, ty_int_bool, ty_bool_int, ty_bool_bool, ty_list_list, ty_tuple_tuple, ty_list_tuple, ty_tuple_list, ty_tuple_int, ty_tuple_bool, ty_int_tuple, ty_str_str, isNonE, toD_d, toD_fl, clo_d, clo_fl, eqB_nn, eqB_bb, eqB_bi, eqB_ib, eqB_ii, eqB_ss, eqB_ll, eqB_tt, eqB_ni, eqB_in, eqBs_00, eqBs_0c, eqBs_c0, eqBs_cc, okD, okDs, flat, small, powOk, mulOk, most, natAbs_1, natAbs_2, natAbs_10, Int.natAbs_natCast, wipe, intsOf, blsOf, pq_non, pq_bl, pq_int, pq_str, pq_tup, pq_lst, pq_scr, atI_0, atI_1, atI_2, ixN_0, ixN_1, D.closed, D.closeds, sat_ok, sat_bind, sat_guard, sat_err, Res.bind_ok, Res.bind_err, List.map_cons, List.map_nil, List.length_cons, List.length_nil, List.cons_append, List.nil_append, List.getElem?_cons_zero, List.getElem?_cons_succ, List.set_cons_zero, List.set_cons_succ, List.replicate, List.foldl_cons, List.foldl_nil, List.zip_cons_cons, List.zip_nil_left, List.zip_nil_right, Nat.reduceAdd, Nat.reduceSub, Nat.reduceLeDiff, Nat.reduceLT, Int.reduceLT, Int.reduceLE, Int.reduceNeg, Int.reducePow, Int.reduceToNat, Int.reduceAdd, Int.reduceMul, Int.reduceSub, Nat.reducePow, Nat.zero_add, Nat.add_zero, decide_true, decide_false, decide_eq_true_eq, beq_iff_eq, Bool.true_eq_false, reduceCtorEq, if_true, if_false, Bool.false_eq_true, true_and, and_true, Bool.true_and, Bool.and_true, Bool.false_and, Bool.and_false, Bool.not_true, Bool.not_false, Bool.or_true, Bool.true_or, Bool.or_false, Bool.false_or, Bool.and_eq_true, Bool.or_eq_true, Bool.not_eq_true', beq_self_eq_true, Option.map_some, Option.toList, if_true, if_false, n6]
      refine take_ext h_take dT hp0 (by omega) fun c1 T1 hc1 f1 m1 => ?_
      simp -implicitDefEqProofs only [sat_exs, sat_exs_nil, sat_if, sat_asg, sat_asgT, sat_setix, sat_ex, sat_ret, sat_retN, sat_pass, sat_brk, sat_cnt, sat_raise, sat_evB, sat_ite, sat_for, rest_nx, rest_ret, sat_var, sat_non, sat_bl, sat_int, sat_str, sat_bin, sat_neg, sat_cmp, sat_chain, sat_isN, sat_notN, sat_and, sat_or, sat_not, sat_ifE, sat_tup, sat_lst, sat_ix, sat_slN, sat_slLv, sat_slHv, sat_slLb, sat_slHb, sat_slLi, sat_slHi, sat_slLc, sat_slHc, sat_cal, sat_bi, sat_isi, sat_isis, sat_trng, sat_lsn, sat_lidx, it_rr1, it_rr2, bi_sortP, bi_repr, sat_dnew, sat_din, sat_dget, sat_dgetD, sat_dlen, sat_dlist, sat_dput, sat_fld, sat_meth, sat_make, sat_setfld, sat_me, sat_lc, sat_lcIf, sat_lcF, sat_lcFi, sat_lrng, sat_isB, sat_rev1, rv1_l, rv1_t, List.reverse_cons, List.reverse_nil, sat_orv, orvK_int, orvK_non, intO_int, ex_bl, ex_lst, sat_box, sat_unbox, sat_esN, sat_esC, ex_d, ex_int, ex_fl, ex_obj, ex_cell, ex_oi, kept_non, kept_int, kept_tup, kept_lst, kept_str, kept_scr, kept_self, ex_setx, ex_j, shl1, Int.toNat_natCast, Int.natCast_nonneg, start, bin_ii, bin_ll, bin_tt, bin_ss, bin_li, bin_ti, rg_1, rg_2, int_add, int_sub, int_mul, int_fdiv, int_mod, int_pow, int_shl, int_shr, int_band, int_bor, int_bxor, cmp_eq, cmp_ne, cmp_in, cmp_nin, cmp_lt, cmp_le, cmp_gt, cmp_ge, eq_op, in_lst, in_tup, ix_lst, ix_tup, ix_scr, ix_str, sl_lst, sl_tup, sl_str, end_t, end_i, bi_len_l, bi_len_t, bi_len_c, bi_len_s, bi_abs, bi_sum, bi_maxl, bi_minl, bi_max2, bi_min2, bi_any, bi_all, bi_int_i, bi_int_b, bi_list_l, bi_list_t, bi_tuple_l, bi_tuple_t, bi_sorted, bi_sset, ty_non, ty_bl, ty_int, ty_str, ty_lst, ty_tup, ty_scr, toB_bl, set_n, set_t, set_tl, it_seq_l, it_seq_t, it_seq_s, it_rng1, it_rng2, it_enm, it_enmT, it_zp_l, it_zp_t, it_rev_l, it_rev_t, me_append, me_extend, me_pop, me_reverse, me_count, ty_int_int, ty_int_bool, ty_bool_int, ty_bool_bool, ty_list_list, ty_tuple_tuple, ty_list_tuple, ty_tuple_list, ty_tuple_int, ty_tuple_bool, ty_int_tuple, ty_str_str, isNonE, toD_d, toD_fl, clo_d, clo_fl, eqB_nn, eqB_bb, eqB_bi, eqB_ib, eqB_ii, eqB_ss, eqB_ll, eqB_tt, eqB_ni, eqB_in, eqBs_00, eqBs_0c, eqBs_c0, eqBs_cc, okD, okDs, flat, small, powOk, mulOk, most, natAbs_1, natAbs_2, natAbs_10, Int.natAbs_natCast, wipe, intsOf, blsOf, pq_non, pq_bl, pq_int, pq_str, pq_tup, pq_lst, pq_scr, atI_0, atI_1, atI_2, ixN_0, ixN_1, D.closed, D.closeds, sat_ok, sat_bind, sat_guard, sat_err, Res.bind_ok, Res.bind_err, List.map_cons, List.map_nil, List.length_cons, List.length_nil, List.cons_append, List.nil_append, List.getElem?_cons_zero, List.getElem?_cons_succ, List.set_cons_zero, List.set_cons_succ, List.replicate, List.foldl_cons, List.foldl_nil, List.zip_cons_cons, List.zip_nil_left, List.zip_nil_right, Nat.reduceAdd, Nat.reduceSub, Nat.reduceLeDiff, Nat.reduceLT, Int.reduceLT, Int.reduceLE, Int.reduceNeg, Int.reducePow, Int.reduceToNat, Int.reduceAdd, Int.reduceMul, Int.reduceSub, Nat.reducePow, Nat.zero_add, Nat.add_zero, decide_true, decide_false, decide_eq_true_eq, beq_iff_eq, Bool.true_eq_false, reduceCtorEq, if_true, if_false, Bool.false_eq_true, true_and, and_true, Bool.true_and, Bool.and_true, Bool.false_and, Bool.and_false, Bool.not_true, Bool.not_false, Bool.or_true, Bool.true_or, Bool.or_false, Bool.false_or, Bool.and_eq_true, Bool.or_eq_true, Bool.not_eq_true', beq_self_eq_true, Option.map_some, Option.toList, if_true, if_false, n6]
      refine take_ext h_take f1.dr hp0 (by omega) fun c2 T2 hc2 f2 m2 => ?_
      simp -implicitDefEqProofs only [sat_exs, sat_exs_nil, sat_if, sat_asg, sat_asgT, sat_setix, sat_ex, sat_ret, sat_retN, sat_pass, sat_brk, sat_cnt, sat_raise, sat_evB, sat_ite, sat_for, rest_nx, rest_ret, sat_var, sat_non, sat_bl, sat_int, sat_str, sat_bin, sat_neg, sat_cmp, sat_chain, sat_isN, sat_notN, sat_and, sat_or, sat_not, sat_ifE, sat_tup, sat_lst, sat_ix, sat_slN, sat_slLv, sat_slHv, sat_slLb, sat_slHb, sat_slLi, sat_slHi, sat_slLc, sat_slHc, sat_cal, sat_bi, sat_isi, sat_isis, sat_trng, sat_lsn, sat_lidx, it_rr1, it_rr2, bi_sortP, bi_repr, sat_dnew, sat_din, sat_dget, sat_dgetD, sat_dlen, sat_dlist, sat_dput, sat_fld, sat_meth, sat_make, sat_setfld, sat_me, sat_lc, sat_lcIf, sat_lcF, sat_lcFi, sat_lrng, sat_isB, sat_rev1, rv1_l, rv1_t, List.reverse_cons, List.reverse_nil, sat_orv, orvK_int, orvK_non, intO_int, ex_bl, ex_lst, sat_box, sat_unbox, sat_esN, sat_esC, ex_d, ex_int, ex_fl, ex_obj, ex_cell, ex_oi, kept_non, kept_int, kept_tup, kept_lst, kept_str, kept_scr, kept_self, ex_setx, ex_j, shl1, Int.toNat_natCast, Int.natCast_nonneg, start, bin_ii, bin_ll, bin_tt, bin_ss, bin_li, bin_ti, rg_1, rg_2, int_add, int_sub, int_mul, int_fdiv, int_mod, int_pow, int_shl, int_shr, int_band, int_bor, int_bxor, cmp_eq, cmp_ne, cmp_in, cmp_nin, cmp_lt, cmp_le, cmp_gt, cmp_ge, eq_op, in_lst, in_tup, ix_lst, ix_tup, ix_scr, ix_str, sl_lst, sl_tup, sl_str, end_t, end_i, bi_len_l, bi_len_t, bi_len_c, bi_len_s, bi_abs, bi_sum, bi_maxl, bi_minl, bi_max2, bi_min2, bi_any, bi_all, bi_int_i, bi_int_b, bi_list_l, bi_list_t, bi_tuple_l, bi_tuple_t, bi_sorted, bi_sset, ty_non, ty_bl, ty_int, ty_str, ty_lst, ty_tup, ty_scr, toB_bl, set_n, set_t, set_tl, it_seq_l, it_seq_t, it_seq_s, it_rng1, it_rng2, it_enm, it_enmT, it_zp_l, it_zp_t, it_rev_l, it_rev_t, me_append, me_extend, me_pop, me_reverse, me_count, ty_int_int, ty_int_bool, ty_bool_int, ty_bool_bool, ty_list_list, ty_tuple_tuple, ty_list_tuple, ty_tuple_list, ty_tuple_int, ty_tuple_bool, ty_int_tuple, ty_str_str, isNonE, toD_d, toD_fl, clo_d, clo_fl, eqB_nn, eqB_bb, eqB_bi, eqB_ib, eqB_ii, eqB_ss, eqB_ll, eqB_tt, eqB_ni, eqB_in, eqBs_00, eqBs_0c, eqBs_c0, eqBs_cc, okD, okDs, flat, small, powOk, mulOk, most, natAbs_1, natAbs_2, natAbs_10, Int.natAbs_natCast, wipe, intsOf, blsOf, pq_non, pq_bl, pq_int, pq_str, pq_tup, pq_lst, pq_scr, atI_0, atI_1, atI_2, ixN_0, ixN_1, D.closed, D.closeds, sat_ok, sat_bind, sat_guard, sat_err, Res.bind_ok, Res.bind_err, List.map_cons, List.map_nil, List.length_cons, List.length_nil, List.cons_append, List.nil_append, List.getElem?_cons_zero, List.getElem?_cons_succ, List.set_cons_zero, List.set_cons_succ, List.replicate, List.foldl_cons, List.foldl_nil, List.zip_cons_cons, List.zip_nil_left, List.zip_nil_right, Nat.reduceAdd, Nat.reduceSub, Nat.reduceLeDiff, Nat.reduceLT, Int.reduceLT, Int.reduceLE, Int.reduceNeg, Int.reducePow, Int.reduceToNat, Int.reduceAdd, Int.reduceMul, Int.reduceSub, Nat.reducePow, Nat.zero_add, Nat.add_zero, decide_true, decide_false, decide_eq_true_eq, beq_iff_eq, Bool.true_eq_false, reduceCtorEq, if_true, if_false, Bool.false_eq_true, true_and, and_true, Bool.true_and, Bool.and_true, Bool.false_and, Bool.and_false, Bool.not_true, Bool.not_false, Bool.or_true, Bool.true_or, Bool.or_false, Bool.false_or, Bool.and_eq_true, Bool.or_eq_true, Bool.not_eq_true', beq_self_eq_true, Option.map_some, Option.toList, if_true, if_false, n6]
      refine take_ext h_take f2.dr hp0 (by omega) fun c3 T3 hc3 f3 m3 => ?_
      have hc1' : c1 < 2 ^ n := by exact_mod_cast hc1
      have hc2' : c2 < 2 ^ n := by exact_mod_cast hc2
      have hcc : ∃ c : Nat, c < 2 ^ n ∧ atI [D.int 0, D.int (c1 : Nat), D.int ((c2 &&& c3 : Nat) : Int)] ((q : Int) % 3) = some (.int (c : Nat)) := by
        rcases (show (q : Int) % 3 = 0 ∨ (q : Int) % 3 = 1 ∨ (q : Int) % 3 = 2 by omega) with h | h | h <;> rw [h]
        · exact ⟨0, p0, atI_0⟩
        · exact ⟨c1, hc1', atI_1⟩
        · exact ⟨c2 &&& c3, Nat.lt_of_le_of_lt Nat.and_le_left hc2', atI_2⟩
      obtain ⟨c, hc, hce⟩ := hcc
      simp -implicitDefEqProofs only [sat_exs, sat_exs_nil, sat_if, sat_asg, sat_asgT, sat_setix, sat_ex, sat_ret, sat_retN, sat_pass, sat_brk, sat_cnt, sat_raise, sat_evB, sat_ite, sat_for, rest_nx, rest_ret, sat_var, sat_non, sat_bl, sat_int, sat_str, sat_bin, sat_neg, sat_cmp, sat_chain, sat_isN, sat_notN, sat_and, sat_or, sat_not, sat_ifE, sat_tup, sat_lst, sat_ix, sat_slN, sat_slLv, sat_slHv, sat_slLb, sat_slHb, sat_slLi, sat_slHi, sat_slLc, sat_slHc, sat_cal, sat_bi, sat_isi, sat_isis, sat_trng, sat_lsn, sat_lidx, it_rr1, it_rr2, bi_sortP, bi_repr, sat_dnew, sat_din, sat_dget, sat_dgetD, sat_dlen, sat_dlist, sat_dput, sat_fld, sat_meth, sat_make, sat_setfld, sat_me, sat_lc, sat_lcIf, sat_lcF, sat_lcFi, sat_lrng, sat_isB, sat_rev1, rv1_l, rv1_t, List.reverse_cons, List.reverse_nil, sat_orv, orvK_int, orvK_non, intO_int, ex_bl, ex_lst, sat_box, sat_unbox, sat_esN, sat_esC, ex_d, ex_int, ex_fl, ex_obj, ex_cell, ex_oi, kept_non, kept_int, kept_tup, kept_lst, kept_str, kept_scr, kept_self, ex_setx, ex_j, shl1, Int.toNat_natCast, Int.natCast_nonneg, start, bin_ii, bin_ll, bin_tt, bin_ss, bin_li, bin_ti, rg_1, rg_2, int_add, int_sub, int_mul, int_fdiv, int_mod, int_pow, int_shl, int_shr, int_band, int_bor, int_bxor, cmp_eq, cmp_ne, cmp_in, cmp_nin, cmp_lt, cmp_le, cmp_gt, cmp_ge, eq_op, in_lst, in_tup, ix_lst, ix_tup, ix_scr, ix_str, sl_lst, sl_tup, sl_str, end_t, end_i, bi_len_l, bi_len_t, bi_len_c, bi_len_s, bi_abs, bi_sum, bi_maxl, bi_minl, bi_max2, bi_min2, bi_any, bi_all, bi_int_i, bi_int_b, bi_list_l, bi_list_t, bi_tuple_l, bi_tuple_t, bi_sorted, bi_sset, ty_non, ty_bl, ty_int, ty_str, ty_lst, ty_tup, ty_scr, toB_bl, set_n, set_t, set_tl, it_seq_l, it_seq_t, it_seq_s, it_rng1, it_rng2, it_enm, it_enmT, it_zp_l, it_zp_t, it_rev_l, it_rev_t, me_append, me_extend, me_pop, me_reverse, me_count, ty_int_int, ty_int_bool, ty_bool_int, ty_bool_bool, ty_list_list, ty_tuple_tuple, ty_list_tuple, ty_tuple_list, ty_tuple_int, ty_tuple_bool, ty_int_tuple, ty_str_str, isNonE, toD_d, toD_fl, clo_d, clo_fl, eqB_nn, eqB_bb, eqB_bi, eqB_ib, eqB_ii, eqB_ss, eqB_ll, eqB_tt, eqB_ni, eqB_in, eqBs_00, eqBs_0c, eqBs_c0, eqBs_cc, okD, okDs, flat, small, powOk, mulOk, most, natAbs_1, natAbs_2, natAbs_10, Int.natAbs_natCast, wipe, intsOf, blsOf, pq_non, pq_bl, pq_int, pq_str, pq_tup, pq_lst, pq_scr, atI_0, atI_1, atI_2, ixN_0, ixN_1, D.closed, D.closeds, sat_ok, sat_bind, sat_guard, sat_err, Res.bind_ok, Res.bind_err, List.map_cons, List.map_nil, List.length_cons, List.length_nil, List.cons_append, List.nil_append, List.getElem?_cons_zero, List.getElem?_cons_succ, List.set_cons_zero, List.set_cons_succ, List.replicate, List.foldl_cons, List.foldl_nil, List.zip_cons_cons, List.zip_nil_left, List.zip_nil_right, Nat.reduceAdd, Nat.reduceSub, Nat.reduceLeDiff, Nat.reduceLT, Int.reduceLT, Int.reduceLE, Int.reduceNeg, Int.reducePow, Int.reduceToNat, Int.reduceAdd, Int.reduceMul, Int.reduceSub, Nat.reducePow, Nat.zero_add, Nat.add_zero, decide_true, decide_false, decide_eq_true_eq, beq_iff_eq, Bool.true_eq_false, reduceCtorEq, if_true, if_false, Bool.false_eq_true, true_and, and_true, Bool.true_and, Bool.and_true, Bool.false_and, Bool.and_false, Bool.not_true, Bool.not_false, Bool.or_true, Bool.true_or, Bool.or_false, Bool.false_or, Bool.and_eq_true, Bool.or_eq_true, Bool.not_eq_true', beq_self_eq_true, Option.map_some, Option.toList, if_true, if_false, hce]
      refine take_ext h_take f3.dr (by omega) (by omega) fun x T4 hx f4 m4 => ?_
      have hmod : ((x : Int) + 1) % (k : Int) = (((x + 1) % k : Nat) : Int) := by simp
      have hk0 : (0 : Int) < (k : Int) := by omega
      simp -implicitDefEqProofs only [sat_exs, sat_exs_nil, sat_if, sat_asg, sat_asgT, sat_setix, sat_ex, sat_ret, sat_retN, sat_pass, sat_brk, sat_cnt, sat_raise, sat_evB, sat_ite, sat_for, rest_nx, rest_ret, sat_var, sat_non, sat_bl, sat_int, sat_str, sat_bin, sat_neg, sat_cmp, sat_chain, sat_isN, sat_notN, sat_and, sat_or, sat_not, sat_ifE, sat_tup, sat_lst, sat_ix, sat_slN, sat_slLv, sat_slHv, sat_slLb, sat_slHb, sat_slLi, sat_slHi, sat_slLc, sat_slHc, sat_cal, sat_bi, sat_isi, sat_isis, sat_trng, sat_lsn, sat_lidx, it_rr1, it_rr2, bi_sortP, bi_repr, sat_dnew, sat_din, sat_dget, sat_dgetD, sat_dlen, sat_dlist, sat_dput, sat_fld, sat_meth, sat_make, sat_setfld, sat_me, sat_lc, sat_lcIf, sat_lcF, sat_lcFi, sat_lrng, sat_isB, sat_rev1, rv1_l, rv1_t, List.reverse_cons, List.reverse_nil, sat_orv, orvK_int, orvK_non, intO_int, ex_bl, ex_lst, sat_box, sat_unbox, sat_esN, sat_esC, ex_d, ex_int, ex_fl, ex_obj, ex_cell, ex_oi, kept_non, kept_int, kept_tup, kept_lst, kept_str, kept_scr, kept_self, ex_setx, ex_j, shl1, Int.toNat_natCast, Int.natCast_nonneg, start, bin_ii, bin_ll, bin_tt, bin_ss, bin_li, bin_ti, rg_1, rg_2, int_add, int_sub, int_mul, int_fdiv, int_mod, int_pow, int_shl, int_shr, int_band, int_bor, int_bxor, cmp_eq, cmp_ne, cmp_in, cmp_nin, cmp_lt, cmp_le, cmp_gt, cmp_ge, eq_op, in_lst, in_tup, ix_lst, ix_tup, ix_scr, ix_str, sl_lst, sl_tup, sl_str, end_t, end_i, bi_len_l, bi_len_t, bi_len_c, bi_len_s, bi_abs, bi_sum, bi_maxl, bi_minl, bi_max2, bi_min2, bi_any, bi_all, bi_int_i, bi_int_b, bi_list_l, bi_list_t, bi_tuple_l, bi_tuple_t, bi_sorted, bi_sset, ty_non, ty_bl, ty_int, ty_str, ty_lst, ty_tup, ty_scr, toB_bl, set_n, set_t, set_tl, it_seq_l, it_seq_t, it_seq_s, it_rng1, it_rng2, it_enm, it_enmT, it_zp_l, it_zp_t, it_rev_l, it_rev_t, me_append, me_extend, me_pop, me_reverse, me_count, ty_int_int, ty_int_bool, ty_bool_int, ty_bool_bool, ty_list_list, ty_tuple_tuple, ty_list_tuple, ty_tuple_list, ty_tuple_int, ty_tuple_bool, ty_int_tuple, ty_str_str, isNonE, toD_d, toD_fl, clo_d, clo_fl, eqB_nn, eqB_bb, eqB_bi, eqB_ib, eqB_ii, eqB_ss, eqB_ll, eqB_tt, eqB_ni, eqB_in, eqBs_00, eqBs_0c, eqBs_c0, eqBs_cc, okD, okDs, flat, small, powOk, mulOk, most, natAbs_1, natAbs_2, natAbs_10, Int.natAbs_natCast, wipe, intsOf, blsOf, pq_non, pq_bl, pq_int, pq_str, pq_tup, pq_lst, pq_scr, atI_0, atI_1, atI_2, ixN_0, ixN_1, D.closed, D.closeds, sat_ok, sat_bind, sat_guard, sat_err, Res.bind_ok, Res.bind_err, List.map_cons, List.map_nil, List.length_cons, List.length_nil, List.cons_append, List.nil_append, List.getElem?_cons_zero, List.getElem?_cons_succ, List.set_cons_zero, List.set_cons_succ, List.replicate, List.foldl_cons, List.foldl_nil, List.zip_cons_cons, List.zip_nil_left, List.zip_nil_right, Nat.reduceAdd, Nat.reduceSub, Nat.reduceLeDiff, Nat.reduceLT, Int.reduceLT, Int.reduceLE, Int.reduceNeg, Int.reducePow, Int.reduceToNat, Int.reduceAdd, Int.reduceMul, Int.reduceSub, Nat.reducePow, Nat.zero_add, Nat.add_zero, decide_true, decide_false, decide_eq_true_eq, beq_iff_eq, Bool.true_eq_false, reduceCtorEq, if_true, if_false, Bool.false_eq_true, true_and, and_true, Bool.true_and, Bool.and_true, Bool.false_and, Bool.and_false, Bool.not_true, Bool.not_false, Bool.or_true, Bool.true_or, Bool.or_false, Bool.false_or, Bool.and_eq_true, Bool.or_eq_true, Bool.not_eq_true', beq_self_eq_true, Option.map_some, Option.toList, if_true, if_false, hmod, hk0]
      refine sat_loop (fun env T => T = T4 ∧ ∃ i, env = [some (.scr ns), some (.int j), some (.obj S.length), some (.int n), some (.int k), some (.tup (t.map oD)), some (wrD n k t), some (.int q), some (.int c), some (.int x), i]) ⟨rfl, _, rfl⟩ (fun d env T' hd hI => ?_) (fun env T' hI => ?_)
      · obtain ⟨rfl, _, rfl⟩ := hI
        have hrow : ∃ r : Nat, d = .int r := by
          simp only [List.mem_cons, List.not_mem_nil, or_false] at hd
          rcases hd with rfl | rfl | rfl
          · exact ⟨_, rfl⟩
          · exact ⟨_, rfl⟩
          · exact ⟨_, rfl⟩
        obtain ⟨r, rfl⟩ := hrow
        simp -implicitDefEqProofs only [sat_exs, sat_exs_nil, sat_if, sat_asg, sat_asgT, sat_setix, sat_ex, sat_ret, sat_retN, sat_pass, sat_brk, sat_cnt, sat_raise, sat_evB, sat_ite, sat_for, rest_nx, rest_ret, sat_var, sat_non, sat_bl, sat_int, sat_str, sat_bin, sat_neg, sat_cmp, sat_chain, sat_isN, sat_notN, sat_and, sat_or, sat_not, sat_ifE, sat_tup, sat_lst, sat_ix, sat_slN, sat_slLv, sat_slHv, sat_slLb, sat_slHb, sat_slLi, sat_slHi, sat_slLc, sat_slHc, sat_cal, sat_bi, sat_isi, sat_isis, sat_trng, sat_lsn, sat_lidx, it_rr1, it_rr2, bi_sortP, bi_repr, sat_dnew, sat_din, sat_dget, sat_dgetD, sat_dlen, sat_dlist, sat_dput, sat_fld, sat_meth, sat_make, sat_setfld, sat_me, sat_lc, sat_lcIf, sat_lcF, sat_lcFi, sat_lrng, sat_isB, sat_rev1, rv1_l, rv1_t, List.reverse_cons, List.reverse_nil, sat_orv, orvK_int, orvK_non, intO_int, ex_bl, ex_lst, sat_box, sat_unbox, sat_esN, sat_esC, ex_d, ex_int, ex_fl, ex_obj, ex_cell, ex_oi, kept_non, kept_int, kept_tup, kept_lst, kept_str, kept_scr, kept_self, ex_setx, ex_j, shl1, Int.toNat_natCast, Int.natCast_nonneg, start, bin_ii, bin_ll, bin_tt, bin_ss, bin_li, bin_ti, rg_1, rg_2, int_add, int_sub, int_mul, int_fdiv, int_mod, int_pow, int_shl, int_shr, int_band, int_bor, int_bxor, cmp_eq, cmp_ne, cmp_in, cmp_nin, cmp_lt, cmp_le, cmp_gt, cmp_ge, eq_op, in_lst, in_tup, ix_lst, ix_tup, ix_scr, ix_str, sl_lst, sl_tup, sl_str, end_t, end_i, bi_len_l, bi_len_t, bi_len_c, bi_len_s, bi_abs, bi_sum, bi_maxl, bi_minl, bi_max2, bi_min2, bi_any, bi_all, bi_int_i, bi_int_b, bi_list_l, bi_list_t, bi_tuple_l, bi_tuple_t, bi_sorted, bi_sset, ty_non, ty_bl, ty_int, ty_str, ty_lst, ty_tup, ty_scr, toB_bl, set_n, set_t, set_tl, it_seq_l, it_seq_t, it_seq_s, it_rng1, it_rng2, it_enm, it_enmT, it_zp_l, it_zp_t, it_rev_l, it_rev_t, me_append, me_extend, me_pop, me_reverse, me_count, ty_int_int, ty_int_bool, ty_bool_int, ty_bool_bool, ty_list_list, ty_tuple_tuple, ty_list_tuple, ty_tuple_list, ty_tuple_int, ty_tuple_bool, ty_int_tuple, ty_str_str, isNonE, toD_d, toD_fl, clo_d, clo_fl, eqB_nn, eqB_bb, eqB_bi, eqB_ib, eqB_ii, eqB_ss, eqB_ll, eqB_tt, eqB_ni, eqB_in, eqBs_00, eqBs_0c, eqBs_c0, eqBs_cc, okD, okDs, flat, small, powOk, mulOk, most, natAbs_1, natAbs_2, natAbs_10, Int.natAbs_natCast, wipe, intsOf, blsOf, pq_non, pq_bl, pq_int, pq_str, pq_tup, pq_lst, pq_scr, atI_0, atI_1, atI_2, ixN_0, ixN_1, D.closed, D.closeds, sat_ok, sat_bind, sat_guard, sat_err, Res.bind_ok, Res.bind_err, List.map_cons, List.map_nil, List.length_cons, List.length_nil, List.cons_append, List.nil_append, List.getElem?_cons_zero, List.getElem?_cons_succ, List.set_cons_zero, List.set_cons_succ, List.replicate, List.foldl_cons, List.foldl_nil, List.zip_cons_cons, List.zip_nil_left, List.zip_nil_right, Nat.reduceAdd, Nat.reduceSub, Nat.reduceLeDiff, Nat.reduceLT, Int.reduceLT, Int.reduceLE, Int.reduceNeg, Int.reducePow, Int.reduceToNat, Int.reduceAdd, Int.reduceMul, Int.reduceSub, Nat.reducePow, Nat.zero_add, Nat.add_zero, decide_true, decide_false, decide_eq_true_eq, beq_iff_eq, Bool.true_eq_false, reduceCtorEq, if_true, if_false, Bool.false_eq_true, true_and, and_true, Bool.true_and, Bool.and_true, Bool.false_and, Bool.and_false, Bool.not_true, Bool.not_false, Bool.or_true, Bool.true_or, Bool.or_false, Bool.false_or, Bool.and_eq_true, Bool.or_eq_true, Bool.not_eq_true', beq_self_eq_true, Option.map_some, Option.toList, if_true, if_false, hR c r T' hc]
        exact ⟨_, rfl⟩
      · obtain ⟨rfl, _, rfl⟩ := hI
        simp -implicitDefEqProofs only [sat_exs, sat_exs_nil, sat_if, sat_asg, sat_asgT, sat_setix, sat_ex, sat_ret, sat_retN, sat_pass, sat_brk, sat_cnt, sat_raise, sat_evB, sat_ite, sat_for, rest_nx, rest_ret, sat_var, sat_non, sat_bl, sat_int, sat_str, sat_bin, sat_neg, sat_cmp, sat_chain, sat_isN, sat_notN, sat_and, sat_or, sat_not, sat_ifE, sat_tup, sat_lst, sat_ix, sat_slN, sat_slLv, sat_slHv, sat_slLb, sat_slHb, sat_slLi, sat_slHi, sat_slLc, sat_slHc, sat_cal, sat_bi, sat_isi, sat_isis, sat_trng, sat_lsn, sat_lidx, it_rr1, it_rr2, bi_sortP, bi_repr, sat_dnew, sat_din, sat_dget, sat_dgetD, sat_dlen, sat_dlist, sat_dput, sat_fld, sat_meth, sat_make, sat_setfld, sat_me, sat_lc, sat_lcIf, sat_lcF, sat_lcFi, sat_lrng, sat_isB, sat_rev1, rv1_l, rv1_t, List.reverse_cons, List.reverse_nil, sat_orv, orvK_int, orvK_non, intO_int, ex_bl, ex_lst, sat_box, sat_unbox, sat_esN, sat_esC, ex_d, ex_int, ex_fl, ex_obj, ex_cell, ex_oi, kept_non, kept_int, kept_tup, kept_lst, kept_str, kept_scr, kept_self, ex_setx, ex_j, shl1, Int.toNat_natCast, Int.natCast_nonneg, start, bin_ii, bin_ll, bin_tt, bin_ss, bin_li, bin_ti, rg_1, rg_2, int_add, int_sub, int_mul, int_fdiv, int_mod, int_pow, int_shl, int_shr, int_band, int_bor, int_bxor, cmp_eq, cmp_ne, cmp_in, cmp_nin, cmp_lt, cmp_le, cmp_gt, cmp_ge, eq_op, in_lst, in_tup, ix_lst, ix_tup, ix_scr, ix_str, sl_lst, sl_tup, sl_str, end_t, end_i, bi_len_l, bi_len_t, bi_len_c, bi_len_s, bi_abs, bi_sum, bi_maxl, bi_minl, bi_max2, bi_min2, bi_any, bi_all, bi_int_i, bi_int_b, bi_list_l, bi_list_t, bi_tuple_l, bi_tuple_t, bi_sorted, bi_sset, ty_non, ty_bl, ty_int, ty_str, ty_lst, ty_tup, ty_scr, toB_bl, set_n, set_t, set_tl, it_seq_l, it_seq_t, it_seq_s, it_rng1, it_rng2, it_enm, it_enmT, it_zp_l, it_zp_t, it_rev_l, it_rev_t, me_append, me_extend, me_pop, me_reverse, me_count, ty_int_int, ty_int_bool, ty_bool_int, ty_bool_bool, ty_list_list, ty_tuple_tuple, ty_list_tuple, ty_tuple_list, ty_tuple_int, ty_tuple_bool, ty_int_tuple, ty_str_str, isNonE, toD_d, toD_fl, clo_d, clo_fl, eqB_nn, eqB_bb, eqB_bi, eqB_ib, eqB_ii, eqB_ss, eqB_ll, eqB_tt, eqB_ni, eqB_in, eqBs_00, eqBs_0c, eqBs_c0, eqBs_cc, okD, okDs, flat, small, powOk, mulOk, most, natAbs_1, natAbs_2, natAbs_10, Int.natAbs_natCast, wipe, intsOf, blsOf, pq_non, pq_bl, pq_int, pq_str, pq_tup, pq_lst, pq_scr, atI_0, atI_1, atI_2, ixN_0, ixN_1, D.closed, D.closeds, sat_ok, sat_bind, sat_guard, sat_err, Res.bind_ok, Res.bind_err, List.map_cons, List.map_nil, List.length_cons, List.length_nil, List.cons_append, List.nil_append, List.getElem?_cons_zero, List.getElem?_cons_succ, List.set_cons_zero, List.set_cons_succ, List.replicate, List.foldl_cons, List.foldl_nil, List.zip_cons_cons, List.zip_nil_left, List.zip_nil_right, Nat.reduceAdd, Nat.reduceSub, Nat.reduceLeDiff, Nat.reduceLT, Int.reduceLT, Int.reduceLE, Int.reduceNeg, Int.reducePow, Int.reduceToNat, Int.reduceAdd, Int.reduceMul, Int.reduceSub, Nat.reducePow, Nat.zero_add, Nat.add_zero, decide_true, decide_false, decide_eq_true_eq, beq_iff_eq, Bool.true_eq_false, reduceCtorEq, if_true, if_false, Bool.false_eq_true, true_and, and_true, Bool.true_and, Bool.and_true, Bool.false_and, Bool.and_false, Bool.not_true, Bool.not_false, Bool.or_true, Bool.true_or, Bool.or_false, Bool.false_or, Bool.and_eq_true, Bool.or_eq_true, Bool.not_eq_true', beq_self_eq_true, Option.map_some, Option.toList, if_true, if_false]
        exact ⟨f4.dr, _, _, _, _, rfl⟩
    · obtain ⟨dT, _, _, _, _, rfl⟩ := hI
      have hone : (((2 ^ n : Nat) : Int) - 1) = ((2 ^ n - 1 : Nat) : Int) := by omega
      have h0 := hR (2 ^ n - 1) 0 T (by omega)
      rw [show (((0 : Nat)) : Int) = 0 from rfl] at h0
      simp -implicitDefEqProofs only [sat_exs, sat_exs_nil, sat_if, sat_asg, sat_asgT, sat_setix, sat_ex, sat_ret, sat_retN, sat_pass, sat_brk, sat_cnt, sat_raise, sat_evB, sat_ite, sat_for, rest_nx, rest_ret, sat_var, sat_non, sat_bl, sat_int, sat_str, sat_bin, sat_neg, sat_cmp, sat_chain, sat_isN, sat_notN, sat_and, sat_or, sat_not, sat_ifE, sat_tup, sat_lst, sat_ix, sat_slN, sat_slLv, sat_slHv, sat_slLb, sat_slHb, sat_slLi, sat_slHi, sat_slLc, sat_slHc, sat_cal, sat_bi, sat_isi, sat_isis, sat_trng, sat_lsn, sat_lidx, it_rr1, it_rr2, bi_sortP, bi_repr, sat_dnew, sat_din, sat_dget, sat_dgetD, sat_dlen, sat_dlist, sat_dput, sat_fld, sat_meth, sat_make, sat_setfld, sat_me, sat_lc, sat_lcIf, sat_lcF, sat_lcFi, sat_lrng, sat_isB, sat_rev1, rv1_l, rv1_t, List.reverse_cons, List.reverse_nil, sat_orv, orvK_int, orvK_non, intO_int, ex_bl, ex_lst, sat_box, sat_unbox, sat_esN, sat_esC, ex_d, ex_int, ex_fl, ex_obj, ex_cell, ex_oi, kept_non, kept_int, kept_tup, kept_lst, kept_str, kept_scr, kept_self, ex_setx, ex_j, shl1, Int.toNat_natCast, Int.natCast_nonneg, start, bin_ii, bin_ll, bin_tt, bin_ss, bin_li, bin_ti, rg_1, rg_2, int_add, int_sub, int_mul, int_fdiv, int_mod, int_pow, int_shl, int_shr, int_band, int_bor, int_bxor, cmp_eq, cmp_ne, cmp_in, cmp_nin, cmp_lt, cmp_le, cmp_gt, cmp_ge, eq_op, in_lst, in_tup, ix_lst, ix_tup, ix_scr, ix_str, sl_lst, sl_tup, sl_str, end_t, end_i, bi_len_l, bi_len_t, bi_len_c, bi_len_s, bi_abs, bi_sum, bi_maxl, bi_minl, bi_max2, bi_min2, bi_any, bi_all, bi_int_i, bi_int_b, bi_list_l, bi_list_t, bi_tuple_l, bi_tuple_t, bi_sorted, bi_sset, ty_non, ty_bl, ty_int, ty_str, ty_lst, ty_tup, ty_scr, toB_bl, set_n, set_t, set_tl, it_seq_l, it_seq_t, it_seq_s, it_rng1, it_rng2, it_enm, it_enmT, it_zp_l, it_zp_t, it_rev_l, it_rev_t, me_append, me_extend, me_pop, me_reverse, me_count, ty_int_int, ty_int_bool, ty_bool_int, ty_bool_bool, ty_list_list, ty_tuple_tuple, ty_list_tuple, ty_tuple_list, ty_tuple_int, ty_tuple_bool, ty_int_tuple, ty_str_str, isNonE, toD_d, toD_fl, clo_d, clo_fl, eqB_nn, eqB_bb, eqB_bi, eqB_ib, eqB_ii, eqB_ss, eqB_ll, eqB_tt, eqB_ni, eqB_in, eqBs_00, eqBs_0c, eqBs_c0, eqBs_cc, okD, okDs, flat, small, powOk, mulOk, most, natAbs_1, natAbs_2, natAbs_10, Int.natAbs_natCast, wipe, intsOf, blsOf, pq_non, pq_bl, pq_int, pq_str, pq_tup, pq_lst, pq_scr, atI_0, atI_1, atI_2, ixN_0, ixN_1, D.closed, D.closeds, sat_ok, sat_bind, sat_guard, sat_err, Res.bind_ok, Res.bind_err, List.map_cons, List.map_nil, List.length_cons, List.length_nil, List.cons_append, List.nil_append, List.getElem?_cons_zero, List.getElem?_cons_succ, List.set_cons_zero, List.set_cons_succ, List.replicate, List.foldl_cons, List.foldl_nil, List.zip_cons_cons, List.zip_nil_left, List.zip_nil_right, Nat.reduceAdd, Nat.reduceSub, Nat.reduceLeDiff, Nat.reduceLT, Int.reduceLT, Int.reduceLE, Int.reduceNeg, Int.reducePow, Int.reduceToNat, Int.reduceAdd, Int.reduceMul, Int.reduceSub, Nat.reducePow, Nat.zero_add, Nat.add_zero, decide_true, decide_false, decide_eq_true_eq, beq_iff_eq, Bool.true_eq_false, reduceCtorEq, if_true, if_false, Bool.false_eq_true, true_and, and_true, Bool.true_and, Bool.and_true, Bool.false_and, Bool.and_false, Bool.not_true, Bool.not_false, Bool.or_true, Bool.true_or, Bool.or_false, Bool.false_or, Bool.and_eq_true, Bool.or_eq_true, Bool.not_eq_true', beq_self_eq_true, Option.map_some, Option.toList, if_true, if_false, List.length_map, htl, hone, h0]
      exact ⟨_, _, _, _, _, _, _, _, _, _, rfl⟩
  · obtain ⟨_, _, _, _, _, _, _, _, _, _, rfl⟩ := hI
    simp -implicitDefEqProofs only [sat_exs, sat_exs_nil, sat_if, sat_asg, sat_asgT, sat_setix, sat_ex, sat_ret, sat_retN, sat_pass, sat_brk, sat_cnt, sat_raise, sat_evB, sat_ite, sat_for, rest_nx, rest_ret, sat_var, sat_non, sat_bl, sat_int, sat_str, sat_bin, sat_neg, sat_cmp, sat_chain, sat_isN, sat_notN, sat_and, sat_or, sat_not, sat_ifE, sat_tup, sat_lst, sat_ix, sat_slN, sat_slLv, sat_slHv, sat_slLb, sat_slHb, sat_slLi, sat_slHi, sat_slLc, sat_slHc, sat_cal, sat_bi, sat_isi, sat_isis, sat_trng, sat_lsn, sat_lidx, it_rr1, it_rr2, bi_sortP, bi_repr, sat_dnew, sat_din, sat_dget, sat_dgetD, sat_dlen, sat_dlist, sat_dput, sat_fld, sat_meth, sat_make, sat_setfld, sat_me, sat_lc, sat_lcIf, sat_lcF, sat_lcFi, sat_lrng, sat_isB, sat_rev1, rv1_l, rv1_t, List.reverse_cons, List.reverse_nil, sat_orv, orvK_int, orvK_non, intO_int, ex_bl, ex_lst, sat_box, sat_unbox, sat_esN, sat_esC, ex_d, ex_int, ex_fl, ex_obj, ex_cell, ex_oi, kept_non, kept_int, kept_tup, kept_lst, kept_str, kept_scr, kept_self, ex_setx, ex_j, shl1, Int.toNat_natCast, Int.natCast_nonneg, start, bin_ii, bin_ll, bin_tt, bin_ss, bin_li, bin_ti, rg_1, rg_2, int_add, int_sub, int_mul, int_fdiv, int_mod, int_pow, int_shl, int_shr, int_band, int_bor, int_bxor, cmp_eq, cmp_ne, cmp_in, cmp_nin, cmp_lt, cmp_le, cmp_gt, cmp_ge, eq_op, in_lst, in_tup, ix_lst, ix_tup, ix_scr, ix_str, sl_lst, sl_tup, sl_str, end_t, end_i, bi_len_l, bi_len_t, bi_len_c, bi_len_s, bi_abs, bi_sum, bi_maxl, bi_minl, bi_max2, bi_min2, bi_any, bi_all, bi_int_i, bi_int_b, bi_list_l, bi_list_t, bi_tuple_l, bi_tuple_t, bi_sorted, bi_sset, ty_non, ty_bl, ty_int, ty_str, ty_lst, ty_tup, ty_scr, toB_bl, set_n, set_t, set_tl, it_seq_l, it_seq_t, it_seq_s, it_rng1, it_rng2, it_enm, it_enmT, it_zp_l, it_zp_t, it_rev_l, it_rev_t, me_append, me_extend, me_pop, me_reverse, me_count, ty_int_int, ty_int_bool, ty_bool_int, ty_bool_bool, ty_list_list, ty_tuple_tuple, ty_list_tuple, ty_tuple_list, ty_tuple_int, ty_tuple_bool, ty_int_tuple, ty_str_str, isNonE, toD_d, toD_fl, clo_d, clo_fl, eqB_nn, eqB_bb, eqB_bi, eqB_ib, eqB_ii, eqB_ss, eqB_ll, eqB_tt, eqB_ni, eqB_in, eqBs_00, eqBs_0c, eqBs_c0, eqBs_cc, okD, okDs, flat, small, powOk, mulOk, most, natAbs_1, natAbs_2, natAbs_10, Int.natAbs_natCast, wipe, intsOf, blsOf, pq_non, pq_bl, pq_int, pq_str, pq_tup, pq_lst, pq_scr, atI_0, atI_1, atI_2, ixN_0, ixN_1, D.closed, D.closeds, sat_ok, sat_bind, sat_guard, sat_err, Res.bind_ok, Res.bind_err, List.map_cons, List.map_nil, List.length_cons, List.length_nil, List.cons_append, List.nil_append, List.getElem?_cons_zero, List.getElem?_cons_succ, List.set_cons_zero, List.set_cons_succ, List.replicate, List.foldl_cons, List.foldl_nil, List.zip_cons_cons, List.zip_nil_left, List.zip_nil_right, Nat.reduceAdd, Nat.reduceSub, Nat.reduceLeDiff, Nat.reduceLT, Int.reduceLT, Int.reduceLE, Int.reduceNeg, Int.reducePow, Int.reduceToNat, Int.reduceAdd, Int.reduceMul, Int.reduceSub, Nat.reducePow, Nat.zero_add, Nat.add_zero, decide_true, decide_false, decide_eq_true_eq, beq_iff_eq, Bool.true_eq_false, reduceCtorEq, if_true, if_false, Bool.false_eq_true, true_and, and_true, Bool.true_and, Bool.and_true, Bool.false_and, Bool.and_false, Bool.not_true, Bool.not_false, Bool.or_true, Bool.true_or, Bool.or_false, Bool.false_or, Bool.and_eq_true, Bool.or_eq_true, Bool.not_eq_true', beq_self_eq_true, Option.map_some, Option.toList, if_true, if_false]
end
end Nl

namespace Kx
open PySem PySem.Spec PyProof.Rows L2 Nl
abbrev P0 : Program := PySem.Challenge.pw_notchledger_k07_nearest
def wanted : List (Str × Option Str) := [(Str.ofString "is_int", none), (Str.ofString "spots_of", none), (Str.ofString "how_many", none), (Str.ofString "holds", none), (Str.ofString "further", none), (Str.ofString "above", none), (Str.ofString "made_writing", none), (Str.ofString "ways_up", none), (Str.ofString "nearest", none), (Str.ofString "_law_stream", none), (Str.ofString "_law_take", none), (Str.ofString "_law_table", none), (Str.ofString "_law_within", none), (Str.ofString "_law_ways", none), (Str.ofString "_law_more", none), (Str.ofString "_law_right", none), (Str.ofString "law", none)]
def ds : List Df := (P0.main.body.flatMap dfsOf).filter fun d => wanted.contains d.at_
def ks : Mn := ⟨[.int "MOST_SPOTS" 8, .int "FEWEST_NUMBERS" 2, .int "MOST_NUMBERS" 100], [], [1], []⟩
def fs : List Fn := [f_is_int_f58b, f_spots_of_ec1d, f_how_many_5a9b 1, f_holds_5c7e, f_further_8139 2, f_above_a9ad 3, f_made_writing_48a6 0 0 1 2, f_ways_up_8af0 5, f_nearest_b761 7 4, f_law_stream_dd9d, f_law_take_ed9d, f_law_table_f5e2 10, f_law_within_90ef, f_law_ways_b3e3 12, f_law_more_336a, f_law_right_fc80 13 14 8, f_law_4ddf 9 10 11 6 15]
theorem chk_ok : chkFns (nmOf ds ks) fs ds = true := by decide +kernel
abbrev R : PySem.W.OpenRow := PySem.W.OpenLaw.row PySem.Challenge.rw_notchledger_k07_nearest
abbrev hk : PySem.W.Hook := hookN 5 ds ks
def ob (s : PySem.W.SharedT) : AlN := obsNG 5 ds ks (HandSHeadRun.getT s)
theorem ob_eq (s : PySem.W.SharedT) : ob s = hk.obs s.abs := obsNG_eq (HandSHeadRun.getT_eq s)
def loose : List Str := ["is_int", "spots_of", "how_many", "holds", "further", "above", "NotchError", "NoWriting", "MOST_SPOTS", "FEWEST_NUMBERS", "MOST_NUMBERS", "made_writing", "ways_up", "nearest", "_law_stream", "_law_take", "_law_table", "_law_within", "_law_ways", "_law_more", "_law_right"].map Str.ofString
theorem run (w : World) : HandSHeadRun.RunEq R (PySem.W.view R.prog [25]) hk ob 2000 loose w := by
  intro os
  kernel_rfl
theorem dl : ∃ d, ds[16]? = some d ∧ d.at_.1 = ("law" : Str) ∧ d.at_.2 = none := ⟨_, rfl, by kernel_rfl, by kernel_rfl⟩
end Kx

theorem Kx_law {ns : List Int} (hl : ns.length ≤ 63) : ∃ S, Nl.call (Nl.glOf Kx.ks) Kx.fs 20 16 [.scr ns] [] = .ok (.d (.bl true), S) :=
  ⟨_, Nl.sat_def.mp (Nl.law07_ok (m := 10) (i_is_int := 0) (i_spots_of := 1) (i_how_many := 2) (i_holds := 3) (i_further := 4) (i_above := 5) (i_made_writing := 6) (g_MOST_SPOTS := 0) (g_FEWEST_NUMBERS := 1) (g_MOST_NUMBERS := 2) (i_ways_up := 7) (i_nearest := 8) (i_stream := 9) (i_take := 10) (i_table := 11) (i_within := 12) (i_ways := 13) (i_more := 14) (i_right := 15) (il := 16) rfl rfl rfl rfl rfl rfl rfl rfl rfl rfl rfl rfl rfl rfl rfl rfl rfl rfl rfl rfl)⟩


open PySem PySem.W PySem.Calls PyProof.Rows
theorem PySem.Challenge.cw_notchledger_k07_nearest_holds : PySem.Challenge.rw_notchledger_k07_nearest.Holds := by
  w_on; o_law
  refine HandSHeadRun.head_any (r := OpenLaw.row PySem.Challenge.rw_notchledger_k07_nearest) (q := view (OpenLaw.row PySem.Challenge.rw_notchledger_k07_nearest).prog [25]) (H := Kx.hk) (ob := Kx.ob) (M := 2000) (loose := Kx.loose) (d := HandSHeadRun.topDef (OpenLaw.row PySem.Challenge.rw_notchledger_k07_nearest).prog 25) (kwd := []) Kx.ob_eq
    (by kernel_rfl) (fun s => by kernel_rfl) Kx.run (by kernel_rfl) (by kernel_rfl) (by kernel_rfl) (by rfl) (by first | assumption | decide +kernel) (by decide +kernel) ⟨rfl, rfl, rfl, rfl, rfl, by decide +kernel⟩ ?hw ?hc
  case hw => w_witness2
  case hc =>
    refine L2.walk_ofE (l := PySem.Challenge.rw_notchledger_k07_nearest) (n := 63) (k := 21) (x := "_law_script") (CX := Nl.CXe (PySem.Challenge.rw_notchledger_k07_nearest).prog) rfl (by decide) (by kernel_rfl) ⟨rfl, by decide, by decide⟩ ?F (fun H s e s1 z => Nl.cx_none H s e s1 z)
    intro w mg fa h Y G hmg0
    obtain ⟨K, KX, c⟩ := Y
    have hmg : mg ("law" : PySem.Str) = some (.ref fa) := by
      have e : (HandSHeadRun.topDef (OpenLaw.row PySem.Challenge.rw_notchledger_k07_nearest).prog 25).name = ("law" : PySem.Str) := by kernel_rfl
      rw [← e]
      exact hmg0
    obtain ⟨d, hd1, hd2, hd3⟩ := Kx.dl
    obtain ⟨fd, hb, hF⟩ := Nl.law_of (P := (PySem.Challenge.rw_notchledger_k07_nearest).prog) (w := w) (x := "_law_script") (k := 20) (i := 16) (f := Nl.f_law_4ddf 9 10 11 6 15) (ds := Kx.ds) (M := Kx.ks) (fs := Kx.fs) KX G c Kx.chk_ok rfl (by kernel_rfl) rfl hd1 hd3 (by rw [hd2]; exact hmg)
    refine ⟨K, fd, _, KX, hb, fun H a ns hl _ hS => ?_, hF⟩
    obtain ⟨S, e⟩ := Kx_law (ns := ns) hl
    exact Nl.law_sp hS e
