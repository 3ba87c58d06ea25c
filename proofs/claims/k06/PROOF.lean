import PyProof.Rows.All
import Wide.All
import OpenK.AllK
import Wide.FinOn
import HandS.ForMost
import HandS.Exc
import HandS.WordsExc
import HandS.IsInst
import HandS.Deep
import HandS.Wide
import HandS.Zip
import HandS.TupAny
import HandS.Style
import HandS.Defaults
import HandS.HeadHook2
import HandS.HeadEnd
import HandS.Head2
import HandS.Lambda
import HandS.ExcField
import HandS.Codes
import HandS.Text
import KE.IntTextLaws
import HandS.Zip0
import PyProof.Draws
import PyProof.EnumFor
import PyProof.EnumMake
import PyProof.WalksMore
import PyProof.LongRange
import HandS.SortInts
import HandS.Star
import HandS.ExcInit
import HandS.TryMany
import HandS.HotCalls
import HandS.HeadHook4
import HandS.EndOwn
import PySem.Challenge.RW_scatterwords_k06_word_texts_read
set_option Elab.async false
set_option linter.all false
namespace Mi

/-- a value; tup and lst are never written; frz: the script; ref: a cell of the store -/
inductive PV where
  | non | bl (b : Bool) | int (i : Int) | str (s : List Nat)
  | tup (xs : List PV) | lst (xs : List PV) | frz (xs : List PV) | ref (i : Nat)
  deriving Inhabited

mutual
def PV.beq : PV → PV → Bool
  | .non, .non => true
  | .bl a, .bl b => a == b
  | .int a, .int b => decide (a = b)
  | .str a, .str b => decide (a = b)
  | .tup xs, .tup ys => PV.beqs xs ys
  | .lst xs, .lst ys => PV.beqs xs ys
  | .frz xs, .frz ys => PV.beqs xs ys
  | .ref a, .ref b => decide (a = b)
  | _, _ => false
def PV.beqs : List PV → List PV → Bool
  | [], [] => true
  | x :: xs, y :: ys => PV.beq x y && PV.beqs xs ys
  | _, _ => false
end
mutual
theorem PV.beq_refl : ∀ x : PV, PV.beq x x = true
  | .non => rfl
  | .bl b => by simp [PV.beq]
  | .int i => by simp [PV.beq]
  | .str s => by simp [PV.beq]
  | .tup xs => by simp [PV.beq, PV.beqs_refl xs]
  | .lst xs => by simp [PV.beq, PV.beqs_refl xs]
  | .frz xs => by simp [PV.beq, PV.beqs_refl xs]
  | .ref i => by simp [PV.beq]
theorem PV.beqs_refl : ∀ xs : List PV, PV.beqs xs xs = true
  | [] => rfl
  | x :: xs => by simp [PV.beqs, PV.beq_refl x, PV.beqs_refl xs]
end
mutual
theorem PV.of_beq : ∀ (x y : PV), PV.beq x y = true → x = y
  | .non, y, h => by cases y <;> simp [PV.beq] at h ⊢
  | .bl a, y, h => by cases y <;> simp [PV.beq] at h ⊢; exact h
  | .int a, y, h => by cases y <;> simp [PV.beq] at h ⊢; exact h
  | .str a, y, h => by cases y <;> simp [PV.beq] at h ⊢; exact h
  | .tup xs, y, h => by
    cases y with
    | tup ys => simp only [PV.beq] at h; rw [PV.of_beqs xs ys h]
    | _ => simp [PV.beq] at h
  | .lst xs, y, h => by
    cases y with
    | lst ys => simp only [PV.beq] at h; rw [PV.of_beqs xs ys h]
    | _ => simp [PV.beq] at h
  | .frz xs, y, h => by
    cases y with
    | frz ys => simp only [PV.beq] at h; rw [PV.of_beqs xs ys h]
    | _ => simp [PV.beq] at h
  | .ref a, y, h => by cases y <;> simp [PV.beq] at h ⊢; exact h
theorem PV.of_beqs : ∀ (xs ys : List PV), PV.beqs xs ys = true → xs = ys
  | [], ys, h => by cases ys <;> simp [PV.beqs] at h ⊢
  | x :: xs, ys, h => by
    cases ys with
    | nil => simp [PV.beqs] at h
    | cons y ys =>
      simp only [PV.beqs, Bool.and_eq_true] at h
      rw [PV.of_beq x y h.1, PV.of_beqs xs ys h.2]
end

mutual
def eqP : PV → PV → Bool
  | .non, .non => true
  | .bl a, .bl b => a == b
  | .bl a, .int j => (if a then 1 else 0) == j
  | .int i, .bl b => i == (if b then 1 else 0)
  | .int i, .int j => i == j
  | .str x, .str y => x == y
  | .lst xs, .lst ys => eqPs xs ys
  | .tup xs, .tup ys => eqPs xs ys
  | _, _ => false
def eqPs : List PV → List PV → Bool
  | [], [] => true
  | x :: xs, y :: ys => eqP x y && eqPs xs ys
  | _, _ => false
end
mutual
/-- data of at most this depth -/
def okP : Nat → PV → Bool
  | _, .non => true
  | _, .bl _ => true
  | _, .int _ => true
  | _, .str s => s.all (· < 1114112)
  | d + 1, .tup xs => okPs d xs
  | d + 1, .lst xs => okPs d xs
  | _, _ => false
def okPs : Nat → List PV → Bool
  | _, [] => true
  | d, x :: xs => okP d x && okPs d xs
end

inductive Cell where
  | lst (xs : List PV)
  | tab (p : Nat) (q : List Nat)
abbrev Store := List Cell
/-- an exception: its class, its attributes -/
structure Exc where
  cls : Nat
  args : List PV
inductive R (α : Type) where
  | ok (a : α) (S : Store)
  | exc (x : Exc) (S : Store)
  | stuck
def M (α : Type) : Type := Store → R α
@[inline] def M.pure {α : Type} (a : α) : M α := fun S => .ok a S
def M.bind {α β : Type} (m : M α) (f : α → M β) : M β := fun S => match m S with
  | .ok a S1 => f a S1
  | .exc x S1 => .exc x S1
  | .stuck => .stuck
instance : Monad M where
  pure := M.pure
  bind := M.bind
def stuck {α : Type} : M α := fun _ => .stuck
def guardM {α : Type} (b : Bool) (a : α) : M α := fun S => if b then .ok a S else .stuck

abbrev Env := List (Option PV)
def getV (env : Env) (i : Nat) : M PV := match env[i]? with
  | some (some v) => M.pure v
  | _ => stuck
def lineN : Nat := 16777216

def viewL (v : PV) : M (List PV) := match v with
  | .lst xs => M.pure xs
  | .frz xs => M.pure xs
  | .ref i => fun S => match S[i]? with
    | some (.lst xs) => .ok xs S
    | _ => .stuck
  | _ => stuck
def newL (mu : Bool) (xs : List PV) : M PV := if mu then fun S => .ok (.ref S.length) (S ++ [.lst xs]) else M.pure (.lst xs)

inductive BOp where
  | add | sub | mul | fdiv | mod | pow
inductive COp where
  | lt | le | gt | ge | eq | ne | isin | notin | is | isnot
def opAdd : PV → PV → M PV
  | .int i, .int j => M.pure (.int (i + j))
  | .str x, .str y => guardM (decide (x.length + y.length ≤ lineN)) (.str (x ++ y))
  | .tup xs, .tup ys => guardM (decide (xs.length + ys.length ≤ lineN)) (.tup (xs ++ ys))
  | .lst xs, .lst ys => guardM (decide (xs.length + ys.length ≤ lineN)) (.lst (xs ++ ys))
  | _, _ => stuck
def mulOk (i j : Int) : Bool := decide (i.natAbs.log2 + j.natAbs.log2 < 1000000)
def opMul : PV → PV → M PV
  | .int i, .int j => guardM (mulOk i j) (.int (i * j))
  | .lst xs, .int k => guardM (decide (-(9223372036854775808) ≤ k ∧ k < 9223372036854775808 ∧ xs.length * k.toNat ≤ lineN)) (.lst (List.replicate k.toNat xs).flatten)
  | .str x, .int k => guardM (decide (0 ≤ k ∧ k ≤ 1000 ∧ x.length ≤ 1000)) (.str (List.replicate k.toNat x).flatten)
  | _, _ => stuck
def opB : BOp → PV → PV → M PV
  | .add, a, b => opAdd a b
  | .mul, a, b => opMul a b
  | .sub, .int i, .int j => M.pure (.int (i - j))
  | .fdiv, .int i, .int j => guardM (decide (0 < j ∧ j.natAbs.log2 < 9000)) (.int (i / j))
  | .mod, .int i, .int j => guardM (decide (0 < j)) (.int (i % j))
  | .pow, .int i, .int j => guardM (decide (0 ≤ j ∧ j ≤ 1000000 ∧ i.natAbs < 2 ^ 64)) (.int (i ^ j.toNat))
  | _, _, _ => stuck
def opIn (a b : PV) : M Bool := match b with
  | .str y => match a with
    | .str [c] => M.pure (decide (c ∈ y))
    | _ => stuck
  | .tup ys => guardM (okP 0 a && okPs 0 ys) (ys.any fun y => eqP y a)
  | _ => M.bind (viewL b) fun ys => guardM (okP 64 a && okPs 63 ys) (ys.any fun y => eqP y a)
def opEq (a b : PV) : M Bool := match a with
  | .ref i => fun S => (match S[i]? with
    | some (.lst xs) => guardM (okP 64 (.lst xs) && okP 64 b) (eqP (.lst xs) b) S
    | _ => .stuck)
  | _ => guardM (okP 64 a && okP 64 b) (eqP a b)
theorem opEq_data {a : PV} (h : okP 64 a = true) (b : PV) : opEq a b = guardM (okP 64 a && okP 64 b) (eqP a b) := by
  cases a with
  | ref i => simp [okP] at h
  | _ => rfl
def isNonP : PV → Bool
  | .non => true
  | _ => false
def opIs (a b : PV) : M Bool := match b with
  | .non => M.pure (isNonP a)
  | _ => stuck
def opC : COp → PV → PV → M Bool
  | .lt, .int i, .int j => M.pure (decide (i < j))
  | .le, .int i, .int j => M.pure (decide (i ≤ j))
  | .gt, .int i, .int j => M.pure (decide (j < i))
  | .ge, .int i, .int j => M.pure (decide (j ≤ i))
  | .eq, a, b => opEq a b
  | .ne, a, b => M.bind (opEq a b) fun c => M.pure (!c)
  | .isin, a, b => opIn a b
  | .notin, a, b => M.bind (opIn a b) fun c => M.pure (!c)
  | .is, a, b => opIs a b
  | .isnot, a, b => M.bind (opIs a b) fun c => M.pure (!c)
  | _, _, _ => stuck

def ixN (n : Nat) (i : Int) : Option Nat := if 0 ≤ i then (if i < n then some i.toNat else none) else if -(n : Int) ≤ i then some (i + n).toNat else none
def atI {α : Type} (xs : List α) (i : Int) : Option α := (ixN xs.length i).bind fun j => xs[j]?
def ofO {α : Type} : Option α → M α
  | some a => M.pure a
  | none => stuck
def opIx (a b : PV) : M PV := match b with
  | .int i => (match a with
    | .tup xs => ofO (atI xs i)
    | .str s => M.bind (ofO (atI s i)) fun c => M.pure (.str [c])
    | _ => M.bind (viewL a) fun xs => ofO (atI xs i))
  | _ => stuck
/-- a slice's end: no number, or one -/
def sIx (n d : Nat) : Option Int → Nat
  | none => d
  | some v => if v < 0 then (v + (n : Int)).toNat else min v.toNat n
def cut {α : Type} (xs : List α) (lo hi : Option Int) : List α := (xs.drop (sIx xs.length 0 lo)).take (sIx xs.length xs.length hi - sIx xs.length 0 lo)
def opSl (a : PV) (lo hi : Option Int) : M PV := match a with
  | .tup xs => M.pure (.tup (cut xs lo hi))
  | .str s => M.pure (.str (cut s lo hi))
  | _ => M.bind (viewL a) fun xs => M.pure (.lst (cut xs lo hi))
def opRev (a : PV) : M PV := match a with
  | .tup xs => M.pure (.tup xs.reverse)
  | _ => M.bind (viewL a) fun xs => M.pure (.lst xs.reverse)

inductive Ty where
  | list | tuple | bool | int | str
inductive Bi where
  | len | list | tuple | sum | max | min | all | any | int | str | sorted
def tyRef : Option Cell → Ty → Option Bool
  | some (.lst _), .list => some true
  | some (.lst _), _ => some false
  | _, _ => none
def tyIs (S : Store) : PV → Ty → Option Bool
  | .non, _ => some false
  | .bl _, .bool => some true
  | .bl _, .int => some true
  | .bl _, _ => some false
  | .int _, .int => some true
  | .int _, _ => some false
  | .str _, .str => some true
  | .str _, _ => some false
  | .tup _, .tuple => some true
  | .tup _, _ => some false
  | .lst _, .list => some true
  | .lst _, _ => some false
  | .frz _, .list => some true
  | .frz _, _ => some false
  | .ref i, t => tyRef S[i]? t
def opIsi (a : PV) (t : Ty) : M Bool := fun S => match tyIs S a t with
  | some b => .ok b S
  | none => .stuck
def intsP : List PV → Option (List Int)
  | [] => some []
  | .int i :: r => (intsP r).map (i :: ·)
  | _ => none
def bools : List PV → Option (List Bool)
  | [] => some []
  | .bl i :: r => (bools r).map (i :: ·)
  | _ => none
def texts : List PV → Option (List (List Nat))
  | [] => some []
  | .str i :: r => (texts r).map (i :: ·)
  | _ => none
/-- the digits of a number, as codes -/
def codes (s : String) : List Nat := s.toList.map Char.toNat
def maxI : List Int → Int
  | [] => 0
  | [x] => x
  | x :: r => max x (maxI r)
def minI : List Int → Int
  | [] => 0
  | [x] => x
  | x :: r => min x (minI r)
def insI (x : Int) : List Int → List Int
  | [] => [x]
  | y :: l => if x ≤ y then x :: y :: l else y :: insI x l
def isort : List Int → List Int
  | [] => []
  | x :: l => insI x (isort l)
def opLen (a : PV) : M PV := match a with
  | .str s => M.pure (.int s.length)
  | .tup xs => M.pure (.int xs.length)
  | _ => M.bind (viewL a) fun xs => M.pure (.int xs.length)
def opList (mu : Bool) (a : PV) : M PV := match a with
  | .tup xs => newL mu xs
  | .str s => newL mu (s.map fun c => .str [c])
  | _ => M.bind (viewL a) fun xs => newL mu xs
def opTuple (a : PV) : M PV := match a with
  | .tup xs => M.pure (.tup xs)
  | _ => M.bind (viewL a) fun xs => M.pure (.tup xs)
/-- the number that digits write -/
def dgV (s : List Nat) : Nat := s.foldl (fun n c => n * 10 + (c - 48)) 0
def isDg (c : Nat) : Bool := decide (48 ≤ c) && decide (c ≤ 57)
def opInt (a : PV) : M PV := match a with
  | .int i => M.pure (.int i)
  | .str s => guardM (s.all isDg && (!s.isEmpty && decide (s.length ≤ 600))) (.int (dgV s))
  | .bl b => M.pure (.int (if b then 1 else 0))
  | _ => stuck
def opStr (a : PV) : M PV := match a with
  | .int i => guardM (decide (i.natAbs.log2 < 1920)) (.str (codes (toString i)))
  | _ => stuck
def opMax2 : PV → PV → M PV
  | .int i, .int j => M.pure (.int (if j > i then j else i))
  | _, _ => stuck
def opMin2 : PV → PV → M PV
  | .int i, .int j => M.pure (.int (if j < i then j else i))
  | _, _ => stuck
def opBi : Bi → List PV → M PV
  | .len, [a] => opLen a
  | .list, [a] => opList false a
  | .tuple, [a] => opTuple a
  | .sum, [a] => M.bind (viewL a) fun xs => M.bind (ofO (intsP xs)) fun ns => M.pure (.int ns.sum)
  | .max, [.tup xs] => M.bind (ofO (intsP xs)) fun ns => guardM (!ns.isEmpty) (.int (maxI ns))
  | .max, [a] => M.bind (viewL a) fun xs => M.bind (ofO (intsP xs)) fun ns => guardM (!ns.isEmpty) (.int (maxI ns))
  | .min, [a] => M.bind (viewL a) fun xs => M.bind (ofO (intsP xs)) fun ns => guardM (!ns.isEmpty) (.int (minI ns))
  | .max, [a, b] => opMax2 a b
  | .min, [a, b] => opMin2 a b
  | .all, [a] => M.bind (viewL a) fun xs => M.bind (ofO (bools xs)) fun bs => M.pure (.bl (bs.all id))
  | .any, [a] => M.bind (viewL a) fun xs => M.bind (ofO (bools xs)) fun bs => M.pure (.bl (bs.any id))
  | .int, [a] => opInt a
  | .str, [a] => opStr a
  | .sorted, [a] => M.bind (viewL a) fun xs => M.bind (ofO (intsP xs)) fun ns => M.pure (.lst ((isort ns).map PV.int))
  | _, _ => stuck
inductive Mt where
  | append | upper | lower | join
def upC (c : Nat) : Nat := if 97 ≤ c ∧ c ≤ 122 then c - 32 else c
def loC (c : Nat) : Nat := if 65 ≤ c ∧ c ≤ 90 then c + 32 else c
def opMt : Mt → PV → List PV → M PV
  | .append, .ref i, [v] => fun S => match S[i]? with
    | some (.lst xs) => if xs.length < lineN then .ok .non (S.set i (.lst (xs ++ [v]))) else .stuck
    | _ => .stuck
  | .upper, .str s, [] => guardM (s.all (· < 128) && decide (s.length ≤ 1000)) (.str (s.map upC))
  | .join, .str s, [a] => M.bind (viewL a) fun xs => M.bind (ofO (texts xs)) fun ts => guardM (decide ((ts.map (·.length)).sum + ts.length * s.length ≤ lineN)) (.str (List.intercalate s ts))
  | .lower, .str s, [] => guardM (s.all (· < 128) && decide (s.length ≤ 1000)) (.str (s.map loC))
  | _, _, _ => stuck

/-- the receiver is of the method's type -/
def recv (m : Mt) (o : PV) : M Unit := match m, o with
  | .append, .ref i => fun S => match S[i]? with
    | some (.lst _) => .ok () S
    | _ => .stuck
  | .upper, .str _ => M.pure ()
  | .lower, .str _ => M.pure ()
  | .join, .str _ => M.pure ()
  | _, _ => stuck

inductive OpX where
  | dget (kvs : List (List Nat × List Nat))
  | refu
/-- "value" -/
def valN : List Nat := [118, 97, 108, 117, 101]
/-- what is told of a tried call: that it gave a value, or the error -/
def refM : PV → M PV
  | .tup (.str s :: r) => guardM (s.all (· < 1114112)) (if s = valN then .str valN else .tup (.str s :: r))
  | _ => stuck
/-- a written dict of texts asked: the last pair wins -/
def dgetL : List (List Nat × List Nat) → List Nat → Option (List Nat) → Option (List Nat)
  | [], _, r => r
  | kv :: l, s, r => dgetL l s (if s = kv.1 then some kv.2 else r)
def opX : OpX → PV → M PV
  | .dget kvs, .str s => M.bind (ofO (dgetL kvs s none)) fun v => guardM (decide (v.length ≤ lineN)) (.str v)
  | .refu, v => refM v
  | _, _ => stuck
/-- positional values, some of them spread out -/
def flatS : List Bool → List PV → Option (List PV)
  | [], [] => some []
  | true :: st, .tup ys :: r => (flatS st r).map (ys ++ ·)
  | true :: st, .lst ys :: r => (flatS st r).map (ys ++ ·)
  | false :: st, x :: r => (flatS st r).map (x :: ·)
  | _, _ => none

inductive Tg where
  | one (i : Nat)
  | two (i j : Nat)
  | thr (i j l : Nat)
mutual
inductive E where
  | var (i : Nat)
  | int (i : Int) | str (s : List Nat) | bl (b : Bool) | non
  | glb (g : Nat)
  | bin (op : BOp) (a b : E)
  | neg (a : E) | not (a : E) | and (a b : E) | or (a b : E)
  | cmp (op : COp) (a b : E)
  | chain (op op' : COp) (a b c : E)
  | ite (c a b : E)
  | tup (es : Es)
  | lst (mu : Bool) (es : Es)
  | idx (a b : E)
  | slc (a : E) (lo hi : Es)
  | rev (a : E)
  | call (f : Nat) (es : Es)
  | callK (f : Nat) (es : Es) (kes : Es) (perm : List Nat)
  | bi (b : Bi) (es : Es)
  | isi (a : E) (t : Ty)
  | mth (m : Mt) (o : E) (es : Es)
  | lc (mu : Bool) (elt : E) (tg : Tg) (it : I) (ifs : Es) (own : List Nat)
  | opx (o : OpX) (e : E)
  | callS (f k : Nat) (st : List Bool) (es : Es)
  | tryL (e : E)
inductive Es where
  | nil
  | cons (e : E) (es : Es)
inductive I where
  | sq (e : E)
  | rng (es : Es)
  | zip (a b : E)
  | enum (a : E)
end
inductive S where
  | skip
  | seq (s r : S)
  | asg (tg : Tg) (e : E)
  | par (i j : Nat) (a b : E)
  | par3 (i j l : Nat) (a b c : E)
  | put (o i e : E)
  | aug (i : Nat) (op : BOp) (e : E)
  | expr (e : E)
  | ret (e : E)
  | retN
  | ifS (c : E) (t e : S)
  | forS (tg : Tg) (it : I) (body : S)
  | whileS (c : E) (body : S)
  | brk
  | cont
  | pass
  | dead
  | raise (c : Nat) (es : Es)
/-- where a statement ends -/
inductive Fl where
  | nx (env : Env)
  | rt (v : PV)
  | bk (env : Env)
  | ct (env : Env)

structure Cfg where
  call : Nat → List PV → M PV
  glb : Nat → Option PV
  /-- the number of parameters -/
  wf : Nat

/-- what a loop walks: the items, and the cell from which they were read -/
structure Src where
  xs : List PV
  cell : Option Nat
def Src.ok (s : Src) (xs0 : List PV) (S : Store) : Bool := match s.cell with
  | none => true
  | some i => match S[i]? with
    | some (.lst ys) => PV.beqs ys xs0
    | _ => false
def bindT (tg : Tg) (x : PV) (env : Env) : Option Env := match tg with
  | .one i => some (env.set i (some x))
  | .two i j => match x with
    | .tup [a, b] => some ((env.set i (some a)).set j (some b))
    | _ => none
  | .thr i j l => match x with
    | .tup [a, b, c] => some (((env.set i (some a)).set j (some b)).set l (some c))
    | _ => none
def wipeE (env : Env) : List Nat → Env
  | [] => env
  | v :: vs => (wipeE env vs).set v none
def rangeL (i j : Int) : List PV := (List.range (j - i).toNat).map fun k => .int (i + (k : Nat))
/-- n ≤ m, by the first number's form (nothing is unfolded where it is not known) -/
def leN : Nat → Nat → Bool
  | 0, _ => true
  | _ + 1, 0 => false
  | n + 1, m + 1 => leN n m
theorem leN_iff : ∀ {n m : Nat}, leN n m = true ↔ n ≤ m
  | 0, m => by simp [leN]
  | n + 1, 0 => by simp [leN]
  | n + 1, m + 1 => by simp [leN, leN_iff (n := n) (m := m)]
def small62 : Int → Bool
  | .ofNat n => leN n 4611686018427387903
  | .negSucc n => leN n 4611686018427387903
def lnI : Int → Bool
  | .ofNat n => leN n 16777216
  | .negSucc _ => true
theorem small62_of {i : Int} (h1 : -(4611686018427387904) ≤ i) (h2 : i < 4611686018427387904) : small62 i = true := by
  cases i with
  | ofNat n => exact leN_iff.mpr (by have h2 : (n : Int) < 4611686018427387904 := h2; omega)
  | negSucc n => exact leN_iff.mpr (by have h1 : -(4611686018427387904) ≤ Int.negSucc n := h1; omega)
theorem of_small62 {i : Int} (h : small62 i = true) : -(4611686018427387904) ≤ i ∧ i < 4611686018427387904 := by
  cases i with
  | ofNat n =>
    have h := leN_iff.mp h
    show -(4611686018427387904) ≤ ((n : Nat) : Int) ∧ ((n : Nat) : Int) < 4611686018427387904
    omega
  | negSucc n =>
    have h := leN_iff.mp h
    omega
theorem lnI_iff {i : Int} : lnI i = true ↔ i ≤ 16777216 := by
  cases i with
  | ofNat n =>
    show leN n 16777216 = true ↔ ((n : Nat) : Int) ≤ 16777216
    rw [leN_iff]; omega
  | negSucc n =>
    show true = true ↔ _
    simp; omega
def enumL : Nat → List PV → List PV
  | _, [] => []
  | n, x :: xs => .tup [.int n, x] :: enumL (n + 1) xs
def zipL : List PV → List PV → List PV
  | x :: xs, y :: ys => .tup [x, y] :: zipL xs ys
  | _, _ => []
def srcOf (v : PV) : M Src := match v with
  | .lst xs => M.pure ⟨xs, none⟩
  | .frz xs => M.pure ⟨xs, none⟩
  | .tup xs => M.pure ⟨xs, none⟩
  | .str s => M.pure ⟨s.map fun c => .str [c], none⟩
  | .ref i => fun S => match S[i]? with
    | some (.lst xs) => .ok ⟨xs, some i⟩ S
    | _ => .stuck
  | _ => stuck
def ofBl (v : PV) : M Bool := match v with
  | .bl b => M.pure b
  | _ => stuck
def ofInt (v : PV) : M Int := match v with
  | .int i => M.pure i
  | _ => stuck
/-- an exception is not let out -/
def noX {α : Type} (m : M α) : M α := fun S => match m S with
  | .ok a S' => .ok a S'
  | _ => .stuck
/-- the turns of a comprehension -/
def lcLoop (test : Env → M Bool) (elt : Env → M PV) (tg : Tg) (env : Env) (src : Src) : List PV → List PV → M (List PV)
  | [], acc => fun S => if src.ok src.xs S then .ok acc S else .stuck
  | x :: xs, acc => fun S => if src.ok src.xs S then (match bindT tg x env with
    | none => .stuck
    | some env' => M.bind (noX (test env')) (fun b => if b then M.bind (noX (elt env')) fun y => lcLoop test elt tg env src xs (acc ++ [y]) else lcLoop test elt tg env src xs acc) S) else .stuck
/-- the turns of a for -/
def forLoop (body : Env → M Fl) (tg : Tg) (src : Src) : List PV → Env → M Fl
  | [], env => fun S => if src.ok src.xs S then .ok (.nx env) S else .stuck
  | x :: xs, env => fun S => if src.ok src.xs S then (match bindT tg x env with
    | none => .stuck
    | some env' => M.bind (body env') (fun f => match f with
      | .nx e => forLoop body tg src xs e
      | .ct e => forLoop body tg src xs e
      | .bk e => M.pure (.nx e)
      | .rt v => M.pure (.rt v)) S) else .stuck
def whileLoop (test : Env → M Bool) (body : Env → M Fl) : Nat → Env → M Fl
  | 0, _ => stuck
  | n + 1, env => M.bind (test env) fun b => if b then M.bind (body env) fun f => (match f with
      | .nx e => whileLoop test body n e
      | .ct e => whileLoop test body n e
      | .bk e => M.pure (.nx e)
      | .rt v => M.pure (.rt v)) else M.pure (.nx env)
/-- positional values and keyword values in the parameters' order -/
def pick {α : Type} (perm : List Nat) (l : List α) : List α := perm.filterMap fun i => l[i]?

def rngM (xs : List PV) : M Src := match xs with
    | [.int j] => guardM (small62 j && lnI j) ⟨rangeL 0 j, none⟩
    | [.int i, .int j] => guardM (lnI (j - i)) ⟨rangeL i j, none⟩
    | _ => stuck
def zipM (x y : PV) : M Src := match x, y with
    | .lst xs, .lst ys => M.pure ⟨zipL xs ys, none⟩
    | .tup xs, .tup ys => M.pure ⟨zipL xs ys, none⟩
    | _, _ => stuck
def enumM (x : PV) : M Src := match x with
    | .lst xs => M.pure ⟨enumL 0 xs, none⟩
    | .tup xs => M.pure ⟨enumL 0 xs, none⟩
    | _ => stuck
/-- what a tried call tells: the value, or the error's name and field -/
def excTab : List (List Nat × Option (List Nat)) := [([73, 110, 118, 97, 108, 105, 100, 84, 101, 120, 116], some [112, 111, 115, 105, 116, 105, 111, 110]), ([84, 111, 111, 76, 97, 114, 103, 101], some [108, 105, 109, 105, 116]), ([73, 110, 118, 97, 108, 105, 100, 65, 100, 100, 114, 101, 115, 115], none), ([70, 114, 101, 101, 86, 97, 114, 105, 97, 98, 108, 101, 115], some [118, 97, 114, 105, 97, 98, 108, 101, 115]), ([73, 110, 118, 97, 108, 105, 100, 86, 97, 108, 117, 101], some [110, 117, 109, 98, 101, 114]), ([73, 110, 118, 97, 108, 105, 100, 76, 101, 116, 116, 101, 114, 115], some [112, 111, 115, 105, 116, 105, 111, 110]), ([73, 110, 118, 97, 108, 105, 100, 78, 97, 109, 101], some [110, 97, 109, 101]), ([68, 117, 112, 108, 105, 99, 97, 116, 101, 78, 97, 109, 101], some [110, 97, 109, 101]), ([87, 114, 111, 110, 103, 75, 105, 110, 100], some [110, 97, 109, 101]), ([67, 105, 114, 99, 117, 108, 97, 114, 78, 97, 109, 101], some [110, 97, 109, 101]), ([78, 97, 109, 101, 73, 110, 85, 115, 101], some [110, 97, 109, 101]), ([76, 105, 109, 105, 116, 82, 101, 97, 99, 104, 101, 100], some [108, 105, 109, 105, 116]), ([73, 110, 118, 97, 108, 105, 100, 67, 111, 109, 109, 97, 110, 100], some [112, 111, 115, 105, 116, 105, 111, 110])]
def excOut (x : Exc) : Option PV := (excTab[x.cls]?).bind fun c => match c.2, x.args with
  | none, [] => some (.tup [.str c.1, .non])
  | some _, [a] => some (.tup [.str c.1, a])
  | _, _ => none
/-- the law's own name, its lambdas' name -/
def lamQ : List Nat := [108, 97, 119, 46, 60, 108, 111, 99, 97, 108, 115, 62, 46, 60, 108, 97, 109, 98, 100, 97, 62]
/-- the store's first cell is the table of code objects that g tells -/
def tabB (g : Option PV) : Option Cell → Bool
  | some (.tab p q) => (match g with
    | some (.int j) => decide (j = (p : Int) ∧ q = lamQ)
    | _ => false)
  | _ => false
/-- the reserved number of the constant that tells the table -/
def tabG : Nat := 100000
def tryM (g : Option PV) (m : M PV) : M PV := fun S => if tabB g S[0]? then (match m S with
  | .ok v S' => .ok (.tup [.str [118, 97, 108, 117, 101], v]) S'
  | .exc x S' => ofO (excOut x) S'
  | .stuck => .stuck) else .stuck
mutual
def denE (C : Cfg) : E → Env → M PV
  | .var i, env => getV env i
  | .int i, _ => M.pure (.int i)
  | .str s, _ => M.pure (.str s)
  | .bl b, _ => M.pure (.bl b)
  | .non, _ => M.pure .non
  | .glb g, _ => ofO (C.glb g)
  | .bin op a b, env => M.bind (denE C a env) fun x => M.bind (denE C b env) fun y => opB op x y
  | .neg a, env => M.bind (denE C a env) fun x => M.bind (ofInt x) fun i => M.pure (.int (-i))
  | .not a, env => M.bind (denE C a env) fun x => M.bind (ofBl x) fun c => M.pure (.bl (!c))
  | .and a b, env => M.bind (denE C a env) fun x => M.bind (ofBl x) fun c => if c then denE C b env else M.pure (.bl false)
  | .or a b, env => M.bind (denE C a env) fun x => M.bind (ofBl x) fun c => if c then M.pure (.bl true) else denE C b env
  | .cmp op a b, env => M.bind (denE C a env) fun x => M.bind (denE C b env) fun y => M.bind (opC op x y) fun c => M.pure (.bl c)
  | .chain op op' a b c, env => M.bind (denE C a env) fun x => M.bind (denE C b env) fun y => M.bind (opC op x y) fun k =>
      if k then M.bind (denE C c env) fun z => M.bind (opC op' y z) fun k' => M.pure (.bl k') else M.pure (.bl false)
  | .ite c a b, env => M.bind (denE C c env) fun x => M.bind (ofBl x) fun k => if k then denE C a env else denE C b env
  | .tup es, env => M.bind (denA C es env) fun xs => M.pure (.tup xs)
  | .lst mu es, env => M.bind (denA C es env) fun xs => newL mu xs
  | .idx a b, env => M.bind (denE C a env) fun x => M.bind (denE C b env) fun y => opIx x y
  | .slc a lo hi, env => M.bind (denE C a env) fun x => M.bind (denO C lo env) fun l => M.bind (denO C hi env) fun h => opSl x l h
  | .rev a, env => M.bind (denE C a env) fun x => opRev x
  | .call f es, env => M.bind (denA C es env) fun xs => C.call f xs
  | .callK f es kes perm, env => M.bind (denA C es env) fun xs => M.bind (denA C kes env) fun zs => C.call f (pick perm (xs ++ zs))
  | .bi b es, env => M.bind (denA C es env) fun xs => opBi b xs
  | .isi a t, env => M.bind (denE C a env) fun x => M.bind (opIsi x t) fun c => M.pure (.bl c)
  | .mth m o es, env => M.bind (denE C o env) fun x => M.bind (recv m x) fun _ => M.bind (denA C es env) fun xs => opMt m x xs
  | .lc mu elt tg it ifs own, env => M.bind (denI C it env) fun src =>
      M.bind (lcLoop (denT C ifs) (denE C elt) tg (wipeE env own) src src.xs []) fun ys => newL mu ys
  | .opx o e, env => M.bind (denE C e env) fun x => opX o x
  | .callS f k st es, env => M.bind (noX (denA C es env)) fun xs => M.bind (ofO (flatS st xs)) fun ys => if decide (k ≤ ys.length ∧ ys.length ≤ lineN) then C.call f (ys.take k ++ [.tup (ys.drop k)]) else stuck
  | .tryL e, env => tryM (C.glb tabG) (denE C e env)
def denA (C : Cfg) : Es → Env → M (List PV)
  | .nil, _ => M.pure []
  | .cons e es, env => M.bind (denE C e env) fun x => M.bind (denA C es env) fun xs => M.pure (x :: xs)
/-- a part of a slice -/
def denO (C : Cfg) : Es → Env → M (Option Int)
  | .nil, _ => M.pure none
  | .cons e _, env => M.bind (denE C e env) fun x => M.bind (ofInt x) fun i => M.pure (some i)
/-- a clause's tests -/
def denT (C : Cfg) : Es → Env → M Bool
  | .nil, _ => M.pure true
  | .cons e _, env => M.bind (denE C e env) ofBl
def denI (C : Cfg) : I → Env → M Src
  | .sq e, env => M.bind (denE C e env) srcOf
  | .rng es, env => M.bind (denA C es env) rngM
  | .zip a b, env => M.bind (denE C a env) fun x => M.bind (denE C b env) fun y => zipM x y
  | .enum a, env => M.bind (denE C a env) enumM
end
/-- x op= y of numbers and texts -/
def opAug (op : BOp) (x y : PV) : M PV := match op, x, y with
  | .add, .int i, .int j => M.pure (.int (i + j))
  | .sub, .int i, .int j => M.pure (.int (i - j))
  | .add, .str a, .str b => guardM (decide (a.length + b.length ≤ lineN)) (.str (a ++ b))
  | _, _, _ => stuck
def opPut (o i v : PV) : M Unit := match o, i with
  | .ref r, .int k => fun S => match S[r]? with
    | some (.lst xs) => (match ixN xs.length k with
      | some j => .ok () (S.set r (.lst (xs.set j v)))
      | none => .stuck)
    | _ => .stuck
  | _, _ => stuck
def denS (C : Cfg) : S → Env → M Fl
  | .skip, env => M.pure (.nx env)
  | .seq s r, env => M.bind (denS C s env) fun f => (match f with
    | .nx e => denS C r e
    | g => M.pure g)
  | .asg tg e, env => M.bind (denE C e env) fun x => M.bind (ofO (bindT tg x env)) fun env' => M.pure (.nx env')
  | .par i j a b, env => M.bind (denE C a env) fun x => M.bind (denE C b env) fun y => M.pure (.nx ((env.set i (some x)).set j (some y)))
  | .par3 i j l a b c, env => M.bind (denE C a env) fun x => M.bind (denE C b env) fun y => M.bind (denE C c env) fun z => M.pure (.nx (((env.set i (some x)).set j (some y)).set l (some z)))
  | .put o i e, env => M.bind (denE C e env) fun v => M.bind (denE C o env) fun x => M.bind (denE C i env) fun k => M.bind (opPut x k v) fun _ => M.pure (.nx env)
  | .aug i op e, env => M.bind (getV env i) fun x => M.bind (denE C e env) fun y => M.bind (opAug op x y) fun z => M.pure (.nx (env.set i (some z)))
  | .expr e, env => M.bind (denE C e env) fun _ => M.pure (.nx env)
  | .ret e, env => M.bind (denE C e env) fun x => M.pure (.rt x)
  | .retN, _ => M.pure (.rt .non)
  | .ifS c t e, env => M.bind (denE C c env) fun x => M.bind (ofBl x) fun k => if k then denS C t env else denS C e env
  | .forS tg it body, env => M.bind (denI C it env) fun src => forLoop (denS C body) tg src src.xs env
  | .whileS c body, env => whileLoop (fun env => M.bind (denE C c env) ofBl) (denS C body) C.wf env
  | .brk, env => M.pure (.bk env)
  | .cont, env => M.pure (.ct env)
  | .pass, env => M.pure (.nx env)
  | .dead, _ => stuck
  | .raise c es, env => M.bind (denA C es env) fun xs => fun S => .exc ⟨c, xs⟩ S

/-- a def: its parameters, its slots, its body -/
structure Def where
  par : Nat
  slots : Nat
  body : S
def startE (d : Def) (vs : List PV) : Env := vs.map some ++ List.replicate (d.slots - vs.length) none
/-- what a def gives, calls going n deep -/
def callN (D : Nat → Option Def) (G : Nat → Option PV) (wf : Nat) : Nat → Nat → List PV → M PV
  | 0, _, _ => stuck
  | n + 1, f, vs => match D f with
    | none => stuck
    | some d => if vs.length = d.par then M.bind (denS ⟨callN D G wf n, G, wf⟩ d.body (startE d vs)) fun fl => (match fl with
        | .rt v => M.pure v
        | .nx _ => M.pure .non
        | _ => stuck) else stuck
end Mi
set_option Elab.async false
set_option linter.all false
set_option maxRecDepth 100000
namespace Mi
open PySem PySem.Spec PyProof.Rows L2

theorem lineN_eq : lineN = sizeLine := rfl
abbrev toS (s : List Nat) : Str := ⟨s.toArray⟩
/-- a world: the cells' addresses; addresses that no value stands for -/
structure Wd where
  rho : List Addr
  hid : List Addr

/-- a list of the written part -/
def KL (K : PySem.W.Frag) (a : Addr) (xs : List V) : Prop :=
  ∃ (o : Obj) (its : Array Value) (n : Nat), K.lookup a = some o ∧ o.cls = .type "list" ∧ o.dict = none ∧ o.data = .seq its n ∧ its.size ≤ sizeLine ∧ Vals xs its.toList
def KT (K : PySem.W.Frag) (a : Addr) (xs : List V) : Prop :=
  ∃ (o : Obj) (its : Array Value) (n : Nat), K.lookup a = some o ∧ o.cls = .type "tuple" ∧ o.data = .seq its n ∧ its.size ≤ sizeLine ∧ Vals xs its.toList

/-- a list that is never written -/
def FrzO (u : HO) (vs : List V) : Prop := u = .lst vs ∨ ∃ o, u = .frz o (.lst vs)
mutual
def Rep (K : PySem.W.Frag) (ω : Wd) (H : Hp) : PV → V → Prop
  | .non, v => v = .non
  | .bl b, v => v = .bl b
  | .int i, v => v = .int i
  | .str s, v => v = .str (toS s) ∧ s.length ≤ sizeLine
  | .tup xs, v => ∃ a vs, v = .ref a ∧ ((H a = some (.tup vs) ∧ a ∉ ω.rho ∧ a ∉ ω.hid) ∨ KT K a vs) ∧ xs.length ≤ sizeLine ∧ Reps K ω H xs vs
  | .lst xs, v => ∃ a vs, v = .ref a ∧ H a = some (.lst vs) ∧ a ∉ ω.rho ∧ a ∉ ω.hid ∧ xs.length ≤ sizeLine ∧ Reps K ω H xs vs
  | .frz xs, v => ∃ a vs, v = .ref a ∧ ((∃ u, (FrzO u vs ∧ H a = some u) ∧ a ∉ ω.rho ∧ a ∉ ω.hid) ∨ KL K a vs) ∧ xs.length ≤ sizeLine ∧ Reps K ω H xs vs
  | .ref i, v => ∃ a, ω.rho[i]? = some a ∧ v = .ref a
def Reps (K : PySem.W.Frag) (ω : Wd) (H : Hp) : List PV → List V → Prop
  | [], vs => vs = []
  | x :: xs, vs => ∃ v vr, vs = v :: vr ∧ Rep K ω H x v ∧ Reps K ω H xs vr
end

/-- not a table of code objects -/
def NoT (o : HO) : Prop := ∀ ps, o ≠ .tbl ps
theorem noT_lst {vs : List V} : NoT (.lst vs) := fun _ z => by cases z
theorem noT_tup {vs : List V} : NoT (.tup vs) := fun _ z => by cases z
theorem noT_frz {o : Obj} {u : HO} : NoT (.frz o u) := fun _ z => by cases z
theorem noT_frzO {u : HO} {vs : List V} (h : FrzO u vs) : NoT u := by
  rcases h with rfl | ⟨o, rfl⟩
  · exact noT_lst
  · exact noT_frz
theorem noT_code {c : Addr} {q : Str} : NoT (LamX.CodeO c q) := fun _ => LamX.codeO_ne _
/-- the heap has grown; cells may have changed; tables that are no cells are let go -/
structure Le (ω : Wd) (H : Hp) (ω' : Wd) (H' : Hp) : Prop where
  pre : ω.rho <+: ω'.rho
  hid : ω'.hid = ω.hid
  new : ∀ a ∈ ω'.rho, a ∈ ω.rho ∨ ∀ o, H a = some o → ¬ NoT o
  keep : ∀ a o, H a = some o → a ∉ ω.rho → NoT o → H' a = some o
theorem Le.refl (ω : Wd) (H : Hp) : Le ω H ω H := ⟨List.prefix_refl _, rfl, fun _ h => .inl h, fun _ _ h _ _ => h⟩
theorem Le.out {ω ω' : Wd} {H H' : Hp} (l : Le ω H ω' H') {a : Addr} {o : HO} (h : H a = some o) (n : a ∉ ω.rho) (t : NoT o) : a ∉ ω'.rho := fun m => by
  rcases l.new a m with z | z
  · exact n z
  · exact z o h t
theorem Le.trans {ω ω1 ω2 : Wd} {H H1 H2 : Hp} (a : Le ω H ω1 H1) (b : Le ω1 H1 ω2 H2) : Le ω H ω2 H2 where
  pre := a.pre.trans b.pre
  hid := b.hid.trans a.hid
  new := fun c m => by
    rcases b.new c m with z | z
    · exact a.new c z
    · by_cases hc : c ∈ ω.rho
      · exact .inl hc
      · exact .inr fun o q t => z o (a.keep c o q hc t) t
  keep := fun c o h n t => b.keep c o (a.keep c o h n t) (a.out h n t) t

mutual
theorem Rep.mono {K : PySem.W.Frag} {ω ω' : Wd} {H H' : Hp} (l : Le ω H ω' H') : ∀ {x : PV} {v : V}, Rep K ω H x v → Rep K ω' H' x v
  | .non, v, h => by simpa only [Rep] using h
  | .bl b, v, h => by simpa only [Rep] using h
  | .int i, v, h => by simpa only [Rep] using h
  | .str s, v, h => by simpa only [Rep] using h
  | .tup xs, v, h => by
    simp only [Rep] at h ⊢
    obtain ⟨a, vs, e, hs, hl, hr⟩ := h
    refine ⟨a, vs, e, ?_, hl, Reps.mono l hr⟩
    rcases hs with ⟨h1, h2, h3⟩ | h1
    · exact .inl ⟨l.keep _ _ h1 h2 noT_tup, l.out h1 h2 noT_tup, by rw [l.hid]; exact h3⟩
    · exact .inr h1
  | .lst xs, v, h => by
    simp only [Rep] at h ⊢
    obtain ⟨a, vs, e, h1, h2, h3, hl, hr⟩ := h
    exact ⟨a, vs, e, l.keep _ _ h1 h2 noT_lst, l.out h1 h2 noT_lst, by rw [l.hid]; exact h3, hl, Reps.mono l hr⟩
  | .frz xs, v, h => by
    simp only [Rep] at h ⊢
    obtain ⟨a, vs, e, hs, hl, hr⟩ := h
    refine ⟨a, vs, e, ?_, hl, Reps.mono l hr⟩
    rcases hs with ⟨o, h1, h2, h3⟩ | h1
    · exact .inl ⟨o, ⟨h1.1, l.keep _ _ h1.2 h2 (noT_frzO h1.1)⟩, l.out h1.2 h2 (noT_frzO h1.1), by rw [l.hid]; exact h3⟩
    · exact .inr h1
  | .ref i, v, h => by
    simp only [Rep] at h ⊢
    obtain ⟨a, e, q⟩ := h
    refine ⟨a, ?_, q⟩
    obtain ⟨t, ht⟩ := l.pre
    rw [← ht]
    have hi : i < ω.rho.length := by
      rcases Nat.lt_or_ge i ω.rho.length with z | z
      · exact z
      · rw [List.getElem?_eq_none z] at e; cases e
    rw [List.getElem?_append_left hi]
    exact e
theorem Reps.mono {K : PySem.W.Frag} {ω ω' : Wd} {H H' : Hp} (l : Le ω H ω' H') : ∀ {xs : List PV} {vs : List V}, Reps K ω H xs vs → Reps K ω' H' xs vs
  | [], vs, h => by simpa only [Reps] using h
  | x :: xs, vs, h => by
    simp only [Reps] at h ⊢
    obtain ⟨v, vr, e, h1, h2⟩ := h
    exact ⟨v, vr, e, Rep.mono l h1, Reps.mono l h2⟩
end
section
variable {K : PySem.W.Frag} {ω ω' : Wd} {H H' : Hp}
theorem Reps.length : ∀ {xs : List PV} {vs : List V}, Reps K ω H xs vs → vs.length = xs.length
  | [], vs, h => by simp only [Reps] at h; subst h; rfl
  | x :: xs, vs, h => by
    simp only [Reps] at h
    obtain ⟨v, vr, e, _, h2⟩ := h
    subst e
    simp [Reps.length h2]
theorem Reps.get : ∀ {xs : List PV} {vs : List V} {i : Nat} {x : PV}, Reps K ω H xs vs → xs[i]? = some x → ∃ v, vs[i]? = some v ∧ Rep K ω H x v
  | [], vs, i, x, h, e => by simp at e
  | y :: xs, vs, 0, x, h, e => by
    simp only [Reps] at h
    obtain ⟨v, vr, rfl, h1, h2⟩ := h
    simp at e; subst e
    exact ⟨v, rfl, h1⟩
  | y :: xs, vs, i + 1, x, h, e => by
    simp only [Reps] at h
    obtain ⟨v, vr, rfl, h1, h2⟩ := h
    obtain ⟨w, e1, r⟩ := Reps.get (i := i) (x := x) h2 (by simpa using e)
    exact ⟨w, by simpa using e1, r⟩
theorem Reps.append : ∀ {xs ys : List PV} {vs ws : List V}, Reps K ω H xs vs → Reps K ω H ys ws → Reps K ω H (xs ++ ys) (vs ++ ws)
  | [], ys, vs, ws, h, g => by simp only [Reps] at h; subst h; exact g
  | x :: xs, ys, vs, ws, h, g => by
    simp only [Reps] at h
    obtain ⟨v, vr, rfl, h1, h2⟩ := h
    simp only [List.cons_append, Reps]
    exact ⟨v, _, rfl, h1, Reps.append h2 g⟩
theorem Reps.cons {x : PV} {xs : List PV} {v : V} {vs : List V} (h : Rep K ω H x v) (g : Reps K ω H xs vs) : Reps K ω H (x :: xs) (v :: vs) := by
  simp only [Reps]; exact ⟨v, vs, rfl, h, g⟩
theorem Reps.nil : Reps K ω H [] [] := by simp only [Reps]
theorem Reps.one {x : PV} {v : V} (h : Rep K ω H x v) : Reps K ω H [x] [v] := .cons h .nil
theorem Reps.drop : ∀ {xs : List PV} {vs : List V} (n : Nat), Reps K ω H xs vs → Reps K ω H (xs.drop n) (vs.drop n)
  | _, _, 0, h => h
  | [], vs, n + 1, h => by simp only [Reps] at h; subst h; simpa using Reps.nil
  | x :: xs, vs, n + 1, h => by
    simp only [Reps] at h
    obtain ⟨v, vr, rfl, _, h2⟩ := h
    simpa using Reps.drop n h2
theorem Reps.take : ∀ {xs : List PV} {vs : List V} (n : Nat), Reps K ω H xs vs → Reps K ω H (xs.take n) (vs.take n)
  | _, _, 0, h => by simpa using Reps.nil
  | [], vs, n + 1, h => by simp only [Reps] at h; subst h; simpa using Reps.nil
  | x :: xs, vs, n + 1, h => by
    simp only [Reps] at h
    obtain ⟨v, vr, rfl, h1, h2⟩ := h
    simpa using Reps.cons h1 (Reps.take n h2)
theorem Reps.reverse : ∀ {xs : List PV} {vs : List V}, Reps K ω H xs vs → Reps K ω H xs.reverse vs.reverse
  | [], vs, h => by simp only [Reps] at h; subst h; simpa using Reps.nil
  | x :: xs, vs, h => by
    simp only [Reps] at h
    obtain ⟨v, vr, rfl, h1, h2⟩ := h
    rw [List.reverse_cons, List.reverse_cons]
    exact Reps.append (Reps.reverse h2) (.one h1)
theorem Reps.set {y : PV} {w : V} (r : Rep K ω H y w) : ∀ {xs : List PV} {vs : List V} (n : Nat), Reps K ω H xs vs → Reps K ω H (xs.set n y) (vs.set n w)
  | [], vs, n, h => by simp only [Reps] at h; subst h; simpa using Reps.nil
  | x :: xs, vs, 0, h => by
    simp only [Reps] at h
    obtain ⟨v, vr, rfl, _, h2⟩ := h
    simpa using Reps.cons r h2
  | x :: xs, vs, n + 1, h => by
    simp only [Reps] at h
    obtain ⟨v, vr, rfl, h1, h2⟩ := h
    simpa using Reps.cons h1 (Reps.set r n h2)
theorem Reps.rep {xs : List PV} {vs : List V} (h : Reps K ω H xs vs) : ∀ n : Nat, Reps K ω H (List.replicate n xs).flatten (List.replicate n vs).flatten
  | 0 => by simpa using Reps.nil
  | n + 1 => by
    rw [List.replicate_succ, List.flatten_cons, List.replicate_succ, List.flatten_cons]
    exact Reps.append h (Reps.rep h n)
end

/-- a table of code objects that bear one name -/
def TabR (ω : Wd) (H : Hp) (ps : Array Value) (q : Str) : Prop := PySem.TriplesOk ps.toList ∧ ∀ (pos : Pos) (cv : Value), codeAmong pos ps.toList = some cv → ∃ c, cv = .ref c ∧ H c = some (LamX.CodeO c q) ∧ c ∉ ω.rho ∧ c ∉ ω.hid
def RelC (K : PySem.W.Frag) (ω : Wd) (H : Hp) (a : Addr) : Cell → HO → Prop
  | .lst xs, o => ∃ vs, o = .lst vs ∧ xs.length ≤ sizeLine ∧ Reps K ω H xs vs
  | .tab p q, o => p = a ∧ ∃ ps, o = .tbl ps ∧ TabR ω H ps (toS q)
structure RelSt (K : PySem.W.Frag) (ω : Wd) (S : Store) (H : Hp) : Prop where
  nd : ω.rho.Nodup
  len : ω.rho.length = S.length
  cell : ∀ (i : Nat) (c : Cell) (a : Addr), S[i]? = some c → ω.rho[i]? = some a → ∃ o, H a = some o ∧ RelC K ω H a c o
  hd : ∀ a ∈ ω.hid, a ∉ ω.rho ∧ ∃ vs, H a = some (.lst vs)
  one : ∀ i p q, S[i]? = some (.tab p q) → i = 0
structure RelEnv (K : PySem.W.Frag) (ω : Wd) (H : Hp) (env : Env) (σ : L2.St) : Prop where
  len : env.length = σ.length
  get : ∀ (i : Nat) (v : PV), env[i]? = some (some v) → ∃ x, σ[i]? = some (some x) ∧ Rep K ω H v x
section
variable {K : PySem.W.Frag} {ω ω' : Wd} {H H' : Hp} {S : Store} {env : Env} {σ : L2.St}
theorem TabR.mono (l : Le ω H ω' H') {ps : Array Value} {q : Str} (h : TabR ω H ps q) : TabR ω' H' ps q := ⟨h.1, fun pos cv hc => by
  obtain ⟨c, e, h1, h2, h3⟩ := h.2 pos cv hc
  exact ⟨c, e, l.keep _ _ h1 h2 noT_code, l.out h1 h2 noT_code, by rw [l.hid]; exact h3⟩⟩
theorem RelC.mono (l : Le ω H ω' H') {a : Addr} {c : Cell} {o : HO} (h : RelC K ω H a c o) : RelC K ω' H' a c o := by
  cases c with
  | lst xs =>
    obtain ⟨vs, e, hl, hr⟩ := h
    exact ⟨vs, e, hl, hr.mono l⟩
  | tab p q =>
    obtain ⟨e0, ps, e, h⟩ := h
    exact ⟨e0, ps, e, h.mono l⟩
theorem RelEnv.mono (h : RelEnv K ω H env σ) (l : Le ω H ω' H') : RelEnv K ω' H' env σ := ⟨h.len, fun i v e => by
  obtain ⟨x, e1, r⟩ := h.get i v e
  exact ⟨x, e1, r.mono l⟩⟩
theorem RelEnv.set {x : PV} {v : V} (h : RelEnv K ω H env σ) (r : Rep K ω H x v) (i : Nat) : RelEnv K ω H (env.set i (some x)) (σ.set i (some v)) := by
  refine ⟨by simp [h.len], fun j y e => ?_⟩
  by_cases hj : i = j
  · subst hj
    rw [List.getElem?_set] at e ⊢
    simp only [if_true] at e ⊢
    by_cases hl : i < env.length
    · rw [if_pos hl] at e
      rw [if_pos (by rw [← h.len]; exact hl)]
      cases e
      exact ⟨v, rfl, r⟩
    · rw [if_neg hl] at e; cases e
  · rw [List.getElem?_set_ne hj] at e ⊢
    exact h.get j y e
theorem RelEnv.wipe (h : RelEnv K ω H env σ) : ∀ vs : List Nat, RelEnv K ω H (wipeE env vs) (wipe σ vs)
  | [] => h
  | v :: vs => by
    have ih := RelEnv.wipe h vs
    refine ⟨by simp [wipeE, L2.wipe, ih.len], fun j y e => ?_⟩
    simp only [wipeE, L2.wipe] at e ⊢
    by_cases hj : v = j
    · subst hj
      rw [List.getElem?_set] at e
      simp only [if_true] at e
      split at e <;> cases e
    · rw [List.getElem?_set_ne hj] at e ⊢
      exact ih.get j y e
/-- a new address, not a cell -/
theorem le_new {p : Addr} {o : HO} (h : H p = none) : Le ω H ω (upd H p o) :=
  ⟨List.prefix_refl _, rfl, fun _ m => .inl m, fun a u e n _ => by rw [upd_ne (ne_of_none e h)]; exact e⟩
theorem RelSt.lift (h : RelSt K ω S H) (l : Le ω H ω H') (k : ∀ a ∈ ω.rho, H' a = H a) : RelSt K ω S H' :=
  ⟨h.nd, h.len, fun i c a e1 e2 => by
    obtain ⟨o, ho, rc⟩ := h.cell i c a e1 e2
    exact ⟨o, by rw [k a (List.mem_of_getElem? e2)]; exact ho, rc.mono l⟩, fun a m => by
    obtain ⟨n, o, ho⟩ := h.hd a m
    exact ⟨n, o, l.keep a _ ho n noT_lst⟩, h.one⟩
theorem RelSt.fresh (h : RelSt K ω S H) {p : Addr} (hp : H p = none) : p ∉ ω.rho ∧ p ∉ ω.hid := by
  refine ⟨fun m => ?_, fun m => ?_⟩
  · obtain ⟨i, hi, e⟩ := List.getElem_of_mem m
    have hS : i < S.length := by rw [← h.len]; exact hi
    obtain ⟨o, ho, _⟩ := h.cell i S[i] p (by simp [hS]) (by rw [List.getElem?_eq_getElem hi, e])
    rw [hp] at ho; cases ho
  · obtain ⟨_, o, ho⟩ := h.hd p m
    rw [hp] at ho; cases ho
theorem RelSt.at (h : RelSt K ω S H) {a : Addr} (m : a ∈ ω.rho) : ∃ o, H a = some o := by
  obtain ⟨i, hi, e⟩ := List.getElem_of_mem m
  have hS : i < S.length := by rw [← h.len]; exact hi
  obtain ⟨o, ho, _⟩ := h.cell i S[i] a (by simp [hS]) (by rw [List.getElem?_eq_getElem hi, e])
  exact ⟨o, ho⟩
theorem RelSt.new {p : Addr} {o : HO} (h : RelSt K ω S H) (hp : H p = none) : RelSt K ω S (upd H p o) :=
  h.lift (le_new hp) fun a m => by
    obtain ⟨u, hu⟩ := h.at m
    exact upd_ne (ne_of_none hu hp)
/-- a new cell -/
theorem le_cell {p : Addr} {o : HO} (h : H p = none) : Le ω H ⟨ω.rho ++ [p], ω.hid⟩ (upd H p o) :=
  ⟨List.prefix_append _ _, rfl, fun a m => (List.mem_append.mp m).imp id fun z o e => (by rw [List.mem_singleton.mp z, h] at e; cases e),
    fun a u e n _ => by rw [upd_ne (ne_of_none e h)]; exact e⟩
theorem RelSt.alloc {p : Addr} {o : HO} {c : Cell} (h : RelSt K ω S H) (hp : H p = none) (hc : RelC K ω H p c o) (hl : ∀ p q, c ≠ .tab p q := by intro _ _ z; cases z) : RelSt K ⟨ω.rho ++ [p], ω.hid⟩ (S ++ [c]) (upd H p o) := by
  have np : p ∉ ω.rho := fun m => by
    obtain ⟨u, hu⟩ := h.at m
    rw [hp] at hu; cases hu
  refine ⟨?_, by simp [h.len], fun i c' a e1 e2 => ?_, fun a m => ?_, fun i p1 q1 e => ?_⟩
  · show (ω.rho ++ [p]).Nodup
    rw [List.nodup_append]
    refine ⟨h.nd, by simp, fun x hx y hy => ?_⟩
    rw [List.mem_singleton.mp hy]
    exact fun e => np (e ▸ hx)
  · have e2' : (ω.rho ++ [p])[i]? = some a := e2
    by_cases hi : i < S.length
    · rw [List.getElem?_append_left hi] at e1
      rw [List.getElem?_append_left (by rw [h.len]; exact hi)] at e2'
      obtain ⟨u, hu, rc⟩ := h.cell i c' a e1 e2'
      exact ⟨u, by rw [upd_ne (ne_of_none hu hp)]; exact hu, rc.mono (le_cell hp)⟩
    · have hi' : i = S.length := by
        have : i < (S ++ [c]).length := by
          rcases Nat.lt_or_ge i (S ++ [c]).length with z | z
          · exact z
          · rw [List.getElem?_eq_none z] at e1; cases e1
        simp at this; omega
      subst hi'
      have e1' : c = c' := by simpa using e1
      have e2'' : p = a := by rw [← h.len] at e2'; simpa using e2'
      subst e1' e2''
      exact ⟨o, upd_same, hc.mono (le_cell hp)⟩
  · obtain ⟨n, u, hu⟩ := h.hd a m
    refine ⟨fun z => ?_, u, by rw [upd_ne (ne_of_none hu hp)]; exact hu⟩
    rcases List.mem_append.mp z with z | z
    · exact n z
    · rw [List.mem_singleton.mp z, hp] at hu; cases hu
  · rcases Nat.lt_or_ge i S.length with z | z
    · rw [List.getElem?_append_left z] at e
      exact h.one i p1 q1 e
    · rw [List.getElem?_append_right z] at e
      cases k : i - S.length with
      | zero =>
        rw [k] at e
        exact absurd (Option.some.inj e) (hl p1 q1)
      | succ k' => rw [k] at e; cases e
/-- a cell written -/
theorem le_put {a : Addr} {o : HO} (m : a ∈ ω.rho) : Le ω H ω (upd H a o) :=
  ⟨List.prefix_refl _, rfl, fun _ m => .inl m, fun b u e n _ => by
    have nb : b ≠ a := fun z => n (by rw [z]; exact m)
    rw [upd_ne nb]; exact e⟩
theorem RelSt.put {a : Addr} {o : HO} {i : Nat} {c : Cell} (h : RelSt K ω S H) (ha : ω.rho[i]? = some a) (hc : RelC K ω H a c o) (hl : ∀ p q, c ≠ .tab p q := by intro _ _ z; cases z) : RelSt K ω (S.set i c) (upd H a o) := by
  have m := List.mem_of_getElem? ha
  refine ⟨h.nd, by simp [h.len], fun j c' b e1 e2 => ?_, fun b mb => by
    obtain ⟨n, u, hu⟩ := h.hd b mb
    have nb : b ≠ a := fun z => n (by rw [z]; exact m)
    exact ⟨n, u, by rw [upd_ne nb]; exact hu⟩, fun j p1 q1 e => by
    by_cases hj : i = j
    · rw [hj, List.getElem?_set] at e
      simp only [if_true] at e
      split at e
      · exact absurd (Option.some.inj e) (hl p1 q1)
      · cases e
    · rw [List.getElem?_set_ne hj] at e
      exact h.one j p1 q1 e⟩
  by_cases hj : i = j
  · subst hj
    rw [ha] at e2; cases e2
    rw [List.getElem?_set] at e1
    simp only [if_true] at e1
    split at e1
    · cases e1
      exact ⟨o, upd_same, hc.mono (le_put m)⟩
    · cases e1
  · rw [List.getElem?_set_ne hj] at e1
    obtain ⟨u, hu, rc⟩ := h.cell j c' b e1 e2
    refine ⟨u, ?_, rc.mono (le_put m)⟩
    rw [upd_ne]
    · exact hu
    · intro z
      subst z
      obtain ⟨h1, g1⟩ := List.getElem?_eq_some_iff.mp ha
      obtain ⟨h2, g2⟩ := List.getElem?_eq_some_iff.mp e2
      exact hj ((List.getElem_inj h.nd).mp (g1.trans g2.symm))
end

/-- an exception's class, by its name -/
structure ClsOk (K : PySem.W.Frag) (C : Addr) : Prop where
  xf : L2.XfC K C
  code : PySem.W.findIn K (.ref C) "code" = some none
  sub : PySem.W.exmOne K (.ref C) (.ref (He.ga K "ScatterError")) = some true
/-- an exception's fields -/
def FldR (K : PySem.W.Frag) (ω : Wd) (H : Hp) (C : Addr) (fs : List (Str × V)) : Option (List Nat) → List PV → Prop
  | none, [] => True
  | some f, [a] => ∃ v, Rep K ω H a v ∧ fs.lookup (toS f) = some v ∧ PySem.W.findIn K (.ref C) (toS f) = some none
  | _, _ => False
/-- an exception's class and dict -/
def RelX (K : PySem.W.Frag) (ω : Wd) (H : Hp) (x : Exc) (cls : Value) (d : Option Addr) : Prop := ∃ nm fo dd fs, excTab[x.cls]? = some (nm, fo) ∧ cls = .ref (He.ga K (toS nm)) ∧ d = some dd ∧ ClsOk K (He.ga K (toS nm)) ∧
  H dd = some (.xd fs) ∧ fs.lookup ("code" : Str) = some (.str (toS nm)) ∧ nm.length ≤ 100 ∧ FldR K ω H (He.ga K (toS nm)) fs fo x.args
/-- what is wanted behind a run -/
def Post {α β : Type} (K : PySem.W.Frag) (E : XK) (Rl : Wd → Hp → α → β → Prop) (ω : Wd) (H : Hp) (r : R α) (Q : β → Hp → Prop) : Prop := match r with
  | .ok v S' => ∀ ω' H' x, Le ω H ω' H' → RelSt K ω' S' H' → Rl ω' H' v x → Q x H'
  | .exc c S' => ∀ ω' H' cls d, Le ω H ω' H' → RelSt K ω' S' H' → RelX K ω' H' c cls d → E cls d H'
  | .stuck => False
theorem Post.imp {α β : Type} {K : PySem.W.Frag} {E : XK} {Rl : Wd → Hp → α → β → Prop} {ω : Wd} {H : Hp} {r : R α} {Q Q' : β → Hp → Prop} (h : Post K E Rl ω H r Q) (f : ∀ x H', Q x H' → Q' x H') : Post K E Rl ω H r Q' := by
  cases r with
  | ok v S => exact fun ω' H' x l s r => f _ _ (h ω' H' x l s r)
  | exc c S => exact h
  | stuck => exact h
theorem Post.mono {α β : Type} {K : PySem.W.Frag} {E : XK} {Rl : Wd → Hp → α → β → Prop} {ω ω' : Wd} {H H' : Hp} {r : R α} {Q : β → Hp → Prop} (h : Post K E Rl ω H r Q) (l : Le ω H ω' H') : Post K E Rl ω' H' r Q := by
  cases r with
  | ok v S => exact fun ω2 H2 x l2 s r => h ω2 H2 x (l.trans l2) s r
  | exc c S => exact fun ω2 H2 cls d l2 s r => h ω2 H2 cls d (l.trans l2) s r
  | stuck => exact h
theorem Post.ok {α β : Type} {K : PySem.W.Frag} {E : XK} {Rl : Wd → Hp → α → β → Prop} {ω : Wd} {H : Hp} {v : α} {S : Store} {Q : β → Hp → Prop} {x : β} (h : Post K E Rl ω H (.ok v S) Q) (s : RelSt K ω S H) (r : Rl ω H v x) : Q x H :=
  h ω H x (Le.refl _ _) s r
/-- the state at a point behind another -/
def Then {α β γ δ : Type} (K : PySem.W.Frag) (E : XK) (Rl : Wd → Hp → α → β → Prop) (Rl2 : Wd → Hp → γ → δ → Prop) (ω : Wd) (H : Hp) (f : α → M γ) (Q : δ → Hp → Prop) (x : β) (H1 : Hp) : Prop :=
  ∃ ω1 S1 v, Le ω H ω1 H1 ∧ RelSt K ω1 S1 H1 ∧ Rl ω1 H1 v x ∧ Post K E Rl2 ω1 H1 (f v S1) Q
theorem Post.bind {α β γ δ : Type} {K : PySem.W.Frag} {E : XK} {Rl : Wd → Hp → α → β → Prop} {Rl2 : Wd → Hp → γ → δ → Prop} {ω : Wd} {H : Hp} {m : M α} {f : α → M γ} {S : Store} {Q : δ → Hp → Prop}
    (h : Post K E Rl2 ω H (M.bind m f S) Q) : Post K E Rl ω H (m S) (Then K E Rl Rl2 ω H f Q) := by
  unfold M.bind at h
  cases q : m S with
  | ok v S1 =>
    rw [q] at h
    exact fun ω' H' x l s r => ⟨ω', S1, v, l, s, r, h.mono l⟩
  | exc c S1 =>
    rw [q] at h
    exact h
  | stuck =>
    rw [q] at h
    exact h
/-- the reading of a denotation -/
def rd {α β : Type} (K : PySem.W.Frag) (E : XK) (Rl : Wd → Hp → α → β → Prop) (m : Env → M α) : L2.St → Hp → (β → Hp → Prop) → Prop := fun σ H Q =>
  ∃ ω S env, RelSt K ω S H ∧ RelEnv K ω H env σ ∧ Post K E Rl ω H (m env S) Q
def eqR {α : Type} (_ : Wd) (_ : Hp) (a b : α) : Prop := a = b
abbrev tE (K : PySem.W.Frag) (E : XK) (m : Env → M PV) : TE := rd K E (Rep K) m
abbrev tA (K : PySem.W.Frag) (E : XK) (m : Env → M (List PV)) : TA := rd K E (Reps K) m
abbrev tT (K : PySem.W.Frag) (E : XK) (m : Env → M Bool) : TT := rd K E eqR m
abbrev tO (K : PySem.W.Frag) (E : XK) (m : Env → M (Option Int)) : L2.St → Hp → (Option Int → Hp → Prop) → Prop := rd K E eqR m
inductive FlV where
  | nx (σ : L2.St) | rt (v : V) | bk (σ : L2.St) | ct (σ : L2.St)
def RelF (K : PySem.W.Frag) (ω : Wd) (H : Hp) : Fl → FlV → Prop
  | .nx e, .nx σ => RelEnv K ω H e σ
  | .rt v, .rt x => Rep K ω H v x
  | .bk e, .bk σ => RelEnv K ω H e σ
  | .ct e, .ct σ => RelEnv K ω H e σ
  | _, _ => False
def QF (D : Ends) : FlV → Hp → Prop
  | .nx σ, H => D.nx σ H
  | .rt v, H => D.rt v H
  | .bk σ, H => D.bk σ H
  | .ct σ, H => D.ct σ H
def tS (K : PySem.W.Frag) (E : XK) (m : Env → M Fl) : TS := fun D σ H => rd K E (RelF K) m σ H (QF D)
end Mi
set_option Elab.async false
set_option linter.all false
set_option maxRecDepth 100000
namespace Mi
open PySem PySem.Spec PyProof.Rows L2

section
variable {α β : Type} {K : PySem.W.Frag} {E : XK} {Rl : Wd → Hp → α → β → Prop} {ω : Wd} {H : Hp} {S : Store} {Q : β → Hp → Prop}
theorem Post.guard {b : Bool} {a : α} (h : Post K E Rl ω H (guardM b a S) Q) : b = true ∧ Post K E Rl ω H (.ok a S) Q := by
  unfold guardM at h
  cases b with
  | true => exact ⟨rfl, h⟩
  | false => exact False.elim h
theorem Post.no {p : Prop} (h : Post K E Rl ω H ((stuck : M α) S) Q) : p := False.elim h
theorem Post.ofO {a : Option α} (h : Post K E Rl ω H (ofO a S) Q) : ∃ x, a = some x ∧ Post K E Rl ω H (.ok x S) Q := by
  cases a with
  | none => exact False.elim h
  | some x => exact ⟨x, rfl, h⟩
end

section
variable {K : PySem.W.Frag} {E : XK} {ω : Wd} {H : Hp} {S : Store}
theorem Rep.non {v : V} (h : Rep K ω H .non v) : v = .non := by simpa only [Rep] using h
theorem Rep.bl {b : Bool} {v : V} (h : Rep K ω H (.bl b) v) : v = .bl b := by simpa only [Rep] using h
theorem Rep.int {i : Int} {v : V} (h : Rep K ω H (.int i) v) : v = .int i := by simpa only [Rep] using h
theorem Rep.str {s : List Nat} {v : V} (h : Rep K ω H (.str s) v) : v = .str (toS s) ∧ s.length ≤ sizeLine := by simpa only [Rep] using h
theorem Rep.tup {xs : List PV} {v : V} (h : Rep K ω H (.tup xs) v) : ∃ a vs, v = .ref a ∧ SqT K H a vs ∧ xs.length ≤ sizeLine ∧ Reps K ω H xs vs := by
  simp only [Rep] at h
  obtain ⟨a, vs, e, hs, hl, hr⟩ := h
  refine ⟨a, vs, e, ?_, hl, hr⟩
  rcases hs with ⟨h1, _⟩ | h1
  · exact .inl (.inl h1)
  · exact .inr h1
theorem Rep.lst {xs : List PV} {v : V} (h : Rep K ω H (.lst xs) v) : ∃ a vs, v = .ref a ∧ H a = some (.lst vs) ∧ xs.length ≤ sizeLine ∧ Reps K ω H xs vs := by
  simp only [Rep] at h
  obtain ⟨a, vs, e, h1, _, _, hl, hr⟩ := h
  exact ⟨a, vs, e, h1, hl, hr⟩
theorem Rep.frz {xs : List PV} {v : V} (h : Rep K ω H (.frz xs) v) : ∃ a vs, v = .ref a ∧ SqL K H a vs ∧ xs.length ≤ sizeLine ∧ Reps K ω H xs vs := by
  simp only [Rep] at h
  obtain ⟨a, vs, e, hs, hl, hr⟩ := h
  refine ⟨a, vs, e, ?_, hl, hr⟩
  rcases hs with ⟨o, h1, _⟩ | h1
  · rcases h1.1 with z | ⟨p, z⟩
    · exact .inl (.inl (by rw [h1.2, z]))
    · exact .inl (.inr ⟨p, by rw [h1.2, z]⟩)
  · exact .inr h1
theorem rep_non : Rep K ω H .non .non := by simp only [Rep]
theorem rep_bl {b : Bool} : Rep K ω H (.bl b) (.bl b) := by simp only [Rep]
theorem rep_int {i : Int} : Rep K ω H (.int i) (.int i) := by simp only [Rep]
theorem rep_str {s : List Nat} (h : s.length ≤ sizeLine) : Rep K ω H (.str s) (.str (toS s)) := by simp only [Rep]; exact ⟨trivial, h⟩
theorem rep_tup {xs : List PV} {vs : List V} {p : Addr} (hp : p ∉ ω.rho ∧ p ∉ ω.hid) (h : H p = some (.tup vs)) (hl : xs.length ≤ sizeLine) (r : Reps K ω H xs vs) : Rep K ω H (.tup xs) (.ref p) := by
  simp only [Rep]; exact ⟨p, vs, rfl, .inl ⟨h, hp⟩, hl, r⟩
theorem rep_lst {xs : List PV} {vs : List V} {p : Addr} (hp : p ∉ ω.rho ∧ p ∉ ω.hid) (h : H p = some (.lst vs)) (hl : xs.length ≤ sizeLine) (r : Reps K ω H xs vs) : Rep K ω H (.lst xs) (.ref p) := by
  simp only [Rep]; exact ⟨p, vs, rfl, h, hp.1, hp.2, hl, r⟩
/-- a new tuple -/
theorem Post.newT {xs : List PV} {vs : List V} {Q : VK} (h : Post K E (Rep K) ω H (.ok (.tup xs) S) Q) (s : RelSt K ω S H) (hl : xs.length ≤ sizeLine) (r : Reps K ω H xs vs) {p : Addr} (hp : H p = none) : Q (.ref p) (upd H p (.tup vs)) :=
  h ω _ _ (le_new hp) (s.new hp) (rep_tup (s.fresh hp) upd_same hl (r.mono (le_new hp)))
theorem Post.newLp {xs : List PV} {vs : List V} {Q : VK} (h : Post K E (Rep K) ω H (.ok (.lst xs) S) Q) (s : RelSt K ω S H) (hl : xs.length ≤ sizeLine) (r : Reps K ω H xs vs) {p : Addr} (hp : H p = none) : Q (.ref p) (upd H p (.lst vs)) :=
  h ω _ _ (le_new hp) (s.new hp) (rep_lst (s.fresh hp) upd_same hl (r.mono (le_new hp)))
theorem Post.newL {mu : Bool} {xs : List PV} {vs : List V} {Q : VK} (h : Post K E (Rep K) ω H (newL mu xs S) Q) (s : RelSt K ω S H) (hl : xs.length ≤ sizeLine) (r : Reps K ω H xs vs) {p : Addr} (hp : H p = none) : Q (.ref p) (upd H p (.lst vs)) := by
  cases mu with
  | false => exact Post.newLp h s hl r hp
  | true =>
    have h' : Post K E (Rep K) ω H (.ok (.ref S.length) (S ++ [.lst xs])) Q := h
    refine h' ⟨ω.rho ++ [p], ω.hid⟩ _ _ (le_cell hp) (s.alloc hp ⟨vs, rfl, hl, r⟩) ?_
    simp only [Rep]
    refine ⟨p, ?_, rfl⟩
    rw [← s.len]
    simp
/-- a list read -/
theorem viewL_ok {v : PV} {x : V} {γ δ : Type} {Rl : Wd → Hp → γ → δ → Prop} {f : List PV → M γ} {Q : δ → Hp → Prop} (s : RelSt K ω S H) (r : Rep K ω H v x) (h : Post K E Rl ω H (M.bind (viewL v) f S) Q) :
    ∃ xs a vs, x = .ref a ∧ SqL K H a vs ∧ xs.length ≤ sizeLine ∧ Reps K ω H xs vs ∧ Post K E Rl ω H (f xs S) Q := by
  cases v with
  | lst xs =>
    obtain ⟨a, vs, e, h1, hl, hr⟩ := r.lst
    exact ⟨xs, a, vs, e, .inl (.inl h1), hl, hr, h⟩
  | frz xs =>
    obtain ⟨a, vs, e, h1, hl, hr⟩ := r.frz
    exact ⟨xs, a, vs, e, h1, hl, hr, h⟩
  | ref i =>
    simp only [Rep] at r
    obtain ⟨a, ea, e⟩ := r
    unfold M.bind viewL at h
    cases q : S[i]? with
    | none => simp only [q] at h; exact False.elim h
    | some c =>
      cases c with
      | lst xs =>
        simp only [q] at h
        obtain ⟨o, ho, vs, eo, hl, hr⟩ := s.cell i _ a q ea
        subst eo
        exact ⟨xs, a, vs, e, .inl (.inl ho), hl, hr, h⟩
      | tab p0 q0 => simp only [q] at h; exact False.elim h
  | _ => exact False.elim h
end
theorem toS_append (x y : List Nat) : toS (x ++ y) = toS x ++ toS y := by
  show (⟨(x ++ y).toArray⟩ : Str) = ⟨x.toArray ++ y.toArray⟩
  simp
theorem toS_length (x : List Nat) : (toS x).length = x.length := by
  show x.toArray.size = x.length
  simp
theorem toS_inj {x y : List Nat} (h : toS x = toS y) : x = y := by
  have : x.toArray = y.toArray := by injection h
  simpa using congrArg Array.toList this

def OpS (X : Cx) (E : XK) (f : Value → Value → Sem Value) (m : PV → PV → M PV) : Prop :=
  ∃ r, OpR X f r ∧ ∀ (ω : Wd) (S : Store) (H : Hp) (v w : PV) (x y : V) (Q : VK), RelSt X.K ω S H → Rep X.K ω H v x → Rep X.K ω H w y → Post X.K E (Rep X.K) ω H (m v w S) Q → r x y H Q
section
variable {X : Cx} {E : XK}
theorem os_add : OpS X E (binaryOp .Add) (opB .add) := by
  refine ⟨_, op_add.or (op_add_str.or (op_catA.or op_cat)), fun ω S H v w x y Q s rv rw' h => ?_⟩
  cases v with
  | int i =>
    cases w with
    | int j => exact .inl ⟨i, j, rv.int, rw'.int, Post.ok h s rep_int⟩
    | _ => exact False.elim h
  | str a =>
    cases w with
    | str b =>
      obtain ⟨g, h⟩ := Post.guard h
      have g := of_decide_eq_true g
      refine .inr (.inl ⟨_, _, rv.str.1, rw'.str.1, by rw [toS_length, toS_length]; exact g, ?_⟩)
      rw [← toS_append]
      exact Post.ok h s (rep_str (by rw [List.length_append]; exact g))
    | _ => exact False.elim h
  | tup xs =>
    cases w with
    | tup ys =>
      obtain ⟨g, h⟩ := Post.guard h
      have g := of_decide_eq_true g
      obtain ⟨a, vs, e1, s1, l1, r1⟩ := rv.tup
      obtain ⟨b, ws, e2, s2, l2, r2⟩ := rw'.tup
      refine .inr (.inr (.inl ⟨a, b, vs, ws, e1, e2, s1, s2, by rw [r1.length, r2.length]; exact g, fun z => ?_, fun z z2 => ?_, fun z z2 p hp => ?_⟩))
      · subst z e2
        have : xs = [] := List.eq_nil_of_length_eq_zero (by have := r1.length; simpa using this.symm)
        subst this
        exact Post.ok h s rw'
      · subst z2 e1
        have : ys = [] := List.eq_nil_of_length_eq_zero (by have := r2.length; simpa using this.symm)
        subst this
        rw [List.append_nil] at h
        exact Post.ok h s rv
      · exact Post.newT h s (by rw [List.length_append]; exact g) (r1.append r2) hp
    | _ => exact False.elim h
  | lst xs =>
    cases w with
    | lst ys =>
      obtain ⟨g, h⟩ := Post.guard h
      have g := of_decide_eq_true g
      obtain ⟨a, vs, e1, s1, l1, r1⟩ := rv.lst
      obtain ⟨b, ws, e2, s2, l2, r2⟩ := rw'.lst
      exact .inr (.inr (.inr ⟨a, b, vs, ws, e1, e2, s1, s2, by rw [r1.length, r2.length]; exact g, fun p hp => Post.newLp h s (by rw [List.length_append]; exact g) (r1.append r2) hp⟩))
    | _ => exact False.elim h
  | _ => exact False.elim h
theorem os_sub : OpS X E (binaryOp .Sub) (opB .sub) := by
  refine ⟨_, op_sub, fun ω S H v w x y Q s rv rw' h => ?_⟩
  cases v with
  | int i =>
    cases w with
    | int j => exact ⟨i, j, rv.int, rw'.int, Post.ok h s rep_int⟩
    | _ => exact False.elim h
  | _ => exact False.elim h
theorem os_fdiv : OpS X E (binaryOp .FloorDiv) (opB .fdiv) := by
  refine ⟨_, op_fdivW, fun ω S H v w x y Q s rv rw' h => ?_⟩
  cases v with
  | int i =>
    cases w with
    | int j =>
      obtain ⟨g, h⟩ := Post.guard h
      have g' : 0 < j ∧ j.natAbs.log2 < 9000 := of_decide_eq_true g
      exact ⟨i, j, rv.int, rw'.int, g', Post.ok h s rep_int⟩
    | _ => exact False.elim h
  | _ => exact False.elim h
theorem os_mod : OpS X E (binaryOp .Mod) (opB .mod) := by
  refine ⟨_, op_mod, fun ω S H v w x y Q s rv rw' h => ?_⟩
  cases v with
  | int i =>
    cases w with
    | int j =>
      obtain ⟨g, h⟩ := Post.guard h
      exact ⟨i, j, rv.int, rw'.int, of_decide_eq_true g, Post.ok h s rep_int⟩
    | _ => exact False.elim h
  | _ => exact False.elim h
theorem os_pow : OpS X E (binaryOp .Pow) (opB .pow) := by
  refine ⟨_, op_pow, fun ω S H v w x y Q s rv rw' h => ?_⟩
  cases v with
  | int i =>
    cases w with
    | int j =>
      obtain ⟨g, h⟩ := Post.guard h
      have g' : 0 ≤ j ∧ j ≤ 1000000 ∧ i.natAbs < 2 ^ 64 := of_decide_eq_true g
      exact ⟨i, j, rv.int, rw'.int, g', Post.ok h s rep_int⟩
    | _ => exact False.elim h
  | _ => exact False.elim h
theorem fold_cat (x : List Nat) : ∀ (n : Nat) (acc : Array Nat), (List.replicate n x.toArray).foldl (· ++ ·) acc = acc ++ ((List.replicate n x).flatten).toArray
  | 0, acc => by simp
  | n + 1, acc => by
    rw [List.replicate_succ, List.foldl_cons, fold_cat x n, List.replicate_succ, List.flatten_cons]
    simp
theorem op_mul_str : OpR X (binaryOp .Mult) (fun x y H Q => ∃ (a : List Nat) (k : Int), x = .str (toS a) ∧ y = .int k ∧ 0 ≤ k ∧ k ≤ 1000 ∧ a.length ≤ 1000 ∧ Q (.str (toS (List.replicate k.toNat a).flatten)) H) := by
  intro pins s σ H x y v u Q I rx ry h
  obtain ⟨a, k, rfl, rfl, h0, h1, h2, q⟩ := h
  obtain ⟨t, rfl⟩ := rx
  obtain ⟨t', rfl⟩ := ry
  have e : Txt.mul (toS a) k = toS (List.replicate k.toNat a).flatten := by
    unfold Txt.mul
    by_cases g1 : k < 1
    · have : k = 0 := by omega
      subst this
      rw [if_pos g1]; rfl
    · rw [if_neg g1]
      by_cases g2 : (k == 1 || (toS a).length == 0) = true
      · rw [if_pos g2]
        rw [toS_length] at g2
        simp only [Bool.or_eq_true, beq_iff_eq] at g2
        rcases g2 with g2 | g2
        · subst g2; simp
        · have : a = [] := List.eq_nil_of_length_eq_zero g2
          subst this; simp
      · rw [if_neg g2]
        show (⟨_⟩ : Str) = ⟨_⟩
        rw [fold_cat]
        simp
  refine PySem.SB.mul ⟨by simp; omega, fun _ _ => ?_, fun _ _ => ?_⟩ fun t'' k' => ?_
  · rw [toS_length]
    have hk : 1 ≤ k := by omega
    have : (1000 : Int) ≤ (2 ^ 63 - 1) / k := by
      rw [Int.le_ediv_iff_mul_le (by omega)]
      omega
    omega
  · rw [toS_length]
    have hk : k.toNat ≤ 1000 := by omega
    have : a.length * k.toNat ≤ 1000 * 1000 := Nat.mul_le_mul h2 hk
    have : ¬ a.length * k.toNat > sizeLine := by rw [sizeLine_eq]; omega
    unfold Builtin.Str.tooLong
    simpa using this
  · rw [e]
    exact ⟨.str _, H, I.tok _, ⟨_, rfl⟩, q⟩
theorem os_mul : OpS X E (binaryOp .Mult) (opB .mul) := by
  refine ⟨_, op_mulW.or (op_rep.or op_mul_str), fun ω S H v w x y Q s rv rw' h => ?_⟩
  cases v with
  | int i =>
    cases w with
    | int j =>
      obtain ⟨g, h⟩ := Post.guard h
      have g' : i.natAbs.log2 + j.natAbs.log2 < 1000000 := of_decide_eq_true g
      exact .inl ⟨i, j, rv.int, rw'.int, g', Post.ok h s rep_int⟩
    | _ => exact False.elim h
  | lst xs =>
    cases w with
    | int k =>
      obtain ⟨g, h⟩ := Post.guard h
      obtain ⟨g1, g2, g3⟩ := of_decide_eq_true g
      obtain ⟨a, vs, e1, s1, l1, r1⟩ := rv.lst
      have hlen : (List.replicate k.toNat xs).flatten.length ≤ sizeLine := by
        have : (List.replicate k.toNat xs).flatten.length = k.toNat * xs.length := by simp
        rw [this, Nat.mul_comm]; exact g3
      exact .inr (.inl ⟨a, k, vs, e1, rw'.int, s1, by omega, by omega, by rw [r1.length]; exact g3, fun p hp => Post.newLp h s hlen (r1.rep _) hp⟩)
    | _ => exact False.elim h
  | str a =>
    cases w with
    | int k =>
      obtain ⟨g, h⟩ := Post.guard h
      obtain ⟨g1, g2, g3⟩ := of_decide_eq_true g
      have hlen : (List.replicate k.toNat a).flatten.length ≤ sizeLine := by
        have : (List.replicate k.toNat a).flatten.length = k.toNat * a.length := by simp
        have h2 : k.toNat * a.length ≤ 1000 * 1000 := Nat.mul_le_mul (by omega) g3
        rw [this, sizeLine_eq]; omega
      exact .inr (.inr ⟨a, k, rv.str.1, rw'.int, g1, g2, g3, Post.ok h s (rep_str hlen)⟩)
    | _ => exact False.elim h
  | _ => exact False.elim h
def opOf : BOp → Operator
  | .add => .Add | .sub => .Sub | .mul => .Mult | .fdiv => .FloorDiv | .mod => .Mod | .pow => .Pow
theorem os_bin (op : BOp) : OpS X E (binaryOp (opOf op)) (opB op) := by
  cases op with
  | add => exact os_add
  | sub => exact os_sub
  | mul => exact os_mul
  | fdiv => exact os_fdiv
  | mod => exact os_mod
  | pow => exact os_pow
end
end Mi
set_option Elab.async false
set_option linter.all false
set_option maxRecDepth 100000
namespace Mi
open PySem PySem.Spec PyProof.Rows L2

mutual
def toD : PV → PyData
  | .non => .none
  | .bl b => .bool b
  | .int i => .int i
  | .str s => .str (toS s)
  | .tup xs => .tuple (toDs xs)
  | .lst xs => .list (toDs xs)
  | .frz xs => .list (toDs xs)
  | .ref _ => .none
def toDs : List PV → List PyData
  | [] => []
  | x :: xs => toD x :: toDs xs
end
mutual
theorem dp_ok {K : PySem.W.Frag} {ω : Wd} {H : Hp} : ∀ {d : Nat} {v : PV} {x : V}, okP d v = true → Rep K ω H v x → Dp K H x (toD v)
  | d, .non, x, _, r => by rw [r.non]; exact .non
  | d, .bl b, x, _, r => by rw [r.bl]; exact .bl b
  | d, .int i, x, _, r => by rw [r.int]; exact .int i
  | d, .str s, x, _, r => by rw [r.str.1]; exact .str _
  | 0, .tup xs, x, h, r => by simp [okP] at h
  | d + 1, .tup xs, x, h, r => by
    obtain ⟨a, vs, e, hs, _, hr⟩ := r.tup
    subst e
    exact .tup hs (dps_ok (d := d) (by simpa [okP] using h) hr)
  | 0, .lst xs, x, h, r => by simp [okP] at h
  | d + 1, .lst xs, x, h, r => by
    obtain ⟨a, vs, e, hs, _, hr⟩ := r.lst
    subst e
    exact .lst (.inl (.inl hs)) (dps_ok (d := d) (by simpa [okP] using h) hr)
  | 0, .frz xs, x, h, r => by simp [okP] at h
  | d + 1, .frz xs, x, h, r => by simp [okP] at h
  | 0, .ref i, x, h, r => by simp [okP] at h
  | d + 1, .ref i, x, h, r => by simp [okP] at h
theorem dps_ok {K : PySem.W.Frag} {ω : Wd} {H : Hp} : ∀ {d : Nat} {vs : List PV} {xs : List V}, okPs d vs = true → Reps K ω H vs xs → DpAll K H xs (toDs vs)
  | d, [], xs, _, r => by simp only [Reps] at r; subst r; exact .nil
  | d, v :: vs, xs, h, r => by
    simp only [Reps] at r
    obtain ⟨x, xr, e, r1, r2⟩ := r
    subst e
    simp only [okPs, Bool.and_eq_true] at h
    exact .cons (dp_ok h.1 r1) (dps_ok h.2 r2)
end
mutual
theorem lay_ok : ∀ {d : Nat} {v : PV}, okP d v = true → (toD v).canLay0 = true ∧ (toD v).depth ≤ d
  | d, .non, _ => by simp [toD, PyData.canLay0, PyData.depth]
  | d, .bl b, _ => by simp [toD, PyData.canLay0, PyData.depth]
  | d, .int i, _ => by simp [toD, PyData.canLay0, PyData.depth]
  | d, .str s, h => by
    simp only [toD, PyData.canLay0, PyData.depth]
    refine ⟨?_, Nat.zero_le _⟩
    simp only [okP] at h
    unfold PyData.strOk
    simpa using h
  | 0, .tup xs, h => by simp [okP] at h
  | d + 1, .tup xs, h => by
    have ih := lays_ok (d := d) (vs := xs) (by simpa [okP] using h)
    simp only [toD, PyData.canLay0, PyData.depth]
    exact ⟨ih.1, by omega⟩
  | 0, .lst xs, h => by simp [okP] at h
  | d + 1, .lst xs, h => by
    have ih := lays_ok (d := d) (vs := xs) (by simpa [okP] using h)
    simp only [toD, PyData.canLay0, PyData.depth]
    exact ⟨ih.1, by omega⟩
  | 0, .frz xs, h => by simp [okP] at h
  | d + 1, .frz xs, h => by simp [okP] at h
  | 0, .ref i, h => by simp [okP] at h
  | d + 1, .ref i, h => by simp [okP] at h
theorem lays_ok : ∀ {d : Nat} {vs : List PV}, okPs d vs = true → PyData.canLayAll0 (toDs vs) = true ∧ PyData.depthAll (toDs vs) ≤ d
  | d, [], _ => by simp [toDs, PyData.canLayAll0, PyData.depthAll]
  | d, v :: vs, h => by
    simp only [okPs, Bool.and_eq_true] at h
    have h1 := lay_ok h.1
    have h2 := lays_ok h.2
    simp only [toDs, PyData.canLayAll0, PyData.depthAll, Bool.and_eq_true]
    exact ⟨⟨h1.1, h2.1⟩, by omega⟩
end
theorem shaped_ok {v : PV} (h : okP 64 v = true) : SeqAt.shaped (toD v) = true := by
  obtain ⟨h1, h2⟩ := lay_ok h
  unfold SeqAt.shaped
  rw [h1, decide_eq_true h2]; rfl
theorem beq_toS (x y : List Nat) : (toS x == toS y) = (x == y) := by
  rw [Bool.eq_iff_iff]
  simp only [beq_iff_eq]
  exact ⟨toS_inj, fun h => by rw [h]⟩
mutual
theorem eqv_ok : ∀ (d e : Nat) (v w : PV), okP d v = true → okP e w = true → PyData.eqv (toD v) (toD w) = eqP v w
  | d, e, .non, w, h1, h2 => by cases w <;> simp [toD, PyData.eqv, eqP] <;> (cases e <;> simp [okP] at h2)
  | d, e, .bl b, w, h1, h2 => by cases w <;> simp [toD, PyData.eqv, eqP]
  | d, e, .int i, w, h1, h2 => by cases w <;> simp [toD, PyData.eqv, eqP]
  | d, e, .str s, w, h1, h2 => by cases w <;> simp [toD, PyData.eqv, eqP, beq_toS]
  | 0, e, .tup xs, w, h1, h2 => by simp [okP] at h1
  | d + 1, e, .tup xs, w, h1, h2 => by
    cases w with
    | tup ys =>
      cases e with
      | zero => simp [okP] at h2
      | succ e =>
        simp only [okP] at h1 h2
        simp only [toD, PyData.eqv, eqP]
        exact eqvs_ok d e xs ys h1 h2
    | _ => simp [toD, PyData.eqv, eqP]
  | 0, e, .lst xs, w, h1, h2 => by simp [okP] at h1
  | d + 1, e, .lst xs, w, h1, h2 => by
    cases w with
    | lst ys =>
      cases e with
      | zero => simp [okP] at h2
      | succ e =>
        simp only [okP] at h1 h2
        simp only [toD, PyData.eqv, eqP]
        exact eqvs_ok d e xs ys h1 h2
    | frz ys => cases e <;> simp [okP] at h2
    | _ => simp [toD, PyData.eqv, eqP]
  | 0, e, .frz xs, w, h1, h2 => by simp [okP] at h1
  | d + 1, e, .frz xs, w, h1, h2 => by simp [okP] at h1
  | 0, e, .ref i, w, h1, h2 => by simp [okP] at h1
  | d + 1, e, .ref i, w, h1, h2 => by simp [okP] at h1
theorem eqvs_ok : ∀ (d e : Nat) (vs ws : List PV), okPs d vs = true → okPs e ws = true → PyData.eqvAll (toDs vs) (toDs ws) = eqPs vs ws
  | d, e, [], ws, _, _ => by cases ws <;> simp [toDs, PyData.eqvAll, eqPs]
  | d, e, v :: vs, ws, h1, h2 => by
    cases ws with
    | nil => simp [toDs, PyData.eqvAll, eqPs]
    | cons w ws =>
      simp only [okPs, Bool.and_eq_true] at h1 h2
      simp only [toDs, PyData.eqvAll, eqPs]
      rw [eqv_ok d e v w h1.1 h2.1, eqvs_ok d e vs ws h1.2 h2.2]
end
theorem anyD (d e : Nat) (a : PV) (ha : okP d a = true) : ∀ (ys : List PV), okPs e ys = true → (toDs ys).any (fun z => PyData.eqv z (toD a)) = ys.any fun y => eqP y a
  | [], _ => rfl
  | y :: ys, h => by
    simp only [okPs, Bool.and_eq_true] at h
    simp only [toDs, List.any_cons]
    rw [eqv_ok e d y a h.1 ha, anyD d e a ha ys h.2]
/-- flat values -/
theorem flat_ok {K : PySem.W.Frag} {ω : Wd} {H : Hp} {v : PV} {x : V} (h : okP 0 v = true) (r : Rep K ω H v x) : flatV x = true := by
  cases v with
  | non => rw [r.non]; rfl
  | bl b => rw [r.bl]; rfl
  | int i => rw [r.int]; rfl
  | str s => rw [r.str.1]; rfl
  | _ => simp [okP] at h
theorem eqV_ok {K : PySem.W.Frag} {ω : Wd} {H : Hp} {v w : PV} {x y : V} (h1 : okP 0 v = true) (h2 : okP 0 w = true) (r1 : Rep K ω H v x) (r2 : Rep K ω H w y) : eqV x y = eqP v w := by
  cases v with
  | non =>
    rw [r1.non]
    cases w with
    | non => rw [r2.non]; rfl
    | bl b => rw [r2.bl]; rfl
    | int i => rw [r2.int]; rfl
    | str s => rw [r2.str.1]; rfl
    | _ => simp [okP] at h2
  | bl b =>
    rw [r1.bl]
    cases w with
    | non => rw [r2.non]; rfl
    | bl b => rw [r2.bl]; rfl
    | int i => rw [r2.int]; rfl
    | str s => rw [r2.str.1]; rfl
    | _ => simp [okP] at h2
  | int i =>
    rw [r1.int]
    cases w with
    | non => rw [r2.non]; rfl
    | bl b => rw [r2.bl]; rfl
    | int i => rw [r2.int]; rfl
    | str s => rw [r2.str.1]; rfl
    | _ => simp [okP] at h2
  | str s =>
    rw [r1.str.1]
    cases w with
    | non => rw [r2.non]; rfl
    | bl b => rw [r2.bl]; rfl
    | int i => rw [r2.int]; rfl
    | str s => rw [r2.str.1]; simp only [eqV, eqP]; exact beq_toS _ _
    | _ => simp [okP] at h2
  | _ => simp [okP] at h1
theorem flats_ok {K : PySem.W.Frag} {ω : Wd} {H : Hp} : ∀ {ys : List PV} {vs : List V}, okPs 0 ys = true → Reps K ω H ys vs → vs.all flatV = true
  | [], vs, _, r => by simp only [Reps] at r; subst r; rfl
  | y :: ys, vs, h, r => by
    simp only [Reps] at r
    obtain ⟨v, vr, e, r1, r2⟩ := r
    subst e
    simp only [okPs, Bool.and_eq_true] at h
    simp only [List.all_cons, Bool.and_eq_true]
    exact ⟨flat_ok h.1 r1, flats_ok h.2 r2⟩
theorem inV_ok {K : PySem.W.Frag} {ω : Wd} {H : Hp} {a : PV} {x : V} (ha : okP 0 a = true) (ra : Rep K ω H a x) : ∀ {ys : List PV} {vs : List V}, okPs 0 ys = true → Reps K ω H ys vs → inV x vs = ys.any fun y => eqP y a
  | [], vs, _, r => by simp only [Reps] at r; subst r; rfl
  | y :: ys, vs, h, r => by
    simp only [Reps] at r
    obtain ⟨v, vr, e, r1, r2⟩ := r
    subst e
    simp only [okPs, Bool.and_eq_true] at h
    have ih := inV_ok ha ra h.2 r2
    unfold inV at ih ⊢
    simp only [List.any_cons]
    rw [ih, eqV_ok h.1 ha r1 ra]

section
variable {X : Cx} {E : XK}
abbrev cmpM (op : COp) (v w : PV) : M PV := M.bind (opC op v w) fun c => M.pure (.bl c)
theorem os_int {op : COp} {f : Value → Value → Sem Value} {p : Int → Int → Bool} (ho : OpR X f (rI0 fun i j => .bl (p i j)))
    (h1 : ∀ v w S, (∃ i j, v = .int i ∧ w = .int j ∧ opC op v w S = .ok (p i j) S) ∨ opC op v w S = .stuck) : OpS X E f (cmpM op) := by
  refine ⟨_, ho, fun ω S H v w x y Q s rv rw' h => ?_⟩
  unfold cmpM M.bind at h
  rcases h1 v w S with ⟨i, j, rfl, rfl, e⟩ | e
  · rw [e] at h
    exact ⟨i, j, rv.int, rw'.int, Post.ok h s rep_bl⟩
  · rw [e] at h
    exact False.elim h
theorem os_lt : OpS X E (compareOp .Lt) (cmpM .lt) := os_int op_lt fun v w S => by
  cases v <;> first | exact .inr rfl | (cases w <;> first | exact .inr rfl | exact .inl ⟨_, _, rfl, rfl, rfl⟩)
theorem os_le : OpS X E (compareOp .LtE) (cmpM .le) := os_int op_le fun v w S => by
  cases v <;> first | exact .inr rfl | (cases w <;> first | exact .inr rfl | exact .inl ⟨_, _, rfl, rfl, rfl⟩)
theorem os_gt : OpS X E (compareOp .Gt) (cmpM .gt) := os_int op_gt fun v w S => by
  cases v <;> first | exact .inr rfl | (cases w <;> first | exact .inr rfl | exact .inl ⟨_, _, rfl, rfl, rfl⟩)
theorem os_ge : OpS X E (compareOp .GtE) (cmpM .ge) := os_int op_ge fun v w S => by
  cases v <;> first | exact .inr rfl | (cases w <;> first | exact .inr rfl | exact .inl ⟨_, _, rfl, rfl, rfl⟩)
theorem M.bind_assoc {α β γ : Type} (m : M α) (f : α → M β) (g : β → M γ) : M.bind (M.bind m f) g = M.bind m fun a => M.bind (f a) g := by
  funext S
  unfold M.bind
  cases m S <;> rfl
/-- what a test over a run of opEq gives: the values as data -/
theorem opEq_ok {α β : Type} {K : PySem.W.Frag} {Rl : Wd → Hp → α → β → Prop} {ω : Wd} {H : Hp} {S : Store} {Q : β → Hp → Prop} {v w : PV} {x y : V} {f : Bool → M α} (s : RelSt K ω S H) (rv : Rep K ω H v x) (rw' : Rep K ω H w y) (h : Post K E Rl ω H (M.bind (opEq v w) f S) Q) :
    ∃ v', Dp K H x (toD v') ∧ okP 64 v' = true ∧ Dp K H y (toD w) ∧ okP 64 w = true ∧ Post K E Rl ω H (f (eqP v' w) S) Q := by
  have data : ∀ v', Dp K H x (toD v') ∨ okP 64 v' = false → Post K E Rl ω H (M.bind (guardM (okP 64 v' && okP 64 w) (eqP v' w)) f S) Q → ∃ v', Dp K H x (toD v') ∧ okP 64 v' = true ∧ Dp K H y (toD w) ∧ okP 64 w = true ∧ Post K E Rl ω H (f (eqP v' w) S) Q := fun v' hd h => by
    unfold M.bind guardM at h
    by_cases g : (okP 64 v' && okP 64 w) = true
    · rw [if_pos g] at h
      rw [Bool.and_eq_true] at g
      rcases hd with hd | hd
      · exact ⟨v', hd, g.1, dp_ok g.2 rw', g.2, h⟩
      · rw [g.1] at hd; cases hd
    · rw [if_neg g] at h
      exact False.elim h
  have gen : okP 64 v = true → Post K E Rl ω H (M.bind (guardM (okP 64 v && okP 64 w) (eqP v w)) f S) Q → ∃ v', Dp K H x (toD v') ∧ okP 64 v' = true ∧ Dp K H y (toD w) ∧ okP 64 w = true ∧ Post K E Rl ω H (f (eqP v' w) S) Q := fun g h => data v (.inl (dp_ok g rv)) h
  by_cases hr : ∃ i, v = .ref i
  · obtain ⟨i, rfl⟩ := hr
    have rv0 := rv
    simp only [Rep] at rv0
    obtain ⟨a, ha, rfl⟩ := rv0
    cases q : S[i]? with
    | none =>
      have : M.bind (opEq (.ref i) w) f S = .stuck := by
        unfold M.bind opEq; simp only [q]
      rw [this] at h; exact False.elim h
    | some c =>
      cases c with
      | tab p z =>
        have : M.bind (opEq (.ref i) w) f S = .stuck := by
          unfold M.bind opEq; simp only [q]
        rw [this] at h; exact False.elim h
      | lst xs =>
        have e : M.bind (opEq (.ref i) w) f S = M.bind (guardM (okP 64 (.lst xs) && okP 64 w) (eqP (.lst xs) w)) f S := by
          unfold M.bind opEq; simp only [q]
        rw [e] at h
        obtain ⟨o, ho, vs, rfl, hl, hrs⟩ := s.cell i _ a q ha
        refine data (.lst xs) ?_ h
        cases g : okP 64 (.lst xs) with
        | false => exact .inr rfl
        | true => exact .inl (.lst (.inl (.inl ho)) (dps_ok (d := 63) (by simpa [okP] using g) hrs))
  · have e : opEq v w = guardM (okP 64 v && okP 64 w) (eqP v w) := by
      cases v with
      | ref i => exact absurd ⟨i, rfl⟩ hr
      | _ => rfl
    rw [e] at h
    by_cases g : okP 64 v = true
    · exact gen g h
    · exact data v (.inr (Bool.eq_false_iff.mpr g)) h
theorem os_eq (hu : X.A.units + 64 < cLine) : OpS X E (compareOp .Eq) (cmpM .eq) := by
  refine ⟨_, op_eqD hu, fun ω S H v w x y Q s rv rw' h => ?_⟩
  obtain ⟨v', d1, g1, d2, g2, h⟩ := opEq_ok s rv rw' h
  refine ⟨toD v', toD w, d1, d2, shaped_ok g1, shaped_ok g2, ?_⟩
  rw [eqv_ok 64 64 v' w g1 g2]
  exact Post.ok h s rep_bl
theorem os_ne (hu : X.A.units + 64 < cLine) : OpS X E (compareOp .NotEq) (cmpM .ne) := by
  refine ⟨_, op_neD hu, fun ω S H v w x y Q s rv rw' h => ?_⟩
  have h' : Post X.K E (Rep X.K) ω H (M.bind (M.bind (opEq v w) fun c => M.pure (!c)) (fun c => M.pure (.bl c)) S) Q := h
  rw [M.bind_assoc] at h'
  obtain ⟨v', d1, g1, d2, g2, h⟩ := opEq_ok s rv rw' h'
  refine ⟨toD v', toD w, d1, d2, shaped_ok g1, shaped_ok g2, ?_⟩
  rw [eqv_ok 64 64 v' w g1 g2]
  exact Post.ok h s rep_bl
/-- in, by its three rules -/
def rIn3 (K : PySem.W.Frag) (neg : Bool) : R2 := fun x y H Q =>
  (∃ (c : Nat) (b : List Nat), x = .str (toS [c]) ∧ y = .str (toS b) ∧ Q (.bl (if neg then !decide (c ∈ b) else decide (c ∈ b))) H) ∨ rIn K neg x y H Q ∨ (if neg then rNotInD K x y H Q else rInD K x y H Q)
theorem in_ok {α β : Type} {K : PySem.W.Frag} {Rl : Wd → Hp → α → β → Prop} {ω : Wd} {H : Hp} {S : Store} {R : β → Hp → Prop} {v w : PV} {x y : V} {f : Bool → M α} {neg : Bool} {Q : VK} (s : RelSt K ω S H) (rv : Rep K ω H v x) (rw' : Rep K ω H w y)
    (h : Post K E Rl ω H (M.bind (opIn v w) f S) R) (hq : ∀ c, Post K E Rl ω H (f c S) R → Q (.bl (if neg then !c else c)) H) : rIn3 K neg x y H Q := by
  have gen : ∀ {g : List PV → M Bool}, (∀ ys, g ys = guardM (okP 64 v && okPs 63 ys) (ys.any fun y => eqP y v)) → Post K E Rl ω H (M.bind (M.bind (viewL w) g) f S) R → rIn3 K neg x y H Q := by
    intro g hg h
    rw [M.bind_assoc] at h
    obtain ⟨xs, a, vs, e, hs, hl, hr, h⟩ := viewL_ok s rw' h
    rw [hg] at h
    unfold M.bind guardM at h
    by_cases gg : (okP 64 v && okPs 63 xs) = true
    · rw [if_pos gg] at h
      rw [Bool.and_eq_true] at gg
      subst e
      have d1 := dp_ok gg.1 rv
      have d2 : Dp K H (.ref a) (.list (toDs xs)) := .lst hs (dps_ok gg.2 hr)
      have sh : SeqAt.shaped (.list (toDs xs)) = true := shaped_ok (v := .lst xs) (by simpa [okP] using gg.2)
      refine .inr (.inr ?_)
      cases neg with
      | true => exact ⟨toD v, toDs xs, d1, d2, shaped_ok gg.1, sh, by rw [anyD 64 63 v gg.1 xs gg.2]; exact hq _ h⟩
      | false => exact ⟨toD v, toDs xs, d1, d2, shaped_ok gg.1, sh, by rw [anyD 64 63 v gg.1 xs gg.2]; exact hq _ h⟩
    · rw [if_neg gg] at h
      exact False.elim h
  cases w with
  | str b =>
    cases v with
    | str a =>
      cases a with
      | nil => exact False.elim h
      | cons c a =>
        cases a with
        | nil => exact .inl ⟨c, b, rv.str.1, rw'.str.1, hq _ h⟩
        | cons c' a => exact False.elim h
    | _ => exact False.elim h
  | tup ys =>
    unfold M.bind opIn guardM at h
    by_cases gg : (okP 0 v && okPs 0 ys) = true
    · simp only [if_pos gg] at h
      rw [Bool.and_eq_true] at gg
      obtain ⟨a, vs, e, hs, hl, hr⟩ := rw'.tup
      refine .inr (.inl ⟨a, vs, e, .inr hs, flat_ok gg.1 rv, flats_ok gg.2 hr, ?_⟩)
      rw [inV_ok gg.1 rv gg.2 hr]
      exact hq _ h
    · simp only [if_neg gg] at h
      exact False.elim h
  | lst ys => exact gen (fun _ => rfl) h
  | frz ys => exact gen (fun _ => rfl) h
  | ref i => exact gen (fun _ => rfl) h
  | non => exact False.elim h
  | bl b => exact False.elim h
  | int i => exact False.elim h
theorem op_in1 : OpR X (compareOp .In) (fun x y H Q => ∃ (c : Nat) (b : List Nat), x = .str (toS [c]) ∧ y = .str (toS b) ∧ Q (.bl (if false then !decide (c ∈ b) else decide (c ∈ b))) H) := by
  intro pins s σ H x y v u Q I rx ry h
  obtain ⟨c, b, e1, e2, q⟩ := h
  refine op_in_str pins s σ H x y v u Q I rx ry ⟨_, _, e1, e2, ?_⟩
  rw [show (!(Builtin.Str.occurrences (toS b) (toS [c]) 0 (toS b).length 1).isEmpty) = decide (c ∈ b) from SX.in_one b c]
  exact q
theorem op_notIn1 : OpR X (compareOp .NotIn) (fun x y H Q => ∃ (c : Nat) (b : List Nat), x = .str (toS [c]) ∧ y = .str (toS b) ∧ Q (.bl (if true then !decide (c ∈ b) else decide (c ∈ b))) H) := by
  intro pins s σ H x y v u Q I rx ry h
  obtain ⟨c, b, e1, e2, q⟩ := h
  refine op_notin_str pins s σ H x y v u Q I rx ry ⟨_, _, e1, e2, ?_⟩
  rw [show (!(Builtin.Str.occurrences (toS b) (toS [c]) 0 (toS b).length 1).isEmpty) = decide (c ∈ b) from SX.in_one b c]
  exact q
theorem os_in (hu : X.A.units + 65 < cLine) : OpS X E (compareOp .In) (cmpM .isin) := by
  refine ⟨rIn3 X.K false, op_in1.or (op_in_seq.or (op_inD hu)), fun ω S H v w x y Q s rv rw' h => ?_⟩
  exact in_ok s rv rw' h fun c q => Post.ok q s rep_bl
theorem os_notin (hu : X.A.units + 65 < cLine) : OpS X E (compareOp .NotIn) (cmpM .notin) := by
  refine ⟨rIn3 X.K true, op_notIn1.or (op_notIn_seq.or (op_notInD hu)), fun ω S H v w x y Q s rv rw' h => ?_⟩
  have h' : Post X.K E (Rep X.K) ω H (M.bind (M.bind (opIn v w) fun c => M.pure (!c)) (fun c => M.pure (.bl c)) S) Q := h
  rw [M.bind_assoc] at h'
  exact in_ok s rv rw' h' fun c q => Post.ok q s rep_bl
theorem isNon_ok {K : PySem.W.Frag} {ω : Wd} {H : Hp} {v : PV} {x : V} (r : Rep K ω H v x) : decide (x = .non) = isNonP v := by
  cases v with
  | non => rw [r.non]; rfl
  | bl b => rw [r.bl]; rfl
  | int i => rw [r.int]; rfl
  | str s => rw [r.str.1]; rfl
  | tup xs => obtain ⟨a, vs, e, _⟩ := r.tup; rw [e]; rfl
  | lst xs => obtain ⟨a, vs, e, _⟩ := r.lst; rw [e]; rfl
  | frz xs => obtain ⟨a, vs, e, _⟩ := r.frz; rw [e]; rfl
  | ref i => simp only [Rep] at r; obtain ⟨a, _, e⟩ := r; rw [e]; rfl
theorem os_is : OpS X E (compareOp .Is) (cmpM .is) := by
  refine ⟨_, op_isN, fun ω S H v w x y Q s rv rw' h => ?_⟩
  cases w with
  | non =>
    refine ⟨rw'.non, ?_⟩
    rw [isNon_ok rv]
    exact Post.ok h s rep_bl
  | _ => exact False.elim h
theorem os_isnot : OpS X E (compareOp .IsNot) (cmpM .isnot) := by
  refine ⟨_, op_notN, fun ω S H v w x y Q s rv rw' h => ?_⟩
  cases w with
  | non =>
    refine ⟨rw'.non, ?_⟩
    rw [isNon_ok rv]
    exact Post.ok h s rep_bl
  | _ => exact False.elim h
def copOf : COp → CmpOp
  | .lt => .Lt | .le => .LtE | .gt => .Gt | .ge => .GtE | .eq => .Eq | .ne => .NotEq | .isin => .In | .notin => .NotIn | .is => .Is | .isnot => .IsNot
theorem os_cmp (hu : X.A.units + 65 < cLine) (op : COp) : OpS X E (compareOp (copOf op)) (cmpM op) := by
  have hu' : X.A.units + 64 < cLine := by omega
  cases op with
  | lt => exact os_lt
  | le => exact os_le
  | gt => exact os_gt
  | ge => exact os_ge
  | eq => exact os_eq hu'
  | ne => exact os_ne hu'
  | isin => exact os_in hu
  | notin => exact os_notin hu
  | is => exact os_is
  | isnot => exact os_isnot
end
end Mi
set_option Elab.async false
set_option linter.all false
set_option maxRecDepth 100000
namespace Mi
open PySem PySem.Spec PyProof.Rows L2

section
variable {K : PySem.W.Frag} {E : XK} {ω : Wd} {H : Hp} {S : Store}
theorem atI_eq {α : Type} (xs : List α) (i : Int) : Mi.atI xs i = L2.atI xs i := rfl
theorem Reps.atI {xs : List PV} {vs : List V} {i : Int} {x : PV} (r : Reps K ω H xs vs) (e : Mi.atI xs i = some x) : ∃ v, L2.atI vs i = some v ∧ Rep K ω H x v := by
  unfold Mi.atI at e
  unfold L2.atI
  rw [r.length]
  cases q : Mi.ixN xs.length i with
  | none => rw [q] at e; cases e
  | some j =>
    rw [q] at e
    obtain ⟨v, e1, rv⟩ := r.get (i := j) (x := x) e
    exact ⟨v, by rw [show L2.ixN xs.length i = some j from q]; exact e1, rv⟩
theorem ix_ok {v w : PV} {x y : V} {Q : VK} (s : RelSt K ω S H) (rv : Rep K ω H v x) (rw' : Rep K ω H w y) (h : Post K E (Rep K) ω H (opIx v w S) Q) : rIx K x y H Q := by
  cases w with
  | int i =>
    have ey := rw'.int
    have gen : Post K E (Rep K) ω H (M.bind (viewL v) (fun xs => ofO (Mi.atI xs i)) S) Q → rIx K x y H Q := fun h => by
      obtain ⟨xs, a, vs, e, hs, hl, hr, h⟩ := viewL_ok s rv h
      obtain ⟨z, ez, h⟩ := Post.ofO h
      obtain ⟨zv, e1, rz⟩ := hr.atI ez
      exact .inl ⟨a, vs, i, zv, e, ey, hs, e1, Post.ok h s rz⟩
    cases v with
    | tup xs =>
      obtain ⟨a, vs, e, hs, hl, hr⟩ := rv.tup
      obtain ⟨z, ez, h⟩ := Post.ofO h
      obtain ⟨zv, e1, rz⟩ := hr.atI ez
      exact .inr (.inl ⟨a, vs, i, zv, e, ey, hs, e1, Post.ok h s rz⟩)
    | str t =>
      have h' : Post K E (Rep K) ω H (M.bind (ofO (Mi.atI t i)) (fun c => M.pure (.str [c])) S) Q := h
      cases q : Mi.atI t i with
      | none => rw [q] at h'; exact False.elim h'
      | some c =>
        rw [q] at h'
        obtain ⟨e, hl⟩ := rv.str
        refine .inr (.inr ⟨_, i, c, e, ey, by rw [toS_length]; exact hl, q, ?_⟩)
        exact Post.ok (v := PV.str [c]) h' s (rep_str (by show 1 ≤ sizeLine; decide))
    | lst xs => exact gen h
    | frz xs => exact gen h
    | ref j => exact gen h
    | non => exact False.elim h
    | bl b => exact False.elim h
    | int j => exact False.elim h
  | _ => exact False.elim h
theorem cut_eq {α : Type} (xs : List α) (lo hi : Option Int) : Mi.cut xs lo hi = (xs.drop (HT.sIx xs.length 0 lo)).take (HT.sIx xs.length xs.length hi - HT.sIx xs.length 0 lo) := by
  have e : ∀ n d o, Mi.sIx n d o = HT.sIx n d o := fun n d o => by cases o <;> rfl
  unfold Mi.cut
  rw [e, e]
theorem cut_length {α : Type} (xs : List α) (lo hi : Option Int) : (Mi.cut xs lo hi).length ≤ xs.length := by
  unfold Mi.cut
  rw [List.length_take, List.length_drop]
  omega
theorem Reps.cut {xs : List PV} {vs : List V} (lo hi : Option Int) (r : Reps K ω H xs vs) : Reps K ω H (Mi.cut xs lo hi) (cutV vs lo hi) := by
  rw [cut_eq]
  unfold cutV
  rw [r.length]
  exact (r.drop _).take _
def rSl3 (K : PySem.W.Frag) : V → Option Int → Option Int → Hp → VK → Prop := fun x lo hi H Q => rSlA K x lo hi H Q ∨ rSlL K x lo hi H Q ∨ rSlS x lo hi H Q
theorem sl3 {X : Cx} : SlR X (rSl3 X.K) := sl_tupA.or (sl_list.or sl_str)
theorem sl_ok {v : PV} {x : V} {lo hi : Option Int} {Q : VK} (s : RelSt K ω S H) (rv : Rep K ω H v x) (h : Post K E (Rep K) ω H (opSl v lo hi S) Q) : rSl3 K x lo hi H Q := by
  have gen : Post K E (Rep K) ω H (M.bind (viewL v) (fun xs => M.pure (.lst (Mi.cut xs lo hi))) S) Q → rSl3 K x lo hi H Q := fun h => by
    obtain ⟨xs, a, vs, e, hs, hl, hr, h⟩ := viewL_ok s rv h
    refine .inr (.inl ⟨a, vs, e, hs, fun p hp => ?_⟩)
    exact Post.newLp h s (Nat.le_trans (cut_length _ _ _) hl) (hr.cut lo hi) hp
  cases v with
  | tup xs =>
    obtain ⟨a, vs, e, hs, hl, hr⟩ := rv.tup
    have h' : Post K E (Rep K) ω H (.ok (.tup (Mi.cut xs lo hi)) S) Q := h
    refine .inl ⟨a, vs, e, hs, fun z => ?_, fun _ p hp => ?_⟩
    · rw [hr.length] at z
      have ew : Mi.cut xs lo hi = xs := by
        rw [cut_eq, z.1, z.2]
        simp
      rw [ew] at h'
      subst e
      exact Post.ok h' s rv
    · exact Post.newT h' s (Nat.le_trans (cut_length _ _ _) hl) (hr.cut lo hi) hp
  | str t =>
    obtain ⟨e, hl⟩ := rv.str
    have h' : Post K E (Rep K) ω H (.ok (.str (Mi.cut t lo hi)) S) Q := h
    refine .inr (.inr ⟨_, e, by rw [toS_length]; exact hl, ?_⟩)
    have ec : cutS (toS t) lo hi = toS (Mi.cut t lo hi) := by
      unfold cutS
      rw [cut_eq, toS_length]
    rw [ec]
    exact Post.ok h' s (rep_str (Nat.le_trans (cut_length _ _ _) hl))
  | lst xs => exact gen h
  | frz xs => exact gen h
  | ref j => exact gen h
  | non => exact False.elim h
  | bl b => exact False.elim h
  | int j => exact False.elim h
end

def BiS (X : Cx) (E : XK) (f : Value) (m : List PV → M PV) : Prop :=
  ∃ r, CallR X f r ∧ ∀ (ω : Wd) (S : Store) (H : Hp) (vs : List PV) (xs : List V) (Q : VK), RelSt X.K ω S H → Reps X.K ω H vs xs → Post X.K E (Rep X.K) ω H (m vs S) Q → r xs H Q
section
variable {K : PySem.W.Frag} {ω : Wd} {H : Hp}
theorem Reps.intsP : ∀ {xs : List PV} {vs : List V} {ns : List Int}, Mi.intsP xs = some ns → Reps K ω H xs vs → vs = ns.map V.int
  | [], vs, ns, e, r => by
    simp only [Mi.intsP, Option.some.injEq] at e
    simp only [Reps] at r
    subst e r; rfl
  | x :: xs, vs, ns, e, r => by
    simp only [Reps] at r
    obtain ⟨v, vr, ev, r1, r2⟩ := r
    cases x with
    | int i =>
      simp only [Mi.intsP] at e
      cases q : Mi.intsP xs with
      | none => rw [q] at e; cases e
      | some ms =>
        rw [q] at e
        simp only [Option.map_some, Option.some.injEq] at e
        subst e ev
        rw [r1.int, Reps.intsP q r2]
        rfl
    | _ => simp [Mi.intsP] at e
theorem Reps.bools : ∀ {xs : List PV} {vs : List V} {ns : List Bool}, Mi.bools xs = some ns → Reps K ω H xs vs → vs = ns.map V.bl
  | [], vs, ns, e, r => by
    simp only [Mi.bools, Option.some.injEq] at e
    simp only [Reps] at r
    subst e r; rfl
  | x :: xs, vs, ns, e, r => by
    simp only [Reps] at r
    obtain ⟨v, vr, ev, r1, r2⟩ := r
    cases x with
    | bl i =>
      simp only [Mi.bools] at e
      cases q : Mi.bools xs with
      | none => rw [q] at e; cases e
      | some ms =>
        rw [q] at e
        simp only [Option.map_some, Option.some.injEq] at e
        subst e ev
        rw [r1.bl, Reps.bools q r2]
        rfl
    | _ => simp [Mi.bools] at e
theorem Reps.texts : ∀ {xs : List PV} {vs : List V} {ns : List (List Nat)}, Mi.texts xs = some ns → Reps K ω H xs vs → vs = (ns.map toS).map V.str
  | [], vs, ns, e, r => by
    simp only [Mi.texts, Option.some.injEq] at e
    simp only [Reps] at r
    subst e r; rfl
  | x :: xs, vs, ns, e, r => by
    simp only [Reps] at r
    obtain ⟨v, vr, ev, r1, r2⟩ := r
    cases x with
    | str i =>
      simp only [Mi.texts] at e
      cases q : Mi.texts xs with
      | none => rw [q] at e; cases e
      | some ms =>
        rw [q] at e
        simp only [Option.map_some, Option.some.injEq] at e
        subst e ev
        rw [r1.str.1, Reps.texts q r2]
        rfl
    | _ => simp [Mi.texts] at e
theorem reps1 {v : PV} {xs : List V} (r : Reps K ω H [v] xs) : ∃ x, xs = [x] ∧ Rep K ω H v x := by
  simp only [Reps] at r
  obtain ⟨x, xr, e, r1, e2⟩ := r
  subst e2
  exact ⟨x, e, r1⟩
theorem reps2 {v w : PV} {xs : List V} (r : Reps K ω H [v, w] xs) : ∃ x y, xs = [x, y] ∧ Rep K ω H v x ∧ Rep K ω H w y := by
  simp only [Reps] at r
  obtain ⟨x, xr, e, r1, y, yr, e1, r2, e2⟩ := r
  subst e2 e1
  exact ⟨x, y, e, r1, r2⟩
end
/-- the greatest, the least -/
theorem maxI_mem : ∀ (ns : List Int), ns ≠ [] → maxI ns ∈ ns ∧ ∀ y ∈ ns, y ≤ maxI ns
  | [], h => absurd rfl h
  | [x], _ => ⟨by simp [maxI], by simp [maxI]⟩
  | x :: y :: r, _ => by
    have ih := maxI_mem (y :: r) (by simp)
    have e : maxI (x :: y :: r) = max x (maxI (y :: r)) := rfl
    rw [e]
    refine ⟨?_, fun z hz => ?_⟩
    · rcases Int.le_total x (maxI (y :: r)) with g | g
      · rw [Int.max_eq_right g]; exact List.mem_cons_of_mem _ ih.1
      · rw [Int.max_eq_left g]; exact List.mem_cons_self
    · rcases List.mem_cons.mp hz with g | g
      · subst g; exact Int.le_max_left _ _
      · exact Int.le_trans (ih.2 z g) (Int.le_max_right _ _)
theorem minI_mem : ∀ (ns : List Int), ns ≠ [] → minI ns ∈ ns ∧ ∀ y ∈ ns, minI ns ≤ y
  | [], h => absurd rfl h
  | [x], _ => ⟨by simp [minI], by simp [minI]⟩
  | x :: y :: r, _ => by
    have ih := minI_mem (y :: r) (by simp)
    have e : minI (x :: y :: r) = min x (minI (y :: r)) := rfl
    rw [e]
    refine ⟨?_, fun z hz => ?_⟩
    · rcases Int.le_total x (minI (y :: r)) with g | g
      · rw [Int.min_eq_left g]; exact List.mem_cons_self
      · rw [Int.min_eq_right g]; exact List.mem_cons_of_mem _ ih.1
    · rcases List.mem_cons.mp hz with g | g
      · subst g; exact Int.min_le_left _ _
      · exact Int.le_trans (Int.min_le_right _ _) (ih.2 z g)
section
variable {X : Cx} {E : XK}
def rLenM (K : PySem.W.Frag) : List V → Hp → VK → Prop := fun xs H Q => (∃ p ys, xs = [.ref p] ∧ (SqL K H p ys ∨ SqT K H p ys) ∧ Q (.int ys.length) H) ∨ (∃ z, xs = [.str z] ∧ z.length ≤ sizeLine ∧ Q (.int z.length) H)
def rListM (K : PySem.W.Frag) : List V → Hp → VK → Prop := fun xs H Q => (∃ p ys, xs = [.ref p] ∧ (SqL K H p ys ∨ SqT K H p ys) ∧ ∀ l, H l = none → Q (.ref l) (upd H l (.lst ys))) ∨
  (∃ z : Str, xs = [.str z] ∧ z.length ≤ sizeLine ∧ ∀ l, H l = none → Q (.ref l) (upd H l (.lst (z.cps.toList.map fun c => V.str ⟨#[c]⟩))))
def rTupM (K : PySem.W.Frag) : List V → Hp → VK → Prop := fun xs H Q => ∃ p ys, xs = [.ref p] ∧ ((SqL K H p ys ∧ ∀ l, H l = none → Q (.ref l) (upd H l (.tup ys))) ∨ (SqT K H p ys ∧ Q (.ref p) H))
theorem bs_len : BiS X E (.builtin "len") (opBi .len) := by
  refine ⟨rLenM X.K, call_len_seq.or call_len_str, fun ω S H vs xs Q s r h => ?_⟩
  match vs, r, h with
  | [a], r, h =>
    obtain ⟨x, rfl, ra⟩ := reps1 r
    have gen : Post X.K E (Rep X.K) ω H (M.bind (viewL a) (fun xs => M.pure (.int xs.length)) S) Q → rLenM X.K [x] H Q := fun h => by
      obtain ⟨xs, p, vs, e, hs, hl, hr, h⟩ := viewL_ok s ra h
      subst e
      refine .inl ⟨p, vs, rfl, .inl hs, ?_⟩
      rw [hr.length]
      exact Post.ok h s rep_int
    cases a with
    | str t =>
      obtain ⟨e, hl⟩ := ra.str
      subst e
      refine .inr ⟨_, rfl, by rw [toS_length]; exact hl, ?_⟩
      rw [toS_length]
      exact Post.ok (v := PV.int t.length) h s rep_int
    | tup ys =>
      obtain ⟨p, ws, e, hs, hl, hr⟩ := ra.tup
      subst e
      refine .inl ⟨p, ws, rfl, .inr hs, ?_⟩
      rw [hr.length]
      exact Post.ok (v := PV.int ys.length) h s rep_int
    | lst ys => exact gen h
    | frz ys => exact gen h
    | ref i => exact gen h
    | non => exact False.elim h
    | bl b => exact False.elim h
    | int i => exact False.elim h
  | [], _, h => exact False.elim h
  | _ :: _ :: _, _, h => exact False.elim h
theorem vals_at : ∀ {xs : List V} {us : List Value}, xs.length = us.length → (∀ (j : Nat) (x : V) (u : Value), xs[j]? = some x → us[j]? = some u → RelV x u) → Vals xs us
  | [], [], _, _ => .nil
  | [], _ :: _, h, _ => by simp at h
  | _ :: _, [], h, _ => by simp at h
  | x :: xs, u :: us, h, f => .cons (f 0 x u rfl rfl) (vals_at (by simpa using h) fun j y w e1 e2 => f (j + 1) y w (by simpa using e1) (by simpa using e2))
theorem call_list_text (hc : X.calm = true) : CallR X (.type "list") (fun xs H Q => ∃ z : Str, xs = [.str z] ∧ z.length ≤ sizeLine ∧ ∀ l, H l = none → Q (.ref l) (upd H l (.lst (z.cps.toList.map fun c => V.str ⟨#[c]⟩)))) := by
  intro pins s σ H xs us Q I r h
  obtain ⟨z, rfl, hz, q⟩ := h
  obtain ⟨u, rfl, t, rfl⟩ := vals1 r
  refine call_list_str (I.ok.hd hc) z t (hn := hz) fun h' tk acc' c' hk hS' hacc => ?_
  refine ⟨.ref s.heap.objs.size, _, I.laid (t' := tk) hk (Nat.le_refl _) (show ObjOk X.prog X.w _ h' _ (.lst _) from ⟨?_, acc'.toList, c', ?_, by simpa using hS'⟩), rfl, q _ (I.hok.fresh (Nat.le_refl _))⟩
  · rw [List.length_map, Array.length_toList]; exact hz
  · have hlen : (z.cps.toList.map fun c => V.str ⟨#[c]⟩).length = acc'.toList.length := by
      have := hacc.1
      simp [this]
    refine vals_at hlen fun j x u e1 e2 => ?_
    obtain ⟨c, tt, hc', rfl⟩ := hacc.2 j u (by simpa using e2)
    rw [List.getElem?_map] at e1
    have : z.cps.toList[j]? = some c := by simpa using hc'
    rw [this] at e1
    simp only [Option.map_some, Option.some.injEq] at e1
    subst e1
    exact ⟨tt, rfl⟩
theorem reps_chars {K : PySem.W.Frag} {ω : Wd} {H : Hp} : ∀ t : List Nat, Reps K ω H (t.map fun c => .str [c]) (t.map fun c => V.str ⟨#[c]⟩)
  | [] => .nil
  | c :: t => .cons (rep_str (by show 1 ≤ sizeLine; decide)) (reps_chars t)
theorem bs_list (hc : X.calm = true) : BiS X E (.type "list") (opBi .list) := by
  refine ⟨rListM X.K, call_list_of.or (call_list_text hc), fun ω S H vs xs Q s r h => ?_⟩
  match vs, r, h with
  | [a], r, h =>
    obtain ⟨x, rfl, ra⟩ := reps1 r
    have gen : Post X.K E (Rep X.K) ω H (M.bind (viewL a) (fun xs => newL false xs) S) Q → rListM X.K [x] H Q := fun h => by
      obtain ⟨xs, p, vs, e, hs, hl, hr, h⟩ := viewL_ok s ra h
      subst e
      exact .inl ⟨p, vs, rfl, .inl hs, fun l hp => Post.newL h s hl hr hp⟩
    cases a with
    | str t =>
      obtain ⟨e, hl⟩ := ra.str
      subst e
      have h' : Post X.K E (Rep X.K) ω H (newL false (t.map fun c => .str [c]) S) Q := h
      refine .inr ⟨_, rfl, by rw [toS_length]; exact hl, fun l hp => ?_⟩
      exact Post.newL h' s (by rw [List.length_map]; exact hl) (reps_chars t) hp
    | tup ys =>
      obtain ⟨p, ws, e, hs, hl, hr⟩ := ra.tup
      subst e
      have h' : Post X.K E (Rep X.K) ω H (newL false ys S) Q := h
      exact .inl ⟨p, ws, rfl, .inr hs, fun l hp => Post.newL h' s hl hr hp⟩
    | lst ys => exact gen h
    | frz ys => exact gen h
    | ref i => exact gen h
    | non => exact False.elim h
    | bl b => exact False.elim h
    | int i => exact False.elim h
  | [], _, h => exact False.elim h
  | _ :: _ :: _, _, h => exact False.elim h
theorem bs_tuple : BiS X E (.type "tuple") (opBi .tuple) := by
  refine ⟨rTupM X.K, call_tuple_of, fun ω S H vs xs Q s r h => ?_⟩
  match vs, r, h with
  | [a], r, h =>
    obtain ⟨x, rfl, ra⟩ := reps1 r
    have gen : Post X.K E (Rep X.K) ω H (M.bind (viewL a) (fun xs => M.pure (.tup xs)) S) Q → rTupM X.K [x] H Q := fun h => by
      obtain ⟨xs, p, vs, e, hs, hl, hr, h⟩ := viewL_ok s ra h
      subst e
      exact ⟨p, vs, rfl, .inl ⟨hs, fun l hp => Post.newT h s hl hr hp⟩⟩
    cases a with
    | tup ys =>
      have ra' := ra
      obtain ⟨p, ws, e, hs, hl, hr⟩ := ra.tup
      subst e
      exact ⟨p, ws, rfl, .inr ⟨hs, Post.ok (v := PV.tup ys) h s ra'⟩⟩
    | lst ys => exact gen h
    | frz ys => exact gen h
    | ref i => exact gen h
    | str t => exact False.elim h
    | non => exact False.elim h
    | bl b => exact False.elim h
    | int i => exact False.elim h
  | [], _, h => exact False.elim h
  | _ :: _ :: _, _, h => exact False.elim h
theorem bs_sum (hc : X.calm = true) : BiS X E (.builtin "sum") (opBi .sum) := by
  refine ⟨_, cr_sum hc, fun ω S H vs xs Q s r h => ?_⟩
  match vs, r, h with
  | [a], r, h =>
    obtain ⟨x, rfl, ra⟩ := reps1 r
    obtain ⟨xs, p, vs, e, hs, hl, hr, h⟩ := viewL_ok s ra h
    subst e
    cases q : Mi.intsP xs with
    | none => rw [q] at h; exact False.elim h
    | some ns =>
      rw [q] at h
      rw [hr.intsP q] at hs
      exact ⟨p, ns, rfl, hs, Post.ok (v := PV.int ns.sum) h s rep_int⟩
  | [], _, h => exact False.elim h
  | _ :: _ :: _, _, h => exact False.elim h
theorem bs_all (hc : X.calm = true) : BiS X E (.builtin "all") (opBi .all) := by
  refine ⟨_, cr_all hc, fun ω S H vs xs Q s r h => ?_⟩
  match vs, r, h with
  | [a], r, h =>
    obtain ⟨x, rfl, ra⟩ := reps1 r
    obtain ⟨xs, p, vs, e, hs, hl, hr, h⟩ := viewL_ok s ra h
    subst e
    cases q : Mi.bools xs with
    | none => rw [q] at h; exact False.elim h
    | some ns =>
      rw [q] at h
      rw [hr.bools q] at hs
      exact ⟨p, ns, rfl, hs, Post.ok (v := PV.bl (ns.all id)) h s rep_bl⟩
  | [], _, h => exact False.elim h
  | _ :: _ :: _, _, h => exact False.elim h
theorem bs_any (hc : X.calm = true) : BiS X E (.builtin "any") (opBi .any) := by
  refine ⟨_, cr_any hc, fun ω S H vs xs Q s r h => ?_⟩
  match vs, r, h with
  | [a], r, h =>
    obtain ⟨x, rfl, ra⟩ := reps1 r
    obtain ⟨xs, p, vs, e, hs, hl, hr, h⟩ := viewL_ok s ra h
    subst e
    cases q : Mi.bools xs with
    | none => rw [q] at h; exact False.elim h
    | some ns =>
      rw [q] at h
      rw [hr.bools q] at hs
      exact ⟨p, ns, rfl, hs, Post.ok (v := PV.bl (ns.any id)) h s rep_bl⟩
  | [], _, h => exact False.elim h
  | _ :: _ :: _, _, h => exact False.elim h
theorem maxT_raw {prog : Program} {w : World} {A : Around} {E : Value → Shared → Prop} {s : Shared} {l : Addr} {its : List Value} {ns : List Int} {Q : Value → Shared → Prop} (hh : A.handled = none) (hl : s.heap.IsTuple l its.toArray) (hi : IntsAre its ns) (hne : 0 < ns.length)
    (h : ∀ h' tk M t', (∀ b o, s.heap.get? b = some o → h'.get? b = some o) → M ∈ ns → (∀ a, a ∈ ns → a ≤ M) → Q (.int M t') { s with heap := h', toks := tk }) : wpAny (model prog w) A (call (.builtin "max") [.ref l]) Q E s := by
  obtain ⟨xs, e⟩ := hi.allInts.items
  have hn : numsOf (intItems xs).toList = ns := by rw [← e]; exact hi.numsOf
  rw [nums_intItems] at hn
  subst hn
  rw [e] at hl
  have hsz : 0 < xs.size := by simpa using hne
  have hlt : l < s.heap.objs.size := by
    obtain ⟨o, ho, _⟩ := hl
    exact Heap.lt_size ho
  refine call_max_walk (wpAny_pyIter_tuple hl ?_)
  refine ⟨_, [_, l], [_], _, _, _, _, rfl, Walks.tuple (A := A.in1) hh _ l (Nat.ne_of_lt hlt) (intItems xs), ⟨⟨_, Heap.get?_push_size _ rfl, rfl, rfl⟩, hl.push _⟩, fun c hc => ?_, by simpa [intItems] using hsz, CmpOf.ints_gt (numAt xs) (fun _ _ => intItems_at), fun v h' tk hP hk => ?_⟩
  · show c < (s.heap.push _).objs.size
    rw [Heap.size_push]
    rcases List.mem_cons.mp hc with rfl | hc
    · exact Nat.lt_succ_self _
    · rw [List.mem_singleton.mp hc]; exact Nat.lt_succ_of_lt hlt
  · have hP : (intItems xs)[argBest (fun i j => decide (numAt xs i > numAt xs j)) (xs.size - 1)]? = some v := by simpa [intItems] using hP
    obtain ⟨t, rfl⟩ := intItems_at hP
    obtain ⟨h1, h2⟩ := argBest_gt (numAt xs) (xs.size - 1)
    refine h h' tk _ t (fun c o e => hk c o (fun hm => ?_) (Heap.get?_push_of_some _ e)) ?_ fun a ha => ?_
    · have := Heap.lt_size e
      rw [List.mem_singleton.mp hm] at this
      exact Nat.lt_irrefl _ this
    · rw [numAt_eq]; exact PySem.getD_mem (by rw [List.length_map, Array.length_toList]; omega)
    · obtain ⟨j, hj, rfl⟩ := mem_getD ha
      rw [List.length_map, Array.length_toList] at hj
      rw [← numAt_eq]; exact h2 j (by omega)
def rMaxT (K : PySem.W.Frag) : List V → Hp → VK → Prop := fun vs H Q => ∃ (a : Addr) (ns : List Int), vs = [V.ref a] ∧ SqT K H a (ns.map V.int) ∧ 0 < ns.length ∧ ∀ m, m ∈ ns → (∀ y, y ∈ ns → y ≤ m) → Q (.int m) H
theorem cr_maxT (hc : X.calm = true) : CallR X (.builtin "max") (rMaxT X.K) := by
  intro pins s σ H vs us Q I r h
  obtain ⟨a, ns, rfl, hs, hne, q⟩ := h
  obtain ⟨its, rv, hl, _⟩ := I.tuple hs
  rw [Vals.ref1 r]
  exact maxT_raw (I.ok.hd hc) hl rv.ints hne fun h' tk m t' hk h1 h2 => ⟨.int _, H, I.kept hk, ⟨_, rfl⟩, q m h1 h2⟩
theorem bs_max (hc : X.calm = true) : BiS X E (.builtin "max") (opBi .max) := by
  refine ⟨_, (cr_maxT hc).or ((cr_max hc).or (call_max2 hc)), fun ω S H vs xs Q s r h => ?_⟩
  match vs, r, h with
  | [a], r, h =>
    by_cases ht : ∃ ys, a = .tup ys
    · obtain ⟨ys, rfl⟩ := ht
      obtain ⟨x, rfl, ra⟩ := reps1 r
      obtain ⟨p, vs, e, hs, hl, hr⟩ := ra.tup
      subst e
      have h : Post X.K E (Rep X.K) ω H (M.bind (ofO (Mi.intsP ys)) (fun ns => guardM (!ns.isEmpty) (.int (maxI ns))) S) Q := h
      cases q : Mi.intsP ys with
      | none => rw [q] at h; exact False.elim h
      | some ns =>
        rw [q] at h
        have h' : Post X.K E (Rep X.K) ω H (guardM (!ns.isEmpty) (.int (maxI ns)) S) Q := h
        obtain ⟨g, h'⟩ := Post.guard h'
        rw [hr.intsP q] at hs
        have hne : ns ≠ [] := by intro z; subst z; cases g
        have hm := maxI_mem ns hne
        refine .inl ⟨p, ns, rfl, hs, List.length_pos_iff.mpr hne, fun m m1 m2 => ?_⟩
        have : m = maxI ns := Int.le_antisymm (hm.2 m m1) (m2 _ hm.1)
        rw [this]
        exact Post.ok h' s rep_int
    have h : Post X.K E (Rep X.K) ω H (M.bind (viewL a) (fun xs => M.bind (ofO (Mi.intsP xs)) fun ns => guardM (!ns.isEmpty) (.int (maxI ns))) S) Q := by
      cases a with
      | tup ys => exact absurd ⟨ys, rfl⟩ ht
      | _ => exact h
    obtain ⟨x, rfl, ra⟩ := reps1 r
    obtain ⟨xs, p, vs, e, hs, hl, hr, h⟩ := viewL_ok s ra h
    subst e
    cases q : Mi.intsP xs with
    | none => rw [q] at h; exact False.elim h
    | some ns =>
      rw [q] at h
      have h' : Post X.K E (Rep X.K) ω H (guardM (!ns.isEmpty) (.int (maxI ns)) S) Q := h
      obtain ⟨g, h'⟩ := Post.guard h'
      rw [hr.intsP q] at hs
      have hne : ns ≠ [] := by intro z; subst z; cases g
      have hm := maxI_mem ns hne
      refine .inr (.inl ⟨p, ns, rfl, hs, List.length_pos_iff.mpr hne, fun m m1 m2 => ?_⟩)
      have : m = maxI ns := Int.le_antisymm (hm.2 m m1) (m2 _ hm.1)
      rw [this]
      exact Post.ok h' s rep_int
  | [a, b], r, h =>
    obtain ⟨x, y, rfl, r1, r2⟩ := reps2 r
    cases a with
    | int i =>
      cases b with
      | int j => exact .inr (.inr ⟨i, j, by rw [r1.int, r2.int], Post.ok (v := PV.int (if j > i then j else i)) h s rep_int⟩)
      | _ => exact False.elim h
    | _ => exact False.elim h
  | [], _, h => exact False.elim h
  | a :: b :: c :: l, _, h => cases a <;> exact False.elim h
theorem bs_min (hc : X.calm = true) : BiS X E (.builtin "min") (opBi .min) := by
  refine ⟨_, (cr_min hc).or (call_min2 hc), fun ω S H vs xs Q s r h => ?_⟩
  match vs, r, h with
  | [a], r, h =>
    obtain ⟨x, rfl, ra⟩ := reps1 r
    obtain ⟨xs, p, vs, e, hs, hl, hr, h⟩ := viewL_ok s ra h
    subst e
    cases q : Mi.intsP xs with
    | none => rw [q] at h; exact False.elim h
    | some ns =>
      rw [q] at h
      have h' : Post X.K E (Rep X.K) ω H (guardM (!ns.isEmpty) (.int (minI ns)) S) Q := h
      obtain ⟨g, h'⟩ := Post.guard h'
      rw [hr.intsP q] at hs
      have hne : ns ≠ [] := by intro z; subst z; cases g
      have hm := minI_mem ns hne
      refine .inl ⟨p, ns, rfl, hs, List.length_pos_iff.mpr hne, fun m m1 m2 => ?_⟩
      have : m = minI ns := Int.le_antisymm (m2 _ hm.1) (hm.2 m m1)
      rw [this]
      exact Post.ok h' s rep_int
  | [a, b], r, h =>
    obtain ⟨x, y, rfl, r1, r2⟩ := reps2 r
    cases a with
    | int i =>
      cases b with
      | int j => exact .inr ⟨i, j, by rw [r1.int, r2.int], Post.ok (v := PV.int (if j < i then j else i)) h s rep_int⟩
      | _ => exact False.elim h
    | _ => exact False.elim h
  | [], _, h => exact False.elim h
  | _ :: _ :: _ :: _, _, h => exact False.elim h
theorem bs_int : BiS X E (.type "int") (opBi .int) := by
  refine ⟨_, call_int1.or call_int_str, fun ω S H vs xs Q s r h => ?_⟩
  match vs, r, h with
  | [a], r, h =>
    obtain ⟨x, rfl, ra⟩ := reps1 r
    cases a with
    | int i => rw [ra.int]; exact .inl (.inl ⟨i, rfl, Post.ok (v := PV.int i) h s rep_int⟩)
    | bl b => rw [ra.bl]; exact .inl (.inr ⟨b, rfl, Post.ok (v := PV.int (if b then 1 else 0)) h s rep_int⟩)
    | str z =>
      have h' : Post X.K E (Rep X.K) ω H (guardM (z.all isDg && (!z.isEmpty && decide (z.length ≤ 600))) (.int (dgV z)) S) Q := h
      obtain ⟨g, h'⟩ := Post.guard h'
      rw [Bool.and_eq_true, Bool.and_eq_true] at g
      obtain ⟨g1, g2, g3⟩ := g
      have g3 := of_decide_eq_true g3
      have hd : PySem.NumText.AllDigits z := fun c hc => by
        have := List.all_eq_true.mp g1 c hc
        unfold isDg at this
        rw [Bool.and_eq_true] at this
        exact ⟨of_decide_eq_true this.1, of_decide_eq_true this.2⟩
      have hl : (toS z).length ≤ 640 := by show z.toArray.size ≤ 640; rw [List.size_toArray]; omega
      rw [ra.str.1]
      refine .inr ⟨toS z, ((dgV z : Nat) : Int), rfl, ?_, hl, Post.ok (v := PV.int (dgV z)) h' s rep_int⟩
      exact PySem.intText_digits (x := toS z) (by simpa using hd) (by
        intro e
        have e : z = [] := by simpa using e
        subst e; cases g2) (by omega)
    | _ => exact False.elim h
  | [], _, h => exact False.elim h
  | _ :: _ :: _, _, h => exact False.elim h
theorem codes_eq (t : String) : toS (codes t) = Str.ofString t := by
  rw [Str.ofString_eq_toList]
  rfl
end
end Mi
set_option Elab.async false
set_option linter.all false
set_option maxRecDepth 100000
namespace Mi
open PySem PySem.Spec PyProof.Rows L2
section
variable {X : Cx} {E : XK}
theorem bs_str : BiS X E (.type "str") (opBi .str) := by
  refine ⟨_, call_str_int, fun ω S H vs xs Q s r h => ?_⟩
  match vs, r, h with
  | [a], r, h =>
    obtain ⟨x, rfl, ra⟩ := reps1 r
    cases a with
    | int i =>
      have h' : Post X.K E (Rep X.K) ω H (guardM (decide (i.natAbs.log2 < 1920)) (.str (codes (toString i))) S) Q := h
      obtain ⟨g, h'⟩ := Post.guard h'
      have g' : i.natAbs.log2 < 1920 := of_decide_eq_true g
      rw [ra.int]
      refine ⟨i, rfl, g', ?_⟩
      rw [← codes_eq]
      refine Post.ok h' s (rep_str ?_)
      rw [← toS_length, codes_eq]
      exact int_text_fits g'
    | _ => exact False.elim h
  | [], _, h => exact False.elim h
  | _ :: _ :: _, _, h => exact False.elim h
def tyName : Ty → String
  | .list => "list" | .tuple => "tuple" | .bool => "bool" | .int => "int" | .str => "str"
theorem kit_at {K : PySem.W.Frag} {a : String} {t : Ty} {b : Bool} (h : kitB a (tyName t) = some b) : PySem.W.kitOne K (.type a) (.type (tyName t)) = some b := kit_ty h
theorem kn (t : Ty) : kitB "NoneType" (tyName t) = some false := by cases t <;> decide +kernel
theorem kb (t : Ty) : kitB "bool" (tyName t) = some (match t with | .bool => true | .int => true | _ => false) := by cases t <;> decide +kernel
theorem ki (t : Ty) : kitB "int" (tyName t) = some (match t with | .int => true | _ => false) := by cases t <;> decide +kernel
theorem ks (t : Ty) : kitB "str" (tyName t) = some (match t with | .str => true | _ => false) := by cases t <;> decide +kernel
theorem kl (t : Ty) : kitB "list" (tyName t) = some (match t with | .list => true | _ => false) := by cases t <;> decide +kernel
theorem kt (t : Ty) : kitB "tuple" (tyName t) = some (match t with | .tuple => true | _ => false) := by cases t <;> decide +kernel
theorem ty_ok {K : PySem.W.Frag} {ω : Wd} {H : Hp} {S : Store} {v : PV} {x : V} {t : Ty} {b : Bool} (s : RelSt K ω S H) (r : Rep K ω H v x) (h : tyIs S v t = some b) :
    ∃ tv, TyX K H x tv ∧ PySem.W.kitOne K tv (.type (tyName t)) = some b := by
  cases v with
  | non =>
    rw [r.non]
    refine ⟨_, .base .non, kit_at ?_⟩
    rw [kn]; cases t <;> exact h
  | bl c =>
    rw [r.bl]
    refine ⟨_, .base (.bl c), kit_at ?_⟩
    rw [kb]; cases t <;> exact h
  | int i =>
    rw [r.int]
    refine ⟨_, .base (.int i), kit_at ?_⟩
    rw [ki]; cases t <;> exact h
  | str z =>
    rw [r.str.1]
    refine ⟨_, .base (.str _), kit_at ?_⟩
    rw [ks]; cases t <;> exact h
  | tup xs =>
    simp only [Rep] at r
    obtain ⟨a, vs, e, hs, _, _⟩ := r
    rw [e]
    have hk : kitB "tuple" (tyName t) = some b := by rw [kt]; cases t <;> exact h
    rcases hs with ⟨h1, _⟩ | ⟨o, its, n, h1, h2, _⟩
    · exact ⟨_, .base (.tup h1), kit_at hk⟩
    · exact ⟨_, .kTuple h1 h2, kit_at hk⟩
  | lst xs =>
    obtain ⟨a, vs, e, hs, _, _⟩ := r.lst
    rw [e]
    exact ⟨_, .base (.lst hs), kit_at (by rw [kl]; cases t <;> exact h)⟩
  | frz xs =>
    simp only [Rep] at r
    obtain ⟨a, vs, e, hs, _, _⟩ := r
    rw [e]
    have hk : kitB "list" (tyName t) = some b := by rw [kl]; cases t <;> exact h
    rcases hs with ⟨o, h1, _⟩ | ⟨o, its, n, h1, h2, _⟩
    · rcases h1.1 with z | ⟨p, z⟩
      · exact ⟨_, .base (.lst (by rw [h1.2, z])), kit_at hk⟩
      · exact ⟨_, .base (.frz (by rw [h1.2, z])), kit_at hk⟩
    · exact ⟨_, .kList h1 h2, kit_at hk⟩
  | ref i =>
    simp only [Rep] at r
    obtain ⟨a, ea, e⟩ := r
    rw [e]
    have h : tyRef S[i]? t = some b := h
    cases q : S[i]? with
    | none => rw [q] at h; cases t <;> cases h
    | some c =>
      rw [q] at h
      cases c with
      | lst xs =>
        obtain ⟨o, ho, vs, eo, _, _⟩ := s.cell i _ a q ea
        subst eo
        refine ⟨_, .base (.lst ho), kit_at ?_⟩
        rw [kl]; cases t <;> exact h
      | tab p q => cases t <;> cases h
theorem opIsi_ok {α β : Type} {K : PySem.W.Frag} {Rl : Wd → Hp → α → β → Prop} {ω : Wd} {H : Hp} {S : Store} {Q : β → Hp → Prop} {v : PV} {t : Ty} {f : Bool → M α} (h : Post K E Rl ω H (M.bind (opIsi v t) f S) Q) :
    ∃ b, tyIs S v t = some b ∧ Post K E Rl ω H (f b S) Q := by
  unfold M.bind opIsi at h
  cases q : tyIs S v t with
  | none => simp only [q] at h; exact False.elim h
  | some b => simp only [q] at h; exact ⟨b, rfl, h⟩
/-- the receiver's type, the method -/
def mtTy : Mt → String
  | .append => "list" | .upper => "str" | .lower => "str" | .join => "str"
def mtName : Mt → Str
  | .append => "append" | .upper => "upper" | .lower => "lower" | .join => "join"
def mtId : Mt → String
  | .append => "list.append" | .upper => "str.upper" | .lower => "str.lower" | .join => "str.join"
theorem mt_pa (m : Mt) : PlainAttrs (mtTy m) := by
  cases m with
  | append => exact PySem.F.plainAttrs_list
  | upper => exact PySem.F.plainAttrs_str
  | lower => exact PySem.F.plainAttrs_str
  | join => exact PySem.F.plainAttrs_str
theorem mt_slot (m : Mt) : Slot (mtTy m) (mtName m) (mtId m) := by
  cases m with
  | append => exact PySem.F.slot_list_append
  | upper => exact PySem.F.slot_str_upper
  | lower => exact PySem.F.slot_str_lower
  | join => exact PySem.F.slot_str_join
theorem mt_type (m : Mt) : typeOf (.builtin (mtId m)) = pure (.type "method_descriptor") := by
  cases m with
  | append => exact PySem.F.type_list_append
  | upper => exact PySem.F.type_str_upper
  | lower => exact PySem.F.type_str_lower
  | join => exact PySem.F.type_str_join
theorem recv_ok {α β : Type} {K : PySem.W.Frag} {Rl : Wd → Hp → α → β → Prop} {ω : Wd} {H : Hp} {S : Store} {Q : β → Hp → Prop} {m : Mt} {v : PV} {x : V} {f : Unit → M α} (s : RelSt K ω S H) (r : Rep K ω H v x)
    (h : Post K E Rl ω H (M.bind (recv m v) f S) Q) : tyV K (mtTy m) x H ∧ Post K E Rl ω H (f () S) Q := by
  cases m with
  | append =>
    cases v with
    | ref i =>
      simp only [Rep] at r
      obtain ⟨a, ea, e⟩ := r
      unfold M.bind recv at h
      cases q : S[i]? with
      | none => simp only [q] at h; exact False.elim h
      | some c =>
        cases c with
        | lst xs =>
          simp only [q] at h
          obtain ⟨o, ho, vs, eo, _, _⟩ := s.cell i _ a q ea
          subst eo e
          exact ⟨.inl ⟨rfl, vs, .inl (.inl ho)⟩, h⟩
        | tab p0 q0 => simp only [q] at h; exact False.elim h
    | _ => exact False.elim h
  | upper =>
    cases v with
    | str z => rw [r.str.1]; exact ⟨rfl, h⟩
    | _ => exact False.elim h
  | lower =>
    cases v with
    | str z => rw [r.str.1]; exact ⟨rfl, h⟩
    | _ => exact False.elim h
  | join =>
    cases v with
    | str z => rw [r.str.1]; exact ⟨rfl, h⟩
    | _ => exact False.elim h
def MtS (X : Cx) (E : XK) (id : String) (m : PV → List PV → M PV) : Prop :=
  ∃ r, MtR X id r ∧ ∀ (ω : Wd) (S : Store) (H : Hp) (o : PV) (vs : List PV) (x : V) (xs : List V) (Q : VK), RelSt X.K ω S H → Rep X.K ω H o x → Reps X.K ω H vs xs → Post X.K E (Rep X.K) ω H (m o vs S) Q → r x xs H Q
theorem upC_eq : upC = up1 := rfl
theorem loC_eq : loC = lo1 := rfl
theorem ms_append : MtS X E "list.append" (opMt .append) := by
  refine ⟨_, mt_append, fun ω S H o vs x xs Q s ro r h => ?_⟩
  cases o with
  | ref i =>
    match vs, r, h with
    | [v], r, h =>
      obtain ⟨y, rfl, rv⟩ := reps1 r
      simp only [Rep] at ro
      obtain ⟨a, ea, e⟩ := ro
      unfold opMt at h
      cases q : S[i]? with
      | none => simp only [q] at h; exact False.elim h
      | some c =>
        cases c with
        | lst ys =>
          simp only [q] at h
          by_cases g : ys.length < lineN
          · rw [if_pos g] at h
            obtain ⟨o, ho, ws, eo, hl, hr⟩ := s.cell i _ a q ea
            subst eo
            refine ⟨a, ws, y, e, rfl, ho, by rw [hr.length]; exact g, ?_⟩
            refine h ω _ _ (le_put (List.mem_of_getElem? ea)) (s.put ea ⟨ws ++ [y], rfl, ?_, hr.append (.one rv)⟩) rep_non
            rw [List.length_append]
            exact g
          · rw [if_neg g] at h
            exact False.elim h
        | tab p0 q0 => simp only [q] at h; exact False.elim h
    | [], _, h => exact False.elim h
    | _ :: _ :: _, _, h => exact False.elim h
  | _ => exact False.elim h
theorem ms_upper : MtS X E "str.upper" (opMt .upper) := by
  refine ⟨_, mt_upper, fun ω S H o vs x xs Q s ro r h => ?_⟩
  cases o with
  | str z =>
    match vs, r, h with
    | [], r, h =>
      simp only [Reps] at r
      obtain ⟨g, h⟩ := Post.guard h
      rw [Bool.and_eq_true] at g
      have g2 := of_decide_eq_true g.2
      refine ⟨_, ro.str.1, r, by rw [toS_length]; omega, ?_⟩
      rw [show Txt.upper (toS z) = toS (z.map upC) from SX.upper_S g.1]
      exact Post.ok h s (rep_str (by rw [List.length_map]; exact Nat.le_trans g2 (by decide)))
    | _ :: _, _, h => exact False.elim h
  | _ => exact False.elim h
theorem ms_lower : MtS X E "str.lower" (opMt .lower) := by
  refine ⟨_, mt_lower, fun ω S H o vs x xs Q s ro r h => ?_⟩
  cases o with
  | str z =>
    match vs, r, h with
    | [], r, h =>
      simp only [Reps] at r
      obtain ⟨g, h⟩ := Post.guard h
      rw [Bool.and_eq_true] at g
      have g2 := of_decide_eq_true g.2
      refine ⟨_, ro.str.1, r, by rw [toS_length]; omega, ?_⟩
      rw [show Txt.lower (toS z) = toS (z.map loC) from SX.lower_S g.1]
      exact Post.ok h s (rep_str (by rw [List.length_map]; exact Nat.le_trans g2 (by decide)))
    | _ :: _, _, h => exact False.elim h
  | _ => exact False.elim h
theorem join_eqS (s : List Nat) : ∀ ts : List (List Nat), Str.join (toS s) (ts.map toS) = toS (List.intercalate s ts)
  | [] => rfl
  | [t] => by
    show toS t = toS (List.intercalate s [t])
    simp [List.intercalate]
  | t :: u :: r => by
    have ih := join_eqS s (u :: r)
    show toS t ++ toS s ++ Str.join (toS s) ((u :: r).map toS) = _
    rw [ih, ← toS_append, ← toS_append]
    congr 1
    simp [List.intercalate, List.intersperse, List.append_assoc]
theorem join_len (s : List Nat) : ∀ ts : List (List Nat), (List.intercalate s ts).length ≤ (ts.map (·.length)).sum + ts.length * s.length
  | [] => by simp [List.intercalate]
  | [t] => by simp [List.intercalate]
  | t :: u :: r => by
    have ih := join_len s (u :: r)
    have e : List.intercalate s (t :: u :: r) = t ++ s ++ List.intercalate s (u :: r) := by simp [List.intercalate, List.intersperse, List.append_assoc]
    rw [e]
    simp only [List.length_append, List.map_cons, List.sum_cons, List.length_cons, Nat.add_mul] at ih ⊢
    omega
theorem ms_join : MtS X E "str.join" (opMt .join) := by
  refine ⟨_, mt_join, fun ω S H o vs x xs Q s ro r h => ?_⟩
  cases o with
  | str z =>
    match vs, r, h with
    | [a], r, h =>
      obtain ⟨y, rfl, ra⟩ := reps1 r
      obtain ⟨ys, p, ws, e, hs, hl, hr, h⟩ := viewL_ok s ra h
      subst e
      cases q : Mi.texts ys with
      | none => rw [q] at h; exact False.elim h
      | some ts =>
        rw [q] at h
        have h' : Post X.K E (Rep X.K) ω H (guardM (decide ((ts.map (·.length)).sum + ts.length * z.length ≤ lineN)) (.str (List.intercalate z ts)) S) Q := h
        obtain ⟨g, h'⟩ := Post.guard h'
        have g' := of_decide_eq_true g
        rw [hr.texts q] at hs
        refine ⟨_, p, ts.map toS, ro.str.1, rfl, .inl hs, ?_, ?_⟩
        · have e1 : ((ts.map toS).map (·.length)).sum = (ts.map (·.length)).sum := by
            rw [List.map_map]
            exact congrArg List.sum (List.map_congr_left fun t _ => toS_length t)
          rw [e1, List.length_map, toS_length]
          exact g'
        · rw [TL.join_eq, join_eqS]
          exact Post.ok h' s (rep_str (Nat.le_trans (join_len z ts) g'))
    | [], _, h => exact False.elim h
    | _ :: _ :: _, _, h => exact False.elim h
  | _ => exact False.elim h
theorem ms_all (m : Mt) : MtS X E (mtId m) (opMt m) := by
  cases m with
  | append => exact ms_append
  | upper => exact ms_upper
  | lower => exact ms_lower
  | join => exact ms_join
def biName : Bi → Str
  | .len => "len" | .list => "list" | .tuple => "tuple" | .sum => "sum" | .max => "max" | .min => "min" | .all => "all" | .any => "any" | .int => "int" | .str => "str" | .sorted => "sorted"
end
end Mi
set_option Elab.async false
set_option linter.all false
set_option maxRecDepth 100000
namespace Mi
open PySem PySem.Spec PyProof.Rows L2
theorem peImp {X : Cx} {x : Expr} {t t' : TE} (h : PE X x t) (f : ∀ σ H Q, t' σ H Q → t σ H Q) : PE X x t' := ⟨fun pins s σ H Q I q => h.run pins s σ H Q I (f σ H Q q)⟩
theorem ptImp {X : Cx} {x : Expr} {t t' : TT} (h : PT X x t) (f : ∀ σ H Q, t' σ H Q → t σ H Q) : PT X x t' := ⟨fun pins s σ H Q I q => h.run pins s σ H Q I (f σ H Q q)⟩
theorem pwImp {X : Cx} {x : Expr} {t t' : TT} (h : PW X x t) (f : ∀ σ H Q, t' σ H Q → t σ H Q) : PW X x t' := ⟨fun w pins s σ H Q I q => h.run w pins s σ H Q I (f σ H Q q)⟩
theorem paImp {X : Cx} {x : List Expr} {t t' : TA} (h : PA X x t) (f : ∀ σ H Q, t' σ H Q → t σ H Q) : PA X x t' := ⟨fun pos pins s σ H Q I q => h.run pos pins s σ H Q I (f σ H Q q)⟩
theorem poImp {X : Cx} {x : Option Expr} {t t' : TO} (h : PO X x t) (f : ∀ σ H Q, t' σ H Q → t σ H Q) : PO X x t' := ⟨fun pins s σ H Q I q => h.run pins s σ H Q I (f σ H Q q)⟩
theorem ptsImp {X : Cx} {x : List Expr} {t t' : TT} (h : PTs X x t) (f : ∀ σ H Q, t' σ H Q → t σ H Q) : PTs X x t' := ⟨fun pins s σ H Q I q => h.run pins s σ H Q I (f σ H Q q)⟩
theorem piImp {X : Cx} {g x : Expr} {t t' : TI} (h : PI X g x t) (f : ∀ σ H Q, t' σ H Q → t σ H Q) : PI X g x t' := ⟨fun pins s σ H Q I q => h.run pins s σ H Q I (f σ H Q q)⟩

/-- the first step of a run, then the rest -/
theorem rd_bind {α β γ δ : Type} {K : PySem.W.Frag} {E : XK} {Rl : Wd → Hp → α → β → Prop} {Rl2 : Wd → Hp → γ → δ → Prop} {m : Env → M α} {f : Env → α → M γ} {σ : L2.St} {H : Hp} {Q : δ → Hp → Prop}
    (h : rd K E Rl2 (fun env => M.bind (m env) (f env)) σ H Q) :
    rd K E Rl m σ H (fun x H1 => ∃ ω1 S1 env v, RelSt K ω1 S1 H1 ∧ RelEnv K ω1 H1 env σ ∧ Rl ω1 H1 v x ∧ Post K E Rl2 ω1 H1 (f env v S1) Q) := by
  obtain ⟨ω, S, env, hS, hE, hP⟩ := h
  exact ⟨ω, S, env, hS, hE, (Post.bind hP).imp fun x H1 ⟨ω1, S1, v, l, s1, r, p⟩ => ⟨ω1, S1, env, v, s1, hE.mono l, r, p⟩⟩
/-- a step in the middle -/
theorem rd_next {α β γ δ : Type} {K : PySem.W.Frag} {E : XK} {Rl : Wd → Hp → α → β → Prop} {Rl2 : Wd → Hp → γ → δ → Prop} {m : Env → M α} {f : α → M γ} {σ : L2.St} {H : Hp} {Q : δ → Hp → Prop} {ω : Wd} {S : Store} {env : Env}
    (hS : RelSt K ω S H) (hE : RelEnv K ω H env σ) (h : Post K E Rl2 ω H (M.bind (m env) f S) Q) :
    rd K E Rl m σ H (fun x H1 => ∃ ω1 S1 v, Le ω H ω1 H1 ∧ RelSt K ω1 S1 H1 ∧ RelEnv K ω1 H1 env σ ∧ Rl ω1 H1 v x ∧ Post K E Rl2 ω1 H1 (f v S1) Q) :=
  ⟨ω, S, env, hS, hE, (Post.bind h).imp fun x H1 ⟨ω1, S1, v, l, s1, r, p⟩ => ⟨ω1, S1, v, l, s1, hE.mono l, r, p⟩⟩

section
variable {X : Cx} {E : XK} {pos : Pos} {ma mb mc : Env → M PV} {a b c : Expr}
theorem e_var {i : Nat} {x : Str} (hN : X.N[i]? = some x) (hv : Vis X.env.scope x) (hd : (x == ("__debug__" : Str)) = false) (hcd : (x == ("__classdict__" : Str)) = false) : PE X (.Name x pos) (tE X.K E (fun env => getV env i)) :=
  peImp (pe_var hN hv hd hcd) fun σ H Q ⟨ω, S, env, hS, hE, hP⟩ => by
    unfold getV at hP
    cases q : env[i]? with
    | none => simp only [q] at hP; exact False.elim hP
    | some o =>
      cases o with
      | none => simp only [q] at hP; exact False.elim hP
      | some v =>
        simp only [q] at hP
        obtain ⟨y, e, r⟩ := hE.get i v q
        exact ⟨y, e, Post.ok hP hS r⟩
theorem e_const {v : PV} {y : V} {x : Expr} (h : PE X x (tC y)) (r : ∀ ω H, Rep X.K ω H v y) : PE X x (tE X.K E (fun _ => M.pure v)) :=
  peImp h fun σ H Q ⟨ω, S, env, hS, hE, hP⟩ => Post.ok hP hS (r ω H)
theorem rdImp {α β : Type} {K : PySem.W.Frag} {Rl : Wd → Hp → α → β → Prop} {m : Env → M α} {σ : L2.St} {H : Hp} {Q Q' : β → Hp → Prop} (h : rd K E Rl m σ H Q) (f : ∀ x H', Q x H' → Q' x H') : rd K E Rl m σ H Q' := by
  obtain ⟨ω, S, env, hS, hE, hP⟩ := h
  exact ⟨ω, S, env, hS, hE, hP.imp f⟩
theorem rdCongr {α β : Type} {K : PySem.W.Frag} {Rl : Wd → Hp → α → β → Prop} {m m' : Env → M α} {σ : L2.St} {H : Hp} {Q : β → Hp → Prop} (h : rd K E Rl m σ H Q) (e : ∀ env, m env = m' env) : rd K E Rl m' σ H Q := by
  have : m = m' := funext e
  subst this
  exact h
theorem bind_ok {α β : Type} {m : M α} {f : α → M β} {S S' : Store} {a : α} (h : m S = .ok a S') : M.bind m f S = f a S' := by unfold M.bind; rw [h]
theorem bind_exc {α β : Type} {m : M α} {f : α → M β} {S S' : Store} {c : Exc} (h : m S = .exc c S') : M.bind m f S = .exc c S' := by unfold M.bind; rw [h]
theorem bind_stuck {α β : Type} {m : M α} {f : α → M β} {S : Store} (h : m S = .stuck) : M.bind m f S = .stuck := by unfold M.bind; rw [h]
theorem e_bin {op : BOp} (ha : PE X a (tE X.K E ma)) (hb : PE X b (tE X.K E mb)) : PE X (.BinOp a (opOf op) b pos) (tE X.K E (fun env => M.bind (ma env) fun x => M.bind (mb env) fun y => opB op x y)) := by
  obtain ⟨r, ho, hr⟩ := os_bin (X := X) (E := E) op
  refine peImp (pe_op ho ha hb) fun σ H Q h => ?_
  refine rdImp (rd_bind (Rl := Rep X.K) h) fun x H1 ⟨ω1, S1, env1, v, s1, e1, r1, p1⟩ => ?_
  exact rdImp (rd_next (Rl := Rep X.K) s1 e1 p1) fun y H2 ⟨ω2, S2, w, l2, s2, e2, r2, p2⟩ => hr ω2 S2 H2 v w x y Q s2 (r1.mono l2) r2 p2
theorem e_neg (ha : PE X a (tE X.K E ma)) : PE X (.UnaryOp .USub a pos) (tE X.K E (fun env => M.bind (ma env) fun x => M.bind (ofInt x) fun i => M.pure (.int (-i)))) := by
  refine peImp (pe_un un_neg ha) fun σ H Q h => ?_
  refine rdImp (rd_bind (Rl := Rep X.K) h) fun x H1 ⟨ω1, S1, env1, v, s1, e1, r1, p1⟩ => ?_
  cases v with
  | int i => exact ⟨i, r1.int, Post.ok (v := PV.int (-i)) p1 s1 rep_int⟩
  | _ => exact False.elim p1
/-- a bool is asked -/
theorem ofBl_ok {α β : Type} {K : PySem.W.Frag} {Rl : Wd → Hp → α → β → Prop} {ω : Wd} {H : Hp} {S : Store} {Q : β → Hp → Prop} {v : PV} {x : V} {f : Bool → M α} (r : Rep K ω H v x) (h : Post K E Rl ω H (M.bind (ofBl v) f S) Q) :
    ∃ k, x = .bl k ∧ v = .bl k ∧ Post K E Rl ω H (f k S) Q := by
  cases v with
  | bl k => exact ⟨k, r.bl, rfl, h⟩
  | _ => exact False.elim h
theorem e_not (ha : PE X a (tE X.K E ma)) : PE X (.UnaryOp .Not a pos) (tE X.K E (fun env => M.bind (ma env) fun x => M.bind (ofBl x) fun k => M.pure (.bl (!k)))) := by
  refine peImp (pe_not ha) fun σ H Q h => ?_
  refine rdImp (rd_bind (Rl := Rep X.K) h) fun x H1 ⟨ω1, S1, env1, v, s1, e1, r1, p1⟩ => ?_
  obtain ⟨k, ex, _, p1⟩ := ofBl_ok r1 p1
  exact ⟨k, ex, Post.ok (v := PV.bl (!k)) p1 s1 rep_bl⟩
theorem e_and {rest : List Expr} (ha : PE X a (tE X.K E ma)) (hb : PE X (.BoolOp .And (b :: rest) pos) (tE X.K E mb)) : PE X (.BoolOp .And (a :: b :: rest) pos) (tE X.K E (fun env => M.bind (ma env) fun x => M.bind (ofBl x) fun k => if k then mb env else M.pure (.bl false))) := by
  refine peImp (pe_and ha hb) fun σ H Q h => ?_
  refine rdImp (rd_bind (Rl := Rep X.K) h) fun x H1 ⟨ω1, S1, env1, v, s1, e1, r1, p1⟩ => ?_
  obtain ⟨k, ex, _, p1⟩ := ofBl_ok r1 p1
  refine ⟨k, ex, ?_⟩
  cases k with
  | true => rw [if_pos rfl]; exact ⟨ω1, S1, env1, s1, e1, p1⟩
  | false => rw [if_neg (by decide)]; exact Post.ok (v := PV.bl false) p1 s1 rep_bl
theorem e_or {rest : List Expr} (ha : PE X a (tE X.K E ma)) (hb : PE X (.BoolOp .Or (b :: rest) pos) (tE X.K E mb)) : PE X (.BoolOp .Or (a :: b :: rest) pos) (tE X.K E (fun env => M.bind (ma env) fun x => M.bind (ofBl x) fun k => if k then M.pure (.bl true) else mb env)) := by
  refine peImp (pe_or ha hb) fun σ H Q h => ?_
  refine rdImp (rd_bind (Rl := Rep X.K) h) fun x H1 ⟨ω1, S1, env1, v, s1, e1, r1, p1⟩ => ?_
  obtain ⟨k, ex, _, p1⟩ := ofBl_ok r1 p1
  refine ⟨k, ex, ?_⟩
  cases k with
  | true => rw [if_pos rfl]; exact Post.ok (v := PV.bl true) p1 s1 rep_bl
  | false => rw [if_neg (by decide)]; exact ⟨ω1, S1, env1, s1, e1, p1⟩
theorem e_cmp {op : COp} (hu : X.A.units + 65 < cLine) (hm : behindInMarks (copOf op) b = false) (ha : PE X a (tE X.K E ma)) (hb : PE X b (tE X.K E mb)) :
    PE X (.Compare a [copOf op] [b] pos) (tE X.K E (fun env => M.bind (ma env) fun x => M.bind (mb env) fun y => M.bind (opC op x y) fun c => M.pure (.bl c))) := by
  obtain ⟨r, ho, hr⟩ := os_cmp (X := X) (E := E) hu op
  refine peImp (pe_cmpR ho ha hb hm) fun σ H Q h => ?_
  refine rdImp (rd_bind (Rl := Rep X.K) h) fun x H1 ⟨ω1, S1, env1, v, s1, e1, r1, p1⟩ => ?_
  exact rdImp (rd_next (Rl := Rep X.K) s1 e1 p1) fun y H2 ⟨ω2, S2, w, l2, s2, e2, r2, p2⟩ => hr ω2 S2 H2 v w x y Q s2 (r1.mono l2) r2 p2
/-- a test over a value's run -/
abbrev tst (m : Env → M PV) : Env → M Bool := fun env => M.bind (m env) ofBl
theorem ofBl_end {ω : Wd} {H : Hp} {S : Store} {Q : Bool → Hp → Prop} {K : PySem.W.Frag} {v : PV} {x : V} (s : RelSt K ω S H) (r : Rep K ω H v x) (h : Post K E eqR ω H (ofBl v S) Q) : ∃ k, x = .bl k ∧ Q k H := by
  cases v with
  | bl k => exact ⟨k, r.bl, Post.ok (v := k) h s rfl⟩
  | _ => exact False.elim h
theorem t_of {x : Expr} (h : PE X x (tE X.K E ma)) (he : ∀ whole, isTrue x X.env whole = (do let v ← whole; standAt x.pos; holding [v] (truthy v))) : PT X x (tT X.K E (tst ma)) := by
  refine ptImp (pt_val h he) fun σ H Q h => ?_
  refine rdImp (rd_bind (Rl := Rep X.K) (f := fun _ => ofBl) h) fun x H1 ⟨ω1, S1, env1, v, s1, e1, r1, p1⟩ => ?_
  exact ofBl_end s1 r1 p1
theorem opC_ok {op : COp} {ω : Wd} {H : Hp} {S : Store} {Q : Bool → Hp → Prop} {K : PySem.W.Frag} {v w : PV} (h : Post K E eqR ω H (M.bind (M.bind (opC op v w) fun c => M.pure (PV.bl c)) ofBl S) Q) :
    Post K E (Rep K) ω H (cmpM op v w S) (fun z H' => ∃ k, z = .bl k ∧ Q k H') := by
  unfold cmpM M.bind at *
  cases q : opC op v w S with
  | ok k S' =>
    simp only [q] at h ⊢
    exact fun ω' H' x l s r => ⟨k, r.bl, h ω' H' k l s rfl⟩
  | exc c S' => simp only [q] at h ⊢; exact h
  | stuck => simp only [q] at h ⊢; exact h
theorem t_cmp {op : COp} (hu : X.A.units + 65 < cLine) (hm : behindInMarks (copOf op) b = false) (ha : PE X a (tE X.K E ma)) (hb : PE X b (tE X.K E mb)) :
    PT X (.Compare a [copOf op] [b] pos) (tT X.K E (tst (fun env => M.bind (ma env) fun x => M.bind (mb env) fun y => M.bind (opC op x y) fun c => M.pure (.bl c)))) := by
  obtain ⟨r, ho, hr⟩ := os_cmp (X := X) (E := E) hu op
  refine ptImp (pt_cmpR ho ha hb hm) fun σ H Q h => ?_
  have h' : rd X.K E eqR (fun env => M.bind (ma env) fun x => M.bind (mb env) fun y => M.bind (M.bind (opC op x y) fun c => M.pure (PV.bl c)) ofBl) σ H Q := by
    refine rdCongr h fun env => ?_
    simp only [tst, M.bind_assoc]
    try rfl
  refine rdImp (rd_bind (Rl := Rep X.K) h') fun x H1 ⟨ω1, S1, env1, v, s1, e1, r1, p1⟩ => ?_
  exact rdImp (rd_next (Rl := Rep X.K) s1 e1 p1) fun y H2 ⟨ω2, S2, w, l2, s2, e2, r2, p2⟩ => hr ω2 S2 H2 v w x y _ s2 (r1.mono l2) r2 (opC_ok p2)
theorem t_not (ha : PT X a (tT X.K E (tst ma))) : PT X (.UnaryOp .Not a pos) (tT X.K E (tst (fun env => M.bind (ma env) fun x => M.bind (ofBl x) fun k => M.pure (.bl (!k))))) := by
  refine ptImp (pt_not ha) fun σ H Q h => ?_
  have h' : rd X.K E eqR (fun env => M.bind (tst ma env) fun k => M.pure (!k)) σ H Q := by
    refine rdCongr h fun env => ?_
    simp only [tst, M.bind_assoc]
    try rfl
  refine rdImp (rd_bind (Rl := eqR) h') fun x H1 ⟨ω1, S1, env1, v, s1, e1, r1, p1⟩ => ?_
  have r1 : v = x := r1
  subst r1
  exact Post.ok p1 s1 rfl
theorem w_and1 (ha : PT X a (tT X.K E (tst ma))) : PW X (.BoolOp .And [a] pos) (tT X.K E (tst ma)) := pw_and1 ha
theorem w_or1 (ha : PT X a (tT X.K E (tst ma))) : PW X (.BoolOp .Or [a] pos) (tT X.K E (tst ma)) := pw_or1 ha
theorem w_and {rest : List Expr} (ha : PT X a (tT X.K E (tst ma))) (hb : PW X (.BoolOp .And (b :: rest) pos) (tT X.K E (tst mb))) :
    PW X (.BoolOp .And (a :: b :: rest) pos) (tT X.K E (tst (fun env => M.bind (ma env) fun x => M.bind (ofBl x) fun k => if k then mb env else M.pure (.bl false)))) := by
  refine pwImp (pw_and ha hb) fun σ H Q h => ?_
  have h' : rd X.K E eqR (fun env => M.bind (tst ma env) fun k => M.bind (if k then mb env else M.pure (.bl false)) ofBl) σ H Q := by
    refine rdCongr h fun env => ?_
    simp only [tst, M.bind_assoc]
    try rfl
  refine rdImp (rd_bind (Rl := eqR) h') fun x H1 ⟨ω1, S1, env1, v, s1, e1, r1, p1⟩ => ?_
  have r1 : v = x := r1
  subst r1
  cases v with
  | true => rw [if_pos rfl]; exact ⟨ω1, S1, env1, s1, e1, p1⟩
  | false => rw [if_neg (by decide)]; exact Post.ok (v := false) p1 s1 rfl
theorem w_or {rest : List Expr} (ha : PT X a (tT X.K E (tst ma))) (hb : PW X (.BoolOp .Or (b :: rest) pos) (tT X.K E (tst mb))) :
    PW X (.BoolOp .Or (a :: b :: rest) pos) (tT X.K E (tst (fun env => M.bind (ma env) fun x => M.bind (ofBl x) fun k => if k then M.pure (.bl true) else mb env))) := by
  refine pwImp (pw_or ha hb) fun σ H Q h => ?_
  have h' : rd X.K E eqR (fun env => M.bind (tst ma env) fun k => M.bind (if k then M.pure (.bl true) else mb env) ofBl) σ H Q := by
    refine rdCongr h fun env => ?_
    simp only [tst, M.bind_assoc]
    try rfl
  refine rdImp (rd_bind (Rl := eqR) h') fun x H1 ⟨ω1, S1, env1, v, s1, e1, r1, p1⟩ => ?_
  have r1 : v = x := r1
  subst r1
  cases v with
  | true => rw [if_pos rfl]; exact Post.ok (v := true) p1 s1 rfl
  | false => rw [if_neg (by decide)]; exact ⟨ω1, S1, env1, s1, e1, p1⟩
/-- a op b op' c -/
theorem chain_ok {op op' : COp} {r r' : R2} {σ : L2.St} {H : Hp} {Q : VK}
    (hr : ∀ (ω : Wd) (S : Store) (H : Hp) (v w : PV) (x y : V) (Q : VK), RelSt X.K ω S H → Rep X.K ω H v x → Rep X.K ω H w y → Post X.K E (Rep X.K) ω H (cmpM op v w S) Q → r x y H Q)
    (hr' : ∀ (ω : Wd) (S : Store) (H : Hp) (v w : PV) (x y : V) (Q : VK), RelSt X.K ω S H → Rep X.K ω H v x → Rep X.K ω H w y → Post X.K E (Rep X.K) ω H (cmpM op' v w S) Q → r' x y H Q)
    (h : rd X.K E (Rep X.K) (fun env => M.bind (ma env) fun x => M.bind (mb env) fun y => M.bind (opC op x y) fun k => if k then M.bind (mc env) fun z => M.bind (opC op' y z) fun k' => M.pure (PV.bl k') else M.pure (PV.bl false)) σ H Q) :
    tChain r r' (tE X.K E ma) (tE X.K E mb) (tE X.K E mc) σ H Q := by
  refine rdImp (rd_bind (Rl := Rep X.K) h) fun x H1 ⟨ω1, S1, env1, v, s1, e1, r1, p1⟩ => ?_
  refine rdImp (rd_next (Rl := Rep X.K) s1 e1 p1) fun y H2 ⟨ω2, S2, w, l2, s2, e2, r2, p2⟩ => hr ω2 S2 H2 v w x y _ s2 (r1.mono l2) r2 ?_
  cases q : opC op v w S2 with
  | exc c S' => rw [bind_exc q] at p2; rw [show cmpM op v w S2 = .exc c S' from bind_exc q]; exact p2
  | stuck => rw [bind_stuck q] at p2; exact False.elim p2
  | ok k S' =>
    rw [bind_ok q] at p2
    rw [show cmpM op v w S2 = .ok (.bl k) S' from bind_ok q]
    refine fun ω' H' z l s rz => ⟨k, rz.bl, ?_⟩
    cases k with
    | true =>
      rw [if_pos rfl] at p2 ⊢
      exact rdImp (rd_next (Rl := Rep X.K) s (e2.mono l) (p2.mono l)) fun z H4 ⟨ω4, S4, u, l4, s4, e4, r4, p4⟩ => hr' ω4 S4 H4 w u y z Q s4 (r2.mono (l.trans l4)) r4 p4
    | false =>
      rw [if_neg (by decide)] at p2 ⊢
      exact Post.ok (v := PV.bl false) (p2.mono l) s rep_bl
theorem e_chain {op op' : COp} (hu : X.A.units + 65 < cLine) (hm : lastMarks [copOf op, copOf op'] [b, c] = false) (ha : PE X a (tE X.K E ma)) (hb : PE X b (tE X.K E mb)) (hc : PE X c (tE X.K E mc)) :
    PE X (.Compare a [copOf op, copOf op'] [b, c] pos) (tE X.K E (fun env => M.bind (ma env) fun x => M.bind (mb env) fun y => M.bind (opC op x y) fun k => if k then M.bind (mc env) fun z => M.bind (opC op' y z) fun k' => M.pure (PV.bl k') else M.pure (PV.bl false))) := by
  obtain ⟨r, ho, hr⟩ := os_cmp (X := X) (E := E) hu op
  obtain ⟨r', ho', hr'⟩ := os_cmp (X := X) (E := E) hu op'
  exact peImp (pe_chain ho ho' ha hb hc hm) fun σ H Q h => chain_ok hr hr' h
theorem bl_end {m : Env → M PV} {σ : L2.St} {H : Hp} {Q : Bool → Hp → Prop} (h : rd X.K E eqR (tst m) σ H Q) : rd X.K E (Rep X.K) m σ H (fun z H' => ∃ k, z = .bl k ∧ Q k H') :=
  rdImp (rd_bind (Rl := Rep X.K) (f := fun _ => ofBl) h) fun x H1 ⟨ω1, S1, env1, v, s1, e1, r1, p1⟩ => ofBl_end s1 r1 p1
theorem t_chain {op op' : COp} (hu : X.A.units + 65 < cLine) (hm : lastMarks [copOf op, copOf op'] [b, c] = false) (ha : PE X a (tE X.K E ma)) (hb : PE X b (tE X.K E mb)) (hc : PE X c (tE X.K E mc)) :
    PT X (.Compare a [copOf op, copOf op'] [b, c] pos) (tT X.K E (tst (fun env => M.bind (ma env) fun x => M.bind (mb env) fun y => M.bind (opC op x y) fun k => if k then M.bind (mc env) fun z => M.bind (opC op' y z) fun k' => M.pure (PV.bl k') else M.pure (PV.bl false)))) := by
  obtain ⟨r, ho, hr⟩ := os_cmp (X := X) (E := E) hu op
  obtain ⟨r', ho', hr'⟩ := os_cmp (X := X) (E := E) hu op'
  exact ptImp (pt_chain ho ho' ha hb hc hm) fun σ H Q h => chain_ok hr hr' (bl_end h)
theorem e_ite (hc : PT X c (tT X.K E (tst mc))) (ha : PE X a (tE X.K E ma)) (hb : PE X b (tE X.K E mb)) : PE X (.IfExp c a b pos) (tE X.K E (fun env => M.bind (mc env) fun x => M.bind (ofBl x) fun k => if k then ma env else mb env)) := by
  refine peImp (pe_ifExp hc ha hb) fun σ H Q h => ?_
  have h' : rd X.K E (Rep X.K) (fun env => M.bind (tst mc env) fun k => if k then ma env else mb env) σ H Q := by
    refine rdCongr h fun env => ?_
    simp only [tst, M.bind_assoc]
    try rfl
  refine rdImp (rd_bind (Rl := eqR) h') fun x H1 ⟨ω1, S1, env1, v, s1, e1, r1, p1⟩ => ?_
  have r1 : v = x := r1
  subst r1
  cases v with
  | true => rw [if_pos rfl]; exact ⟨ω1, S1, env1, s1, e1, p1⟩
  | false => rw [if_neg (by decide)]; exact ⟨ω1, S1, env1, s1, e1, p1⟩
variable {es : List Expr} {mes : Env → M (List PV)}
theorem a_nil : PA X [] (tA X.K E (fun _ => M.pure [])) := paImp pa_nil fun σ H Q ⟨ω, S, env, hS, hE, hP⟩ => Post.ok hP hS .nil
theorem a_cons (hs : starEach (a :: es) X.env = (false, eval a X.env) :: starEach es X.env) (ha : PE X a (tE X.K E ma)) (hr : PA X es (tA X.K E mes)) :
    PA X (a :: es) (tA X.K E (fun env => M.bind (ma env) fun x => M.bind (mes env) fun xs => M.pure (x :: xs))) := by
  refine paImp (pa_cons ha hr hs) fun σ H Q h => ?_
  refine rdImp (rd_bind (Rl := Rep X.K) h) fun x H1 ⟨ω1, S1, env1, v, s1, e1, r1, p1⟩ => ?_
  exact rdImp (rd_next (Rl := Reps X.K) s1 e1 p1) fun y H2 ⟨ω2, S2, w, l2, s2, e2, r2, p2⟩ => Post.ok p2 s2 (.cons (r1.mono l2) r2)
/-- displays: the items are as many as the written ones -/
theorem e_tup {k : Nat} (hl : ∀ env S xs S', mes env S = .ok xs S' → xs.length ≤ sizeLine) (h : PA X es (tA X.K E mes)) : PE X (.Tuple es k pos) (tE X.K E (fun env => M.bind (mes env) fun xs => M.pure (.tup xs))) := by
  refine peImp (pe_tup h) fun σ H Q ⟨ω, S, env, hS, hE, hP⟩ => ⟨ω, S, env, hS, hE, ?_⟩
  have hP : Post X.K E (Rep X.K) ω H (M.bind (mes env) (fun xs => M.pure (.tup xs)) S) Q := hP
  cases q : mes env S with
  | ok xs S1 =>
    rw [bind_ok q] at hP
    refine fun ω' H' vs l s r => ⟨by rw [r.length]; exact hl env S xs S1 q, fun p hp => ?_⟩
    exact Post.newT (hP.mono l) s (hl env S xs S1 q) r hp
  | exc c S1 => rw [bind_exc q] at hP; exact hP
  | stuck => rw [bind_stuck q] at hP; exact False.elim hP
theorem e_lst {mu : Bool} (hl : ∀ env S xs S', mes env S = .ok xs S' → xs.length ≤ sizeLine) (h : PA X es (tA X.K E mes)) : PE X (.List es pos) (tE X.K E (fun env => M.bind (mes env) fun xs => newL mu xs)) := by
  refine peImp (pe_lst h) fun σ H Q ⟨ω, S, env, hS, hE, hP⟩ => ⟨ω, S, env, hS, hE, ?_⟩
  have hP : Post X.K E (Rep X.K) ω H (M.bind (mes env) (fun xs => newL mu xs) S) Q := hP
  cases q : mes env S with
  | ok xs S1 =>
    rw [bind_ok q] at hP
    refine fun ω' H' vs l s r => ⟨by rw [r.length]; exact hl env S xs S1 q, fun p hp => ?_⟩
    exact Post.newL (Post.mono hP l) s (hl env S xs S1 q) r hp
  | exc c S1 => rw [bind_exc q] at hP; exact hP
  | stuck => rw [bind_stuck q] at hP; exact False.elim hP
theorem e_idx (hp : PlainIx b) (ha : PE X a (tE X.K E ma)) (hb : PE X b (tE X.K E mb)) : PE X (.Subscript a b pos) (tE X.K E (fun env => M.bind (ma env) fun x => M.bind (mb env) fun y => opIx x y)) := by
  refine peImp (pe_ix ix_seq ha hb hp) fun σ H Q h => ?_
  refine rdImp (rd_bind (Rl := Rep X.K) h) fun x H1 ⟨ω1, S1, env1, v, s1, e1, r1, p1⟩ => ?_
  exact rdImp (rd_next (Rl := Rep X.K) s1 e1 p1) fun y H2 ⟨ω2, S2, w, l2, s2, e2, r2, p2⟩ => ix_ok s2 (r1.mono l2) r2 p2
variable {mlo mhi : Env → M (Option Int)} {lo hi : Option Expr} {p2 : Pos}
theorem o_none : PO X none (tO X.K E (fun _ => M.pure none)) := poImp po_none fun σ H Q ⟨ω, S, env, hS, hE, hP⟩ => Post.ok (v := (none : Option Int)) hP hS rfl
theorem o_some (ha : PE X a (tE X.K E ma)) : PO X (some a) (tO X.K E (fun env => M.bind (ma env) fun x => M.bind (ofInt x) fun i => M.pure (some i))) := by
  refine poImp (po_some ha) fun σ H Q h => ?_
  refine rdImp (rd_bind (Rl := Rep X.K) h) fun x H1 ⟨ω1, S1, env1, v, s1, e1, r1, p1⟩ => ?_
  cases v with
  | int i => exact ⟨i, r1.int, Post.ok (v := some i) p1 s1 rfl⟩
  | _ => exact False.elim p1
theorem e_slc (ha : PE X a (tE X.K E ma)) (hlo : PO X lo (tO X.K E mlo)) (hhi : PO X hi (tO X.K E mhi)) :
    PE X (.Subscript a (.Slice lo hi none p2) pos) (tE X.K E (fun env => M.bind (ma env) fun x => M.bind (mlo env) fun l => M.bind (mhi env) fun h => opSl x l h)) := by
  refine peImp (pe_slice sl3 ha hlo hhi) fun σ H Q h => ?_
  refine rdImp (rd_bind (Rl := Rep X.K) h) fun x H1 ⟨ω1, S1, env1, v, s1, e1, r1, p1⟩ => ?_
  refine rdImp (rd_next (Rl := eqR) s1 e1 p1) fun l H2 ⟨ω2, S2, l', le2, s2, e2, r2, p2⟩ => ?_
  refine rdImp (rd_next (Rl := eqR) s2 e2 p2) fun u H3 ⟨ω3, S3, u', le3, s3, e3, r3, p3⟩ => ?_
  have r2 : l' = l := r2
  have r3 : u' = u := r3
  subst r2 r3
  exact sl_ok s3 ((r1.mono le2).mono le3) p3
theorem e_bi {x : Str} {p : Pos} {id : String} {f : List PV → M PV} (hB : BiS X E (.builtin id) f) (hg : Gl X x) (hm : X.mg x = none) (hv : bootBuiltins x = some (.builtin id)) (hn : x ≠ "__name__") (hdb : (x == ("__debug__" : Str)) = false)
    (he : starEach (a :: es) X.env = (false, eval a X.env) :: starEach es X.env) (hpl : (backTo pos (starEach es X.env)).any (·.1) = false) (h : PA X (a :: es) (tA X.K E mes)) :
    PE X (.Call (.Name x p) (a :: es) [] pos) (tE X.K E (fun env => M.bind (mes env) fun xs => f xs)) := by
  obtain ⟨r, hc, hr⟩ := hB
  refine peImp (pe_callB hc hg hm hv h hn hdb he hpl) fun σ H Q h => ?_
  exact rdImp (rd_bind (Rl := Reps X.K) h) fun x H1 ⟨ω1, S1, env1, v, s1, e1, r1, p1⟩ => hr ω1 S1 H1 v x Q s1 r1 p1
theorem e_biTy {x : Str} {p : Pos} {T : String} {f : List PV → M PV} (hB : BiS X E (.type T) f) (hg : Gl X x) (hm : X.mg x = none) (hv : bootBuiltins x = some (.type T)) (hn : x ≠ "__name__") (hdb : (x == ("__debug__" : Str)) = false)
    (he : starEach (a :: es) X.env = (false, eval a X.env) :: starEach es X.env) (hpl : (backTo pos (starEach es X.env)).any (·.1) = false) (h : PA X (a :: es) (tA X.K E mes)) :
    PE X (.Call (.Name x p) (a :: es) [] pos) (tE X.K E (fun env => M.bind (mes env) fun xs => f xs)) := by
  obtain ⟨r, hc, hr⟩ := hB
  refine peImp (pe_callTy hc hg hm hv h hn hdb he hpl) fun σ H Q h => ?_
  exact rdImp (rd_bind (Rl := Reps X.K) h) fun x H1 ⟨ω1, S1, env1, v, s1, e1, r1, p1⟩ => hr ω1 S1 H1 v x Q s1 r1 p1
theorem e_isi {x y : Str} {p py : Pos} {t : Ty} (hg : Gl X x) (hm : X.mg x = none) (hv : bootBuiltins x = some (.builtin "isinstance")) (hn : x ≠ "__name__") (hdb : (x == ("__debug__" : Str)) = false)
    (hgy : Gl X y) (hmy : X.mg y = none) (hvy : bootBuiltins y = some (.type (tyName t))) (hny : y ≠ "__name__") (hdy : (y == ("__debug__" : Str)) = false)
    (he : starEach [a, .Name y py] X.env = (false, eval a X.env) :: starEach [.Name y py] X.env) (h : PE X a (tE X.K E ma)) :
    PE X (.Call (.Name x p) [a, .Name y py] [] pos) (tE X.K E (fun env => M.bind (ma env) fun x => M.bind (opIsi x t) fun c => M.pure (.bl c))) := by
  refine peImp (pe_callB call_isi hg hm hv (pa_cons h (pa_cons (pe_bltn hgy hmy hvy (v := .ty (tyName t)) rfl hny hdy) pa_nil rfl) he) hn hdb he rfl) fun σ H Q h => ?_
  refine rdImp (rd_bind (Rl := Rep X.K) h) fun x H1 ⟨ω1, S1, env1, v, s1, e1, r1, p1⟩ => ?_
  obtain ⟨k, hk, p1⟩ := opIsi_ok p1
  obtain ⟨tv, ht, hkit⟩ := ty_ok s1 r1 hk
  exact ⟨x, .ty (tyName t), tv, .type (tyName t), k, rfl, .ty _, ht, hkit, Post.ok (v := PV.bl k) p1 s1 rep_bl⟩
variable {apos : Pos}
theorem e_mth {m : Mt} (hbase : attributeBase a (mtName m) X.env (eval a X.env) = eval a X.env)
    (hfew : ((backTo pos (starEach (b :: es) X.env)).all (fun x => !x.1) && (backToKw pos (keywordEach [] X.env)).all (fun x => x.1.isSome) && decide ((b :: es).length + ([] : List Keyword).length + (if ([] : List Keyword).isEmpty then 0 else 1) < 30)) = true)
    (hline : (apos.endLine == pos.line) = true) (hs : starEach (b :: es) X.env = (false, eval b X.env) :: starEach es X.env) (hplain : (backTo pos (starEach es X.env)).any (·.1) = false)
    (ha : PE X a (tE X.K E ma)) (h : PA X (b :: es) (tA X.K E mes)) :
    PE X (.Call (.Attribute a (mtName m) apos) (b :: es) [] pos) (tE X.K E (fun env => M.bind (ma env) fun x => M.bind (recv m x) fun _ => M.bind (mes env) fun xs => opMt m x xs)) := by
  obtain ⟨r, hm, hr⟩ := ms_all (X := X) (E := E) m
  refine peImp (pe_bm (mt_pa m) (mt_slot m) (mt_type m) hm ha h hbase hfew hline hs hplain) fun σ H Q h => ?_
  refine rdImp (rd_bind (Rl := Rep X.K) h) fun x H1 ⟨ω1, S1, env1, v, s1, e1, r1, p1⟩ => ?_
  obtain ⟨ty, p1⟩ := recv_ok s1 r1 p1
  refine ⟨ty, ?_⟩
  exact rdImp (rd_next (Rl := Reps X.K) s1 e1 p1) fun y H2 ⟨ω2, S2, w, l2, s2, e2, r2, p2⟩ => hr ω2 S2 H2 v w x y Q s2 (r1.mono l2) r2 p2
theorem e_mth0 {m : Mt} (hbase : attributeBase a (mtName m) X.env (eval a X.env) = eval a X.env) (hline : (apos.endLine == pos.line) = true) (ha : PE X a (tE X.K E ma)) :
    PE X (.Call (.Attribute a (mtName m) apos) [] [] pos) (tE X.K E (fun env => M.bind (ma env) fun x => M.bind (recv m x) fun _ => M.bind (M.pure []) fun xs => opMt m x xs)) := by
  obtain ⟨r, hm, hr⟩ := ms_all (X := X) (E := E) m
  refine peImp (pe_bm0 (mt_pa m) (mt_slot m) (mt_type m) hm ha hbase hline) fun σ H Q h => ?_
  refine rdImp (rd_bind (Rl := Rep X.K) h) fun x H1 ⟨ω1, S1, env1, v, s1, e1, r1, p1⟩ => ?_
  obtain ⟨ty, p1⟩ := recv_ok s1 r1 p1
  exact ⟨ty, hr ω1 S1 H1 v [] x [] Q s1 r1 .nil p1⟩
end
end Mi
set_option Elab.async false
set_option linter.all false
set_option maxRecDepth 100000
namespace Mi
open PySem PySem.Spec PyProof.Rows L2
mutual
theorem Rep.hidden {K : PySem.W.Frag} {ω : Wd} {H : Hp} {D : Addr} {o : HO} (hD : D ∈ ω.hid) : ∀ {x : PV} {v : V}, Rep K ω H x v → Rep K ω (upd H D o) x v
  | .non, v, h => by simpa only [Rep] using h
  | .bl b, v, h => by simpa only [Rep] using h
  | .int i, v, h => by simpa only [Rep] using h
  | .str s, v, h => by simpa only [Rep] using h
  | .tup xs, v, h => by
    simp only [Rep] at h ⊢
    obtain ⟨a, vs, e, hs, hl, hr⟩ := h
    refine ⟨a, vs, e, ?_, hl, Reps.hidden hD hr⟩
    rcases hs with ⟨h1, h2, h3⟩ | h1
    · have ne : a ≠ D := fun z => h3 (by rw [z]; exact hD)
      exact .inl ⟨by rw [upd_ne ne]; exact h1, h2, h3⟩
    · exact .inr h1
  | .lst xs, v, h => by
    simp only [Rep] at h ⊢
    obtain ⟨a, vs, e, h1, h2, h3, hl, hr⟩ := h
    have ne : a ≠ D := fun z => h3 (by rw [z]; exact hD)
    exact ⟨a, vs, e, by rw [upd_ne ne]; exact h1, h2, h3, hl, Reps.hidden hD hr⟩
  | .frz xs, v, h => by
    simp only [Rep] at h ⊢
    obtain ⟨a, vs, e, hs, hl, hr⟩ := h
    refine ⟨a, vs, e, ?_, hl, Reps.hidden hD hr⟩
    rcases hs with ⟨u, h1, h2, h3⟩ | h1
    · have ne : a ≠ D := fun z => h3 (by rw [z]; exact hD)
      exact .inl ⟨u, ⟨h1.1, by rw [upd_ne ne]; exact h1.2⟩, h2, h3⟩
    · exact .inr h1
  | .ref i, v, h => by simpa only [Rep] using h
theorem Reps.hidden {K : PySem.W.Frag} {ω : Wd} {H : Hp} {D : Addr} {o : HO} (hD : D ∈ ω.hid) : ∀ {xs : List PV} {vs : List V}, Reps K ω H xs vs → Reps K ω (upd H D o) xs vs
  | [], vs, h => by simpa only [Reps] using h
  | x :: xs, vs, h => by
    simp only [Reps] at h ⊢
    obtain ⟨v, vr, e, h1, h2⟩ := h
    exact ⟨v, vr, e, Rep.hidden hD h1, Reps.hidden hD h2⟩
end
mutual
theorem Rep.hide {K : PySem.W.Frag} {ω : Wd} {H : Hp} {D : Addr} (hD : H D = none) : ∀ {x : PV} {v : V}, Rep K ω H x v → Rep K ⟨ω.rho, D :: ω.hid⟩ H x v
  | .non, v, h => by simpa only [Rep] using h
  | .bl b, v, h => by simpa only [Rep] using h
  | .int i, v, h => by simpa only [Rep] using h
  | .str s, v, h => by simpa only [Rep] using h
  | .tup xs, v, h => by
    simp only [Rep] at h ⊢
    obtain ⟨a, vs, e, hs, hl, hr⟩ := h
    refine ⟨a, vs, e, ?_, hl, Reps.hide hD hr⟩
    rcases hs with ⟨h1, h2, h3⟩ | h1
    · exact .inl ⟨h1, h2, fun z => (List.mem_cons.mp z).elim (ne_of_none h1 hD) h3⟩
    · exact .inr h1
  | .lst xs, v, h => by
    simp only [Rep] at h ⊢
    obtain ⟨a, vs, e, h1, h2, h3, hl, hr⟩ := h
    exact ⟨a, vs, e, h1, h2, fun z => (List.mem_cons.mp z).elim (ne_of_none h1 hD) h3, hl, Reps.hide hD hr⟩
  | .frz xs, v, h => by
    simp only [Rep] at h ⊢
    obtain ⟨a, vs, e, hs, hl, hr⟩ := h
    refine ⟨a, vs, e, ?_, hl, Reps.hide hD hr⟩
    rcases hs with ⟨u, h1, h2, h3⟩ | h1
    · exact .inl ⟨u, h1, h2, fun z => (List.mem_cons.mp z).elim (ne_of_none h1.2 hD) h3⟩
    · exact .inr h1
  | .ref i, v, h => by simpa only [Rep] using h
theorem Reps.hide {K : PySem.W.Frag} {ω : Wd} {H : Hp} {D : Addr} (hD : H D = none) : ∀ {xs : List PV} {vs : List V}, Reps K ω H xs vs → Reps K ⟨ω.rho, D :: ω.hid⟩ H xs vs
  | [], vs, h => by simpa only [Reps] using h
  | x :: xs, vs, h => by
    simp only [Reps] at h ⊢
    obtain ⟨v, vr, e, h1, h2⟩ := h
    exact ⟨v, vr, e, Rep.hide hD h1, Reps.hide hD h2⟩
end
mutual
/-- fewer hidden addresses, one more cell among those that were hidden -/
theorem Rep.show {K : PySem.W.Frag} {ω ω' : Wd} {H : Hp} (h1 : ∀ a, a ∉ ω.rho → a ∉ ω.hid → a ∉ ω'.rho ∧ a ∉ ω'.hid) (h2 : ω.rho <+: ω'.rho) : ∀ {x : PV} {v : V}, Rep K ω H x v → Rep K ω' H x v
  | .non, v, h => by simpa only [Rep] using h
  | .bl b, v, h => by simpa only [Rep] using h
  | .int i, v, h => by simpa only [Rep] using h
  | .str s, v, h => by simpa only [Rep] using h
  | .tup xs, v, h => by
    simp only [Rep] at h ⊢
    obtain ⟨a, vs, e, hs, hl, hr⟩ := h
    refine ⟨a, vs, e, ?_, hl, Reps.show h1 h2 hr⟩
    rcases hs with ⟨g1, g2, g3⟩ | g1
    · exact .inl ⟨g1, h1 a g2 g3⟩
    · exact .inr g1
  | .lst xs, v, h => by
    simp only [Rep] at h ⊢
    obtain ⟨a, vs, e, g1, g2, g3, hl, hr⟩ := h
    exact ⟨a, vs, e, g1, (h1 a g2 g3).1, (h1 a g2 g3).2, hl, Reps.show h1 h2 hr⟩
  | .frz xs, v, h => by
    simp only [Rep] at h ⊢
    obtain ⟨a, vs, e, hs, hl, hr⟩ := h
    refine ⟨a, vs, e, ?_, hl, Reps.show h1 h2 hr⟩
    rcases hs with ⟨u, g1, g2, g3⟩ | g1
    · exact .inl ⟨u, g1, h1 a g2 g3⟩
    · exact .inr g1
  | .ref i, v, h => by
    simp only [Rep] at h ⊢
    obtain ⟨a, e, q⟩ := h
    refine ⟨a, ?_, q⟩
    obtain ⟨t, ht⟩ := h2
    rw [← ht]
    have hi : i < ω.rho.length := by
      rcases Nat.lt_or_ge i ω.rho.length with z | z
      · exact z
      · rw [List.getElem?_eq_none z] at e; cases e
    rw [List.getElem?_append_left hi]
    exact e
theorem Reps.show {K : PySem.W.Frag} {ω ω' : Wd} {H : Hp} (h1 : ∀ a, a ∉ ω.rho → a ∉ ω.hid → a ∉ ω'.rho ∧ a ∉ ω'.hid) (h2 : ω.rho <+: ω'.rho) : ∀ {xs : List PV} {vs : List V}, Reps K ω H xs vs → Reps K ω' H xs vs
  | [], vs, h => by simpa only [Reps] using h
  | x :: xs, vs, h => by
    simp only [Reps] at h ⊢
    obtain ⟨v, vr, e, g1, g2⟩ := h
    exact ⟨v, vr, e, Rep.show h1 h2 g1, Reps.show h1 h2 g2⟩
end
section
variable {K : PySem.W.Frag} {ω : Wd} {H : Hp} {S : Store} {D : Addr} {o : HO} {env : Env} {σ : L2.St}
theorem TabR.hidden {ps : Array Value} {q : Str} (h : TabR ω H ps q) (hD : D ∈ ω.hid) : TabR ω (upd H D o) ps q := ⟨h.1, fun pos cv hc => by
  obtain ⟨c, e, h1, h2, h3⟩ := h.2 pos cv hc
  have ne : c ≠ D := fun z => h3 (by rw [z]; exact hD)
  exact ⟨c, e, by rw [upd_ne ne]; exact h1, h2, h3⟩⟩
theorem TabR.hide {ps : Array Value} {q : Str} (h : TabR ω H ps q) (hD : H D = none) : TabR ⟨ω.rho, D :: ω.hid⟩ H ps q := ⟨h.1, fun pos cv hc => by
  obtain ⟨c, e, h1, h2, h3⟩ := h.2 pos cv hc
  exact ⟨c, e, h1, h2, fun m => (List.mem_cons.mp m).elim (fun z => by rw [z, hD] at h1; cases h1) h3⟩⟩
theorem TabR.show {ω' : Wd} {ps : Array Value} {q : Str} (h : TabR ω H ps q) (h1 : ∀ a, a ∉ ω.rho → a ∉ ω.hid → a ∉ ω'.rho ∧ a ∉ ω'.hid) : TabR ω' H ps q := ⟨h.1, fun pos cv hc => by
  obtain ⟨c, e, g1, g2, g3⟩ := h.2 pos cv hc
  exact ⟨c, e, g1, h1 c g2 g3⟩⟩
theorem RelEnv.hidden (h : RelEnv K ω H env σ) (hD : D ∈ ω.hid) : RelEnv K ω (upd H D o) env σ := ⟨h.len, fun i v e => by
  obtain ⟨x, e1, r⟩ := h.get i v e
  exact ⟨x, e1, r.hidden hD⟩⟩
theorem RelEnv.hide (h : RelEnv K ω H env σ) (hD : H D = none) : RelEnv K ⟨ω.rho, D :: ω.hid⟩ H env σ := ⟨h.len, fun i v e => by
  obtain ⟨x, e1, r⟩ := h.get i v e
  exact ⟨x, e1, r.hide hD⟩⟩
theorem RelSt.hidden {ws : List V} (h : RelSt K ω S H) (hD : D ∈ ω.hid) : RelSt K ω S (upd H D (.lst ws)) := by
  refine ⟨h.nd, h.len, fun i c a e1 e2 => ?_, fun a m => ?_, h.one⟩
  · obtain ⟨u, hu, rc⟩ := h.cell i c a e1 e2
    have ne : a ≠ D := fun z => (h.hd D hD).1 (by rw [← z]; exact List.mem_of_getElem? e2)
    refine ⟨u, by rw [upd_ne ne]; exact hu, ?_⟩
    cases c with
    | lst xs => obtain ⟨vs, e, hl, hr⟩ := rc; exact ⟨vs, e, hl, hr.hidden hD⟩
    | tab p q => obtain ⟨e0, ps, e, hr⟩ := rc; exact ⟨e0, ps, e, hr.hidden hD⟩
  · obtain ⟨n, u, hu⟩ := h.hd a m
    by_cases ne : a = D
    · subst ne; exact ⟨n, ws, upd_same⟩
    · exact ⟨n, u, by rw [upd_ne ne]; exact hu⟩
/-- a new object that is hidden -/
theorem RelSt.hide {ws : List V} (h : RelSt K ω S H) (hD : H D = none) : RelSt K ⟨ω.rho, D :: ω.hid⟩ S (upd H D (.lst ws)) := by
  have fr := h.fresh hD
  refine ⟨h.nd, h.len, fun i c a e1 e2 => ?_, fun a m => ?_, h.one⟩
  · obtain ⟨u, hu, rc⟩ := h.cell i c a e1 e2
    refine ⟨u, by rw [upd_ne (ne_of_none hu hD)]; exact hu, ?_⟩
    cases c with
    | lst xs => obtain ⟨vs, e, hl, hr⟩ := rc; exact ⟨vs, e, hl, (hr.hide hD).hidden (ω := ⟨ω.rho, D :: ω.hid⟩) List.mem_cons_self⟩
    | tab p q => obtain ⟨e0, ps, e, hr⟩ := rc; exact ⟨e0, ps, e, (hr.hide hD).hidden (ω := ⟨ω.rho, D :: ω.hid⟩) List.mem_cons_self⟩
  · rcases List.mem_cons.mp m with z | z
    · subst z; exact ⟨fr.1, ws, upd_same⟩
    · obtain ⟨n, u, hu⟩ := h.hd a z
      exact ⟨n, u, by rw [upd_ne (ne_of_none hu hD)]; exact hu⟩
end

structure Draw (K : PySem.W.Frag) (J : It) (src : Src) (I : Wd → Hp → Prop) : Prop where
  keep : ∀ (ω : Wd) (H : Hp) (ω' : Wd) (H' : Hp) (S' : Store), I ω H → Le ω H ω' H' → RelSt K ω' S' H' → src.ok src.xs S' = true → I ω' H'
  hidden : ∀ (ω : Wd) (H : Hp) (D : Addr) (o : HO), I ω H → D ∈ ω.hid → I ω (upd H D o)
  hide : ∀ (ω : Wd) (H : Hp) (D : Addr), I ω H → H D = none → I ⟨ω.rho, D :: ω.hid⟩ H
  go : ∀ (ω : Wd) (H : Hp) (i : Nat), I ω H → i < src.xs.length → J.go i H
  stop : ∀ (ω : Wd) (H : Hp) (i : Nat), I ω H → src.xs.length ≤ i → J.stop i H
  yld : ∀ (ω : Wd) (S : Store) (H : Hp) (i : Nat) (x : PV) (v : V) (H' : Hp), I ω H → RelSt K ω S H → src.xs[i]? = some x → J.yld i H v H' → Le ω H ω H' ∧ RelSt K ω S H' ∧ Rep K ω H' x v
def RelI (K : PySem.W.Frag) (ω : Wd) (H : Hp) (src : Src) (J : It) : Prop := ∃ I, Draw K J src I ∧ I ω H ∧ src.xs.length ≤ sizeLine
abbrev tI (K : PySem.W.Frag) (E : XK) (m : Env → M Src) : TI := rd K E (RelI K) m
section
variable {K : PySem.W.Frag}
/-- a list that is read by its address, a value that stands for it -/
theorem draw_list {xs : List PV} {a : Addr} {pv : PV} (hv : ∀ {ω : Wd} {H : Hp}, Rep K ω H pv (.ref a) → ∃ vs, SqL K H a vs ∧ Reps K ω H xs vs) : Draw K (Itl K a) ⟨xs, none⟩ (fun ω H => Rep K ω H pv (.ref a)) where
  keep := fun _ _ _ _ _ h l _ _ => h.mono l
  hidden := fun _ _ _ _ h m => h.hidden m
  hide := fun _ _ _ h m => h.hide m
  go := fun ω H i h hi => by
    obtain ⟨vs, hs, hr⟩ := hv h
    have hi' : i < vs.length := by rw [hr.length]; exact hi
    exact ⟨vs, vs[i], hs, by simp [hi']⟩
  stop := fun ω H i h hi => by
    obtain ⟨vs, hs, hr⟩ := hv h
    exact ⟨vs, hs, by rw [hr.length]; exact hi⟩
  yld := fun ω S H i x v H' h s e y => by
    obtain ⟨vs, hs, hr⟩ := hv h
    obtain ⟨rfl, y⟩ := y
    obtain ⟨w, e1, rw'⟩ := hr.get e
    have : w = v := Option.some.inj (e1.symm.trans (y vs hs))
    subst this
    exact ⟨Le.refl _ _, s, rw'⟩
theorem draw_tup {xs : List PV} {a : Addr} : Draw K (Itt K a) ⟨xs, none⟩ (fun ω H => Rep K ω H (.tup xs) (.ref a)) where
  keep := fun _ _ _ _ _ h l _ _ => h.mono l
  hidden := fun _ _ _ _ h m => h.hidden m
  hide := fun _ _ _ h m => h.hide m
  go := fun ω H i h hi => by
    obtain ⟨b, vs, e, hs, _, hr⟩ := h.tup
    cases e
    have hi' : i < vs.length := by rw [hr.length]; exact hi
    exact ⟨vs, vs[i], hs, by simp [hi']⟩
  stop := fun ω H i h hi => by
    obtain ⟨b, vs, e, hs, _, hr⟩ := h.tup
    cases e
    exact ⟨vs, hs, by rw [hr.length]; exact hi⟩
  yld := fun ω S H i x v H' h s e y => by
    obtain ⟨b, vs, e', hs, _, hr⟩ := h.tup
    cases e'
    obtain ⟨rfl, y⟩ := y
    obtain ⟨w, e1, rw'⟩ := hr.get e
    have : w = v := Option.some.inj (e1.symm.trans (y vs hs))
    subst this
    exact ⟨Le.refl _ _, s, rw'⟩
/-- a cell's list -/
theorem draw_ref {xs : List PV} {a : Addr} {c : Nat} : Draw K (Itl K a) ⟨xs, some c⟩ (fun ω H => ω.rho[c]? = some a ∧ a ∉ ω.hid ∧ ∃ vs, H a = some (.lst vs) ∧ Reps K ω H xs vs) where
  keep := fun ω H ω' H' S' h l s k => by
    obtain ⟨h1, h2, vs, h3, h4⟩ := h
    have h1' : ω'.rho[c]? = some a := by
      have r : Rep K ω' H' (.ref c) (.ref a) := Rep.mono l (x := .ref c) (v := .ref a) (by simp only [Rep]; exact ⟨a, h1, rfl⟩)
      simp only [Rep] at r
      obtain ⟨a', e1, e2⟩ := r
      cases e2
      exact e1
    refine ⟨h1', by rw [l.hid]; exact h2, ?_⟩
    unfold Src.ok at k
    cases q : S'[c]? with
    | none => simp only [q] at k; cases k
    | some cc =>
      cases cc with
      | lst ys =>
        simp only [q] at k
        have e := PV.of_beqs _ _ k
        subst e
        obtain ⟨o, ho, ws, eo, _, hr⟩ := s.cell c _ a q h1'
        subst eo
        exact ⟨ws, ho, hr⟩
      | tab p0 q0 => simp only [q] at k; cases k
  hidden := fun ω H D o h m => by
    obtain ⟨h1, h2, vs, h3, h4⟩ := h
    have ne : a ≠ D := fun z => h2 (by rw [z]; exact m)
    exact ⟨h1, h2, vs, by rw [upd_ne ne]; exact h3, h4.hidden m⟩
  hide := fun ω H D h m => by
    obtain ⟨h1, h2, vs, h3, h4⟩ := h
    exact ⟨h1, fun z => (List.mem_cons.mp z).elim (ne_of_none h3 m) h2, vs, h3, h4.hide m⟩
  go := fun ω H i h hi => by
    obtain ⟨h1, h2, vs, h3, h4⟩ := h
    have hi' : i < vs.length := by rw [h4.length]; exact hi
    exact ⟨vs, vs[i], .inl (.inl h3), by simp [hi']⟩
  stop := fun ω H i h hi => by
    obtain ⟨h1, h2, vs, h3, h4⟩ := h
    exact ⟨vs, .inl (.inl h3), by rw [h4.length]; exact hi⟩
  yld := fun ω S H i x v H' h s e y => by
    obtain ⟨h1, h2, vs, h3, h4⟩ := h
    obtain ⟨rfl, y⟩ := y
    obtain ⟨w, e1, rw'⟩ := h4.get e
    have : w = v := Option.some.inj (e1.symm.trans (y vs (.inl (.inl h3))))
    subst this
    exact ⟨Le.refl _ _, s, rw'⟩
theorem draw_str {t : List Nat} : Draw K (Its (toS t)) ⟨t.map fun c => .str [c], none⟩ (fun _ _ => True) where
  keep := fun _ _ _ _ _ _ _ _ _ => trivial
  hidden := fun _ _ _ _ _ _ => trivial
  hide := fun _ _ _ _ _ => trivial
  go := fun ω H i _ hi => by
    have : i < t.length := by simpa using hi
    show i < t.toArray.size
    simpa using this
  stop := fun ω H i _ hi => by
    have : t.length ≤ i := by simpa using hi
    show t.toArray.size ≤ i
    simpa using this
  yld := fun ω S H i x v H' _ s e y => by
    obtain ⟨rfl, c, hc, rfl⟩ := y
    have hc' : t[i]? = some c := by simpa using hc
    rw [List.getElem?_map, hc'] at e
    simp only [Option.map_some, Option.some.injEq] at e
    subst e
    exact ⟨Le.refl _ _, s, rep_str (by show 1 ≤ sizeLine; decide)⟩
theorem draw_rng {lo hi : Int} : Draw K (Itr lo (hi - lo).toNat) ⟨rangeL lo hi, none⟩ (fun _ _ => True) where
  keep := fun _ _ _ _ _ _ _ _ _ => trivial
  hidden := fun _ _ _ _ _ _ => trivial
  hide := fun _ _ _ _ _ => trivial
  go := fun ω H i _ h => by
    show i < (hi - lo).toNat
    have e : (rangeL lo hi).length = (hi - lo).toNat := by unfold rangeL; rw [List.length_map, List.length_range]
    rw [← e]; exact h
  stop := fun ω H i _ h => by
    show (hi - lo).toNat ≤ i
    have e : (rangeL lo hi).length = (hi - lo).toNat := by unfold rangeL; rw [List.length_map, List.length_range]
    rw [← e]; exact h
  yld := fun ω S H i x v H' _ s e y => by
    obtain ⟨rfl, rfl⟩ := y
    unfold rangeL at e
    rw [List.getElem?_map] at e
    cases q : (List.range (hi - lo).toNat)[i]? with
    | none => rw [q] at e; cases e
    | some k =>
      rw [q] at e
      simp only [Option.map_some, Option.some.injEq] at e
      have : i = k := by
        obtain ⟨h1, h2⟩ := List.getElem?_eq_some_iff.mp q
        simpa using h2
      subst this e
      exact ⟨Le.refl _ _, s, rep_int⟩
theorem zipL_get : ∀ {xs ys : List PV} {i : Nat} {x : PV}, (zipL xs ys)[i]? = some x → ∃ a b, xs[i]? = some a ∧ ys[i]? = some b ∧ x = .tup [a, b]
  | [], ys, i, x, h => by simp [zipL] at h
  | a :: xs, [], i, x, h => by simp [zipL] at h
  | a :: xs, b :: ys, 0, x, h => by
    simp [zipL] at h
    exact ⟨a, b, rfl, rfl, h.symm⟩
  | a :: xs, b :: ys, i + 1, x, h => by
    simp only [zipL, List.getElem?_cons_succ] at h ⊢
    exact zipL_get h
theorem zipL_len : ∀ (xs ys : List PV), (zipL xs ys).length = min xs.length ys.length
  | [], ys => by simp [zipL]
  | a :: xs, [] => by simp [zipL]
  | a :: xs, b :: ys => by simp [zipL, zipL_len xs ys]
theorem new_pair {ω : Wd} {S : Store} {H : Hp} {T : Addr} {a b : PV} {x y : V} (s : RelSt K ω S H) (hT : H T = none) (ra : Rep K ω H a x) (rb : Rep K ω H b y) :
    Le ω H ω (upd H T (.tup [x, y])) ∧ RelSt K ω S (upd H T (.tup [x, y])) ∧ Rep K ω (upd H T (.tup [x, y])) (.tup [a, b]) (.ref T) :=
  ⟨le_new hT, s.new hT, rep_tup (s.fresh hT) upd_same (by show 2 ≤ sizeLine; decide) (.cons (ra.mono (le_new hT)) (.one (rb.mono (le_new hT))))⟩
theorem draw_zipL {xs ys : List PV} {a b : Addr} : Draw K (Itz K a b) ⟨zipL xs ys, none⟩ (fun ω H => Rep K ω H (.lst xs) (.ref a) ∧ Rep K ω H (.lst ys) (.ref b)) where
  keep := fun _ _ _ _ _ h l _ _ => ⟨h.1.mono l, h.2.mono l⟩
  hidden := fun _ _ _ _ h m => ⟨h.1.hidden m, h.2.hidden m⟩
  hide := fun _ _ _ h m => ⟨h.1.hide m, h.2.hide m⟩
  go := fun ω H i h hi => by
    obtain ⟨a', vs, e, hs, _, hr⟩ := h.1.lst
    cases e
    obtain ⟨b', ws, e, hs2, _, hr2⟩ := h.2.lst
    cases e
    have hi' : i < min xs.length ys.length := by rw [← zipL_len]; exact hi
    have h1 : i < vs.length := by rw [hr.length]; omega
    have h2 : i < ws.length := by rw [hr2.length]; omega
    exact ⟨vs, ws, vs[i], ws[i], .inl (.inl hs), .inl (.inl hs2), by simp [h1], by simp [h2]⟩
  stop := fun ω H i h hi => by
    obtain ⟨a', vs, e, hs, _, hr⟩ := h.1.lst
    cases e
    obtain ⟨b', ws, e, hs2, _, hr2⟩ := h.2.lst
    cases e
    have hi' : min xs.length ys.length ≤ i := by rw [← zipL_len]; exact hi
    exact ⟨vs, ws, .inl (.inl hs), .inl (.inl hs2), by rw [hr.length, hr2.length]; omega⟩
  yld := fun ω S H i x v H' h s e y => by
    obtain ⟨a', vs, e', hs, _, hr⟩ := h.1.lst
    cases e'
    obtain ⟨b', ws, e', hs2, _, hr2⟩ := h.2.lst
    cases e'
    obtain ⟨p, q, e1, e2, rfl⟩ := zipL_get e
    obtain ⟨T, x1, y1, rfl, hT, rfl, f1, f2⟩ := y
    obtain ⟨w1, g1, r1⟩ := hr.get e1
    obtain ⟨w2, g2, r2⟩ := hr2.get e2
    have z1 : w1 = x1 := Option.some.inj (g1.symm.trans (f1 vs (.inl (.inl hs))))
    have z2 : w2 = y1 := Option.some.inj (g2.symm.trans (f2 ws (.inl (.inl hs2))))
    subst z1 z2
    exact new_pair s hT r1 r2
theorem draw_zipT {xs ys : List PV} {a b : Addr} : Draw K (RZ.ItzT K a b) ⟨zipL xs ys, none⟩ (fun ω H => Rep K ω H (.tup xs) (.ref a) ∧ Rep K ω H (.tup ys) (.ref b)) where
  keep := fun _ _ _ _ _ h l _ _ => ⟨h.1.mono l, h.2.mono l⟩
  hidden := fun _ _ _ _ h m => ⟨h.1.hidden m, h.2.hidden m⟩
  hide := fun _ _ _ h m => ⟨h.1.hide m, h.2.hide m⟩
  go := fun ω H i h hi => by
    obtain ⟨a', vs, e, hs, _, hr⟩ := h.1.tup
    cases e
    obtain ⟨b', ws, e, hs2, _, hr2⟩ := h.2.tup
    cases e
    have hi' : i < min xs.length ys.length := by rw [← zipL_len]; exact hi
    have h1 : i < vs.length := by rw [hr.length]; omega
    have h2 : i < ws.length := by rw [hr2.length]; omega
    exact ⟨vs, ws, vs[i], ws[i], hs, hs2, by simp [h1], by simp [h2]⟩
  stop := fun ω H i h hi => by
    obtain ⟨a', vs, e, hs, _, hr⟩ := h.1.tup
    cases e
    obtain ⟨b', ws, e, hs2, _, hr2⟩ := h.2.tup
    cases e
    have hi' : min xs.length ys.length ≤ i := by rw [← zipL_len]; exact hi
    exact ⟨vs, ws, hs, hs2, by rw [hr.length, hr2.length]; omega⟩
  yld := fun ω S H i x v H' h s e y => by
    obtain ⟨a', vs, e', hs, _, hr⟩ := h.1.tup
    cases e'
    obtain ⟨b', ws, e', hs2, _, hr2⟩ := h.2.tup
    cases e'
    obtain ⟨p, q, e1, e2, rfl⟩ := zipL_get e
    obtain ⟨T, x1, y1, rfl, hT, rfl, f1, f2⟩ := y
    obtain ⟨w1, g1, r1⟩ := hr.get e1
    obtain ⟨w2, g2, r2⟩ := hr2.get e2
    have z1 : w1 = x1 := Option.some.inj (g1.symm.trans (f1 vs hs))
    have z2 : w2 = y1 := Option.some.inj (g2.symm.trans (f2 ws hs2))
    subst z1 z2
    exact new_pair s hT r1 r2
theorem enumL_get : ∀ {xs : List PV} {n i : Nat} {x : PV}, (enumL n xs)[i]? = some x → ∃ a, xs[i]? = some a ∧ x = .tup [.int ((n + i : Nat) : Int), a]
  | [], n, i, x, h => by simp [enumL] at h
  | a :: xs, n, 0, x, h => by
    simp [enumL] at h
    exact ⟨a, rfl, by rw [← h]; simp⟩
  | a :: xs, n, i + 1, x, h => by
    simp only [enumL, List.getElem?_cons_succ] at h ⊢
    obtain ⟨b, e1, e2⟩ := enumL_get h
    exact ⟨b, e1, by rw [e2]; congr 4; omega⟩
theorem enumL_len : ∀ (xs : List PV) (n : Nat), (enumL n xs).length = xs.length
  | [], n => rfl
  | a :: xs, n => by simp [enumL, enumL_len xs (n + 1)]
theorem draw_enum {xs : List PV} {a : Addr} : Draw K (Ite K a) ⟨enumL 0 xs, none⟩ (fun ω H => Rep K ω H (.lst xs) (.ref a)) where
  keep := fun _ _ _ _ _ h l _ _ => h.mono l
  hidden := fun _ _ _ _ h m => h.hidden m
  hide := fun _ _ _ h m => h.hide m
  go := fun ω H i h hi => by
    obtain ⟨a', vs, e, hs, _, hr⟩ := h.lst
    cases e
    have hi' : i < vs.length := by rw [hr.length, ← enumL_len xs 0]; exact hi
    exact ⟨vs, vs[i], .inl (.inl hs), by simp [hi']⟩
  stop := fun ω H i h hi => by
    obtain ⟨a', vs, e, hs, _, hr⟩ := h.lst
    cases e
    exact ⟨vs, .inl (.inl hs), by rw [hr.length, ← enumL_len xs 0]; exact hi⟩
  yld := fun ω S H i x v H' h s e y => by
    obtain ⟨a', vs, e', hs, _, hr⟩ := h.lst
    cases e'
    obtain ⟨p, e1, rfl⟩ := enumL_get e
    obtain ⟨T, x1, rfl, hT, rfl, f1⟩ := y
    obtain ⟨w1, g1, r1⟩ := hr.get e1
    have z1 : w1 = x1 := Option.some.inj (g1.symm.trans (f1 vs (.inl (.inl hs))))
    subst z1
    rw [Nat.zero_add]
    exact new_pair s hT rep_int r1
end
end Mi
set_option Elab.async false
set_option linter.all false
set_option maxRecDepth 100000
set_option maxHeartbeats 1000000
namespace Mi
open PySem PySem.Spec PyProof.Rows L2
theorem drawsTup {prog : Program} {w : World} {A : Around} (hh : A.handled = none) (it l : Addr) (hne : l ≠ it) (items : Array Value) :
    Draws prog w A it [it, l] items.size (fun i v => items[i]? = some v) (fun i h => h.IsTupleIter it l i ∧ h.IsTuple l items) where
  live := fun _ _ st => by
    obtain ⟨o, ho, _⟩ := st.1
    exact ⟨o, ho⟩
  frame := fun _ _ _ st hk => by
    refine ⟨st.1.at fun o e => hk it (by simp) o e, ?_⟩
    obtain ⟨o, ho, r⟩ := st.2
    exact ⟨o, hk l (by simp) o ho, r⟩
  item := fun i s Q E hi st hQ => by
    refine RZ.nextOf_tuple_item st.1 st.2 (x := items[i]) (by simp [hi]) fun h' a sb => ?_
    obtain ⟨o, ho, r⟩ := st.2
    exact hQ _ h' s.toks (by simp [hi]) ⟨a, o, (sb.2 l hne).trans ho, r⟩ sb
  done := fun s Q E st hE => RZ.nextOf_tuple_end hh st.1 st.2 (by simp) hE
theorem meets_enumT (l : Addr) (items : Array Value) (n : Nat) (dct : Option Addr) (sl : Array (Option Value)) :
    Meets (Builtin.«enumerate.__new__» ⟨[.type "enumerate", .ref l], []⟩) (fun _ R s => s.heap.get? l = some { cls := .type "tuple", dict := dct, data := .seq items n, slots := sl } ∧
      R (.ok (.ret (.ref (s.heap.push { cls := .type "tuple_iterator", data := .fields #[.ref l, .int 0 0] }).objs.size)))
        { s with heap := (s.heap.push { cls := .type "tuple_iterator", data := .fields #[.ref l, .int 0 0] }).push { cls := .type "enumerate", data := .fields #[.none, .bool false, .ref s.heap.objs.size, rawInt 0, .none, .none] } }) :=
  .of_wp fun prog w A R s h => by
    obtain ⟨hp, gs, dr, tk, os⟩ := s
    obtain ⟨hl, h⟩ := h
    have hsub := sub_enumerate
    have hT : Heap.IsTuple (Shared.heap ⟨hp, gs, dr, tk, os⟩) l items := ⟨_, hl, rfl, n, rfl⟩
    wp_walk using AutoSeq1.wpAny_loadPart' hl
    refine wpAny_stack_any fun st => wpAny_pure ?_
    split
    · rename_i c _ _ _ _ _
      cases (c == Value.type "enumerate")
      · wp_walk using AutoSeq1.wpAny_loadPart' hl, wpAny_pyIter_tuple hT
        exact ⟨_, rfl, h⟩
      · wp_walk using AutoSeq1.wpAny_loadPart' hl, wpAny_pyIter_tuple hT
        exact ⟨_, rfl, h⟩
    · wp_walk using AutoSeq1.wpAny_loadPart' hl, wpAny_pyIter_tuple hT
      exact ⟨_, rfl, h⟩
section
variable {prog : Program} {w : World} {A : Around} {E : Value → Shared → Prop} {s : Shared}
theorem call_enumT {l : Addr} {items : Array Value} {Q : Value → Shared → Prop} (hT : s.heap.IsTuple l items)
    (h : ∀ h', IsEnum h' (s.heap.objs.size + 1) s.heap.objs.size 0 .none → h'.IsTupleIter s.heap.objs.size l 0 → h'.objs.size = s.heap.objs.size + 2 →
      (∀ b o, s.heap.get? b = some o → h'.get? b = some o) → Q (.ref (s.heap.objs.size + 1)) { s with heap := h' }) :
    wpAny (model prog w) A (call (.type "enumerate") [.ref l]) Q E s := by
  obtain ⟨⟨c, dct, dt, sl⟩, hl, hc, n, hd⟩ := hT
  replace hc : c = .type "tuple" := hc
  replace hd : dt = .seq items n := hd
  subst hc hd
  refine callType_new F.called_enumerate (by decide) (F.typeCall_enumerate_1 _) (F.newCall_enumerate_1 _) (fun obj => F.args_object_init_2 obj _) F.entry_enumerate_new (meets_enumT l items n dct sl) ⟨hl, ?_⟩
  have hz : (s.heap.push { cls := .type "tuple_iterator", data := .fields #[.ref l, .int 0 0] }).objs.size = s.heap.objs.size + 1 := Heap.size_push ..
  show _ ∧ _
  rw [hz]
  have he : IsEnum ((s.heap.push { cls := .type "tuple_iterator", data := .fields #[.ref l, .int 0 0] }).push { cls := .type "enumerate", data := .fields #[.none, .bool false, .ref s.heap.objs.size, rawInt 0, .none, .none] }) (s.heap.objs.size + 1) s.heap.objs.size 0 .none := by
    have := Heap.get?_push_size (s.heap.push { cls := .type "tuple_iterator", data := .fields #[.ref l, .int 0 0] }) (o := { cls := .type "enumerate", data := .fields #[.none, .bool false, .ref s.heap.objs.size, rawInt 0, .none, .none] }) rfl
    rw [hz] at this
    exact this
  refine ⟨⟨_, he, rfl⟩, h _ he ⟨_, Heap.get?_push_of_some _ (Heap.get?_push_size _ rfl), rfl, rfl⟩ (by rw [Heap.size_push, hz]) fun b o x => Heap.get?_push_of_some _ (Heap.get?_push_of_some _ x)⟩
end
/-- the tuple at a, each item in a new pair -/
def IteT (K : PySem.W.Frag) (a : Addr) : It :=
  ⟨fun i H => ∃ (xs : List V) (x : V), SqT K H a xs ∧ xs[i]? = some x, fun i H v H' => ∃ T x, v = .ref T ∧ H T = none ∧ H' = upd H T (.tup [.int (i : Nat), x]) ∧ ∀ xs, SqT K H a xs → xs[i]? = some x, fun i H => ∃ xs : List V, SqT K H a xs ∧ xs.length ≤ i⟩
theorem turn_enumT {P : Program} {w : World} {K : PySem.W.Frag} {elts : List Expr} {kk : Nat} {tpos : Pos} (a e it : Addr) (hei : e ≠ it) (hae : a ≠ e) (hai : a ≠ it) :
    Turn P w K (.Tuple elts kk tpos) (IteT K a) [e, it] e (fun i h => (∃ old, IsEnum h e it ((i : Nat) : Int) old) ∧ h.IsTupleIter it a i) where
  mem := by simp
  obj := fun i h st b hb => by
    obtain ⟨⟨old, he⟩, ⟨o, ho, hc, hd⟩⟩ := st
    have e' : b = e ∨ b = it := by simpa using hb
    rcases e' with z | z
    · rw [z]; exact ⟨_, he, fun v q => nomatch q⟩
    · rw [z]; exact ⟨o, ho, fun v q => by rw [hd] at q; cases q⟩
  keep := fun i h h' st k => by
    obtain ⟨⟨old, he⟩, hi⟩ := st
    exact ⟨⟨old, k e (by simp) _ he⟩, hi.at fun o q => k it (by simp) o q⟩
  item := by
    intro X hP hw hK hc i pins s σ H E I hf st hg
    subst hP hw hK
    obtain ⟨⟨old, he⟩, hit⟩ := st
    obtain ⟨xs, x, hq, hx⟩ := hg
    obtain ⟨its, rv, p, hz⟩ := I.tuple hq
    obtain ⟨u, hu, ru⟩ := rv.get hx
    have hel : e < s.heap.objs.size := Heap.lt_size he
    have hil : it < s.heap.objs.size := by
      obtain ⟨_, q, _⟩ := hit
      exact Heap.lt_size q
    have hlt : i < its.toArray.size := by
      have := (List.getElem?_eq_some_iff.mp hu).1
      simpa using this
    have DT := drawsTup (prog := X.prog) (w := X.w) (A := X.A.in1) (show X.A.in1.handled = none from I.ok.hd hc) it a hai its.toArray
    have nef : e ∉ [it, a] := fun z => by
      rcases List.mem_cons.mp z with z | z
      · exact hei z
      · exact hae (List.mem_singleton.mp z).symm
    refine wpAny_pyNext_enum_itemD (i := i) DT he ⟨hit, p⟩ hlt hei nef fun y h' tk hy ho st' hT hsz hk => ?_
    have ey : y = u := by
      have : its.toArray[i]? = some u := by simpa using hu
      rw [this] at hy
      exact (Option.some.inj hy).symm
    subst ey
    refine ⟨_, rfl, wpAny_letOwnedTupleGo_enum (s := { s with heap := h', toks := tk + 1 }) ho fun h'' he' sb => ?_⟩
    have hT2 : h''.get? s.heap.objs.size = some { cls := .type "tuple", data := .seq #[.int i tk, y] } := (sb.2 _ (Nat.ne_of_gt hel)).trans hT
    have new : ObjOk X.prog X.w (upd H s.heap.objs.size (.tup [.int (i : Nat), x])) h'' s.heap.objs.size (.tup [.int (i : Nat), x]) :=
      ⟨by show 2 ≤ sizeLine; decide, [.int i tk, y], .cons ⟨_, rfl⟩ (.cons ru .nil), ⟨_, hT2, rfl, _, rfl⟩⟩
    have I1 : Inv X pins σ (upd H s.heap.objs.size (.tup [.int (i : Nat), x])) { s with heap := h'', toks := tk + 1 } :=
      I.turnedNew (ch := [e, it]) (fun b ob hb q => (sb.2 b (fun z => hb (by simp [z]))).trans (hk b ob (fun z => hb (by simp [z])) (fun z => hb (by simp [z])) q)) hf (Nat.le_refl _) new
    refine ⟨.ref s.heap.objs.size, _, I1, rfl, ⟨_, x, rfl, I.hok.fresh (Nat.le_refl _), rfl, fun ys hy => by rw [I.tuple_inj hy hq]; exact hx⟩, ⟨⟨y, ?_⟩, st'.1.at fun o q => (sb.2 it (Ne.symm hei)).trans q⟩, fun b hb => ?_⟩
    · have e1 : ((i + 1 : Nat) : Int) = (i : Int) + 1 := by omega
      rw [e1]; exact he'
    · have hb' : b < s.heap.objs.size := by
        have e' : b = e ∨ b = it := by simpa using hb
        rcases e' with z | z
        · rw [z]; exact hel
        · rw [z]; exact hil
      rw [upd_ne (Nat.ne_of_lt hb')]
      exact (hf b hb).1
  done := by
    intro X hP hw hK hc i pins s σ H E I hf st hg
    subst hP hw hK
    obtain ⟨⟨old, he⟩, hit⟩ := st
    obtain ⟨xs, hq, hx⟩ := hg
    obtain ⟨its, rv, p, hz⟩ := I.tuple hq
    obtain ⟨f0, f1, f2, f3, f4, f5⟩ := hf it (by simp)
    have hl := rv.length
    have hT : s.TypeIs (.ref e) "enumerate" := ⟨_, he, rfl⟩
    unfold pyNext
    refine wpAny_bind (wpAny_attempt (wpAny_callSpecial?_slot (name := Str.ofString "__next__") hT F.slot_enumerate_next (wpAny_call_entry F.slot_enumerate_next hT F.entry_enumerate_next ?_ (F.args_enumerate_next_1 _))))
    show wpAny _ _ (field (.ref e) 2 >>= _) _ _ _
    refine wpAny_bind (wpAny_field he rfl (x := .ref it) rfl ?_)
    refine wpAny_bind (RZ.nextOf_tuple_end (I.ok.hd hc) hit (show s.heap.IsTuple a its.toArray from p) (by simp; omega) fun h' x eb hx' => ?_)
    obtain ⟨o, ho, hcl⟩ := hx'
    refine wpAny_bind (wpAny_isInstance (T := "StopIteration") (b := true) ⟨o, ho, hcl⟩ isSubtype_stop ?_)
    exact wpAny_pure ⟨rfl, I.turned (t' := s.toks) (fun b o hb q => eb b o hb q) f0 f1 f3 f4 f5⟩
  self := fun A i s Q E st h => by
    obtain ⟨⟨_, he⟩, _⟩ := st
    exact wpAny_pyIter_enum he h
/-- enumerate of a list or of a tuple -/
def iEnumA (K : PySem.W.Frag) (ta : TA) : TI := fun σ H R => ta σ H fun vs H1 => ∃ a xs, vs = [.ref a] ∧ ((SqL K H1 a xs ∧ R (Ite K a) H1) ∨ (SqT K H1 a xs ∧ R (IteT K a) H1))
theorem pi_enumA {X : Cx} {e : Expr} {ta : TA} {p pos tpos : Pos} {elts : List Expr} {kk : Nat} (hg : Gl X "enumerate") (hm : X.mg "enumerate" = none) (ha : PA X [e] ta) (hs : starEach [e] X.env = [(false, eval e X.env)]) :
    PI X (.Tuple elts kk tpos) (.Call (.Name "enumerate" p) [e] [] pos) (iEnumA X.K ta) := by
  refine ⟨fun pins s σ H R I h => ?_⟩
  refine Call_ (ld_blt I hg hm boot_enumerate (PyProof.Rows.callWith_type1 (thn (ha.run pos pins s σ H _ I h) fun us s1 ⟨vs, H1, I1, r1, q1⟩ => ?_) hs rfl))
  obtain ⟨a, xs, ex, q⟩ := q1
  subst ex
  cases r1 with
  | cons r rr =>
    cases rr
    cases r
    have far : ∀ b, b ∈ [s1.heap.objs.size + 1, s1.heap.objs.size] → s1.heap.objs.size ≤ b := fun b hb => by
      have e' : b = s1.heap.objs.size + 1 ∨ b = s1.heap.objs.size := by simpa using hb
      rcases e' with z | z
      · rw [z]; exact Nat.le_add_right _ _
      · rw [z]; exact Nat.le_refl _
    rcases q with ⟨hq, q⟩ | ⟨hq, q⟩
    · obtain ⟨its, rv, p', hz⟩ := I1.list hq
      refine call_enumerate_list p'.isList fun h' he hit hsz hk => wpAny_pyIter_enum he ?_
      have I2 : Inv X pins σ H1 { s1 with heap := h' } := I1.kept (t' := s1.toks) hk
      exact ⟨s1.heap.objs.size + 1, [s1.heap.objs.size + 1, s1.heap.objs.size], _, _, H1, rfl, I2, turn_enum a (s1.heap.objs.size + 1) s1.heap.objs.size, ⟨⟨.none, he⟩, hit, Nat.succ_ne_self _⟩, fun b hb => I1.fpOk (far b hb) (I1.hok.fresh (far b hb)), q⟩
    · obtain ⟨its, rv, p', hz⟩ := I1.tuple hq
      have hal : a < s1.heap.objs.size := by
        obtain ⟨o, ho, _⟩ := p'
        exact Heap.lt_size ho
      refine call_enumT (show s1.heap.IsTuple a its.toArray from p') fun h' he hit hsz hk => wpAny_pyIter_enum he ?_
      have I2 : Inv X pins σ H1 { s1 with heap := h' } := I1.kept (t' := s1.toks) hk
      exact ⟨s1.heap.objs.size + 1, [s1.heap.objs.size + 1, s1.heap.objs.size], _, _, H1, rfl, I2, turn_enumT a (s1.heap.objs.size + 1) s1.heap.objs.size (Nat.succ_ne_self _) (Nat.ne_of_lt (Nat.lt_succ_of_lt hal)) (Nat.ne_of_lt hal), ⟨⟨.none, he⟩, hit⟩, fun b hb => I1.fpOk (far b hb) (I1.hok.fresh (far b hb)), q⟩
section
variable {K : PySem.W.Frag}
theorem draw_enumT {xs : List PV} {a : Addr} : Draw K (IteT K a) ⟨enumL 0 xs, none⟩ (fun ω H => Rep K ω H (.tup xs) (.ref a)) where
  keep := fun _ _ _ _ _ h l _ _ => h.mono l
  hidden := fun _ _ _ _ h m => h.hidden m
  hide := fun _ _ _ h m => h.hide m
  go := fun ω H i h hi => by
    obtain ⟨a', vs, e, hs, _, hr⟩ := h.tup
    cases e
    have hi' : i < vs.length := by rw [hr.length, ← enumL_len xs 0]; exact hi
    exact ⟨vs, vs[i], hs, by simp [hi']⟩
  stop := fun ω H i h hi => by
    obtain ⟨a', vs, e, hs, _, hr⟩ := h.tup
    cases e
    exact ⟨vs, hs, by rw [hr.length, ← enumL_len xs 0]; exact hi⟩
  yld := fun ω S H i x v H' h s e y => by
    obtain ⟨a', vs, e', hs, _, hr⟩ := h.tup
    cases e'
    obtain ⟨p, e1, rfl⟩ := enumL_get e
    obtain ⟨T, x1, rfl, hT, rfl, f1⟩ := y
    obtain ⟨w1, g1, r1⟩ := hr.get e1
    have z1 : w1 = x1 := Option.some.inj (g1.symm.trans (f1 vs hs))
    subst z1
    rw [Nat.zero_add]
    exact new_pair s hT rep_int r1
end
end Mi
set_option Elab.async false
set_option linter.all false
set_option maxRecDepth 100000
set_option maxHeartbeats 1000000
namespace Mi
open PySem PySem.Spec PyProof.Rows L2
theorem turn_long {P : Program} {w : World} {K : PySem.W.Frag} {tg : Expr} (it : Addr) (lo : Int) (n : Nat) : Turn P w K tg (Itr lo n) [it] it (fun i h => IsLongIter h it (lo + (i : Nat) * 1) ((n : Int) - (i : Nat)) 1) where
  mem := by simp
  obj := fun i h st b hb => by
    have e : b = it := by simpa using hb
    subst e
    exact ⟨_, st, fun v z => by
      have z' : Data.fields _ = Data.cell v := z
      cases z'⟩
  keep := fun i h h' st k => k it (by simp) _ st
  item := by
    intro X hP hw hK hc i pins s σ H E I hf st hg
    subst hP hw hK
    obtain ⟨f0, f1, f2, f3, f4, f5⟩ := hf it (by simp)
    have W := Walks.longrange (prog := X.prog) (w := X.w) (I.ok.hd hc) it lo 1 n
    refine W.item i s _ _ hg st fun v h' tk hv st' kk => ?_
    obtain ⟨t, rfl⟩ := hv
    have I1 : Inv X pins σ H { s with heap := h', toks := tk } := I.turned (fun b o hb e => kk b o (by simpa using hb) e) f0 f1 f3 f4 f5
    refine ⟨_, rfl, go_of (s := { s with heap := h', toks := tk }) (n := "longrange_iterator") st' rfl rfl (by decide) ⟨.int (lo + i), H, I1, ⟨t, ?_⟩, ⟨rfl, rfl⟩, st', fun b hb => (hf b hb).1⟩⟩
    rw [Int.mul_one]
  done := by
    intro X hP hw hK hc i pins s σ H E I hf st hg
    subst hP hw hK
    obtain ⟨f0, f1, f2, f3, f4, f5⟩ := hf it (by simp)
    exact wpAny_pyNext_long_end (I.ok.hd hc) st (by have : n ≤ i := hg; omega) fun h' eb => ⟨rfl, I.turned (t' := s.toks) (fun b o hb e => eb b o hb e) f0 f1 f3 f4 f5⟩
  self := fun _ _ _ _ _ st h => wpAny_pyIter_longiter st h
section
variable {X : Cx} {tg : Expr}
theorem range_any {pins : List (Addr × Obj)} {σ : L2.St} {H : Hp} {s : Shared} {R : It → Hp → Prop} {E : Value → Shared → Prop} {lo hi : Int} {t u v : Tok} {tk : Nat} (I : Inv X pins σ H s)
    (q : R (Itr lo (hi - lo).toNat) H) : wpAny (model X.prog X.w) X.A (pyIter (.ref s.heap.objs.size)) (PIE X pins σ tg R) E { s with heap := s.heap.push { cls := .type "range", data := .fields #[.int lo t, .int hi u, .int 1 v] }, toks := tk } := by
  have I1 : Inv X pins σ H { s with heap := s.heap.push { cls := .type "range", data := .fields #[.int lo t, .int hi u, .int 1 v] }, toks := tk } := I.kept fun b o e => Heap.get?_push_of_some _ e
  have e1 : lo + ((0 : Nat) : Int) * 1 = lo := by simp
  have e2 : (((hi - lo).toNat : Nat) : Int) - ((0 : Nat) : Int) = Builtin.Range.rangeSize lo hi 1 := by rw [rangeSize_one]; split <;> omega
  have fp : ∀ b, b ∈ [(s.heap.push { cls := .type "range", data := .fields #[.int lo t, .int hi u, .int 1 v] }).objs.size] → (s.heap.push { cls := .type "range", data := .fields #[.int lo t, .int hi u, .int 1 v] }).objs.size ≤ b := fun b hb => by
    rw [List.mem_singleton.mp hb]; exact Nat.le_refl _
  cases hsm : Builtin.Range.small lo hi 1 with
  | true =>
    refine wpAny_pyIter_range (IsRange.new ..) hsm ?_
    refine ⟨_, [(s.heap.push { cls := .type "range", data := .fields #[.int lo t, .int hi u, .int 1 v] }).objs.size], _, _, H, rfl, I1.kept (t' := tk) fun b o e => Heap.get?_push_of_some _ e, turn_range _ lo (hi - lo).toNat, ?_, fun b hb => I1.fpOk (fp b hb) (I1.hok.fresh (fp b hb)), q⟩
    show IsRangeIter _ _ (lo + ((0 : Nat) : Int) * 1) ((((hi - lo).toNat : Nat) : Int) - ((0 : Nat) : Int)) 1
    rw [e1, e2]
    exact Heap.get?_push_size _ rfl
  | false =>
    refine wpAny_pyIter_longrange (IsRange.new ..) hsm ?_
    refine ⟨_, [(s.heap.push { cls := .type "range", data := .fields #[.int lo t, .int hi u, .int 1 v] }).objs.size], _, _, H, rfl, I1.kept (t' := tk) fun b o e => Heap.get?_push_of_some _ e, turn_long _ lo (hi - lo).toNat, ?_, fun b hb => I1.fpOk (fp b hb) (I1.hok.fresh (fp b hb)), q⟩
    show IsLongIter _ _ (lo + ((0 : Nat) : Int) * 1) ((((hi - lo).toNat : Nat) : Int) - ((0 : Nat) : Int)) 1
    rw [e1, e2]
    exact Heap.get?_push_size _ rfl
def iRngA (ta : TA) : TI := fun σ H R => ta σ H fun vs H1 => ∃ i j : Int, vs = [.int i, .int j] ∧ R (Itr i (j - i).toNat) H1
theorem pi_rangeA {a b : Expr} {ta : TA} {p pos : Pos} (hg : Gl X "range") (hm : X.mg "range" = none) (ha : PA X [a, b] ta) (hs : starEach [a, b] X.env = [(false, eval a X.env), (false, eval b X.env)]) (hs2 : starEach [b] X.env = [(false, eval b X.env)]) :
    PI X tg (.Call (.Name "range" p) [a, b] [] pos) (iRngA ta) := by
  refine ⟨fun pins s σ H R I h => ?_⟩
  refine Call_ (ld_blt I hg hm boot_range (PyProof.Rows.callWith_type1 (thn (ha.run pos pins s σ H _ I h) fun us s1 ⟨vs, H1, I1, r1, q1⟩ => ?_) (by rw [hs, hs2]) (by rw [hs2]; rfl)))
  obtain ⟨i, j, e, q⟩ := q1
  subst e
  cases r1 with
  | cons r rr =>
    cases rr with
    | cons r' rr =>
      cases rr
      obtain ⟨t, rfl⟩ := r
      obtain ⟨t', rfl⟩ := r'
      exact call_range_2 (range_any I1 q)
end
end Mi
set_option Elab.async false
set_option linter.all false
set_option maxRecDepth 100000
namespace Mi
open PySem PySem.Spec PyProof.Rows L2
theorem piOr {X : Cx} {g x : Expr} {t t' : TI} (h : PI X g x t) (h' : PI X g x t') : PI X g x (fun σ H R => t σ H R ∨ t' σ H R) :=
  ⟨fun pins s σ H R I q => q.elim (fun z => h.run pins s σ H R I z) (fun z => h'.run pins s σ H R I z)⟩
section
variable {X : Cx} {E : XK} {pos : Pos} {ma mb : Env → M PV} {a b tg : Expr} {es : List Expr} {mes : Env → M (List PV)}
/-- a run that is known -/
theorem rd_case {α β γ δ : Type} {K : PySem.W.Frag} {Rl : Wd → Hp → α → β → Prop} {Rl2 : Wd → Hp → γ → δ → Prop} {m : Env → M α} {f : α → M γ} {σ : L2.St} {H : Hp} {Q : δ → Hp → Prop} {P : Prop}
    (h : rd K E Rl2 (fun env => M.bind (m env) f) σ H Q)
    (h1 : ∀ v, (∀ R : β → Hp → Prop, (∀ ω1 S1 x H1, RelSt K ω1 S1 H1 → Rl ω1 H1 v x → Post K E Rl2 ω1 H1 (f v S1) Q → R x H1) → rd K E Rl m σ H R) → (∃ ω1 S1 H1, Post K E Rl2 ω1 H1 (f v S1) Q) → P)
    (h2 : (∀ R : β → Hp → Prop, rd K E Rl m σ H R) → P) : P := by
  obtain ⟨ω, S, env, hS, hE, hP⟩ := h
  have hP : Post K E Rl2 ω H (M.bind (m env) f S) Q := hP
  cases q : m env S with
  | ok v S1 =>
    rw [bind_ok q] at hP
    refine h1 v (fun R hR => ⟨ω, S, env, hS, hE, ?_⟩) ⟨ω, S1, H, hP⟩
    rw [q]
    exact fun ω' H' x l s r => hR ω' S1 x H' s r (hP.mono l)
  | exc c S1 =>
    rw [bind_exc q] at hP
    exact h2 fun R => ⟨ω, S, env, hS, hE, by rw [q]; exact hP⟩
  | stuck =>
    rw [bind_stuck q] at hP
    exact False.elim hP
theorem i_sq (ha : PE X a (tE X.K E ma)) : PI X tg a (tI X.K E (fun env => M.bind (ma env) srcOf)) := by
  refine piImp (piOr (pi_list ha) (piOr (pi_tup ha) (pi_str ha))) fun σ H R h => ?_
  refine rd_case (Rl := Rep X.K) h (fun v hv hst => ?_) (fun hx => .inl (hx _))
  cases v with
  | lst xs =>
    refine .inl (hv _ fun ω1 S1 x H1 s r p => ?_)
    have r' := r
    obtain ⟨c, vs, e, hs, hl, hr⟩ := r.lst
    subst e
    refine ⟨c, rfl, ⟨vs, .inl (.inl hs)⟩, ?_⟩
    have p : Post X.K E (RelI X.K) ω1 H1 (.ok ⟨xs, none⟩ S1) R := p
    exact Post.ok p s ⟨_, draw_list (pv := .lst xs) (fun {ω H} q => by
      obtain ⟨c', vs', e, h1, _, h2⟩ := q.lst
      cases e
      exact ⟨vs', .inl (.inl h1), h2⟩), r', hl⟩
  | frz xs =>
    refine .inl (hv _ fun ω1 S1 x H1 s r p => ?_)
    have r' := r
    obtain ⟨c, vs, e, hs, hl, hr⟩ := r.frz
    subst e
    refine ⟨c, rfl, ⟨vs, hs⟩, ?_⟩
    have p : Post X.K E (RelI X.K) ω1 H1 (.ok ⟨xs, none⟩ S1) R := p
    exact Post.ok p s ⟨_, draw_list (pv := .frz xs) (fun {ω H} q => by
      obtain ⟨c', vs', e, h1, _, h2⟩ := q.frz
      cases e
      exact ⟨vs', h1, h2⟩), r', hl⟩
  | tup xs =>
    refine .inr (.inl (hv _ fun ω1 S1 x H1 s r p => ?_))
    have r' := r
    obtain ⟨c, vs, e, hs, hl, hr⟩ := r.tup
    subst e
    refine ⟨c, rfl, ⟨vs, hs⟩, ?_⟩
    have p : Post X.K E (RelI X.K) ω1 H1 (.ok ⟨xs, none⟩ S1) R := p
    exact Post.ok p s ⟨_, draw_tup, r', hl⟩
  | str t =>
    refine .inr (.inr (hv _ fun ω1 S1 x H1 s r p => ?_))
    obtain ⟨e, hl⟩ := r.str
    subst e
    refine ⟨_, rfl, ?_⟩
    have p : Post X.K E (RelI X.K) ω1 H1 (.ok ⟨t.map fun c => .str [c], none⟩ S1) R := p
    exact Post.ok p s ⟨_, draw_str, trivial, by show (t.map _).length ≤ _; rw [List.length_map]; exact hl⟩
  | ref i =>
    refine .inl (hv _ fun ω1 S1 x H1 s r p => ?_)
    simp only [Rep] at r
    obtain ⟨c, ec, e⟩ := r
    subst e
    unfold srcOf at p
    cases q : S1[i]? with
    | none => simp only [q] at p; exact False.elim p
    | some cc =>
      cases cc with
      | lst xs =>
        simp only [q] at p
        obtain ⟨o, ho, vs, eo, hl, hr⟩ := s.cell i _ c q ec
        subst eo
        refine ⟨c, rfl, ⟨vs, .inl (.inl ho)⟩, Post.ok p s ⟨_, draw_ref, ⟨ec, fun m => (s.hd c m).1 (List.mem_of_getElem? ec), vs, ho, hr⟩, hl⟩⟩
      | tab p0 q0 => simp only [q] at p; exact False.elim p
  | non => obtain ⟨_, _, _, p⟩ := hst; exact False.elim p
  | bl k => obtain ⟨_, _, _, p⟩ := hst; exact False.elim p
  | int k => obtain ⟨_, _, _, p⟩ := hst; exact False.elim p
theorem small_of {i : Int} (h : small62 i = true) : -(2 ^ 62) ≤ i ∧ i < 2 ^ 62 := by
  have := of_small62 h
  omega
theorem rangeL_len (lo hi : Int) : (rangeL lo hi).length = (hi - lo).toNat := by unfold rangeL; rw [List.length_map, List.length_range]
theorem i_rng1 {p : Pos} (hg : Gl X "range") (hm : X.mg "range" = none) (hs : starEach [a] X.env = [(false, eval a X.env)]) (ha : PA X [a] (tA X.K E mes)) (h1 : ∀ env S xs S', mes env S = .ok xs S' → xs.length = 1) :
    PI X tg (.Call (.Name "range" p) [a] [] pos) (tI X.K E (fun env => M.bind (mes env) rngM)) := by
  refine piImp (pi_range1 hg hm ha hs) fun σ H R ⟨ω, S, env, hS, hE, hP⟩ => ⟨ω, S, env, hS, hE, ?_⟩
  have hP : Post X.K E (RelI X.K) ω H (M.bind (mes env) rngM S) R := hP
  cases q : mes env S with
  | exc c S1 => rw [bind_exc q] at hP; exact hP
  | stuck => rw [bind_stuck q] at hP; exact False.elim hP
  | ok xs S1 =>
    rw [bind_ok q] at hP
    refine fun ω' H' vs l s r => ?_
    have hl := h1 env S xs S1 q
    match xs, hl, r, hP with
    | [x], _, r, hP =>
      obtain ⟨v, rfl, rx⟩ := reps1 r
      cases x with
      | int j =>
        obtain ⟨g, hP⟩ := Post.guard hP
        rw [Bool.and_eq_true] at g
        obtain ⟨g1, g2⟩ := small_of g.1
        rw [rx.int]
        refine ⟨j, rfl, g1, g2, ?_⟩
        have dr : Draw X.K (Itr 0 j.toNat) ⟨rangeL 0 j, none⟩ (fun _ _ => True) := by
          have := draw_rng (K := X.K) (lo := 0) (hi := j)
          rwa [Int.sub_zero] at this
        exact hP ω' H' _ l s ⟨_, dr, trivial, by show (rangeL 0 j).length ≤ _; rw [rangeL_len, Int.sub_zero]; have := lnI_iff.mp g.2; have e : sizeLine = 16777216 := rfl; rw [e]; omega⟩
      | _ => exact False.elim hP
theorem i_rng2 {p : Pos} (hg : Gl X "range") (hm : X.mg "range" = none) (hs : starEach [a, b] X.env = [(false, eval a X.env), (false, eval b X.env)]) (hs2 : starEach [b] X.env = [(false, eval b X.env)]) (ha : PA X [a, b] (tA X.K E mes)) (h1 : ∀ env S xs S', mes env S = .ok xs S' → xs.length = 2) :
    PI X tg (.Call (.Name "range" p) [a, b] [] pos) (tI X.K E (fun env => M.bind (mes env) rngM)) := by
  refine piImp (pi_rangeA hg hm ha hs hs2) fun σ H R ⟨ω, S, env, hS, hE, hP⟩ => ⟨ω, S, env, hS, hE, ?_⟩
  have hP : Post X.K E (RelI X.K) ω H (M.bind (mes env) rngM S) R := hP
  cases q : mes env S with
  | exc c S1 => rw [bind_exc q] at hP; exact hP
  | stuck => rw [bind_stuck q] at hP; exact False.elim hP
  | ok xs S1 =>
    rw [bind_ok q] at hP
    refine fun ω' H' vs l s r => ?_
    have hl := h1 env S xs S1 q
    match xs, hl, r, hP with
    | [x, y], _, r, hP =>
      obtain ⟨v, w, rfl, rx, ry⟩ := reps2 r
      cases x with
      | int i =>
        cases y with
        | int j =>
          obtain ⟨g, hP⟩ := Post.guard hP
          rw [rx.int, ry.int]
          refine ⟨i, j, rfl, ?_⟩
          exact hP ω' H' _ l s ⟨_, draw_rng, trivial, by show (rangeL i j).length ≤ _; rw [rangeL_len]; have := lnI_iff.mp g; have e : sizeLine = 16777216 := rfl; rw [e]; omega⟩
        | _ => exact False.elim hP
      | _ => exact False.elim hP
theorem i_zip {p tpos : Pos} {elts : List Expr} {kk : Nat} (hg : Gl X "zip") (hm : X.mg "zip" = none) (hs : starEach [a, b] X.env = (false, eval a X.env) :: starEach [b] X.env) (hs2 : starEach [b] X.env = (false, eval b X.env) :: starEach [] X.env)
    (ha : PE X a (tE X.K E ma)) (hb : PE X b (tE X.K E mb)) :
    PI X (.Tuple elts kk tpos) (.Call (.Name "zip" p) [a, b] [] pos) (tI X.K E (fun env => M.bind (ma env) fun x => M.bind (mb env) fun y => zipM x y)) := by
  refine piImp (RZ.pi_zipA hg hm (pa_cons ha (pa_cons hb pa_nil hs2) hs) hs (by rw [hs2]; rfl)) fun σ H R h => ?_
  refine rdImp (rd_bind (Rl := Rep X.K) h) fun x H1 ⟨ω1, S1, env1, v, s1, e1, r1, p1⟩ => ?_
  refine rdImp (rd_next (Rl := Rep X.K) s1 e1 p1) fun y H2 ⟨ω2, S2, w, l2, s2, e2, r2, p2⟩ => ?_
  have r1 := r1.mono l2
  cases v with
  | lst xs =>
    cases w with
    | lst ys =>
      have r1' := r1
      have r2' := r2
      obtain ⟨c, vs, e, hs, hl, hr⟩ := r1.lst
      obtain ⟨d, ws, e', hs', hl', hr'⟩ := r2.lst
      subst e e'
      have p2 : Post X.K E (RelI X.K) ω2 H2 (.ok ⟨zipL xs ys, none⟩ S2) R := p2
      exact ⟨c, d, vs, ws, rfl, .inl ⟨.inl (.inl hs), .inl (.inl hs'), Post.ok p2 s2 ⟨_, draw_zipL, ⟨r1', r2'⟩, by show (zipL xs ys).length ≤ _; rw [zipL_len]; omega⟩⟩⟩
    | _ => exact False.elim p2
  | tup xs =>
    cases w with
    | tup ys =>
      have r1' := r1
      have r2' := r2
      obtain ⟨c, vs, e, hs, hl, hr⟩ := r1.tup
      obtain ⟨d, ws, e', hs', hl', hr'⟩ := r2.tup
      subst e e'
      have p2 : Post X.K E (RelI X.K) ω2 H2 (.ok ⟨zipL xs ys, none⟩ S2) R := p2
      exact ⟨c, d, vs, ws, rfl, .inr ⟨hs, hs', Post.ok p2 s2 ⟨_, draw_zipT, ⟨r1', r2'⟩, by show (zipL xs ys).length ≤ _; rw [zipL_len]; omega⟩⟩⟩
    | _ => exact False.elim p2
  | _ => exact False.elim p2
theorem i_enum {p tpos : Pos} {elts : List Expr} {kk : Nat} (hg : Gl X "enumerate") (hm : X.mg "enumerate" = none) (hs : starEach [a] X.env = [(false, eval a X.env)]) (ha : PE X a (tE X.K E ma)) :
    PI X (.Tuple elts kk tpos) (.Call (.Name "enumerate" p) [a] [] pos) (tI X.K E (fun env => M.bind (ma env) enumM)) := by
  refine piImp (pi_enumA hg hm (pa_cons ha pa_nil (by rw [hs]; rfl)) hs) fun σ H R h => ?_
  refine rdImp (rd_bind (Rl := Rep X.K) (f := fun _ => enumM) h) fun x H1 ⟨ω1, S1, env1, v, s1, e1, r1, p1⟩ => ?_
  cases v with
  | lst xs =>
    have r1' := r1
    obtain ⟨c, vs, e, hs, hl, hr⟩ := r1.lst
    subst e
    have p1 : Post X.K E (RelI X.K) ω1 H1 (.ok ⟨enumL 0 xs, none⟩ S1) R := p1
    exact ⟨c, vs, rfl, .inl ⟨.inl (.inl hs), Post.ok p1 s1 ⟨_, draw_enum, r1', by show (enumL 0 xs).length ≤ _; rw [enumL_len]; exact hl⟩⟩⟩
  | tup xs =>
    have r1' := r1
    obtain ⟨c, vs, e, hs, hl, hr⟩ := r1.tup
    subst e
    have p1 : Post X.K E (RelI X.K) ω1 H1 (.ok ⟨enumL 0 xs, none⟩ S1) R := p1
    exact ⟨c, vs, rfl, .inr ⟨hs, Post.ok p1 s1 ⟨_, draw_enumT, r1', by show (enumL 0 xs).length ≤ _; rw [enumL_len]; exact hl⟩⟩⟩
  | _ => exact False.elim p1
end

def tgs : Tg → List Nat
  | .one i => [i]
  | .two i j => [i, j]
  | .thr i j l => [i, j, l]
def gOf (K : PySem.W.Frag) : Tg → TG
  | .one i => gName i
  | .two i j => gTup K 2 (gCons (gName i) (gCons (gName j) gNil))
  | .thr i j l => gTup K 3 (gCons (gName i) (gCons (gName j) (gCons (gName l) gNil)))
/-- only the slots is are changed -/
def But (is : List Nat) (σ σ' : L2.St) : Prop := σ'.length = σ.length ∧ ∀ j, j ∉ is → σ'[j]? = σ[j]?
theorem wipe_get (σ : L2.St) : ∀ (vs : List Nat) (j : Nat), (wipe σ vs)[j]? = if j ∈ vs ∧ j < σ.length then some none else σ[j]?
  | [], j => by simp [wipe]
  | v :: vs, j => by
    have ih := wipe_get σ vs j
    unfold wipe
    by_cases h : v = j
    · subst h
      rw [List.getElem?_set]
      simp only [if_true, wipe_length]
      by_cases hl : v < σ.length
      · rw [if_pos hl, if_pos ⟨by simp, hl⟩]
      · rw [if_neg hl, if_neg (fun z => hl z.2)]
        exact (List.getElem?_eq_none (by omega)).symm
    · rw [List.getElem?_set_ne h, ih]
      have : (j ∈ v :: vs) ↔ j ∈ vs := by
        rw [List.mem_cons]
        exact ⟨fun z => z.elim (fun e => absurd e.symm h) id, .inr⟩
      by_cases c : j ∈ vs ∧ j < σ.length
      · rw [if_pos c, if_pos ⟨this.mpr c.1, c.2⟩]
      · rw [if_neg c, if_neg (fun z => c ⟨this.mp z.1, z.2⟩)]
theorem wipe_but {σ σ2 : L2.St} {own is : List Nat} (hs : ∀ i ∈ is, i ∈ own) (h : But is (wipe σ own) σ2) : wipe σ2 own = wipe σ own := by
  apply List.ext_getElem?
  intro j
  have hl : σ2.length = σ.length := by rw [h.1, wipe_length]
  rw [wipe_get, wipe_get]
  by_cases c : j ∈ own ∧ j < σ.length
  · rw [if_pos c, if_pos ⟨c.1, by rw [hl]; exact c.2⟩]
  · rw [if_neg c, if_neg (by rw [hl]; exact c)]
    by_cases m : j ∈ own
    · have : σ.length ≤ j := by
        rcases Nat.lt_or_ge j σ.length with z | z
        · exact absurd ⟨m, z⟩ c
        · exact z
      rw [List.getElem?_eq_none this, List.getElem?_eq_none (by rw [hl]; exact this)]
    · rw [h.2 j (fun z => m (hs j z)), wipe_get, if_neg (fun z => m z.1)]
theorem reps3 {K : PySem.W.Frag} {ω : Wd} {H : Hp} {v w u : PV} {xs : List V} (r : Reps K ω H [v, w, u] xs) : ∃ x y z, xs = [x, y, z] ∧ Rep K ω H v x ∧ Rep K ω H w y ∧ Rep K ω H u z := by
  simp only [Reps] at r
  obtain ⟨x, xr, e, r1, y, yr, e1, r2, z, zr, e2, r3, e3⟩ := r
  subst e3 e2 e1
  exact ⟨x, y, z, e, r1, r2, r3⟩
theorem bind_g {K : PySem.W.Frag} {ω : Wd} {H : Hp} {tg : Tg} {x : PV} {v : V} {env env' : Env} {σ : L2.St} {Q : L2.St → Hp → Prop} (e : bindT tg x env = some env') (r : Rep K ω H x v) (hE : RelEnv K ω H env σ)
    (h : ∀ σ', RelEnv K ω H env' σ' → But (tgs tg) σ σ' → Q σ' H) : gOf K tg v σ H Q := by
  cases tg with
  | one i =>
    have e : some (env.set i (some x)) = some env' := e
    cases e
    refine h _ (hE.set r i) ⟨by simp, fun j hj => ?_⟩
    exact List.getElem?_set_ne (fun z => hj (by simp [tgs, z]))
  | two i j =>
    cases x with
    | tup xs =>
      match xs, r, e with
      | [a, b], r, e =>
        have e : some ((env.set i (some a)).set j (some b)) = some env' := e
        cases e
        obtain ⟨p, vs, ev, hs, _, hr⟩ := r.tup
        obtain ⟨x1, x2, rfl, r1, r2⟩ := reps2 hr
        refine ⟨p, _, ev, hs, rfl, x1, [x2], rfl, x2, [], rfl, rfl, h _ ((hE.set r1 i).set r2 j) ⟨by simp, fun k hk => ?_⟩⟩
        have h1 : i ≠ k := fun z => hk (by simp [tgs, z])
        have h2 : j ≠ k := fun z => hk (by simp [tgs, z])
        rw [List.getElem?_set_ne h2, List.getElem?_set_ne h1]
      | [], _, e => cases e
      | [_], _, e => cases e
      | _ :: _ :: _ :: _, _, e => cases e
    | _ => cases e
  | thr i j l =>
    cases x with
    | tup xs =>
      match xs, r, e with
      | [a, b, c], r, e =>
        have e : some (((env.set i (some a)).set j (some b)).set l (some c)) = some env' := e
        cases e
        obtain ⟨p, vs, ev, hs, _, hr⟩ := r.tup
        obtain ⟨x1, x2, x3, rfl, r1, r2, r3⟩ := reps3 hr
        refine ⟨p, _, ev, hs, rfl, x1, [x2, x3], rfl, x2, [x3], rfl, x3, [], rfl, rfl, h _ (((hE.set r1 i).set r2 j).set r3 l) ⟨by simp, fun k hk => ?_⟩⟩
        have h1 : i ≠ k := fun z => hk (by simp [tgs, z])
        have h2 : j ≠ k := fun z => hk (by simp [tgs, z])
        have h3 : l ≠ k := fun z => hk (by simp [tgs, z])
        rw [List.getElem?_set_ne h3, List.getElem?_set_ne h2, List.getElem?_set_ne h1]
      | [], _, e => cases e
      | [_], _, e => cases e
      | [_, _], _, e => cases e
      | _ :: _ :: _ :: _ :: _, _, e => cases e
    | _ => cases e

section
variable {X : Cx} {E : XK} {pos : Pos}
theorem noX_bind {α β γ : Type} {K : PySem.W.Frag} {Rl : Wd → Hp → γ → β → Prop} {ω : Wd} {H : Hp} {m : M α} {f : α → M γ} {S : Store} {Q : β → Hp → Prop} (h : Post K E Rl ω H (M.bind (noX m) f S) Q) :
    ∃ a S', m S = .ok a S' ∧ Post K E Rl ω H (f a S') Q := by
  unfold M.bind noX at h
  cases q : m S with
  | ok a S' => simp only [q] at h; exact ⟨a, S', rfl, h⟩
  | exc c S' => simp only [q] at h; exact False.elim h
  | stuck => simp only [q] at h; exact False.elim h
theorem bind_eq {α β : Type} {m m' : M α} {f : α → M β} {S : Store} (h : m S = m' S) : M.bind m f S = M.bind m' f S := by unfold M.bind; rw [h]
theorem lcLoop_no {test : Env → M Bool} {elt : Env → M PV} {tg : Tg} {env : Env} {src : Src} {xs acc : List PV} {S : Store} (h : ¬ src.ok src.xs S = true) : lcLoop test elt tg env src xs acc S = .stuck := by
  cases xs <;> exact if_neg h
theorem lcLoop_cons {test : Env → M Bool} {elt : Env → M PV} {tg : Tg} {env : Env} {src : Src} {x : PV} {xs acc : List PV} {S : Store} (h : src.ok src.xs S = true) :
    lcLoop test elt tg env src (x :: xs) acc S = (match bindT tg x env with
      | none => .stuck
      | some env' => M.bind (noX (test env')) (fun b => if b then M.bind (noX (elt env')) fun y => lcLoop test elt tg env src xs (acc ++ [y]) else lcLoop test elt tg env src xs acc) S) := by
  exact if_pos h
theorem lc_okS {K : PySem.W.Frag} {test : Env → M Bool} {elt : Env → M PV} {tg : Tg} {env : Env} {src : Src} {xs acc : List PV} {S : Store} {β : Type} {Rl : Wd → Hp → PV → β → Prop} {ω : Wd} {H : Hp} {f : List PV → M PV} {Q : β → Hp → Prop}
    (p : Post K E Rl ω H (M.bind (lcLoop test elt tg env src xs acc) f S) Q) : src.ok src.xs S = true := by
  by_cases z : src.ok src.xs S = true
  · exact z
  · rw [bind_stuck (lcLoop_no z)] at p
    exact False.elim p
abbrev lcM (mi : Env → M Src) (mt : Env → M Bool) (me : Env → M PV) (tg : Tg) (own : List Nat) (mu : Bool) : Env → M PV := fun env =>
  M.bind (mi env) fun src => M.bind (lcLoop mt me tg (wipeE env own) src src.xs []) fun ys => newL mu ys
theorem lc_ok {K : PySem.W.Frag} {mi : Env → M Src} {mt : Env → M Bool} {me : Env → M PV} {tg : Tg} {own : List Nat} {mu : Bool} (ho : ∀ i ∈ tgs tg, i ∈ own) {σ : L2.St} {H : Hp} {Q : VK}
    (h : rd K E (Rep K) (lcM mi mt me tg own mu) σ H Q) : tLc (tI K E mi) (gOf K tg) (tT K E0 mt) (tE K E0 me) own σ H Q := by
  refine rdImp (rd_bind (Rl := RelI K) h) fun J H1 ⟨ω1, S1, env, src, s1, e1, ⟨I, dr, i1, hlen⟩, p1⟩ => ?_
  intro D hD
  have fr := s1.fresh hD
  -- the turn's state
  refine ⟨fun i m H => m = src.xs.length - i ∧ i ≤ src.xs.length ∧ ∃ (ρ : List Addr) (S : Store) (acc : List PV) (vacc : List V), RelSt K ⟨ρ, D :: ω1.hid⟩ S H ∧ RelEnv K ⟨ρ, D :: ω1.hid⟩ H (wipeE env own) (wipe σ own) ∧ I ⟨ρ, D :: ω1.hid⟩ H ∧
      H D = some (.lst vacc) ∧ Reps K ⟨ρ, D :: ω1.hid⟩ H acc vacc ∧ acc.length ≤ i ∧ Le ω1 H1 ⟨ρ, ω1.hid⟩ H ∧
      Post K E (Rep K) ω1 H1 (M.bind (lcLoop mt me tg (wipeE env own) src (src.xs.drop i) acc) (fun ys => newL mu ys) S) Q, ?_, ?_⟩
  · refine ⟨_, rfl, Nat.zero_le _, ω1.rho, S1, [], [], s1.hide hD, ?_, ?_, upd_same, .nil, Nat.le_refl _, ?_, p1⟩
    · exact ((e1.hide hD).hidden (ω := ⟨ω1.rho, D :: ω1.hid⟩) List.mem_cons_self).wipe own
    · exact dr.hidden _ _ _ _ (dr.hide _ _ _ i1 hD) List.mem_cons_self
    · exact ⟨List.prefix_refl _, rfl, fun _ m => .inl m, fun a u e n _ => by rw [upd_ne (ne_of_none e hD)]; exact e⟩
  · rintro i m H2 ⟨rfl, hi, ρ, S, acc, vacc, s2, e2, i2, hDl, ra, hacc, le2, p2⟩
    have hDr : D ∉ ρ := (s2.hd D List.mem_cons_self).1
    by_cases hlt : i < src.xs.length
    · -- a turn
      right
      refine ⟨dr.go _ _ _ i2 hlt, fun H' => i + 1 ≤ src.xs.length ∧ ∃ (ρ : List Addr) (S : Store) (acc : List PV) (vacc : List V), RelSt K ⟨ρ, D :: ω1.hid⟩ S H' ∧ RelEnv K ⟨ρ, D :: ω1.hid⟩ H' (wipeE env own) (wipe σ own) ∧ I ⟨ρ, D :: ω1.hid⟩ H' ∧
        H' D = some (.lst vacc) ∧ Reps K ⟨ρ, D :: ω1.hid⟩ H' acc vacc ∧ acc.length ≤ i + 1 ∧ Le ω1 H1 ⟨ρ, ω1.hid⟩ H' ∧
        Post K E (Rep K) ω1 H1 (M.bind (lcLoop mt me tg (wipeE env own) src (src.xs.drop (i + 1)) acc) (fun ys => newL mu ys) S) Q, fun H' hN => ⟨src.xs.length - (i + 1), by omega, rfl, hN⟩, ?_⟩
      intro x H3 hy
      have hd : src.xs.drop i = src.xs[i] :: src.xs.drop (i + 1) := List.drop_eq_getElem_cons hlt
      rw [hd] at p2
      obtain ⟨le3, s3, r3⟩ := dr.yld _ S _ i src.xs[i] x H3 i2 s2 (by simp [hlt]) hy
      have e3 := e2.mono le3
      -- the loop's own step
      have hok := lc_okS p2
      cases hb : bindT tg src.xs[i] (wipeE env own) with
      | none =>
        have z := lcLoop_cons (test := mt) (elt := me) (tg := tg) (env := wipeE env own) (x := src.xs[i]) (xs := src.xs.drop (i + 1)) (acc := acc) hok
        rw [hb] at z
        rw [bind_stuck z] at p2
        exact False.elim p2
      | some env' =>
          have z := lcLoop_cons (test := mt) (elt := me) (tg := tg) (env := wipeE env own) (x := src.xs[i]) (xs := src.xs.drop (i + 1)) (acc := acc) hok
          rw [hb] at z
          have z : lcLoop mt me tg (wipeE env own) src (src.xs[i] :: src.xs.drop (i + 1)) acc S = (M.bind (noX (mt env')) (fun b => if b then M.bind (noX (me env')) fun y => lcLoop mt me tg (wipeE env own) src (src.xs.drop (i + 1)) (acc ++ [y]) else lcLoop mt me tg (wipeE env own) src (src.xs.drop (i + 1)) acc)) S := z
          have p3 := p2
          rw [bind_eq z] at p3
          rw [M.bind_assoc] at p3
          obtain ⟨b, S4, qb, p4⟩ := noX_bind p3
          refine bind_g hb r3 e3 fun σ2 e4 but => ⟨wipe_but ho but, ⟨_, S, env', s3, e4, ?_⟩⟩
          rw [qb]
          intro ω5 H5 b' le5 s5 eb
          have eb : b = b' := eb
          subst eb
          obtain ⟨ρ5, hid5⟩ := ω5
          have h5 : hid5 = D :: ω1.hid := le5.hid
          subst h5
          have hD3 : H3 D = some (.lst vacc) := le3.keep D _ hDl hDr noT_lst
          have hD5 : H5 D = some (.lst vacc) := le5.keep D _ hD3 hDr noT_lst
          have le25 : Le ⟨ρ, D :: ω1.hid⟩ H2 ⟨ρ5, D :: ω1.hid⟩ H5 := le3.trans le5
          have le15 : Le ω1 H1 ⟨ρ5, ω1.hid⟩ H5 := le2.trans ⟨le25.pre, rfl, le25.new, le25.keep⟩
          cases b with
          | false =>
            rw [if_neg (by decide)] at p4 ⊢
            have p4 : Post K E (Rep K) ω1 H1 (M.bind (lcLoop mt me tg (wipeE env own) src (src.xs.drop (i + 1)) acc) (fun ys => newL mu ys) S4) Q := p4
            have ok5 : src.ok src.xs S4 = true := lc_okS p4
            exact ⟨hlt, ρ5, S4, acc, vacc, s5, e2.mono le25, dr.keep _ _ _ _ _ i2 le25 s5 ok5, hD5, ra.mono le25, by omega, le15, p4⟩
          | true =>
            rw [if_pos rfl] at p4 ⊢
            rw [M.bind_assoc] at p4
            obtain ⟨y, S6, qy, p6⟩ := noX_bind p4
            refine ⟨_, S4, env', s5, e4.mono le5, ?_⟩
            rw [qy]
            intro ω7 H7 yv le7 s7 ry
            obtain ⟨ρ7, hid7⟩ := ω7
            have h7 : hid7 = D :: ω1.hid := le7.hid
            subst h7
            have hDr5 : D ∉ ρ5 := (s5.hd D List.mem_cons_self).1
            have hD7 : H7 D = some (.lst vacc) := le7.keep D _ hD5 hDr5 noT_lst
            have le27 := le25.trans le7
            have m7 : D ∈ (⟨ρ7, D :: ω1.hid⟩ : Wd).hid := List.mem_cons_self
            have ok7 : src.ok src.xs S6 = true := lc_okS p6
            have ra7 := ra.mono le27
            refine ⟨vacc, hD7, ?_, hlt, ρ7, S6, acc ++ [y], vacc ++ [yv], s7.hidden m7, (e2.mono le27).hidden m7, dr.hidden _ _ _ _ (dr.keep _ _ _ _ _ i2 le27 s7 ok7) m7, upd_same, (ra7.append (.one ry)).hidden m7, ?_, ?_, p6⟩
            · rw [ra.length]; omega
            · rw [List.length_append]
              show acc.length + 1 ≤ i + 1
              omega
            · have le17 : Le ω1 H1 ⟨ρ7, ω1.hid⟩ H7 := le2.trans ⟨le27.pre, rfl, le27.new, le27.keep⟩
              exact ⟨le17.pre, rfl, le17.new, fun a u e n t => by rw [upd_ne (ne_of_none e hD)]; exact le17.keep a u e n t⟩
    · -- the end
      have hi' : i = src.xs.length := by omega
      subst hi'
      left
      rw [List.drop_length] at p2
      have hok := lc_okS p2
      · have p3 : Post K E (Rep K) ω1 H1 (newL mu acc S) Q := by
          rw [bind_ok (show lcLoop mt me tg (wipeE env own) src [] acc S = .ok acc S from if_pos hok)] at p2
          exact p2
        refine ⟨dr.stop _ _ _ i2 (Nat.le_refl _), ?_⟩
        have hDh : D ∉ ω1.hid := fr.2
        cases mu with
        | false =>
          have sh : ∀ a, a ∉ (⟨ρ, D :: ω1.hid⟩ : Wd).rho → a ∉ (⟨ρ, D :: ω1.hid⟩ : Wd).hid → a ∉ (⟨ρ, ω1.hid⟩ : Wd).rho ∧ a ∉ (⟨ρ, ω1.hid⟩ : Wd).hid := fun a h1 h2 => ⟨h1, fun z => h2 (List.mem_cons_of_mem _ z)⟩
          refine p3 ⟨ρ, ω1.hid⟩ H2 _ le2 ?_ (rep_lst ⟨hDr, hDh⟩ hDl (Nat.le_trans hacc hlen) (ra.show sh (List.prefix_refl _)))
          refine ⟨s2.nd, s2.len, fun j c a q1 q2 => ?_, fun a m => s2.hd a (List.mem_cons_of_mem _ m), s2.one⟩
          obtain ⟨u, hu, rc⟩ := s2.cell j c a q1 q2
          refine ⟨u, hu, ?_⟩
          cases c with
          | lst xs => obtain ⟨vs, e, hl, hr⟩ := rc; exact ⟨vs, e, hl, hr.show sh (List.prefix_refl _)⟩
          | tab p q => obtain ⟨e0, ps, e, hr⟩ := rc; exact ⟨e0, ps, e, hr.show sh⟩
        | true =>
          have sh : ∀ a, a ∉ (⟨ρ, D :: ω1.hid⟩ : Wd).rho → a ∉ (⟨ρ, D :: ω1.hid⟩ : Wd).hid → a ∉ (⟨ρ ++ [D], ω1.hid⟩ : Wd).rho ∧ a ∉ (⟨ρ ++ [D], ω1.hid⟩ : Wd).hid := fun a h1 h2 =>
            ⟨fun z => (List.mem_append.mp z).elim h1 fun w => h2 (by rw [List.mem_singleton.mp w]; exact List.mem_cons_self), fun z => h2 (List.mem_cons_of_mem _ z)⟩
          have pre : (⟨ρ, D :: ω1.hid⟩ : Wd).rho <+: (⟨ρ ++ [D], ω1.hid⟩ : Wd).rho := List.prefix_append _ _
          have p3 : Post K E (Rep K) ω1 H1 (.ok (.ref S.length) (S ++ [.lst acc])) Q := p3
          refine p3 ⟨ρ ++ [D], ω1.hid⟩ H2 _ ?_ ?_ ?_
          · refine ⟨le2.pre.trans (List.prefix_append _ _), rfl, fun a m => ?_, le2.keep⟩
            rcases List.mem_append.mp m with z | z
            · exact le2.new a z
            · rw [List.mem_singleton.mp z]; exact .inr fun o e => by rw [hD] at e; cases e
          · refine ⟨?_, ?_, fun j c a q1 q2 => ?_, fun a m => ?_, fun j p1 q1 e => ?_⟩
            · show (ρ ++ [D]).Nodup
              rw [List.nodup_append]
              refine ⟨s2.nd, by simp, fun x hx y hy => ?_⟩
              rw [List.mem_singleton.mp hy]
              exact fun e => hDr (e ▸ hx)
            · show (ρ ++ [D]).length = (S ++ [_]).length
              have := s2.len
              simp at this ⊢
              exact this
            · have q2' : (ρ ++ [D])[j]? = some a := q2
              have hlen2 : ρ.length = S.length := s2.len
              by_cases hj : j < S.length
              · rw [List.getElem?_append_left hj] at q1
                rw [List.getElem?_append_left (by rw [hlen2]; exact hj)] at q2'
                obtain ⟨u, hu, rc⟩ := s2.cell j c a q1 q2'
                refine ⟨u, hu, ?_⟩
                cases c with
                | lst xs => obtain ⟨vs, e, hl, hr⟩ := rc; exact ⟨vs, e, hl, hr.show sh pre⟩
                | tab p q => obtain ⟨e0, ps, e, hr⟩ := rc; exact ⟨e0, ps, e, hr.show sh⟩
              · have hj' : j = S.length := by
                  have : j < (S ++ [Cell.lst acc]).length := by
                    rcases Nat.lt_or_ge j (S ++ [Cell.lst acc]).length with z | z
                    · exact z
                    · rw [List.getElem?_eq_none z] at q1; cases q1
                  simp at this; omega
                subst hj'
                have e1' : Cell.lst acc = c := by simpa using q1
                have e2' : D = a := by rw [← hlen2] at q2'; simpa using q2'
                subst e1' e2'
                exact ⟨_, hDl, vacc, rfl, Nat.le_trans hacc hlen, ra.show sh pre⟩
            · obtain ⟨n, u, hu⟩ := s2.hd a (List.mem_cons_of_mem _ m)
              refine ⟨fun z => ?_, u, hu⟩
              rcases List.mem_append.mp z with w | w
              · exact n w
              · rw [List.mem_singleton.mp w] at m; exact hDh m
            · rcases Nat.lt_or_ge j S.length with z | z
              · rw [List.getElem?_append_left z] at e
                exact s2.one j p1 q1 e
              · rw [List.getElem?_append_right z] at e
                cases k : j - S.length with
                | zero => rw [k] at e; cases e
                | succ k' => rw [k] at e; cases e
          · simp only [Rep]
            refine ⟨D, ?_, rfl⟩
            have : ρ.length = S.length := s2.len
            rw [← this]
            simp
end
end Mi
set_option Elab.async false
set_option linter.all false
set_option maxRecDepth 100000
namespace Mi
open PySem PySem.Spec PyProof.Rows L2 HT
section
variable {prog : Program} {w : World} {A : Around} {E : Value → Shared → Prop} {s : Shared}
theorem places_rev (n : Nat) : Builtin.Slice.slicePlaces ((n : Int) - 1) (-1) (-1) = n := by
  unfold Builtin.Slice.slicePlaces
  rw [if_neg (by decide)]
  by_cases h : (n : Int) - 1 > -1
  · rw [if_pos h, show (- -1 : Int) = 1 by decide, Int.ediv_one]; omega
  · rw [if_neg h]; omega
theorem adjust_rev (n : Nat) : Builtin.Slice.sliceAdjust none none (-1) (n : Int) = ((n : Int) - 1, -1) := by
  first | rfl | simp [Builtin.Slice.sliceAdjust]
theorem applied_rev {sl : Addr} {vl vu vs : Value} {n : Nat} {Q : Int × Int × Nat → Shared → Prop} (hs : s.heap.IsSliceOf sl vl vu vs) (pl : IsPart vl none) (pu : IsPart vu none) (ps : IsPart vs (some (-1)))
    (h : Q ((n : Int) - 1, -1, n) s) : wpAny (model prog w) A (Builtin.Slice.sliceApplied (.ref sl) (pure (n : Int))) Q E s := by
  obtain ⟨os, hos, hcs, hds⟩ := id hs
  unfold Builtin.Slice.sliceApplied Builtin.Slice.sliceFields
  refine wpAny_bind (wpAny_bind (wpAny_field hos hds (x := vl) rfl (wpAny_bind (wpAny_field hos hds (x := vu) rfl (wpAny_bind (wpAny_field hos hds (x := vs) rfl (wpAny_pure ?_)))))))
  refine wpAny_bind (slicePart_ ps ?_)
  show wpAny _ _ (if ((-1 : Int) == 0) = true then _ else _) _ _ s
  rw [if_neg (by decide)]
  refine wpAny_bind (slicePart_ pl (wpAny_bind (slicePart_ pu (wpAny_bind (wpAny_pure ?_)))))
  show wpAny _ _ (match Builtin.Slice.sliceAdjust none none (-1) (n : Int) with | (lo, hi) => pure (lo, (-1 : Int), Builtin.Slice.slicePlaces lo hi (-1))) _ _ s
  rw [adjust_rev n]
  show wpAny _ _ (pure ((n : Int) - 1, (-1 : Int), Builtin.Slice.slicePlaces ((n : Int) - 1) (-1) (-1))) _ _ s
  rw [places_rev]
  exact wpAny_pure h
theorem pick_rev (xs : Array Value) : ((List.range xs.size).filterMap fun (m : Nat) => xs[((xs.size : Int) - 1 + (m : Int) * -1).toNat]?).toArray = xs.toList.reverse.toArray := by
  have e : ((List.range xs.size).filterMap fun (m : Nat) => xs[((xs.size : Int) - 1 + (m : Int) * -1).toNat]?) = ((List.range xs.size).map fun k => xs.size - 1 - k).filterMap (xs[·]?) := by
    rw [List.filterMap_map]
    have cg : ∀ (l : List Nat) (f g : Nat → Option Value), (∀ m ∈ l, f m = g m) → l.filterMap f = l.filterMap g := by
      intro l f g
      induction l with
      | nil => intro _; rfl
      | cons a l ih =>
        intro h
        rw [List.filterMap_cons, List.filterMap_cons, h a List.mem_cons_self, ih fun m hm => h m (List.mem_cons_of_mem _ hm)]
    refine cg _ _ _ fun m hm => ?_
    have := List.mem_range.mp hm
    have e2 : ((xs.size : Int) - 1 + (m : Int) * -1).toNat = xs.size - 1 - m := by omega
    simp only [Function.comp, e2]
  rw [e, PySem.W.krv_range, List.filterMap_reverse, PySem.W.krv_all]
theorem tuple_rev {t sl : Addr} {items : Array Value} {vl vu vs : Value} {Q : Value → Shared → Prop} (ht : IsTup s.heap t items) (hs : s.heap.IsSliceOf sl vl vu vs) (pl : IsPart vl none) (pu : IsPart vu none) (ps : IsPart vs (some (-1)))
    (h : Q (.ref s.heap.objs.size) { s with heap := s.heap.push { cls := .type "tuple", data := .seq items.toList.reverse.toArray } })
    (hsz : items.size ≤ sizeLine) : wpAny (model prog w) A (getItem (.ref t) (.ref sl)) Q E s := by
  have hfit : sizeOk (.seq items.toList.reverse.toArray) := by
    show items.toList.reverse.toArray.size ≤ sizeLine
    simpa using hsz
  obtain ⟨os, hos, hcs, hds⟩ := id hs
  have hT : s.TypeIs (.ref sl) "slice" := ⟨os, hos, hcs⟩
  unfold getItem
  try with_reducible refine wpAny_holding ?_
  first | refine wpAny_bind (wpAny_pure ?_) | skip
  refine wpAny_bind (wpAny_sequenceKey ht.typeIs (by decide) ?_)
  refine wpAny_bind (wpAny_callSpecial?_slot (name := Str.ofString "__getitem__") ht.typeIs PyProof.Rows.slot_tuple_getitem (wpAny_call_entry PyProof.Rows.slot_tuple_getitem ht.typeIs entry_tuple_getitem ?_ (args_tuple_getitem _ _)))
  show wpAny _ _ (Builtin.Tuple.tupleItemsOf (.ref t) >>= _) _ _ s
  refine wpAny_bind (tupleItemsOf_ ht ?_)
  refine wpAny_bind (wpAny_typeOf hT ?_)
  rw [if_pos (by decide)]
  refine wpAny_bind (applied_rev hs pl pu ps ?_)
  have hno : ¬ ((((items.size : Int) - 1) == 0 && (-1 : Int) == 1 && items.size == items.size) = true) := by simp
  show wpAny _ _ (if (((items.size : Int) - 1) == 0 && (-1 : Int) == 1 && items.size == items.size) = true then _ else _) _ _ s
  rw [if_neg hno, pick_rev]
  first
    | exact wpAny_bind (m := Builtin.Tuple.tupleExact _) (wpAny_newObj_type (wpAny_pure ⟨_, rfl, wpAny_pure h⟩) hfit)
    | exact wpAny_bind (m := Builtin.Tuple.tupleExact _) (wpAny_newObj_type (wpAny_bind (wpAny_pure (wpAny_pure ⟨_, rfl, wpAny_pure h⟩))) hfit)
    | exact wpAny_bind (wpAny_bind (m := Builtin.Tuple.tupleExact _) (wpAny_newObj_type (wpAny_pure (wpAny_pure ⟨_, rfl, wpAny_pure h⟩)) hfit))
    | exact wpAny_bind (wpAny_bind (m := Builtin.Tuple.tupleExact _) (wpAny_newObj_type (wpAny_pure ⟨_, rfl, wpAny_pure h⟩) hfit))
end
section
variable {X : Cx}
/-- x[::-1], of a list or of a tuple -/
def tRevA (K : PySem.W.Frag) (te : TE) : TE := fun σ H Q => te σ H fun x H1 => ∃ a xs, x = .ref a ∧ ((SqL K H1 a xs ∧ ∀ p, H1 p = none → Q (.ref p) (upd H1 p (.lst xs.reverse))) ∨ (SqT K H1 a xs ∧ ∀ p, H1 p = none → Q (.ref p) (upd H1 p (.tup xs.reverse))))
theorem pe_revA {e : Expr} {te : TE} {k : Nat} {p1 p2 p3 pos : Pos} (he : PE X e te) : PE X (.Subscript e (.Slice none none (some (.UnaryOp .USub (.Constant (.int 1) k p1) p2)) p3) pos) (tRevA X.K te) := by
  refine ⟨fun pins s σ H Q I h => ?_⟩
  refine Subscript_ (thn (he.run pins s σ H _ I h) fun v s1 ⟨x, H1, I1, r1, q1⟩ => ?_)
  obtain ⟨a, xs, ex, q⟩ := q1
  subst ex
  cases r1
  have hst : PO X (some (.UnaryOp .USub (.Constant (.int 1) k p1) p2)) (tPart (tUn (rU fun i => .int (-i)) (tC (.int 1)))) := po_some (pe_un un_neg pe_int)
  refine wpAny_Slice (thn (po_none.run pins s1 σ H1 (fun o H2 => o = none ∧ H2 = H1) I1 ⟨rfl, rfl⟩) fun vl s2 ⟨lo, H2, I2, pl, el, e2⟩ => ?_)
  subst el e2
  refine thn (po_none.run pins s2 σ H2 (fun o H3 => o = none ∧ H3 = H2) I2 ⟨rfl, rfl⟩) fun vu s3 ⟨hi, H3, I3, pu, eu, e3⟩ => ?_
  subst eu e3
  refine thn (hst.run pins s3 σ H3 (fun o H4 => o = some (-1) ∧ H4 = H3) I3 ⟨1, rfl, -1, rfl, rfl, rfl⟩) fun vs s4 ⟨o, H4, I4, ps, eo, e4⟩ => ?_
  subst eo e4
  have I5 : Inv X pins σ H4 { s4 with heap := s4.heap.push { cls := .type "slice", data := .fields #[vl, vu, vs] } } := I4.kept (t' := s4.toks) fun b ob q => Heap.get?_push_of_some _ q
  show wpAny (model X.prog X.w) X.A (subscriptTail e (.Slice none none (some (.UnaryOp .USub (.Constant (.int 1) k p1) p2)) p3) (.ref a) (.ref s4.heap.objs.size)) (EP X pins σ Q) X.xe { s4 with heap := s4.heap.push { cls := .type "slice", data := .fields #[vl, vu, vs] } }
  rcases q with ⟨hx, q⟩ | ⟨hx, q⟩
  · obtain ⟨its, r, ht, hz⟩ := I5.list hx
    have hlen := r.length
    refine tail_any (ops := [.ref a, .ref s4.heap.objs.size]) ht.isList.typeIs (PySem.slot_list_getitem.lookup) ?_ (by with_unfolding_all rfl)
    refine wpAny_getItem_list_slice ht.isList (Heap.IsSliceOf.new _ vl vu vs) pl pu ps (by decide) ?_ (by rw [List.size_toArray]; omega)
    rw [PySem.W.krv_pick]
    refine ⟨.ref _, _, I5.laid (t' := s4.toks) (o := .lst xs.reverse) (fun b ob q => Heap.get?_push_of_some _ q) (Nat.le_refl _) ?_, rfl, q _ (I5.hok.fresh (Nat.le_refl _))⟩
    exact ⟨by rw [List.length_reverse]; omega, _, 0, r.reverse, Heap.get?_push_size _ rfl⟩
  · obtain ⟨its, r, ht, hz⟩ := I5.tuple hx
    have hlen := r.length
    refine tail_any (ops := [.ref a, .ref s4.heap.objs.size]) ht.typeIs (PyProof.Rows.slot_tuple_getitem.lookup) ?_ (by with_unfolding_all rfl)
    refine tuple_rev ht (Heap.IsSliceOf.new _ vl vu vs) pl pu ps ?_ (by rw [List.size_toArray]; omega)
    refine ⟨.ref _, _, I5.laid (t' := s4.toks) (o := .tup xs.reverse) (fun b ob q => Heap.get?_push_of_some _ q) (Nat.le_refl _) ?_, rfl, q _ (I5.hok.fresh (Nat.le_refl _))⟩
    exact ⟨by rw [List.length_reverse]; omega, _, r.reverse, IsTup.new _ _⟩
end
section
variable {X : Cx} {E : XK} {pos : Pos} {ma : Env → M PV} {a : Expr}
theorem e_rev {k : Nat} {p1 p2 p3 : Pos} (ha : PE X a (tE X.K E ma)) : PE X (.Subscript a (.Slice none none (some (.UnaryOp .USub (.Constant (.int 1) k p1) p2)) p3) pos) (tE X.K E (fun env => M.bind (ma env) fun x => opRev x)) := by
  refine peImp (pe_revA ha) fun σ H Q h => ?_
  refine rdImp (rd_bind (Rl := Rep X.K) h) fun x H1 ⟨ω1, S1, env1, v, s1, e1, r1, p1⟩ => ?_
  cases v with
  | tup xs =>
    obtain ⟨c, vs, e, hs, hl, hr⟩ := r1.tup
    subst e
    have p1 : Post X.K E (Rep X.K) ω1 H1 (.ok (.tup xs.reverse) S1) Q := p1
    exact ⟨c, vs, rfl, .inr ⟨hs, fun p hp => Post.newT p1 s1 (by simpa using hl) hr.reverse hp⟩⟩
  | lst xs =>
    obtain ⟨c, vs, e, hs, hl, hr⟩ := r1.lst
    subst e
    have p1 : Post X.K E (Rep X.K) ω1 H1 (.ok (.lst xs.reverse) S1) Q := p1
    exact ⟨c, vs, rfl, .inl ⟨.inl (.inl hs), fun p hp => Post.newLp p1 s1 (by simpa using hl) hr.reverse hp⟩⟩
  | frz xs =>
    have p1 : Post X.K E (Rep X.K) ω1 H1 (M.bind (viewL (.frz xs)) (fun xs => M.pure (.lst xs.reverse)) S1) Q := p1
    obtain ⟨ys, c, vs, e, hs, hl, hr, p1⟩ := viewL_ok s1 r1 p1
    exact ⟨c, vs, e, .inl ⟨hs, fun p hp => Post.newLp p1 s1 (by simpa using hl) hr.reverse hp⟩⟩
  | ref i =>
    have p1 : Post X.K E (Rep X.K) ω1 H1 (M.bind (viewL (.ref i)) (fun xs => M.pure (.lst xs.reverse)) S1) Q := p1
    obtain ⟨ys, c, vs, e, hs, hl, hr, p1⟩ := viewL_ok s1 r1 p1
    exact ⟨c, vs, e, .inl ⟨hs, fun p hp => Post.newLp p1 s1 (by simpa using hl) hr.reverse hp⟩⟩
  | _ => exact False.elim p1
def dispE (kvs : List (List Nat × List Nat)) (ks : List (Option Expr)) (vs : List Expr) : Bool := match kvs, ks, vs with
  | [], [], [] => true
  | kv :: kvs, some (.Constant (.str k) _ _) :: ks, .Constant (.str v) _ _ :: vs => decide (k = toS kv.1) && decide (v = toS kv.2) && dispE kvs ks vs
  | _, _, _ => false
def cons2 (kvs : List (List Nat × List Nat)) : List (TE × TE) := kvs.map fun kv => (tC (.str (toS kv.1)), tC (.str (toS kv.2)))
theorem disp_ok : ∀ {kvs : List (List Nat × List Nat)} {ks : List (Option Expr)} {vs : List Expr}, dispE kvs ks vs = true → PPs X pos ks vs (cons2 kvs) ∧ ks.all (·.isSome) = true ∧ ks.length = vs.length ∧ ks.length = kvs.length
  | [], [], [], h => ⟨pps_nil, rfl, rfl, rfl⟩
  | kv :: kvs, some (.Constant (.str k) i1 q1) :: ks, .Constant (.str v) i2 q2 :: vs, h => by
    simp only [dispE, Bool.and_eq_true] at h
    have e1 := of_decide_eq_true h.1.1
    have e2 := of_decide_eq_true h.1.2
    subst e1 e2
    obtain ⟨h1, h2, h3, h4⟩ := disp_ok h.2
    exact ⟨pps_cons pe_str pe_str h1, by rw [List.all_cons, h2]; rfl, by simp [h3], by simp [h4]⟩
  | [], _ :: _, _, h => by simp [dispE] at h
  | [], [], _ :: _, h => by simp [dispE] at h
  | _ :: _, [], _, h => by simp [dispE] at h
  | _ :: _, none :: _, _, h => by simp [dispE] at h
  | _ :: _, some _ :: _, [], h => by unfold dispE at h; split at h <;> simp_all
theorem pairs_const {σ : L2.St} {H : Hp} {Q : List (V × V) → Hp → Prop} : ∀ {kvs : List (List Nat × List Nat)} (Q : List (V × V) → Hp → Prop), Q (kvs.map fun kv => (V.str (toS kv.1), V.str (toS kv.2))) H → tPairs (cons2 kvs) σ H Q
  | [], Q, h => h
  | kv :: kvs, Q, h => by
    show tC _ σ H _
    refine ?_
    exact pairs_const (kvs := kvs) (Q := Q) (σ := σ) (H := H) _ h
abbrev keyOf (kvs : List (List Nat × List Nat)) : List (Key × V) := kvs.map fun kv => ((.inr (toS kv.1) : Key), V.str (toS kv.2))
theorem merge_get (s : List Nat) : ∀ (kvs : List (List Nat × List Nat)) (acc : List (Key × V)) (r : Option (List Nat)), valV acc (.inr (toS s) : Key) = r.map (fun v => V.str (toS v)) →
    valV (mergeK acc (keyOf kvs)) (.inr (toS s) : Key) = (dgetL kvs s r).map (fun v => V.str (toS v))
  | [], acc, r, h => h
  | kv :: kvs, acc, r, h => by
    show valV (mergeK (putK acc (.inr (toS kv.1)) (V.str (toS kv.2))) (keyOf kvs)) _ = _
    unfold dgetL
    refine merge_get s kvs _ _ ?_
    rw [valV_put]
    by_cases e : s = kv.1
    · rw [if_pos (by rw [e]), if_pos e]; rfl
    · have : ¬ ((.inr (toS s) : Key) = .inr (toS kv.1)) := fun z => e (toS_inj (by injection z))
      rw [if_neg this, if_neg e]; exact h
theorem e_dget {kvs : List (List Nat × List Nat)} {ks : List (Option Expr)} {vs : List Expr} {p : Pos} (hu : X.A.units + 1 < cLine) (hd : dispE kvs ks vs = true) (h0 : kvs ≠ []) (hl : kvs.length ≤ 15) (hs : NoSl a) (ha : PE X a (tE X.K E ma)) :
    PE X (.Subscript (.Dict ks vs p) a pos) (tE X.K E (fun env => M.bind (ma env) fun x => opX (.dget kvs) x)) := by
  obtain ⟨d1, d2, d3, d4⟩ := disp_ok (X := X) (pos := p) hd
  have n0 : ks ≠ [] := fun z => h0 (by rw [z] at d4; exact List.length_eq_zero_iff.mp d4.symm)
  refine peImp (pe_dget hu (pe_disp d1 d2 d3 n0 (by omega)) ha hs) fun σ H Q h => ?_
  intro c hc
  refine pairs_const (Q := fun _ _ => True) _ ⟨upd_same, keyOf kvs, by simp [kV], by simpa using hl, ?_⟩
  rw [upd_upd]
  obtain ⟨ω, S, env, hS, hE, hP⟩ := h
  have fr := hS.fresh hc
  refine ⟨ω, S, env, hS.new hc, hE.mono (le_new hc), ?_⟩
  have hP : Post X.K E (Rep X.K) ω H (M.bind (ma env) (fun x => opX (.dget kvs) x) S) Q := hP
  cases q : ma env S with
  | exc c' S1 => rw [bind_exc q] at hP; exact hP.mono (le_new hc)
  | stuck => rw [bind_stuck q] at hP; exact False.elim hP
  | ok v S1 =>
    rw [bind_ok q] at hP
    refine fun ω' H' y l s r => ?_
    have kp := l.keep c _ upd_same fr.1 (fun _ z => by cases z)
    have hP := hP.mono ((le_new hc).trans l)
    cases v with
    | str t =>
      have ry := r.str.1
      subst ry
      have hP : Post X.K E (Rep X.K) ω' H' (M.bind (ofO (dgetL kvs t none)) (fun v => guardM (decide (v.length ≤ lineN)) (.str v)) S1) Q := hP
      cases g : dgetL kvs t none with
      | none => rw [g] at hP; exact False.elim hP
      | some w =>
        rw [g] at hP
        have hP : Post X.K E (Rep X.K) ω' H' (guardM (decide (w.length ≤ lineN)) (PV.str w) S1) Q := hP
        unfold guardM at hP
        by_cases hw : w.length ≤ lineN
        · rw [decide_eq_true hw, if_pos rfl] at hP
          have hg := DGet.k (k := (.inr (toS t) : Key)) kp
          rw [merge_get t kvs [] none rfl, g] at hg
          exact ⟨c, .str (toS w), rfl, hg, Post.ok (v := PV.str w) hP s (rep_str hw)⟩
        · rw [decide_eq_false hw] at hP
          exact False.elim hP
    | _ => exact False.elim hP
end
theorem insI_mem {x y : Int} : ∀ {l : List Int}, y ∈ insI x l ↔ y = x ∨ y ∈ l
  | [] => by simp [insI]
  | z :: l => by
    unfold insI
    split
    · simp
    · simp [insI_mem (l := l)]
      constructor
      · rintro (h | h | h) <;> simp [h]
      · rintro (h | h | h) <;> simp [h]
theorem insI_perm (x : Int) : ∀ l : List Int, (insI x l).Perm (x :: l)
  | [] => .refl _
  | y :: l => by
    unfold insI
    split
    · exact .refl _
    · exact ((insI_perm x l).cons y).trans (.swap x y l)
theorem isort_perm : ∀ l : List Int, (isort l).Perm l
  | [] => .refl _
  | x :: l => (insI_perm x (isort l)).trans ((isort_perm l).cons x)
theorem insI_sorted (x : Int) : ∀ l : List Int, l.Pairwise (· ≤ ·) → (insI x l).Pairwise (· ≤ ·)
  | [], _ => by simp [insI]
  | y :: l, h => by
    have h' := List.pairwise_cons.mp h
    unfold insI
    split
    · rename_i hxy
      refine List.pairwise_cons.mpr ⟨fun z hz => ?_, h⟩
      rcases List.mem_cons.mp hz with rfl | hz
      · exact hxy
      · exact Int.le_trans hxy (h'.1 z hz)
    · rename_i hxy
      refine List.pairwise_cons.mpr ⟨fun z hz => ?_, insI_sorted x l h'.2⟩
      rcases insI_mem.mp hz with rfl | hz
      · omega
      · exact h'.1 z hz
theorem isort_sorted : ∀ l : List Int, (isort l).Pairwise (· ≤ ·)
  | [] => by simp [isort]
  | x :: l => insI_sorted x _ (isort_sorted l)
theorem sorted_uniq : ∀ {a b : List Int}, a.Perm b → a.Pairwise (· ≤ ·) → b.Pairwise (· ≤ ·) → a = b
  | [], b, p, _, _ => by rw [List.nil_perm.mp p]
  | x :: a, [], p, _, _ => by
    have := p.length_eq
    simp at this
  | x :: a, y :: b, p, ha, hb => by
    have ha' := List.pairwise_cons.mp ha
    have hb' := List.pairwise_cons.mp hb
    have h1 : x ≤ y := by
      rcases List.mem_cons.mp (p.mem_iff.mpr List.mem_cons_self : y ∈ x :: a) with z | z
      · omega
      · exact ha'.1 y z
    have h2 : y ≤ x := by
      rcases List.mem_cons.mp (p.mem_iff.mp List.mem_cons_self : x ∈ y :: b) with z | z
      · omega
      · exact hb'.1 x z
    have e : x = y := by omega
    subst e
    rw [sorted_uniq (List.Perm.cons_inv p) ha'.2 hb'.2]
section
variable {X : Cx} {E : XK}
theorem reps_ints {K : PySem.W.Frag} {ω : Wd} {H : Hp} : ∀ ns : List Int, Reps K ω H (ns.map PV.int) (ns.map V.int)
  | [] => .nil
  | n :: ns => .cons rep_int (reps_ints ns)
theorem bs_sorted : BiS X E (.builtin "sorted") (opBi .sorted) := by
  refine ⟨_, cr_sortedI, fun ω S H vs xs Q s r h => ?_⟩
  match vs, r, h with
  | [a], r, h =>
    obtain ⟨x, rfl, ra⟩ := reps1 r
    obtain ⟨xs, p, vs, e, hs, hl, hr, h⟩ := viewL_ok s ra h
    subst e
    cases q : Mi.intsP xs with
    | none => rw [q] at h; exact False.elim h
    | some ns =>
      rw [q] at h
      have hlen : ns.length = xs.length := by
        have h1 := hr.intsP q
        have h2 := hr.length
        rw [h1] at h2
        simpa using h2
      rw [hr.intsP q] at hs
      refine ⟨p, ns, rfl, hs, fun ns' c hp1 hp2 hc => ?_⟩
      have e : ns' = isort ns := sorted_uniq (hp1.trans (isort_perm ns).symm) hp2 (isort_sorted ns)
      subst e
      have h : Post X.K E (Rep X.K) ω H (.ok (.lst ((isort ns).map PV.int)) S) Q := h
      exact Post.newLp h s (by rw [List.length_map, (isort_perm ns).length_eq, hlen]; exact hl) (reps_ints _) hc
  | [], _, h => exact False.elim h
  | _ :: _ :: _, _, h => exact False.elim h
end
end Mi
set_option Elab.async false
set_option linter.all false
set_option maxRecDepth 100000
namespace Mi
open PySem PySem.Spec PyProof.Rows L2 StX
section
variable {M : Model} {A : Around} {E : Value → Shared → Prop} {s : Shared} {K : PySem.W.Frag} {env : PySem.Env} {pos p : Pos} {f : Value} {first : List Value} {Q : Value → Shared → Prop} {h₀ : Heap} {e e2 : Expr} {rest : List Expr}
/-- the first argument is spread out, others follow -/
theorem args_star2 {x y : Bool × Sem Value} {more : List (Bool × Sem Value)} {Q : Args → Shared → Prop} (h : wpAny M A (spliced (x :: y :: more)) (fun vs s' => Q ⟨vs, []⟩ s') E s) : wpAny M A (evalArgs f true (x :: y :: more) []) Q E s := by
  obtain ⟨b, x⟩ := x
  unfold evalArgs
  cases b with
  | true =>
    show wpAny M A (spliced ((true, x) :: y :: more) >>= _) Q E s
    refine wpAny_bind (wpAny_mono h (fun vs s' h' => ?_) fun _ _ z => z)
    refine wpAny_holding ?_
    exact wpAny_bind (wpAny_pure (wpAny_bind (wpAny_pure (wpAny_pure h'))))
  | false =>
    show wpAny M A (spliced ((false, x) :: y :: more) >>= _) Q E s
    refine wpAny_bind (wpAny_mono h (fun vs s' h' => ?_) fun _ _ z => z)
    refine wpAny_holding ?_
    exact wpAny_bind (wpAny_pure (wpAny_bind (wpAny_pure (wpAny_pure h'))))
theorem callWith_star2 (hk : PySem.W.keepIn K f = true) (h : wpAny M A (spliced (backTo pos (starEach (.Starred e p :: e2 :: rest) env))) (fun vs s₁ => K.In s₁.heap ∧ wpAny M A (call f (first ++ vs)) Q E s₁) E s)
    (h2 : ∃ y, starEach (e2 :: rest) env = y :: starEach rest env) : wpAny M A (callWith pos f first (backTo pos (starEach (.Starred e p :: e2 :: rest) env)) []) Q E s := by
  have he : starEach (.Starred e p :: e2 :: rest) env = (true, eval e env) :: starEach (e2 :: rest) env := rfl
  obtain ⟨y, hy⟩ := h2
  rw [he, hy] at h ⊢
  refine PySem.W.ks_call (P := K.In) ?_ (PySem.W.keeps_K hk) (args_star2 h)
  rfl
end
section
variable {X : Cx} {CX : CXT} {k : Nat} {f : Addr} {sp : Sp} {E : XK} {x : Str} {e e2 : Expr} {es : List Expr} {t : TA} {p q pos : Pos}
/-- plain arguments -/
theorem pe_callR (F : FnR X.prog X.w X.K X.mg X.base CX k f sp) (hr : Room k X.A) (hk : PySem.W.keepIn X.K (.ref f) = true) (hg : Gl X x) (hm : X.mg x = some (.ref f)) (hx : Passes CX X E) (ha : PA X (e :: es) t) (hd : (x == ("__debug__" : Str)) = false)
    (he : starEach (e :: es) X.env = (false, eval e X.env) :: starEach es X.env) (hpl : (backTo pos (starEach es X.env)).any (·.1) = false) :
    PE X (.Call (.Name x p) (e :: es) [] pos) (fun σ H Q => t σ H fun vs H1 => sp vs H1 Q E) := by
  refine ⟨fun pins s σ H Q I h => ?_⟩
  refine wpAny_Call_Name_kw (ld_glob I hg hm ?_ hd)
  refine PySem.W.callWith_K (h₀ := X.base) I.ok.mod.kin hk (thn (ha.run pos pins s σ H _ I h) fun us s1 ⟨vs, H1, I1, r, q⟩ => ⟨I1.kIn, ?_⟩) he hpl
  exact wpAny_call (run_fnR F hr hx I1 r q)
theorem pe_callR0 (F : FnR X.prog X.w X.K X.mg X.base CX k f sp) (hr : Room k X.A) (hk : PySem.W.keepIn X.K (.ref f) = true) (hg : Gl X x) (hm : X.mg x = some (.ref f)) (hx : Passes CX X E) (hd : (x == ("__debug__" : Str)) = false) :
    PE X (.Call (.Name x p) [] [] pos) (fun σ H Q => sp [] H Q E) := by
  refine ⟨fun pins s σ H Q I h => ?_⟩
  refine wpAny_Call_Name_kw (ld_glob I hg hm ?_ hd)
  exact PySem.W.callWith_K0 I.kIn hk (wpAny_call (run_fnR F hr hx I (us := []) .nil h))
/-- x(*a, b, ..) -/
theorem pe_callR2 (F : FnR X.prog X.w X.K X.mg X.base CX k f sp) (hr : Room k X.A) (hk : PySem.W.keepIn X.K (.ref f) = true) (hg : Gl X x) (hm : X.mg x = some (.ref f)) (hx : Passes CX X E) (ha : PA X (.Starred e q :: e2 :: es) t) (hd : (x == ("__debug__" : Str)) = false)
    (h2 : ∃ y, starEach (e2 :: es) X.env = y :: starEach es X.env) : PE X (.Call (.Name x p) (.Starred e q :: e2 :: es) [] pos) (fun σ H Q => t σ H fun vs H1 => sp vs H1 Q E) := by
  refine ⟨fun pins s σ H Q I h => ?_⟩
  refine wpAny_Call_Name_kw (ld_glob I hg hm ?_ hd)
  refine callWith_star2 hk (thn (ha.run pos pins s σ H _ I h) fun us s1 ⟨vs, H1, I1, r, q⟩ => ⟨I1.kIn, ?_⟩) h2
  exact wpAny_call (run_fnR F hr hx I1 r q)
end
section
variable {X : Cx} {E : XK} {a : Expr} {es : List Expr} {ma : Env → M PV} {mes : Env → M (List PV)} {st : List Bool}
abbrev flatM (st : List Bool) (mes : Env → M (List PV)) : Env → M (List PV) := fun env => M.bind (noX (mes env)) fun xs => ofO (flatS st xs)
theorem noX_pure {α : Type} (a : α) : noX (M.pure a) = M.pure a := rfl
theorem nx_ok {α : Type} {m : M α} {S S1 : Store} {a : α} (h : m S = .ok a S1) : noX m S = .ok a S1 := by unfold noX; rw [h]
theorem nx_exc {α : Type} {m : M α} {S S1 : Store} {c : Exc} (h : m S = .exc c S1) : noX m S = .stuck := by unfold noX; rw [h]
theorem nx_stuck {α : Type} {m : M α} {S : Store} (h : m S = .stuck) : noX m S = .stuck := by unfold noX; rw [h]
theorem rd_noX {α γ δ : Type} {K : PySem.W.Frag} {E : XK} {Rl2 : Wd → Hp → γ → δ → Prop} {m : Env → M α} {f : Env → α → M γ} {σ : L2.St} {H : Hp} {Q : δ → Hp → Prop}
    (h : rd K E Rl2 (fun env => M.bind (noX (m env)) (f env)) σ H Q) : rd K E Rl2 (fun env => M.bind (m env) (f env)) σ H Q := by
  obtain ⟨ω, S, env, hS, hE, hP⟩ := h
  refine ⟨ω, S, env, hS, hE, ?_⟩
  have hP : Post K E Rl2 ω H (M.bind (noX (m env)) (f env) S) Q := hP
  show Post K E Rl2 ω H (M.bind (m env) (f env) S) Q
  cases q : m env S with
  | ok a S1 => rw [bind_ok (nx_ok q)] at hP; rw [bind_ok q]; exact hP
  | exc c S1 => rw [bind_stuck (nx_exc q)] at hP; exact False.elim hP
  | stuck => rw [bind_stuck (nx_stuck q)] at hP; exact False.elim hP
theorem f_nil : PA X [] (tA X.K E (flatM [] fun _ => M.pure [])) := paImp pa_nil fun σ H Q ⟨ω, S, env, hS, hE, hP⟩ => Post.ok (v := ([] : List PV)) hP hS .nil
theorem map_some {α β : Type} {o : Option α} {f : α → β} {b : β} (h : o.map f = some b) : ∃ a, o = some a ∧ f a = b := by
  cases o with
  | none => cases h
  | some a => exact ⟨a, rfl, Option.some.inj h⟩
/-- the rest of the arguments, what stands before them known -/
theorem flat_rest {K : PySem.W.Frag} {ω : Wd} {H : Hp} {S : Store} {Q : List V → Hp → Prop} {env : Env} {σ : L2.St} {g : List PV → Option (List PV)} {st : List Bool} {mes : Env → M (List PV)} {pre : List PV} {vpre : List V} {y : PV} (hS : RelSt K ω S H) (hE : RelEnv K ω H env σ) (hr : Reps K ω H pre vpre)
    (hg : ∀ zs, g (y :: zs) = (flatS st zs).map (pre ++ ·)) (h : Post K E (Reps K) ω H (M.bind (noX (mes env)) (fun zs => ofO (g (y :: zs))) S) Q) : rd K E (Reps K) (flatM st mes) σ H (fun ys H2 => Q (vpre ++ ys) H2) := by
  refine ⟨ω, S, env, hS, hE, ?_⟩
  show Post K E (Reps K) ω H (M.bind (noX (mes env)) (fun xs => ofO (flatS st xs)) S) _
  cases q : noX (mes env) S with
  | exc c S1 => rw [bind_exc q] at h ⊢; exact h
  | stuck => rw [bind_stuck q] at h; exact False.elim h
  | ok zs S1 =>
    rw [bind_ok q] at h ⊢
    rw [hg] at h
    cases e : flatS st zs with
    | none => rw [e] at h; exact False.elim h
    | some ys =>
      rw [e] at h
      intro ω' H' vs l s r
      exact h ω' H' (vpre ++ vs) l s ((hr.mono l).append r)
theorem flat_eq {b : Bool} {env : Env} : flatM (b :: st) (fun env => M.bind (ma env) fun x => M.bind (mes env) fun xs => M.pure (x :: xs)) env = M.bind (noX (ma env)) fun x => M.bind (noX (mes env)) fun xs => ofO (flatS (b :: st) (x :: xs)) := by
  funext S
  show M.bind (noX (M.bind (ma env) fun x => M.bind (mes env) fun xs => M.pure (x :: xs))) (fun xs => ofO (flatS (b :: st) xs)) S = _
  cases q : ma env S with
  | ok a S1 =>
    rw [bind_ok (nx_ok q)]
    cases q2 : mes env S1 with
    | ok xs S2 =>
      rw [bind_ok (nx_ok q2), bind_ok (nx_ok (by rw [bind_ok q, bind_ok q2]; rfl : (M.bind (ma env) fun x => M.bind (mes env) fun xs => M.pure (x :: xs)) S = .ok (a :: xs) S2))]
    | exc c S2 => rw [bind_stuck (nx_exc q2), bind_stuck (nx_exc (c := c) (S1 := S2) (by rw [bind_ok q, bind_exc q2]))]
    | stuck => rw [bind_stuck (nx_stuck q2), bind_stuck (nx_stuck (by rw [bind_ok q, bind_stuck q2]))]
  | exc c S1 => rw [bind_stuck (nx_exc q), bind_stuck (nx_exc (c := c) (S1 := S1) (by rw [bind_exc q]))]
  | stuck => rw [bind_stuck (nx_stuck q), bind_stuck (nx_stuck (by rw [bind_stuck q]))]
theorem f_cons (hs : starEach (a :: es) X.env = (false, eval a X.env) :: starEach es X.env) (ha : PE X a (tE X.K E ma)) (hr : PA X es (tA X.K E (flatM st mes))) :
    PA X (a :: es) (tA X.K E (flatM (false :: st) fun env => M.bind (ma env) fun x => M.bind (mes env) fun xs => M.pure (x :: xs))) := by
  refine paImp (pa_cons ha hr hs) fun σ H Q h => ?_
  have h := rd_noX (rdCongr (m' := fun env => M.bind (noX (ma env)) fun x => M.bind (noX (mes env)) fun xs => ofO (flatS (false :: st) (x :: xs))) h fun env => flat_eq)
  refine rdImp (rd_bind (Rl := Rep X.K) h) fun x H1 ⟨ω1, S1, env1, v, s1, e1, r1, p1⟩ => ?_
  exact flat_rest (g := flatS (false :: st)) (pre := [v]) (vpre := [x]) s1 e1 (.one r1) (fun zs => rfl) p1
theorem f_star {p : Pos} (ha : PE X a (tE X.K E ma)) (hr : PA X es (tA X.K E (flatM st mes))) :
    PA X (.Starred a p :: es) (tA X.K E (flatM (true :: st) fun env => M.bind (ma env) fun x => M.bind (mes env) fun xs => M.pure (x :: xs))) := by
  refine paImp (pa_star ha hr) fun σ H Q h => ?_
  have h := rd_noX (rdCongr (m' := fun env => M.bind (noX (ma env)) fun x => M.bind (noX (mes env)) fun xs => ofO (flatS (true :: st) (x :: xs))) h fun env => flat_eq)
  refine rdImp (rd_bind (Rl := Rep X.K) h) fun x H1 ⟨ω1, S1, env1, v, s1, e1, r1, p1⟩ => ?_
  cases v with
  | tup ys =>
    obtain ⟨c, vs, e, hs, hl, hr⟩ := r1.tup
    exact ⟨c, vs, e, .inl hs, flat_rest (g := flatS (true :: st)) s1 e1 hr (fun zs => rfl) p1⟩
  | lst ys =>
    obtain ⟨c, vs, e, hs, hl, hr⟩ := r1.lst
    exact ⟨c, vs, e, .inr (.inl (.inl hs)), flat_rest (g := flatS (true :: st)) s1 e1 hr (fun zs => rfl) p1⟩
  | _ =>
    exfalso
    have p1 : Post X.K E (Reps X.K) ω1 H1 (M.bind (noX (mes env1)) (fun zs => ofO none) S1) Q := p1
    cases q : mes env1 S1 with
    | exc c S2 => rw [bind_stuck (nx_exc q)] at p1; exact p1
    | stuck => rw [bind_stuck (nx_stuck q)] at p1; exact p1
    | ok zs S2 => rw [bind_ok (nx_ok q)] at p1; exact p1
/-- one argument, spread out -/
theorem f_lone {sp : Sp} {m : List PV → M PV} {Q : VK} {σ : L2.St} {H : Hp} (hsp : ∀ ω S H vs pvs Q, RelSt X.K ω S H → Reps X.K ω H pvs vs → Post X.K E (Rep X.K) ω H (m pvs S) Q → sp vs H Q E)
    (h : tE X.K E (fun env => M.bind (flatM [true] (fun env => M.bind (ma env) fun x => M.bind (M.pure []) fun xs => M.pure (x :: xs)) env) m) σ H Q) :
    tE X.K E ma σ H (fun y H1 => ∃ a xs, y = V.ref a ∧ (SqT X.K H1 a xs ∨ SqL X.K H1 a xs) ∧ sp xs H1 Q E) := by
  have h := rd_noX (rdCongr (m' := fun env => M.bind (noX (ma env)) fun x => M.bind (ofO (flatS [true] [x])) m) h fun env => by
    funext S
    show M.bind (M.bind (noX (M.bind (ma env) fun x => M.bind (M.pure []) fun xs => M.pure (x :: xs))) fun xs => ofO (flatS [true] xs)) m S = _
    have z := flat_eq (ma := ma) (mes := fun _ => M.pure []) (st := []) (b := true) (env := env)
    have z : M.bind (noX (M.bind (ma env) fun x => M.bind (M.pure []) fun xs => M.pure (x :: xs))) (fun xs => ofO (flatS [true] xs)) = M.bind (noX (ma env)) fun x => M.bind (noX (M.pure [])) fun xs => ofO (flatS [true] (x :: xs)) := z
    rw [z]
    cases q : ma env S with
    | ok a S1 =>
      rw [bind_ok (nx_ok q)]
      have w : (M.bind (noX (ma env)) fun x => M.bind (noX (M.pure [])) fun xs => ofO (flatS [true] (x :: xs))) S = ofO (flatS [true] [a]) S1 := by rw [bind_ok (nx_ok q)]; rfl
      show M.bind _ m S = M.bind _ m S1
      unfold M.bind at w ⊢
      rw [w]
    | exc c S1 =>
      rw [bind_stuck (nx_exc q)]
      have w : (M.bind (noX (ma env)) fun x => M.bind (noX (M.pure [])) fun xs => ofO (flatS [true] (x :: xs))) S = .stuck := bind_stuck (nx_exc q)
      rw [bind_stuck w]
    | stuck =>
      rw [bind_stuck (nx_stuck q)]
      have w : (M.bind (noX (ma env)) fun x => M.bind (noX (M.pure [])) fun xs => ofO (flatS [true] (x :: xs))) S = .stuck := bind_stuck (nx_stuck q)
      rw [bind_stuck w])
  refine rdImp (rd_bind (Rl := Rep X.K) h) fun x H1 ⟨ω1, S1, env1, v, s1, e1, r1, p1⟩ => ?_
  cases v with
  | tup ys =>
    obtain ⟨c, vs, e, hs, hl, hr⟩ := r1.tup
    have p1 : Post X.K E (Rep X.K) ω1 H1 (m (ys ++ []) S1) Q := p1
    rw [List.append_nil] at p1
    exact ⟨c, vs, e, .inl hs, hsp _ _ _ _ _ _ s1 hr p1⟩
  | lst ys =>
    obtain ⟨c, vs, e, hs, hl, hr⟩ := r1.lst
    have p1 : Post X.K E (Rep X.K) ω1 H1 (m (ys ++ []) S1) Q := p1
    rw [List.append_nil] at p1
    exact ⟨c, vs, e, .inr (.inl (.inl hs)), hsp _ _ _ _ _ _ s1 hr p1⟩
  | _ => exact False.elim p1
end
end Mi
set_option Elab.async false
set_option linter.all false
set_option maxRecDepth 100000
set_option maxHeartbeats 2000000
namespace L2
open PySem PySem.Spec PyProof.Rows
def tMkO0 (C : Addr) (sp : Sp) : St → Hp → XK → Prop := fun σ H1 Q => ∀ a, H1 a = none → sp [.ref a] (upd H1 a (exo a C none))
  (fun v H2 => v = .non ∧ ∃ (d : Addr) (fs : List (Str × V)), H2 a = some (exo a C (some d)) ∧ H2 d = some (exd d fs) ∧ H1 d = none ∧ Q (.ref C) (some d) (upd (del H2 a) d (.xd fs))) (fun _ _ _ => False)
theorem pmk_oex0 {X : Cx} {p pos : Pos} {CX : CXT} {x : Str} {C fI : Addr} {k : Nat} {fd : FuncData} {ps : List Str} {sp : Sp} (T : OexC X.K C) (iC : PySem.W.findIn X.K (.ref C) "__init__" = some (some (.ref fI))) (tI : PySem.W.typeIn X.K (.ref fI) = some (.type "function"))
    (F1 : FnOk X.prog X.w X.K X.mg X.base CX k fI fd ps sp) (hr : Room (k + 1) X.A) (hb : Binds X.K fd ps []) (hx : Passes CX X (fun _ _ _ => False)) (hg : Gl X x) (hm : X.mg x = some (.ref C))
    (hdb : (x == ("__debug__" : Str)) = false := by decide) : PMk X (.Call (.Name x p) [] [] pos) (tMkO0 C sp) := by
  intro pins s σ H1 Q I1 q1
  obtain ⟨nm, q, N, bs, bm, sn, sub, ab, col, dd, k0, k1, k2, k3, k5, hC, hbm⟩ := T.cls
  refine wpAny_Call_Name_kw (ld_glob I1 hg hm ?_ hdb)
  refine PySem.W.callWith_K0 I1.kIn T.kC ?_
  show wpAny _ _ (call (.ref C) []) _ _ _
  obtain ⟨hp, g, dr, tk, os⟩ := s
  have hsz : hp.objs.size ≤ hp.objs.size + 1 := Nat.le_succ _
  have hn : H1 (hp.objs.size + 1) = none := I1.hok.fresh hsz
  have hq := q1 (hp.objs.size + 1) hn
  have kk : ∀ b o, hp.get? b = some o → ((hp.push (PySem.W.kdv_tup [])).push (PySem.HandSPX.excO C hp.objs.size)).get? b = some o := fun b o e => Heap.get?_push_of_some _ (Heap.get?_push_of_some _ e)
  have hget : ((hp.push (PySem.W.kdv_tup [])).push (PySem.HandSPX.excO C hp.objs.size)).get? (hp.objs.size + 1) = some (PySem.HandSPX.excO C hp.objs.size) := by heap_get
  have I2 : Inv X pins σ (upd H1 (hp.objs.size + 1) (exo (hp.objs.size + 1) C none)) ⟨(hp.push (PySem.W.kdv_tup [])).push (PySem.HandSPX.excO C hp.objs.size), g, dr, tk, os⟩ :=
    I1.laid (t' := tk) (a := hp.objs.size + 1) (o := exo (hp.objs.size + 1) C none) (h' := (hp.push (PySem.W.kdv_tup [])).push (PySem.HandSPX.excO C hp.objs.size)) kk hsz (exo_ok hget)
  have r2 : Vals [V.ref (hp.objs.size + 1)] [Value.ref (hp.objs.size + 1)] := .cons rfl .nil
  have hl : ([Value.ref (hp.objs.size + 1)] ++ []).length = ps.length := by
    have e := r2.length
    rw [F1.len _ _ _ _ hq] at e
    exact e.symm
  refine wpAny_call (PySem.HandSPX.call_own F.excBase_ValueError (fun Y => PySem.HandSPX.refsVE_contains Y bm hbm) (I1.kIn _ _ hC) (PySem.W.looks_findIn I1.kIn iC) (fun self => PySem.W.bind_fn I1.kIn self tI) (Nat.zero_le _)
    (codeAny_mono (F1.run _ X.stack _ _ ⟨[Value.ref (hp.objs.size + 1)], []⟩ [Value.ref (hp.objs.size + 1)] _ _ (fun _ _ _ => False) (hr.make C [] []) (I2.env0.make C [] []) (hb _ [Value.ref (hp.objs.size + 1)] I2.kIn hl) r2 hq) fun r s' hq' => ?_))
  cases r with
  | error er => exact hx pins σ _ _ er s' I2 hq'
  | ok fl =>
    cases fl with
    | ret u =>
      obtain ⟨v, H2, os2, bare2, un2, hok2, rv, ev, d, fs, ea, ed, hd1, q2⟩ := hq'
      subst ev
      obtain ⟨h2, g2, d2, t2, os'⟩ := s'
      exact ⟨rv, mk_end (raises_own T.exC T.tyC) I1 hsz kk un2 hok2 os2 bare2 ea ed hd1 q2⟩
    | next => exact False.elim hq'
    | brk => exact False.elim hq'
    | cont => exact False.elim hq'
end L2
set_option Elab.async false
set_option linter.all false
set_option maxRecDepth 100000
set_option maxHeartbeats 2000000
namespace L2
open PySem PySem.Spec PyProof.Rows
abbrev Clause := Value × Nat × (Addr → Value → Option Addr → TS)
def wManyN (K : PySem.W.Frag) (n : Nat) (Wout : WX) (D : Ends) : List Clause → WX
  | [] => Wout
  | (c, i, ts) :: r => fun cls d σ H => ∃ b, PySem.W.exmOne K cls c = some b ∧ (b = true → σ.length = n → ∀ a, H a = none → ts a cls d { nx := fun σ' H' => D.nx (σ'.set i none) H', rt := D.rt, bk := fun σ' H' => D.bk (σ'.set i none) H', ct := fun σ' H' => D.ct (σ'.set i none) H' } (σ.set i (some (.ref a))) H) ∧
      (b = false → wManyN K n Wout D r cls d σ H)
inductive HdsN (X : Cx) : List ExceptHandler → List Clause → Prop
  | nil : HdsN X [] []
  | cons {x n : Str} {c : Value} {i : Nat} {ts : Addr → Value → Option Addr → TS} {b₀ : Stmt} {suite : List Stmt} {np pos' : Pos} {hds : List ExceptHandler} {l : List Clause} (hc : Names X x c) (hi : X.N[i]? = some n) (hln : X.env.kindOf n = some .local)
      (hsu : ∀ (a : Addr) (oe : Obj) (cls : Value) (d : Option Addr) (pn : List (Addr × Obj)), Zc cls d oe → (∃ vs, oe.data = .fields vs) → PSs (X.suite a ((a, oe) :: pn)) (b₀ :: suite) (ts a cls d)) (r : HdsN X hds l) :
      HdsN X (.ExceptHandler (some (.Name x np)) (some n) (b₀ :: suite) pos' :: hds) ((c, i, ts) :: l)
section
variable {X : Cx} {body : List Stmt} {h₀ : ExceptHandler} {hds : List ExceptHandler} {l : List Clause} {pos : Pos} {tb : WX → TS} {Wout : WX}
theorem ps_try_manyN (hs : X.stack = X.env :: X.outer) (hf : X.env.frame = some X.env.locals) (hN : X.N.Nodup) (tk : Takes X Wout)
    (hb : ∀ (W : WX) (pn : List (Addr × Obj)) (xe : Value → Shared → Prop), Takes (X.tr pn xe) W → PassesOwn (model X.prog X.w) X.A X.env xe → PSs (X.tr pn xe) body (tb W))
    (hh : HdsN X (h₀ :: hds) l) : PS X (.Try body (h₀ :: hds) [] [] pos) (fun D σ H => tb (wManyN X.K X.N.length Wout D l) D σ H) := by
  refine ⟨fun pins s σ H D I h => ?_⟩
  have ok := I.ok
  have hfr : X.A.frames = some (X.env :: X.outer) := by rw [ok.frames, hs]
  refine wpAny_Try_except ?_
  refine wpAny_mono ((hb (wManyN X.K X.N.length Wout D l) (X.pn ++ pins) (fun e s₁ => wpAny (model X.prog X.w) X.A (noteFrame e X.env) (fun _ s₂ => wpAny (model X.prog X.w) X.A (setFlight e none) (fun _ s₃ =>
    wpAny (model X.prog X.w) X.A (handleBy e X.env (h₀ :: hds)) (SP X pins D) X.xe s₃) X.xe s₂) X.xe s₁) (fun u s' xx => ?_) PassesOwn.looking).run [] s σ H D (I.toTry _) h) (fun f s1 hsp => ?_) (fun e s1 he => he)
  · obtain ⟨a, B, sI, pins', σ', H', cls, d, rfl, J', nb, up, sky, na, os, ag, w⟩ := xx
    have J : Inv X pins σ' H' sI := J'.ofTry ok
    have sky' : Sky B (X.env :: X.outer) a (Zc cls d) X.env.locals s'.heap := by rw [← hs]; exact sky
    show wpAny (model X.prog X.w) X.A (noteFrame (.ref a) X.env) _ _ _
    refine Sky.land Zc.steady hfr hf sky' fun h3 fl3 up3 => ?_
    have J3 : Inv X pins σ' H' { s' with heap := h3 } := J.landed nb fl3.1 (up.trans up3) os ag
    obtain ⟨oe3, vs3, he3, hz3, hd3⟩ := fl3.there
    have notFr : ∀ {h : Heap} {o : Obj} {vs : Array Value}, h.FunFrames B (X.env :: X.outer) → h.get? a = some o → o.data = .fields vs → a ∉ frs (X.env :: X.outer) := fun {h o vs} ff e dd hm => by
      obtain ⟨_, o', e', hnf⟩ := ff.mem hm
      rw [e] at e'; cases e'
      exact hnf _ dd
    have nfr := notFr fl3.2.2.1 he3 hd3
    have nL : a ≠ X.env.locals := fun z => nfr (List.mem_filterMap.mpr ⟨X.env, List.mem_cons_self, by rw [hf, z]⟩)
    have nF : a ∉ X.fs := fun hm => by
      obtain ⟨e, he, q⟩ := List.mem_filterMap.mp hm
      exact nfr (List.mem_filterMap.mpr ⟨e, List.mem_cons_of_mem _ he, q⟩)
    have S3 := J3.suite he3 hd3 na nL nF
    have go : ∀ {hds' : List ExceptHandler} {l' : List Clause}, HdsN X hds' l' → wManyN X.K X.N.length Wout D l' cls d σ' H' →
        wpAny (model X.prog X.w) X.A (handleBy (.ref a) X.env hds') (SP X pins D) X.xe { s' with heap := h3 } := by
      intro hds' l' hk
      induction hk with
      | nil =>
        intro w
        refine wpAny_handleBy_nil ?_
        obtain ⟨k1, k2, k3, oe, vs, T, oT, ts', he, hz, hd, h1, hr⟩ := id fl3
        unfold PySem.passOn
        refine wpAny_bind (wpAny_field he hd h1 ?_)
        rw [if_neg (show ¬ ((Value.ref T == Value.none) = true) from by simp)]
        have fin : wpAny (model X.prog X.w) X.A (setFlight (.ref a) X.env.frame) (fun _ s4 => wpAny (model X.prog X.w) X.A (throw (.ref a) : Sem Flow) (SP X pins D) X.xe s4) X.xe { s' with heap := h3 } := by
          rw [hf]
          refine HandSPX.setFlight_upZ fl3 fun h4 hh4 up4 => wpAny_throw (tk _ _ ?_)
          exact ⟨a, B, sI, pins, σ', H', cls, d, rfl, J, nb, (up.trans up3).trans up4, .inr (.inr (by rw [hs]; exact hh4)), na, os, ag, w⟩
        first
          | exact wpAny_bind (wpAny_pure (wpAny_bind fin))
          | exact wpAny_bind fin
      | @cons x n c i ts b₀ suite np pos' hds2 l2 hc hi hln hsu r ih =>
        intro w
        have hloc : Loc X.env.scope n := .inl hln
        obtain ⟨b, hb1, hyes, hno⟩ := w
        refine wpAny_handleBy_cons (codeAny_handlers_test ?_) (by intro q; cases q)
        have LT : PySem.W.Looks (model X.prog X.w) h3 (typeOf (.ref a)) cls := fun A Q E s k q => wpAny_typeOf_ref (k _ _ he3) (by rw [hz3.1]; exact q)
        have LM := PySem.W.exm_one (M := model X.prog X.w) (J3.kIn) LT hb1
        have test : ∀ {Q : Value → Shared → Prop} {E : Value → Shared → Prop}, Q c { s' with heap := h3 } → wpAny (model X.prog X.w) (X.A.mark (some (.ref a))) (eval (.Name x np) X.env) Q E { s' with heap := h3 } := fun {Q E} q => by
          obtain ⟨hg, hdbg, hm | ⟨hm, hv, hnn⟩⟩ := hc
          · exact ld_glob (X := X.suite a ((a, oe3) :: (X.pn ++ pins))) S3 hg hm q hdbg
          · exact ld_blt (X := X.suite a ((a, oe3) :: (X.pn ++ pins))) S3 hg hm hv q hnn hdbg
        refine test (LM.here ?_)
        cases b with
        | true =>
          refine codeAny_handlers_suite_as ?_
          refine HandSPX.lands_againZ fl3 fun h4 fl4 up4 => ?_
          have J4 : Inv X pins σ' H' { s' with heap := h4 } := J.landed nb fl4.1 ((up.trans up3).trans up4) os ag
          obtain ⟨oe4, vs4, he4, hz4, hd4⟩ := fl4.there
          have S4 := J4.suite he4 hd4 na nL nF
          refine store_ok (X := X.suite a ((a, oe4) :: (X.pn ++ pins))) (v := .ref a) S4 hN hi hloc rfl (fun s5 S5 => ?_) (.inr hln)
          refine wpAny_mono ((hsu a oe4 cls d (X.pn ++ pins) hz4 ⟨_, hd4⟩).run [] s5 _ H' _ S5 (hyes rfl J.len a na)) (fun f s6 hsp => ?_) (fun _ _ z => False.elim z)
          have end_ : ∀ {σ6 : St} {H6 : Hp} {Q : Shared → Prop}, Inv (X.suite a ((a, oe4) :: (X.pn ++ pins))) [] σ6 H6 s6 → (∀ s7, Inv X pins (σ6.set i none) H6 s7 → Q s7) →
              wpAny (model X.prog X.w) X.A (do bindName X.env n .none; unbindBehindTheSuite X.env n pos') (fun _ s7 => Q s7) X.xe s6 := fun {σ6 H6 Q} S6 hq => gone_ok (S6.unsuite ok) hN hi hln hq
          cases f with
          | next =>
            obtain ⟨σ6, H6, S6, q6⟩ := hsp
            exact end_ S6 fun s7 J7 => ⟨_, _, J7, q6⟩
          | brk =>
            obtain ⟨σ6, H6, S6, q6⟩ := hsp
            exact end_ S6 fun s7 J7 => ⟨_, _, J7, q6⟩
          | cont =>
            obtain ⟨σ6, H6, S6, q6⟩ := hsp
            exact end_ S6 fun s7 J7 => ⟨_, _, J7, q6⟩
          | ret u =>
            obtain ⟨v6, σ6, H6, S6, r6, q6⟩ := hsp
            exact end_ S6 fun s7 J7 => ⟨_, _, _, J7, r6, q6⟩
        | false =>
          show wpAny _ X.A (handleBy (.ref a) X.env hds2) _ _ _
          exact ih (hno rfl)
    exact go hh w
  · cases f with
    | next =>
      obtain ⟨σ', H', J', q⟩ := hsp
      exact wpAny_execs_nil ⟨σ', H', J'.ofTry ok, q⟩
    | brk =>
      obtain ⟨σ', H', J', q⟩ := hsp
      exact ⟨σ', H', J'.ofTry ok, q⟩
    | cont =>
      obtain ⟨σ', H', J', q⟩ := hsp
      exact ⟨σ', H', J'.ofTry ok, q⟩
    | ret u =>
      obtain ⟨v, σ', H', J', r, q⟩ := hsp
      exact ⟨v, σ', H', J'.ofTry ok, r, q⟩
end
end L2
set_option Elab.async false
set_option linter.all false
set_option maxRecDepth 100000
set_option maxHeartbeats 2000000
namespace L2H
open PySem PySem.Spec PyProof.Rows L2 HotX
/-- what a def promises where p's object stands out of reach -/
structure FnP (P : Program) (w : World) (K : PySem.W.Frag) (mg : Str → Option Value) (base : Heap) (CX : CXT) (k : Nat) (f : Addr) (fd : FuncData) (ps : List Str) (sp : Sp) (p : Addr × Obj) : Prop where
  len : ∀ vs H Q E, sp vs H Q E → vs.length = ps.length
  run : ∀ (A : Around) (outer : List Env) (s : Shared) (H : Hp) (args : Args) (us : List Value) (vs : List V) (Q : VK) (E : XK), RoomH k A → PinOk outer H s p → Env0 P w K mg base A outer s H → BindsTo s fd args (ps.zip us) → Vals vs us → sp vs H Q E →
    codeAny (model P w) A (.call (.ref f) args) (CR CX outer P w H s Q E) s
theorem fn_ofP {CX : CXT} {P : Program} {w : World} {K : PySem.W.Frag} {mg : Str → Option Value} {base : Heap} {k : Nat} {f : Addr} {name qual : Str} {params : Arguments} {body : List Stmt} {scope : Scope} {dV kV doc pm cdv ct oc : Value} {an od : Option Addr}
    {osl : Array (Option Value)} {N ps : List Str} {sp : Sp} {p : Addr × Obj} (lk : K.lookup f = some ⟨oc, od, .func (PySem.W.fnOf name qual params body scope dV kV doc pm an cdv ct), osl⟩) (hcd : PySem.W.codeIn K cdv qual = true) (S : FnScope N ps scope)
    (len : ∀ vs H Q E, sp vs H Q E → vs.length = ps.length)
    (hbody : ∀ (A : Around) (outer : List Env) (s : Shared) (H : Hp) (vs : List V) (Q : VK) (E : XK), RoomH k (A.deeper (envOfC qual scope s.heap.objs.size f cdv)) → sp vs H Q E →
      ∃ t, PSs (cxH CX P w K mg base N qual scope f cdv A outer s H E p) body t ∧ t { nx := fun _ H' => Q .non H', rt := Q } (L2.start N vs) H) :
    FnP P w K mg base CX (k + 1) f (PySem.W.fnOf name qual params body scope dV kV doc pm an cdv ct) ps sp p := by
  refine ⟨len, fun A outer s H args us vs Q E hr hpin e0 hb r hsp => ?_⟩
  have hl := len _ _ _ _ hsp
  have KX : K.In s.heap := e0.mod.kin.keeps fun b o e => (e0.bs b o e).1
  have lim : s.heap.NoLimit := e0.mod.nolimit.keeps fun b o e => (e0.bs b o e).1
  have hkind : ∀ y ∈ ps.zip us, scope.names.lookup y.1 = some .local ∨ (scope.names.lookup y.1 = some .cell ∧ ((cellsFrom (s.heap.objs.size + 1) scope.names []).lookup y.1).isSome = true) := fun ⟨n, v⟩ hy => by
    rcases S.par n (List.of_mem_zip hy).1 with q | q
    · exact .inl q
    · exact .inr ⟨q, PySem.W.cellsFrom_some _ _ _ (.inl q)⟩
  refine codeAny_call_function hr.depth (KX _ _ lk) rfl S.co S.gen rfl (PySem.W.codeRec_of KX hcd) (hb _ _ _ _ ?_)
  refine wpAny_newFunctionEnv_cells S.kind hkind fun env he s1 x => ?_
  subst he
  refine ⟨lim.keeps x.toInCall.keep, codeAny_func ?_⟩
  obtain ⟨t, ht, hq⟩ := hbody A outer s H vs Q E (hr.deeper _) hsp
  have I : Inv (cxH CX P w K mg base N qual scope f cdv A outer s H E p) [] (L2.start N vs) H s1 := inv_startH S hpin e0 hl r x
  refine wpAny_mono (ht.run [] s1 (L2.start N vs) H _ I hq) (fun fl s' hs => ?_) fun e s' hs => hs
  have fin : ∀ {σ' : St} {H' : Hp} {v : V} {u : Value}, Inv (cxH CX P w K mg base N qual scope f cdv A outer s H E p) [] σ' H' s' → RelV v u → Q v H' → CE outer P w H s Q u s' :=
    fun {σ' H' v u} J rv q => ⟨v, H', J.os, J.bare, J.base, J.hok, rv, q⟩
  cases fl with
  | ret u =>
    obtain ⟨v, σ', H', J, rv, q⟩ := hs
    exact fin J rv q
  | next =>
    obtain ⟨σ', H', J, q⟩ := hs
    exact fin (v := V.non) (u := Value.none) J rfl q
  | brk =>
    obtain ⟨_, _, _, q⟩ := hs
    exact False.elim q
  | cont =>
    obtain ⟨_, _, _, q⟩ := hs
    exact False.elim q
section
variable {X : Cx} {CX : CXT} {k : Nat} {f C : Addr} {fd : FuncData} {ps : List Str} {sp : Sp} {E : St → XK} {x m : Str} {q pos apos : Pos} {e o : Expr} {es : List Expr} {ta : TE} {t : TA} {p : Addr × Obj}
theorem run_fnP {pins : List (Addr × Obj)} {σ : St} {H : Hp} {s : Shared} {Q : VK} {us : List Value} {vs : List V} (F : FnP X.prog X.w X.K X.mg X.base CX k f fd ps sp p) (hr : RoomH k X.A) (hp : p ∈ X.pn) (hb : Binds X.K fd ps []) (hx : PassesAt CX X σ (E σ))
    (I : Inv X pins σ H s) (r : Vals vs us) (h : sp vs H Q (E σ)) : wpAny (model X.prog X.w) X.A (call (.ref f) us) (EP X pins σ Q) X.xe s := by
  have hl : us.length = ps.length := by rw [← r.length]; exact F.len _ _ _ _ h
  have b := hb s us I.kIn (by rw [List.append_nil]; exact hl)
  rw [List.append_nil] at b
  have P1 := I.pin p (List.mem_append_left _ hp)
  have hpin : PinOk X.stack H s p := ⟨P1.1, P1.2.1, fun hm => (List.mem_cons.mp (I.stkSub p.1 hm)).elim P1.2.2.1 P1.2.2.2.1, P1.2.2.2.2⟩
  refine wpAny_call (codeAny_mono (F.run X.A X.stack s H ⟨us, []⟩ us vs Q (E σ) hr hpin I.env0 b r h) fun r s' hq => ?_)
  cases r with
  | error e => exact hx pins H s e s' I hq
  | ok fl =>
    cases fl with
    | ret u => exact I.after hq
    | next => exact False.elim hq
    | brk => exact False.elim hq
    | cont => exact False.elim hq
theorem pe_callP (F : FnP X.prog X.w X.K X.mg X.base CX k f fd ps sp p) (hr : RoomH k X.A) (hp : p ∈ X.pn) (hg : Gl X x) (hm : X.mg x = some (.ref f)) (hk : PySem.W.keepIn X.K (.ref f) = true) (hb : Binds X.K fd ps []) (hx : ∀ σ, PassesAt CX X σ (E σ))
    (ha : PA X (e :: es) t) (hdb : (x == ("__debug__" : Str)) = false := by decide) (he : starEach (e :: es) X.env = (false, eval e X.env) :: starEach es X.env := by rfl) (hpl : (backTo pos (starEach es X.env)).any (·.1) = false := by rfl) :
    PE X (.Call (.Name x q) (e :: es) [] pos) (tCallS sp E t) := by
  refine ⟨fun pins s σ H Q I h => ?_⟩
  refine wpAny_Call_Name_kw (ld_glob I hg hm ?_ hdb)
  refine PySem.W.callWith_K (h₀ := X.base) I.ok.mod.kin hk (thn (ha.run pos pins s σ H _ I h) fun us s1 ⟨vs, H1, I1, r, q⟩ => ⟨I1.kIn, ?_⟩) he hpl
  exact run_fnP F hr hp hb (hx σ) I1 r q
/-- a field of the caught exception, wherever its object is kept -/
theorem pe_xfP {a : Addr} {oe : Obj} {cls : Value} {d : Option Addr} {te : TE} {n : Str} (T : XfC X.K C) (hno : PySem.W.findIn X.K (.ref C) n = some none)
    (hz : Zc cls d oe) (hf : ∃ vs, oe.data = .fields vs) (hp : (a, oe) ∈ X.pn) (he : PE X e te) (hb : attributeBase e n X.env (eval e X.env) = eval e X.env := by rfl) :
    PE X (.Attribute e n pos) (tXf a cls d C n te) := by
  refine ⟨fun pins s σ H Q I h => ?_⟩
  refine attr_of hb (thn (he.run pins s σ H _ I h) fun u s1 hh => ?_)
  obtain ⟨x, H1, I1, rx, ex, ec, dd, fs, v, ed, ea, l, q⟩ := hh
  subst ex
  obtain rfl : u = Value.ref a := rx
  subst ec
  subst ed
  obtain ⟨ha, _⟩ := I1.pin (a, oe) (List.mem_append_left _ hp)
  obtain ⟨vs, hd⟩ := hf
  have hx : ObjOk X.prog X.w H1 s1.heap dd (.xd fs) := I1.hok dd _ ea
  obtain ⟨mA, hns, hr⟩ := hx
  obtain ⟨od, ho, hl⟩ := lookIn_ns hns
  obtain ⟨u, hu, ru⟩ := RelO.some_of (v := v) (o := mA n) (by rw [← l]; exact hr n)
  have J : PySem.W.InstAt s1.heap a oe C (some od) := ⟨ha, hz.1, by unfold PySem.W.notCls; rw [hd] <;> rfl, by rw [hz.2]; exact ho⟩
  exact HandSPX.exc_get I1.kIn J T.ga T.gg T.exC (PySem.W.findObj_own T.hdC hno rfl (by rw [hl, hu])) (handed_of ru) ⟨v, H1, I1.tok _, ru, q⟩
end
end L2H
set_option Elab.async false
set_option linter.all false
set_option maxRecDepth 100000
set_option maxHeartbeats 2000000
namespace Mi
open PySem PySem.Spec PyProof.Rows L2 L2H
/-- the caught exception: at a, of class C, its dict at dd with the fields fs, kept in slot i -/
structure Ct (X : Cx) (a C dd : Addr) (oe : Obj) (i : Nat) (e : Str) : Prop where
  xf : XfC X.K C
  z : Zc (.ref C) (some dd) oe
  fl : ∃ vs, oe.data = .fields vs
  pin : (a, oe) ∈ X.pn
  nm : X.N[i]? = some e
  vis : Vis X.env.scope e
  d1 : (e == ("__debug__" : Str)) = false
  d2 : (e == ("__classdict__" : Str)) = false
def At (a dd : Addr) (i : Nat) (fs : List (Str × V)) (σ : L2.St) (H : Hp) : Prop := σ[i]? = some (some (.ref a)) ∧ H dd = some (.xd fs)
theorem ct_attr {X : Cx} {a C dd : Addr} {oe : Obj} {i : Nat} {e n : Str} {p1 p2 : Pos} {fs : List (Str × V)} {v : V} (c : Ct X a C dd oe i e) (hno : PySem.W.findIn X.K (.ref C) n = some none) (hl : fs.lookup n = some v)
    (hb : attributeBase (.Name e p1) n X.env (eval (.Name e p1) X.env) = eval (.Name e p1) X.env) :
    PE X (.Attribute (.Name e p1) n p2) (fun σ H Q => At a dd i fs σ H ∧ Q v H) :=
  peImp (pe_xfP c.xf hno c.z c.fl c.pin (pe_var c.nm c.vis c.d1 c.d2) hb) fun σ H Q ⟨⟨h1, h2⟩, q⟩ => ⟨_, h1, rfl, rfl, dd, fs, v, rfl, h2, hl, q⟩
theorem ct_test {X : Cx} {a C dd : Addr} {oe : Obj} {i j : Nat} {e : Str} {p1 p2 p3 p4 : Pos} {fs : List (Str × V)} {k s : Str} (c : Ct X a C dd oe i e) (hno : PySem.W.findIn X.K (.ref C) "code" = some none) (hl : fs.lookup ("code" : Str) = some (V.str k))
    (hb : attributeBase (.Name e p1) "code" X.env (eval (.Name e p1) X.env) = eval (.Name e p1) X.env) :
    PT X (.Compare (.Attribute (.Name e p1) "code" p2) [.Eq] [.Constant (.str s) j p3] p4) (fun σ H Q => At a dd i fs σ H ∧ Q (decide (k = s)) H) :=
  ptImp (pt_cmpR op_eq (ct_attr c hno hl hb) pe_str rfl) fun σ H Q ⟨h, q⟩ => ⟨h, rfl, _, rfl, by
    have : decide (V.str k = V.str s) = decide (k = s) := by simp
    rw [this]; exact q⟩
/-- a test of the code, by its text -/
def tstF (e k : Str) : Expr → Option Bool
  | .Compare (.Attribute (.Name x _) n _) [.Eq] [.Constant (.str s) _ _] _ => if x = e ∧ n = ("code" : Str) then some (decide (k = s)) else none
  | _ => none
def orF (e k : Str) : List Expr → Option Bool
  | [] => none
  | [x] => tstF e k x
  | x :: y :: xs => (tstF e k x).bind fun b => if b then some true else orF e k (y :: xs)
def testF (e k : Str) (x : Expr) : Option Bool := match x with
  | .BoolOp .Or es _ => orF e k es
  | x => tstF e k x
section
variable {X : Cx} {a C dd : Addr} {oe : Obj} {i : Nat} {e k : Str} {fs : List (Str × V)}
abbrev tAt (a dd : Addr) (i : Nat) (fs : List (Str × V)) (b : Bool) : TT := fun σ H Q => At a dd i fs σ H ∧ Q b H
theorem tstF_ok (c : Ct X a C dd oe i e) (hno : PySem.W.findIn X.K (.ref C) "code" = some none) (hl : fs.lookup ("code" : Str) = some (V.str k)) (hb : ∀ n p, attributeBase (.Name e p) n X.env (eval (.Name e p) X.env) = eval (.Name e p) X.env) {x : Expr} {b : Bool} (h : tstF e k x = some b) :
    PT X x (tAt a dd i fs b) := by
  unfold tstF at h
  split at h
  · split at h
    · rename_i q
      obtain ⟨rfl, rfl⟩ := q
      have := Option.some.inj h
      subst this
      exact ct_test c hno hl (hb _ _)
    · cases h
  · cases h
theorem orF_ok (c : Ct X a C dd oe i e) (hno : PySem.W.findIn X.K (.ref C) "code" = some none) (hl : fs.lookup ("code" : Str) = some (V.str k)) (hb : ∀ n p, attributeBase (.Name e p) n X.env (eval (.Name e p) X.env) = eval (.Name e p) X.env) {pos : Pos} :
    ∀ {es : List Expr} {b : Bool}, orF e k es = some b → PW X (.BoolOp .Or es pos) (tAt a dd i fs b)
  | [], b, h => by cases h
  | [x], b, h => pw_or1 (tstF_ok c hno hl hb h)
  | x :: y :: xs, b, h => by
    rw [orF] at h
    cases q : tstF e k x with
    | none => rw [q] at h; cases h
    | some b1 =>
      rw [q, Option.bind_some] at h
      have h1 := tstF_ok c hno hl hb q
      cases b1 with
      | true =>
        have : true = b := Option.some.inj h
        subst this
        exact pwImp (pw_or (tB' := fun _ _ _ => False) h1 ⟨fun w pins s σ H Q I f => f.elim⟩) fun σ H Q ⟨h3, q⟩ => ⟨h3, q⟩
      | false =>
        have h2 := orF_ok c hno hl hb (pos := pos) h
        exact pwImp (pw_or h1 h2) fun σ H Q ⟨h3, q⟩ => ⟨h3, h3, q⟩
theorem testF_ok (c : Ct X a C dd oe i e) (hno : PySem.W.findIn X.K (.ref C) "code" = some none) (hl : fs.lookup ("code" : Str) = some (V.str k)) (hb : ∀ n p, attributeBase (.Name e p) n X.env (eval (.Name e p) X.env) = eval (.Name e p) X.env) {x : Expr} {b : Bool} (h : testF e k x = some b) :
    PT X x (tAt a dd i fs b) := by
  unfold testF at h
  split at h
  · exact (orF_ok c hno hl hb h).pt
  · exact tstF_ok c hno hl hb h
/-- the attribute that is returned (none: the answer None) -/
def retF (e k : Str) : Expr → Option (Option Str)
  | .Attribute (.Name x _) n _ => if x = e then some (some n) else none
  | .IfExp t (.Constant .none _ _) (.Attribute (.Name x _) n _) _ => if x = e then (testF e k t).map fun b => if b then none else some n else none
  | _ => none
def bodyF (e k : Str) : List Stmt → Option (Option Str)
  | [.Return (some x) _] => retF e k x
  | .If t [.Return (some x) _] [] _ :: rest => (testF e k t).bind fun b => if b then retF e k x else bodyF e k rest
  | _ => none
def FldV (X : Cx) (C : Addr) (fs : List (Str × V)) (o : Option Str) (v : V) : Prop := match o with
  | none => v = .non
  | some n => fs.lookup n = some v ∧ PySem.W.findIn X.K (.ref C) n = some none
theorem retF_ok (c : Ct X a C dd oe i e) (hno : PySem.W.findIn X.K (.ref C) "code" = some none) (hl : fs.lookup ("code" : Str) = some (V.str k)) (hb : ∀ n p, attributeBase (.Name e p) n X.env (eval (.Name e p) X.env) = eval (.Name e p) X.env) {x : Expr} {o : Option Str} {v : V} (h : retF e k x = some o) (hv : FldV X C fs o v) :
    PE X x (fun σ H Q => At a dd i fs σ H ∧ Q v H) := by
  unfold retF at h
  split at h
  · split at h
    · rename_i q
      subst q
      cases h
      exact ct_attr c hv.2 hv.1 (hb _ _)
    · cases h
  · rename_i t j0 p0 y p1 n p2 p3
    split at h
    · rename_i q
      subst q
      cases q : testF y k t with
      | none => rw [q] at h; cases h
      | some b =>
        rw [q] at h
        have ht := testF_ok c hno hl hb q
        cases b with
        | true =>
          cases h
          have hv : v = .non := hv
          subst hv
          exact peImp (pe_ifExp (tb := fun _ _ _ => False) ht pe_non ⟨fun pins s σ H Q I f => f.elim⟩) fun σ H Q ⟨h3, q⟩ => ⟨h3, q⟩
        | false =>
          cases h
          exact peImp (pe_ifExp (ta := fun _ _ _ => False) ht ⟨fun pins s σ H Q I f => f.elim⟩ (ct_attr c hv.2 hv.1 (hb _ _))) fun σ H Q ⟨h3, q⟩ => ⟨h3, h3, q⟩
    · cases h
  · cases h
theorem bodyF_ok (c : Ct X a C dd oe i e) (hno : PySem.W.findIn X.K (.ref C) "code" = some none) (hl : fs.lookup ("code" : Str) = some (V.str k)) (hb : ∀ n p, attributeBase (.Name e p) n X.env (eval (.Name e p) X.env) = eval (.Name e p) X.env) {o : Option Str} {v : V} (hv : FldV X C fs o v) :
    ∀ {body : List Stmt}, bodyF e k body = some o → PSs X body (fun D σ H => At a dd i fs σ H ∧ D.rt v H) := by
  intro body
  fun_induction bodyF e k body with
  | case1 x p => exact fun h => ⟨fun pins s σ H D I q => (pss_one (ps_ret (retF_ok c hno hl hb h hv))).run pins s σ H D I q⟩
  | case2 t x p p2 rest ih =>
    intro h
    cases q : testF e k t with
    | none => rw [q] at h; cases h
    | some b =>
      rw [q, Option.bind_some] at h
      have ht := testF_ok c hno hl hb q
      cases b with
      | true =>
        have h : retF e k x = some o := h
        have h1 := pss_one (ps_ret (pos := p) (retF_ok c hno hl hb h hv))
        have h2 : PSs X rest (fun _ _ _ => False) := ⟨fun pins s σ H D I f => f.elim⟩
        exact ⟨fun pins s σ H D I z => (pss_cons (ps_if (pos := p2) (u := fun _ _ _ => False) ht h1 ⟨fun pins s σ H D I f => f.elim⟩) h2).run pins s σ H D I ⟨z.1, z⟩⟩
      | false =>
        have h : bodyF e k rest = some o := h
        have h2 := ih h
        exact ⟨fun pins s σ H D I z => (pss_cons (ps_if (pos := p2) (t := fun _ _ _ => False) ht ⟨fun pins s σ H D I f => f.elim⟩ pss_nil) h2).run pins s σ H D I ⟨z.1, z⟩⟩
  | case3 => intro h; cases h
end
end Mi
set_option Elab.async false
set_option linter.all false
set_option maxRecDepth 100000
set_option maxHeartbeats 2000000
namespace Mi
open PySem PySem.Spec PyProof.Rows L2 L2H
def spF (a dd : Addr) (fs : List (Str × V)) (v : V) : Sp := fun vs H Q _ => vs = [.ref a] ∧ H dd = some (.xd fs) ∧ Q v H
theorem field_fn {P : Program} {w : World} {K : PySem.W.Frag} {mg : Str → Option Value} {base : Heap} {CX : CXT} {f a C dd : Addr} {oe : Obj} {name qual e k : Str} {params : Arguments} {body : List Stmt} {scope : Scope} {dV kV doc pm cdv ct oc : Value} {an od : Option Addr}
    {osl : Array (Option Value)} {N : List Str} {fs : List (Str × V)} {o : Option Str} {v : V} {n : Nat} (lk : K.lookup f = some ⟨oc, od, .func (PySem.W.fnOf name qual params body scope dV kV doc pm an cdv ct), osl⟩) (hcd : PySem.W.codeIn K cdv qual = true) (S : FnScope N [e] scope)
    (hN : N[0]? = some e) (hvis : Vis scope e) (d1 : (e == ("__debug__" : Str)) = false) (d2 : (e == ("__classdict__" : Str)) = false) (xf : XfC K C) (z : Zc (.ref C) (some dd) oe) (fl : ∃ vs, oe.data = .fields vs)
    (hno : PySem.W.findIn K (.ref C) "code" = some none) (hl : fs.lookup ("code" : Str) = some (V.str k)) (hb : ∀ (n : Str) (p : Pos) (env : PySem.Env), attributeBase (.Name e p) n env (eval (.Name e p) env) = eval (.Name e p) env)
    (h : bodyF e k body = some o) (hv : match o with | none => v = .non | some n => fs.lookup n = some v ∧ PySem.W.findIn K (.ref C) n = some none) :
    FnP P w K mg base CX (n + 1) f (PySem.W.fnOf name qual params body scope dV kV doc pm an cdv ct) [e] (spF a dd fs v) (a, oe) := by
  refine fn_ofP lk hcd S (fun vs H Q E h => by rw [h.1]; rfl) fun A outer s H vs Q E hr hsp => ?_
  obtain ⟨rfl, hd, hq⟩ := hsp
  have c : Ct (cxH CX P w K mg base N qual scope f cdv A outer s H E (a, oe)) a C dd oe 0 e := ⟨xf, z, fl, List.mem_singleton.mpr rfl, hN, hvis, d1, d2⟩
  refine ⟨_, bodyF_ok (X := cxH CX P w K mg base N qual scope f cdv A outer s H E (a, oe)) (fs := fs) (v := v) c hno hl (fun n p => hb n p _) (by cases o <;> exact hv) h, ⟨?_, hd⟩, hq⟩
  unfold L2.start
  simp
end Mi
set_option Elab.async false
set_option linter.all false
set_option maxRecDepth 100000
set_option maxHeartbeats 2000000
namespace Mi
open PySem PySem.Spec PyProof.Rows L2 L2H
theorem passNone {X : Cx} (σ : L2.St) : PassesAt (L2.CX X.prog X.w) X σ (fun _ _ _ => False) := fun _ _ _ _ _ _ c => by
  obtain ⟨_, _, _, _, _, _, _, _, _, _, _, _, z⟩ := c
  exact z.elim
theorem suite_ok {Y : Cx} {a C dd f : Addr} {oe : Obj} {i n kt : Nat} {e k x : Str} {fs : List (Str × V)} {v : V} {fd : FuncData} {ps : List Str} {r1 r2 r3 r4 r5 r6 r7 : Pos} (c : Ct Y a C dd oe i e)
    (hno : PySem.W.findIn Y.K (.ref C) "code" = some none) (hl : fs.lookup ("code" : Str) = some (V.str k)) (hb : ∀ n p, attributeBase (.Name e p) n Y.env (eval (.Name e p) Y.env) = eval (.Name e p) Y.env)
    (F : FnP Y.prog Y.w Y.K Y.mg Y.base (L2.CX Y.prog Y.w) n f fd ps (spF a dd fs v) (a, oe)) (hr : RoomH n Y.A) (hg : Gl Y x) (hm : Y.mg x = some (.ref f)) (hk : PySem.W.keepIn Y.K (.ref f) = true) (hbd : Binds Y.K fd ps []) (hdb : (x == ("__debug__" : Str)) = false) :
    PSs Y [.Return (some (.Tuple [.Attribute (.Name e r1) "code" r2, .Call (.Name x r3) [.Name e r4] [] r5] kt r6)) r7] (fun D σ H => At a dd i fs σ H ∧ ∀ p, H p = none → D.rt (.ref p) (upd H p (.tup [.str k, v]))) := by
  have h1 := ct_attr (p1 := r1) (p2 := r2) c hno hl (hb _ _)
  have h2 := pe_callP (q := r3) (pos := r5) (E := fun _ _ _ _ => False) F hr c.pin hg hm hk hbd (fun σ => passNone σ) (pa_cons (pe_var (pos := r4) c.nm c.vis c.d1 c.d2) pa_nil) hdb
  have h3 := pss_one (ps_ret (pos := r7) (pe_tup (x1 := kt) (pos := r6) (pa_cons h1 (pa_cons h2 pa_nil))))
  refine ⟨fun pins s σ H D I z => h3.run pins s σ H D I ?_⟩
  obtain ⟨⟨z1, z2⟩, z3⟩ := z
  exact ⟨⟨z1, z2⟩, _, z1, rfl, z2, by show 2 ≤ sizeLine; rw [sizeLine_eq]; omega, z3⟩
end Mi
set_option Elab.async false
set_option linter.all false
set_option maxRecDepth 100000
set_option maxHeartbeats 2000000
namespace Mi
open PySem PySem.Spec PyProof.Rows L2 L2H LamX
/-- what a caught exception is led to -/
def FldW (K : PySem.W.Frag) (C : Addr) (fs : List (Str × V)) (v : V) : Option (List Nat) → Prop
  | none => v = .non
  | some f => fs.lookup (toS f) = some v ∧ PySem.W.findIn K (.ref C) (toS f) = some none
def ETry (K : PySem.W.Frag) (Q : VK) : XK := fun cls d H => ∃ nm fo dd fs v, (nm, fo) ∈ excTab ∧ cls = .ref (He.ga K (toS nm)) ∧ d = some dd ∧ ClsOk K (He.ga K (toS nm)) ∧ H dd = some (.xd fs) ∧ fs.lookup ("code" : Str) = some (.str (toS nm)) ∧
  FldW K (He.ga K (toS nm)) fs v fo ∧ ∀ p, H p = none → Q (.ref p) (upd H p (.tup [.str (toS nm), v]))
def valS : Str := toS [118, 97, 108, 117, 101]
def TTry (K : PySem.W.Frag) : (XK → Hp → VK → Prop) → Hp → VK → Prop := fun tl H Q => tl (ETry K Q) H fun v H' => [V.str valS, v].length ≤ sizeLine ∧ ∀ p, H' p = none → Q (.ref p) (upd H' p (.tup [.str valS, v]))
/-- the text of `_law_try` -/
def tryB (a e : Str) : List Stmt → Bool
  | [.Try [.Return (some (.Tuple [.Constant (.str v) _ _, .Call (.Name a' _) [] [] _] _ _)) _] [.ExceptHandler (some (.Name x1 _)) (some e1) [.Return (some (.Tuple [.Attribute (.Name e2 _) cd _, .Call (.Name f1 _) [.Name e3 _] [] _] _ _)) _] _, .ExceptHandler (some (.Name x2 _)) (some e4) [_] _] [] [] _] =>
    decide (v = valS) && (decide (a' = a) && (decide (x1 = ("ScatterError" : Str)) && (decide (e1 = e) && (decide (e2 = e) && (decide (cd = ("code" : Str)) && (decide (f1 = ("_law_field" : Str)) && (decide (e3 = e) && (decide (x2 = ("Missing" : Str)) && decide (e4 = e)))))))))
  | _ => false
/-- what is told of `_law_field` -/
structure FldD (K : PySem.W.Frag) (mg : Str → Option Value) (e : Str) : Prop where
  ex : ∃ (f : Addr) (fd : FuncData) (N : List Str) (params : Arguments) (body : List Stmt) (scope : Scope), mg "_law_field" = some (.ref f) ∧ FunD K "_law_field" "_law_field" params body scope [] [] f fd ∧ FnScope N [e] scope ∧ N[0]? = some e ∧ Vis scope e ∧ Binds K fd [e] [] ∧
    ∀ nm fo, (nm, fo) ∈ excTab → bodyF e (toS nm) body = some (fo.map toS)
theorem try_gives {X : Cx} {Ng : List Str} {x a e e' q : Str} {sg : Scope} {g CS CM : Addr} {cdg : Value} {i n : Nat} {bg : List Stmt} (hB : tryB a e bg = true) (hr : Room (n + 3) X.A) (hnd : Ng.Nodup)
    (hgS : sg.names.lookup ("ScatterError" : Str) = some .globalImplicit) (hgM : sg.names.lookup ("Missing" : Str) = some .globalImplicit) (hgF : sg.names.lookup ("_law_field" : Str) = some .globalImplicit) (hmS : X.mg "ScatterError" = some (.ref CS)) (hmM : X.mg "Missing" = some (.ref CM)) (hCS : CS = He.ga X.K "ScatterError")
    (hi : Ng[i]? = some e) (hl : sg.names.lookup e = some .local) (d1 : (e == ("__debug__" : Str)) = false) (d2 : (e == ("__classdict__" : Str)) = false) (hk : ∀ f, X.mg "_law_field" = some (.ref f) → PySem.W.keepIn X.K (.ref f) = true)
    (hF : FldD X.K X.mg e') (d3 : (e' == ("__debug__" : Str)) = false) (d4 : (e' == ("__classdict__" : Str)) = false) (h0 : ∀ f : Addr, (L2.start Ng [V.ref f])[0]? = some (some (V.ref f))) :
    GivesTo X Ng x sg g cdg bg a q (TTry X.K) := by
  unfold tryB at hB
  split at hB
  · rename_i v kv pv a' pa pc kt pt pr x1 q1 e1 e2 r1 cd r2 f1 r3 e3 r4 r5 kt2 r6 r7 q2 x2 q3 e4 b2 q4 p8
    simp only [Bool.and_eq_true, decide_eq_true_eq] at hB
    obtain ⟨rfl, rfl, rfl, rfl, rfl, rfl, rfl, rfl, rfl, rfl⟩ := hB
    intro f c' s H Q tl act hc h
    obtain ⟨fF, fd, NF, params, body, scope, hmF, F, SF, hNF, hvF, hbF, hcases⟩ := hF.ex
    obtain ⟨oc, od, dV, kV, doc, pm, an, cdv, ct, osl, rfl, lk, hcd, hD, hK⟩ := F.ex
    refine ⟨_, pss_one (ps_try_manyN (X := (cxOf C8.CX0 X.prog X.w X.K X.mg X.base Ng x sg g cdg X.A X.stack s H C8.E0).nox)
      (tb := fun W D σ H => ∃ Ech : XK, (∀ cls d σ' H', Ech cls d H' → W cls d σ' H') ∧ σ[0]? = some (some (.ref f)) ∧ H c' = some (CodeO c' q) ∧ tl Ech H fun v H' => [V.str valS, v].length ≤ sizeLine ∧ ∀ p, H' p = none → D.rt (.ref p) (upd H' p (.tup [.str valS, v])))
      (l := [(.ref CS, i, fun a cls d => fun D σ H => ∃ nm fo dd fs v, (nm, fo) ∈ excTab ∧ cls = .ref (He.ga X.K (toS nm)) ∧ d = some dd ∧ ClsOk X.K (He.ga X.K (toS nm)) ∧ fs.lookup ("code" : Str) = some (V.str (toS nm)) ∧ FldW X.K (He.ga X.K (toS nm)) fs v fo ∧
          At a dd i fs σ H ∧ ∀ p, H p = none → D.rt (.ref p) (upd H p (.tup [.str (toS nm), v]))), (.ref CM, i, fun _ _ _ => fun _ _ _ => False)])
      rfl rfl hnd LamX.takes0 (fun W pn xe tk _ => ?_) (.cons ⟨hgS, by decide, .inl hmS⟩ hi hl (fun a oe cls d pn hz hf => ?_) (.cons ⟨hgM, by decide, .inl hmM⟩ hi hl (fun a oe cls d pn hz hf => ⟨fun _ _ _ _ _ _ z => z.elim⟩) .nil))), ?_⟩
    · refine ⟨fun pins s' σ H' D I h' => ?_⟩
      obtain ⟨Ech, hW, h1, h2, h3⟩ := h'
      have hp := act W pn xe Ech pa pc tk hW
      have hq := pss_one (ps_ret (pos := pr) (pe_tup (x1 := kt) (pos := pt) (pa_cons (pe_str (x := valS) (j := kv) (pos := pv)) (pa_cons hp pa_nil))))
      exact hq.run pins s' σ H' D I ⟨h1, h2, h3⟩
    · refine ⟨fun pins s' σ H' D I h' => ?_⟩
      obtain ⟨nm, fo, dd, fs, v, hmem, rfl, rfl, hcls, hcode, hfld, hat, hrt⟩ := h'
      have c : Ct ((cxOf C8.CX0 X.prog X.w X.K X.mg X.base Ng x sg g cdg X.A X.stack s H C8.E0).nox.suite a ((a, oe) :: pn)) a (He.ga X.K (toS nm)) dd oe i e4 := ⟨hcls.xf, hz, hf, List.mem_cons_self, hi, .inl hl, d1, d2⟩
      have FF := field_fn (P := X.prog) (w := X.w) (K := X.K) (mg := X.mg) (base := X.base) (CX := L2.CX X.prog X.w) (a := a) (n := n) (v := v) lk hcd SF hNF hvF d3 d4 hcls.xf hz hf hcls.code hcode (fun _ _ _ => rfl) (hcases nm fo hmem) (by cases fo <;> exact hfld)
      have := suite_ok (Y := (cxOf C8.CX0 X.prog X.w X.K X.mg X.base Ng x sg g cdg X.A X.stack s H C8.E0).nox.suite a ((a, oe) :: pn)) (i := i) (kt := kt2) (x := "_law_field") (r1 := r1) (r2 := r2) (r3 := r3) (r4 := r4) (r5 := r5) (r6 := r6) (r7 := r7) c hcls.code hcode (fun _ _ => rfl) FF
        ⟨by have := hr.dp; show X.A.depth + 1 + 3 * (n + 1) + 5 < _; omega, by have := hr.un; show X.A.units + 3 + 16 * (n + 1) + 200 < _; omega⟩ hgF hmF (hk _ hmF) hbF (by decide)
      exact this.run pins s' σ H' D I ⟨hat, hrt⟩
    · refine ⟨ETry X.K Q, fun cls d σ' H' ⟨nm, fo, dd, fs, v, hmem, e1, e2, hcls, hdd, hcode, hfld, hq⟩ => ⟨true, ?_, fun _ hlen a ha => ⟨nm, fo, dd, fs, v, hmem, e1, e2, hcls, hcode, hfld, ⟨?_, hdd⟩, hq⟩, fun z => by cases z⟩, h0 f, hc, h⟩
      · rw [e1, hCS]
        exact hcls.sub
      · have hil : i < σ'.length := by
          rw [hlen]
          rcases Nat.lt_or_ge i Ng.length with z | z
          · exact z
          · rw [List.getElem?_eq_none z] at hi; cases hi
        simp [List.getElem?_set, hil]
  · cases hB
end Mi
set_option Elab.async false
set_option linter.all false
set_option maxRecDepth 100000
set_option maxHeartbeats 2000000
namespace Mi
open PySem PySem.Spec PyProof.Rows L2 L2H LamX
theorem ext_le {ω : Wd} {H H1 : Hp} (e : ExtN H H1) : Le ω H ω H1 := ⟨List.prefix_refl _, rfl, fun _ m => .inl m, fun a o h _ t => e a o h t⟩
theorem codeO_lst {c : Addr} {q : Str} {vs : List V} : (HO.lst vs) ≠ CodeO c q := fun z => by
  unfold CodeO at z
  cases z
theorem relSt_ext {K : PySem.W.Frag} {ω : Wd} {S : Store} {H H1 : Hp} {P : Addr} {q : List Nat} (s : RelSt K ω S H) (e : ExtN H H1) (h0 : S[0]? = some (.tab P q)) (t : TabS H1 P (toS q)) : RelSt K ω S H1 := by
  obtain ⟨ps, hP, ht, ha⟩ := t
  have hr0 : ω.rho[0]? = some P := by
    have hl : 0 < S.length := by
      rcases Nat.lt_or_ge 0 S.length with z | z
      · exact z
      · rw [List.getElem?_eq_none z] at h0; cases h0
    rw [← s.len] at hl
    obtain ⟨o, ho, rc⟩ := s.cell 0 _ _ h0 (List.getElem?_eq_getElem hl)
    obtain ⟨e0, _⟩ := rc
    rw [List.getElem?_eq_getElem hl, e0]
  refine ⟨s.nd, s.len, fun i c a e1 e2 => ?_, fun a m => ?_, s.one⟩
  · obtain ⟨o, ho, rc⟩ := s.cell i c a e1 e2
    cases c with
    | lst xs =>
      obtain ⟨vs, rfl, hl, hr⟩ := rc
      exact ⟨_, e a _ ho noT_lst, vs, rfl, hl, hr.mono (ext_le e)⟩
    | tab p q' =>
      have hi := s.one i p q' e1
      subst hi
      rw [h0] at e1; cases e1
      rw [hr0] at e2; cases e2
      refine ⟨_, hP, rfl, ps, rfl, ht, fun pos cv hc => ?_⟩
      obtain ⟨c, ec, hco⟩ := ha pos cv hc
      refine ⟨c, ec, hco, fun m => ?_, fun m => ?_⟩
      · obtain ⟨j, hj, ej⟩ := List.getElem_of_mem m
        have hS : j < S.length := by rw [← s.len]; exact hj
        obtain ⟨o2, ho2, rc2⟩ := s.cell j S[j] c (by simp [hS]) (by rw [List.getElem?_eq_getElem hj, ej])
        cases hSj : S[j] with
        | lst xs =>
          rw [hSj] at rc2
          obtain ⟨vs, rfl, _⟩ := rc2
          have := e c _ ho2 noT_lst
          rw [hco] at this
          exact codeO_lst (Option.some.inj this).symm
        | tab p2 q2 =>
          have hj0 := s.one j p2 q2 (by simp [hS, hSj])
          subst hj0
          rw [List.getElem?_eq_getElem hj, ej] at hr0
          cases hr0
          rw [hP] at hco
          exact codeO_ne _ (Option.some.inj hco).symm
      · obtain ⟨_, vs, hv⟩ := s.hd c m
        have := e c _ hv noT_lst
        rw [hco] at this
        exact codeO_lst (Option.some.inj this).symm
  · obtain ⟨n, vs, hv⟩ := s.hd a m
    exact ⟨n, vs, e a _ hv noT_lst⟩
/-- what the law's own context gives for its lambdas -/
structure LamF (X : Cx) (G : Option PV) (n : Nat) : Prop where
  room : Room (n + 3) X.A
  gives : ∃ (g : Addr) (fd : FuncData) (a : Str) (Ng : List Str) (pg : Arguments) (bg : List Stmt) (sg : Scope), X.mg "_law_try" = some (.ref g) ∧ PySem.W.keepIn X.K (.ref g) = true ∧ FunD X.K "_law_try" "_law_try" pg bg sg [] [] g fd ∧ Binds X.K fd [a] [] ∧ FnScope Ng [a] sg ∧ Ng[0]? = some a ∧ Vis sg a ∧
    (a == ("__debug__" : Str)) = false ∧ (a == ("__classdict__" : Str)) = false ∧ ∀ cdg, GivesTo X Ng "_law_try" sg g cdg bg a (toS lamQ) (TTry X.K)
  tab : ∀ j, G = some (.int j) → ∃ c P : Addr, j = (P : Int) ∧ TabB X.base X.mg c P ∧ X.env.code = .ref c
  qual : X.env.qual ++ "<lambda>" = toS lamQ
theorem try_read {K : PySem.W.Frag} {E : XK} {G : Option PV} {m : Env → M PV} {σ : L2.St} {H : Hp} {Q : VK} {P : Addr} (hP : ∀ j, G = some (.int j) → j = (P : Int)) (h : tE K E (fun env => tryM G (m env)) σ H Q) :
    tLam [(P, toS lamQ)] (TTry K) (fun E => tE K E m) σ H Q := by
  obtain ⟨ω, S, env, hS, hE, hQ0⟩ := h
  have hQ : Post K E (Rep K) ω H (if tabB G S[0]? = true then (match m env S with
    | .ok v S' => R.ok (PV.tup [.str [118, 97, 108, 117, 101], v]) S'
    | .exc x S' => ofO (excOut x) S'
    | .stuck => .stuck) else .stuck) Q := hQ0
  clear hQ0
  by_cases hb : tabB G S[0]? = true
  · rw [if_pos hb] at hQ
    unfold tabB at hb
    split at hb
    · rename_i p q h0
      split at hb
      · rename_i j
        obtain ⟨ej, eq⟩ := of_decide_eq_true hb
        subst eq
        have e1 := hP j rfl
        have epP : p = P := by omega
        subst epP
        have hl : 0 < ω.rho.length := by
          rw [hS.len]
          rcases Nat.lt_or_ge 0 S.length with z | z
          · exact z
          · rw [List.getElem?_eq_none z] at h0; cases h0
        obtain ⟨o, ho, rc⟩ := hS.cell 0 _ _ h0 (List.getElem?_eq_getElem hl)
        obtain ⟨e0, ps, rfl, ht, ha⟩ := rc
        rw [← e0] at ho
        refine ⟨fun z hz => ?_, fun H1 eN T1 => ?_⟩
        · rw [List.mem_singleton.mp hz]
          refine ⟨ps, ho, ht, fun pos cv hc => ?_⟩
          obtain ⟨c, ec, h1, _, _⟩ := ha pos cv hc
          exact ⟨c, ec, h1⟩
        · have T2 := T1 _ (List.mem_singleton.mpr rfl)
          have hS1 := relSt_ext hS eN h0 T2
          have l := ext_le (ω := ω) eN
          refine ⟨ω, S, env, hS1, hE.mono l, ?_⟩
          cases q : m env S with
          | ok v S' =>
            simp only [q] at hQ
            intro ω' H' x l1 s1 r1
            refine ⟨by show 2 ≤ sizeLine; rw [sizeLine_eq]; omega, fun p hp => ?_⟩
            refine hQ ω' _ _ (l.trans (l1.trans (le_new hp))) (s1.new hp) (rep_tup (s1.fresh hp) upd_same (by show 2 ≤ sizeLine; rw [sizeLine_eq]; omega) (.cons (rep_str (by show 5 ≤ sizeLine; rw [sizeLine_eq]; omega)) (.one (r1.mono (le_new hp)))))
          | exc x S' =>
            simp only [q] at hQ
            obtain ⟨pv, epv, hQ⟩ := Post.ofO hQ
            intro ω' H' cls d l1 s1 ⟨nm, fo, dd, fs, hx, ec, ed, hcls, hdd, hcode, hlen, hfld⟩
            unfold excOut at epv
            rw [hx, Option.bind_some] at epv
            have hnm : nm.length ≤ sizeLine := by rw [sizeLine_eq]; omega
            have fin : ∀ (a : PV) (v : V), Rep K ω' H' a v → pv = .tup [.str nm, a] → FldW K (He.ga K (toS nm)) fs v fo → ETry K Q cls d H' := fun a v r e hf =>
              ⟨nm, fo, dd, fs, v, List.mem_of_getElem? hx, ec, ed, hcls, hdd, hcode, hf, fun p hp => by
                subst e
                exact hQ ω' _ _ (l.trans (l1.trans (le_new hp))) (s1.new hp) (rep_tup (s1.fresh hp) upd_same (by show 2 ≤ sizeLine; rw [sizeLine_eq]; omega) (.cons (rep_str hnm) (.one (r.mono (le_new hp)))))⟩
            cases fo with
            | none =>
              cases hargs : x.args with
              | nil =>
                rw [hargs] at epv
                have epv : some (PV.tup [.str nm, .non]) = some pv := epv
                exact fin .non .non rep_non (Option.some.inj epv).symm rfl
              | cons y ys => rw [hargs] at hfld; exact hfld.elim
            | some f =>
              cases hargs : x.args with
              | nil => rw [hargs] at hfld; exact hfld.elim
              | cons y ys =>
                cases ys with
                | nil =>
                  rw [hargs] at epv hfld
                  obtain ⟨v, rv, h1, h2⟩ := hfld
                  have epv : some (PV.tup [.str nm, y]) = some pv := epv
                  exact fin y v rv (Option.some.inj epv).symm ⟨h1, h2⟩
                | cons => rw [hargs] at hfld; exact hfld.elim
          | stuck =>
            simp only [q] at hQ
            exact False.elim hQ
      · cases hb
    · cases hb
  · rw [if_neg hb] at hQ
    exact False.elim hQ
theorem e_try {X : Cx} {E : XK} {G : Option PV} {n : Nat} {m : Env → M PV} {body : Expr} {scope : Scope} {p lpos pos : Pos} (L : LamF X G n) (hg : Gl X "_law_try") (hs : LamS X.env.scope scope)
    (hbody : ∀ (A : Around) (outer : List PySem.Env) (s : Shared) (H : Hp) (E : XK) (f c' : Addr), Room n (A.deeper (lamEnv X scope s.heap.objs.size f c')) → PE (lamCx X A outer s H E scope f c') body (tE X.K E m)) :
    PE X (.Call (.Name "_law_try" p) [.Lambda ⟨[], [], none, [], [], none, []⟩ body scope lpos] [] pos) (tE X.K E (fun env => tryM G (m env))) := by
  by_cases hG : ∃ j, G = some (.int j)
  · obtain ⟨j, hj⟩ := hG
    obtain ⟨c, P, e, TB, hcode⟩ := L.tab j hj
    obtain ⟨g, fd, a, Ng, pg, bg, sg, hm, hk, F, hb, Sg, hNg, hva, d1, d2, hgv⟩ := L.gives
    obtain ⟨oc, od, dV, kV, doc, pm, an, cdv, ct, osl, rfl, lk, hcd, hD, hK⟩ := F.ex
    refine peImp (pe_lamcall (T := [(P, X.env.qual ++ "<lambda>")]) (TT := TTry X.K) (t := fun E => tE X.K E m) (k := n) hg hm hk lk hcd hb Sg hNg hva (by rw [L.qual]; exact hgv cdv) TB hcode (List.mem_singleton.mpr rfl) (fun p hp _ => by rw [List.mem_singleton.mp hp]) (L.room.mono (by omega)) hs rfl (fun _ _ _ _ _ => rfl) hbody (by decide) d1 d2) fun σ H Q h => ?_
    rw [L.qual]
    exact try_read (fun j' hj' => by rw [hj] at hj'; cases hj'; exact e) h
  · refine ⟨fun pins s σ H Q I h => ?_⟩
    obtain ⟨ω, S, env, hS, hE, hQ⟩ := h
    have hQ : Post X.K E (Rep X.K) ω H (if tabB G S[0]? = true then (match m env S with
      | .ok v S' => R.ok (PV.tup [.str [118, 97, 108, 117, 101], v]) S'
      | .exc x S' => ofO (excOut x) S'
      | .stuck => .stuck) else .stuck) Q := hQ
    have : tabB G S[0]? = false := by
      unfold tabB
      split
      · split
        · rename_i j _
          exact absurd ⟨_, rfl⟩ hG
        · rfl
      · rfl
    rw [this] at hQ
    exact False.elim hQ
end Mi
set_option Elab.async false
set_option linter.all false
set_option maxRecDepth 100000
set_option maxHeartbeats 2000000
namespace Mi
open PySem PySem.Spec PyProof.Rows L2 L2H
/-- the promise of an exception's __init__ -/
def spX (C : Addr) (nm : Str) (fo : Option Str) : Sp := fun vs H Q _ => match fo with
  | none => ∃ a, vs = [.ref a] ∧ H a = some (exo a C none) ∧ ∀ dx, H dx = none → dx ≠ a → Q .non (upd (upd H dx (exd dx [("code", .str nm)])) a (exo a C (some dx)))
  | some f => ∃ a y, vs = [.ref a, y] ∧ H a = some (exo a C none) ∧ ∀ dx, H dx = none → dx ≠ a → Q .non (upd (upd (upd H dx (exd dx [(f, y)])) a (exo a C (some dx))) dx (exd dx [("code", .str nm), (f, y)]))
def plainY (x : Str) : Bool := !(x == ("__debug__" : Str)) && !(x == ("__classdict__" : Str))
theorem plainY_ok {x : Str} (h : plainY x = true) : (x == ("__debug__" : Str)) = false ∧ (x == ("__classdict__" : Str)) = false ∧ True := by
  unfold plainY at h
  rw [Bool.and_eq_true] at h
  exact ⟨by simpa using h.1, by simpa using h.2, trivial⟩
/-- the text of an exception's __init__ -/
def initB (nm : Str) (fo : Option Str) (ps : List Str) (sc : Scope) : List Stmt → Bool
  | [.Assign [.Attribute (.Name x _) f _] (.Constant (.str v) _ _) _] => (match fo, ps with
    | none, [s] => decide (x = s) && (decide (f = ("code" : Str)) && (decide (v = nm) && (decide (sc.names.lookup s = some .local) && plainY s)))
    | _, _ => false)
  | [.Assign [.Attribute (.Name x1 _) f1 _] (.Name y _) _, .Assign [.Attribute (.Name x _) f _] (.Constant (.str v) _ _) _] => (match fo, ps with
    | some g, [s, p] => decide (x1 = s) && (decide (f1 = g) && (decide (y = p) && (decide (x = s) && (decide (f = ("code" : Str)) && (decide (v = nm) && (decide (sc.names.lookup s = some .local) && (decide (sc.names.lookup p = some .local) && (plainY s && (plainY p && decide (g ≠ ("code" : Str)))))))))))
    | _, _ => false)
  | _ => false
/-- what is told of an exception's class -/
structure ExcD (K : PySem.W.Frag) (mg : Str → Option Value) (nm : Str) (fo : Option Str) : Prop where
  glo : mg nm = some (.ref (He.ga K nm))
  oex : OexC K (He.ga K nm)
  cls : ClsOk K (He.ga K nm)
  fld : ∀ f, fo = some f → PySem.W.findIn K (.ref (He.ga K nm)) f = some none
  init : ∃ (fI : Addr) (fd : FuncData) (name qual : Str) (params : Arguments) (body : List Stmt) (scope : Scope) (ps N : List Str), PySem.W.findIn K (.ref (He.ga K nm)) "__init__" = some (some (.ref fI)) ∧ PySem.W.typeIn K (.ref fI) = some (.type "function") ∧
    FunD K name qual params body scope [] [] fI fd ∧ Binds K fd ps [] ∧ FnScope N ps scope ∧ initB nm fo ps scope body = true
theorem take1 {N : List Str} {s : Str} (h : N.take 1 = [s]) : N[0]? = some s := by
  cases N with
  | nil => cases h
  | cons a N => simp at h; simp [h]
theorem take2 {N : List Str} {s p : Str} (h : N.take 2 = [s, p]) : N[0]? = some s ∧ N[1]? = some p := by
  cases N with
  | nil => cases h
  | cons a N =>
    cases N with
    | nil => simp at h
    | cons b N => simp at h; simp [h]
theorem init_fn {P : Program} {w : World} {K : PySem.W.Frag} {mg : Str → Option Value} {base : Heap} {fI C : Addr} {fd : FuncData} {name qual nm : Str} {fo : Option Str} {params : Arguments} {body : List Stmt} {scope : Scope} {ps N : List Str}
    (T : OexC K C) (hc : PySem.W.findIn K (.ref C) "code" = some none) (hf : ∀ f, fo = some f → PySem.W.findIn K (.ref C) f = some none) (F : FunD K name qual params body scope [] [] fI fd) (Sc : FnScope N ps scope) (hB : initB nm fo ps scope body = true) :
    FnOk P w K mg base (L2.CX P w) 1 fI fd ps (spX C nm fo) := by
  unfold initB at hB
  split at hB
  · rename_i x px f pf v kv pv pos
    split at hB
    · rename_i s
      simp only [Bool.and_eq_true, decide_eq_true_eq] at hB
      obtain ⟨rfl, rfl, rfl, hl, hp⟩ := hB
      obtain ⟨d1, d2, _⟩ := plainY_ok hp
      refine F.ok Sc (fun vs H Q E h => ?_) fun cdv A outer s H vs Q E hr hsp => ?_
      · obtain ⟨a, e, _⟩ := h
        rw [e]; rfl
      · obtain ⟨a, rfl, ha, hq⟩ := hsp
        have hN := take1 Sc.pre
        refine ⟨_, pss_one (ps_ost (pe_var (i := 0) hN (.inl hl) d1 d2) pe_str), ?_⟩
        refine ⟨.ref a, ?_, a, C, rfl, T, hc, .inl ⟨ha, fun dx h1 h2 => hq dx h1 h2⟩⟩
        unfold L2.start; simp
    · cases hB
  · rename_i x1 px1 f1 pf1 y py pos1 x px f pf v kv pv pos
    split at hB
    · rename_i g s p
      simp only [Bool.and_eq_true, decide_eq_true_eq] at hB
      obtain ⟨rfl, rfl, rfl, rfl, rfl, rfl, hl, hl2, hp, hp2, hne⟩ := hB
      obtain ⟨d1, d2, _⟩ := plainY_ok hp
      obtain ⟨d3, d4, _⟩ := plainY_ok hp2
      refine F.ok Sc (fun vs H Q E h => ?_) fun cdv A outer s H vs Q E hr hsp => ?_
      · obtain ⟨a, y, e, _⟩ := h
        rw [e]; rfl
      · obtain ⟨a, z, rfl, ha, hq⟩ := hsp
        obtain ⟨hN, hN2⟩ := take2 Sc.pre
        refine ⟨_, pss_cons (ps_ost (pe_var (i := 0) hN (.inl hl) d1 d2) (pe_var (i := 1) hN2 (.inl hl2) d3 d4)) (pss_one (ps_ost (pe_var (i := 0) hN (.inl hl) d1 d2) pe_str)), ?_⟩
        refine ⟨z, ?_, .ref a, ?_, a, C, rfl, T, hf _ rfl, .inl ⟨ha, fun dx h1 h2 => ⟨.ref a, ?_, a, C, rfl, T, hc, .inr ⟨dx, [(f1, z)], upd_same, ?_, by simp, hq dx h1 h2⟩⟩⟩⟩
        · unfold L2.start; simp
        · unfold L2.start; simp
        · unfold L2.start; simp
        · rw [upd_ne h2, upd_same]
    · cases hB
  · cases hB
theorem upd_back {H1 : Hp} {a dx : Addr} {o o1 o2 u : HO} (ha : H1 a = none) (hd : dx ≠ a) : upd (del (upd (upd (upd H1 a o) dx o1) a o2) a) dx u = upd H1 dx u := by
  funext b
  by_cases h1 : b = dx
  · subst h1; rw [upd_same, upd_same]
  · rw [upd_ne h1, upd_ne h1]
    by_cases h2 : b = a
    · subst h2; rw [del_same, ha]
    · rw [del_ne h2, upd_ne h2, upd_ne h1, upd_ne h2]
theorem upd_back2 {H1 : Hp} {a dx : Addr} {o o1 o2 o3 u : HO} (ha : H1 a = none) (hd : dx ≠ a) : upd (del (upd (upd (upd (upd H1 a o) dx o1) a o2) dx o3) a) dx u = upd H1 dx u := by
  funext b
  by_cases h1 : b = dx
  · subst h1; rw [upd_same, upd_same]
  · rw [upd_ne h1, upd_ne h1]
    by_cases h2 : b = a
    · subst h2; rw [del_same, ha]
    · rw [del_ne h2, upd_ne h1, upd_ne h2, upd_ne h1, upd_ne h2]
theorem noPass {X : Cx} : Passes (L2.CX X.prog X.w) X (fun _ _ _ => False) := fun _ _ _ _ _ _ _ c => by
  obtain ⟨_, _, _, _, _, _, _, _, _, _, _, _, z⟩ := c
  exact z.elim
end Mi
set_option Elab.async false
set_option linter.all false
set_option maxRecDepth 100000
set_option maxHeartbeats 2000000
namespace Mi
open PySem PySem.Spec PyProof.Rows L2 L2H LamX
/-- what was there and is not told stays, up to its slots -/
def Lives (H HZ : Hp) (h h1 : Heap) : Prop := ∀ b o, h.get? b = some o → H b = none → (∃ sl, h1.get? b = some { o with slots := sl }) ∧ HZ b = none
theorem lives_un {fs : List Addr} {H HZ : Hp} {h h1 : Heap} (u : Un fs [] H HZ h h1) : Lives H HZ h h1 := fun b o q n => ⟨u.any q n (by simp), u.free b o q n (by simp)⟩
theorem Lives.trans {H H1 H2 : Hp} {h h1 h2 : Heap} (a : Lives H H1 h h1) (b : Lives H1 H2 h1 h2) : Lives H H2 h h2 := fun c o q n => by
  obtain ⟨⟨sl, e⟩, n1⟩ := a c o q n
  obtain ⟨⟨sl2, e2⟩, n2⟩ := b c _ e n1
  exact ⟨⟨sl2, e2⟩, n2⟩
theorem Lives.refl {H : Hp} {h : Heap} : Lives H H h h := fun b o q n => ⟨⟨o.slots, q⟩, n⟩
/-- a lambda's function, its defaults told -/
abbrev lamD (q : Str) (params : Arguments) (body : Expr) (scope : Scope) (cl : List (Str × Addr)) (pm cdv ct dV : Value) : FuncData :=
  { name := "<lambda>", qualname := q, params := params, body := .expr body, scope := scope, globals := mainGlobals, closure := cl, defaults := dV, kwdefaults := .none, doc := .none, pyModule := pm, annotations := none, code := cdv, closureTuple := ct, builtins := builtinsNs }
/-- a lambda's names: its own ones are no slots -/
structure LamS2 (N : List Str) (sc scope : Scope) : Prop where
  kind : scope.kind = .function
  co : scope.isCoroutine = false
  gen : scope.isGenerator = false
  own : ∀ y ∈ scope.names, y.2 ≠ .cell ∧ (y.2 = .local → y.1 ∉ N)
  free : ∀ y ∈ scope.names, y.2 = .free → sc.names.lookup y.1 = some .cell ∨ sc.names.lookup y.1 = some .free
def lamSB2 (N : List Str) (sc scope : Scope) : Bool := decide (scope.kind = .function) && (decide (scope.isCoroutine = false) && (decide (scope.isGenerator = false) && scope.names.all fun y => !decide (y.2 = .cell) && ((!decide (y.2 = .local) || !N.contains y.1) &&
  (!decide (y.2 = .free) || (decide (sc.names.lookup y.1 = some .cell) || decide (sc.names.lookup y.1 = some .free))))))
theorem lamS2_by {N : List Str} {sc scope : Scope} (h : lamSB2 N sc scope = true) : LamS2 N sc scope := by
  unfold lamSB2 at h
  simp only [Bool.and_eq_true, Bool.or_eq_true, Bool.not_eq_true', decide_eq_true_eq, decide_eq_false_iff_not, List.all_eq_true] at h
  obtain ⟨h1, h2, h3, h4⟩ := h
  refine ⟨h1, h2, h3, fun y hy => ⟨(h4 y hy).1, fun e m => ?_⟩, fun y hy e => ?_⟩
  · rcases (h4 y hy).2.1 with z | z
    · exact z e
    · rw [List.contains_iff_mem.mpr m] at z; cases z
  · rcases (h4 y hy).2.2 with z | z
    · exact absurd e z
    · exact z
theorem LamS2.has {X : Cx} {scope : Scope} (L : LamS2 X.N X.env.scope scope) (ok : X.Ok) : ∀ y ∈ scope.names, y.2 = .free → ∃ c, X.env.cells.lookup y.1 = some c := fun y hy e => ok.has _ (L.free y hy e)
section
variable {X : Cx} {pins : List (Addr × Obj)} {σ : L2.St} {H HZ : Hp} {s s1 : Shared}
/-- the lambda's body is entered -/
theorem lam_enter {A : Around} {outer : List PySem.Env} {E : XK} {scope : Scope} {f c' : Addr} {h₁ : Heap} {tk : Nat} {mm : Str → Option Value} (I : Inv X pins σ H s) (L : LamS2 X.N X.env.scope scope) (e0 : Env0 X.prog X.w X.K X.mg X.base A outer s1 HZ) (hd : A.handled = none)
    (lv : Lives H HZ s.heap s1.heap) (hns : h₁.Ns s1.heap.objs.size mm) (kp : ∀ b o, s1.heap.get? b = some o → h₁.get? b = some o) :
    Inv (lamCx X A outer s1 HZ E scope f c') [] σ HZ { s1 with heap := h₁, toks := tk } := by
  have hfree := L.has I.ok
  have cm : ∀ {y c}, (cloFrom X.env.cells scope.names []).lookup y = some c → X.env.cells.lookup y = some c := fun {y c} e => by
    rcases cloFrom_mem (PySem.mem_of_lookup e) with hm | ⟨h1, h2⟩
    · cases hm
    · obtain ⟨c1, hc⟩ := hfree _ h1 rfl
      have hc : X.env.cells.lookup y = some c1 := hc
      have e2 : c = c1 := by rw [h2, hc] <;> rfl
      rw [e2]; exact hc
  have look : ∀ {y}, scope.names.lookup y = some .free → ∃ c, (cloFrom X.env.cells scope.names []).lookup y = some c := fun {y} hl =>
    mem_lookup (cloFrom_has (cells := X.env.cells) (acc := []) (show (y, NameKind.free) ∈ scope.names from PySem.mem_of_lookup hl))
  have cellK : ∀ {c : Addr} {v : Option Value}, H c = none → s.heap.IsCell c v → h₁.IsCell c v := fun {c v} n ⟨o, ho, hd⟩ => by
    obtain ⟨⟨sl, q⟩, _⟩ := lv _ _ ho n
    exact ⟨_, kp _ _ q, hd⟩
  have noA : ∀ b : Addr, b ∉ (lamCx X A outer s1 HZ E scope f c').ex := fun b z => nomatch (show b ∈ ([] : List Addr) from z)
  refine ⟨⟨e0.mod, L.kind, rfl, rfl, Nat.le_refl _, fun y z c e1 e2 => I.ok.inj y z c (cm e1) (cm e2), fun y hy => ?_, fun y c z _ => ?_, fun _ => hd, Around.frames_deeper e0.frames, .inr ⟨rfl, rfl⟩, fun b z => absurd z (noA b), e0.bs, e0.bsz, fun b _ _ => noA b, fun b z => absurd z (noA b), e0.funs, e0.frf⟩,
    rfl, e0.bare, Un.kept kp, ⟨_, hns, fun i y v e1 e2 e3 => ?_⟩, fun y c e => ?_, e0.hok.fresh (Nat.le_refl _), fun y c e => ?_, fun z hz => (by have hz : z ∈ ([] : List (Addr × Obj)) ++ [] := hz; simp at hz), e0.hok.kept kp, I.len⟩
  · rcases (show scope.names.lookup y = some .cell ∨ scope.names.lookup y = some .free from hy) with hy | hy
    · exact absurd rfl (L.own _ (PySem.mem_of_lookup hy)).1
    · exact look hy
  · cases (show false = true from z)
  · rcases (show Vis scope y from e3) with k | k | k
    · exact absurd (List.mem_of_getElem? (show X.N[i]? = some y from e1)) ((L.own _ (PySem.mem_of_lookup k)).2 rfl)
    · exact absurd rfl (L.own _ (PySem.mem_of_lookup k)).1
    · obtain ⟨m, hn, hl⟩ := I.loc
      have hvis : Vis X.env.scope y := (L.free _ (PySem.mem_of_lookup k) rfl).elim (fun k => .inr (.inl k)) (fun k => .inr (.inr k))
      obtain ⟨w', r, q⟩ := hl i y v e1 e2 hvis
      obtain ⟨c2, h2⟩ := look k
      refine ⟨w', r, .inr ⟨.inr k, c2, h2, ?_⟩⟩
      have c1 := cm h2
      rcases q with ⟨k', _⟩ | ⟨_, c3, e', z⟩
      · have k' : X.env.scope.names.lookup y = some .local := k'
        rcases L.free _ (PySem.mem_of_lookup k) rfl with k2 | k2
        · rw [show X.env.scope.names.lookup y = some .cell from k2] at k'; cases k'
        · rw [show X.env.scope.names.lookup y = some .free from k2] at k'; cases k'
      · rw [c1] at e'; cases e'
        exact cellK (I.freeC y _ c1) z
  · obtain ⟨w', z⟩ := I.cell y c (cm e)
    exact ⟨w', cellK (I.freeC y c (cm e)) z⟩
  · obtain ⟨v, o, ho, hd⟩ := I.cell y c (cm e)
    exact (lv _ _ ho (I.freeC y c (cm e))).2
/-- x(), in a def to which the lambda came -/
theorem lam_act {CXg : CXT} {Eg : XK} {Ng : List Str} {qg q : Str} {sg : Scope} {g f c' : Addr} {cdg pm ctv dV : Value} {params : Arguments} {body : Expr} {scope : Scope} {k i : Nat} {a : Str} {pn : List (Addr × Obj)} {xe : Value → Shared → Prop} {W : WX} {E : XK} {tb : TE} {p1 p2 : Pos} {A : Around} {outer : List PySem.Env} {sG : Shared} {HG : Hp} {binds : List (Str × Value)} {osl : Array (Option Value)}
    (I : Inv X pins σ H s) (L : LamS2 X.N X.env.scope scope) (eq : q = X.env.qual ++ "<lambda>") (hf : s.heap.get? f = some { cls := .type "function", data := .func (lamD q params body scope (cloFrom X.env.cells scope.names []) pm (.ref c') ctv dV), slots := osl }) (hfn : H f = none)
    (hlo : ∀ y ∈ binds, scope.names.lookup y.1 = some .local)
    (hbind : ∀ {s2 : Shared} {H2 : Hp} {M : Model} {A2 : Around} {Q2 : List (Str × Value) → Shared → Prop} {E2 : Value → Shared → Prop}, Lives H H2 s.heap s2.heap → Q2 binds s2 → wpAny M A2 (bindArgs (lamD q params body scope (cloFrom X.env.cells scope.names []) pm (.ref c') ctv dV) ⟨[], []⟩) Q2 E2 s2)
    (lvG : Lives H HG s.heap sG.heap) (tk : Takes ((cxOf CXg X.prog X.w X.K X.mg X.base Ng qg sg g cdg A outer sG HG Eg).tr pn xe) W) (hW : ∀ cls d σ' H', E cls d H' → W cls d σ' H') (hr : Room (k + 1) (A.deeper (envOfC qg sg sG.heap.objs.size g cdg)))
    (hbody : ∀ (A : Around) (outer : List PySem.Env) (s : Shared) (H : Hp), Room k (A.deeper (lamEnv X scope s.heap.objs.size f c')) → PE (lamCx X A outer s H E scope f c') body tb)
    (hN : Ng[i]? = some a) (hv : Vis sg a) (hd : (a == ("__debug__" : Str)) = false) (hcd : (a == ("__classdict__" : Str)) = false) :
    PE ((cxOf CXg X.prog X.w X.K X.mg X.base Ng qg sg g cdg A outer sG HG Eg).tr pn xe) (.Call (.Name a p1) [] [] p2)
      (fun σZ HZ Q => σZ[i]? = some (some (.ref f)) ∧ HZ c' = some (CodeO c' q) ∧ tb σ HZ Q) := by
  subst eq
  refine ⟨fun pinsZ sZ σZ HZ Q IZ h => ?_⟩
  obtain ⟨hs, hc, ht⟩ := h
  refine wpAny_Call_Name_kw (thn ((pe_var (pos := p1) (i := i) hN hv hd hcd).run pinsZ sZ σZ HZ (fun v H1 => v = .ref f ∧ H1 = HZ) IZ ⟨.ref f, hs, rfl, rfl⟩) fun u s1 ⟨v, H1, I1, r1, q1⟩ => ?_)
  obtain ⟨ev, eH⟩ := q1
  subst ev
  rw [eH] at I1
  obtain rfl : u = Value.ref f := r1
  have un : Lives H HZ s.heap s1.heap := lvG.trans (lives_un (fs := frs outer) I1.base)
  obtain ⟨⟨slf, of1⟩, _⟩ := un _ _ hf hfn
  refine PySem.W.callWith_F0 ⟨_, _, _, _, of1⟩ ?_
  obtain ⟨⟨oc, vs, t, hoc, hdc, hvc⟩, _, _⟩ := I1.hok c' _ hc
  have rc : codeAny (model X.prog X.w) (A.deeper (envOfC qg sg sG.heap.objs.size g cdg)) (.call (.ref f) ⟨[], []⟩) (CR (L2.CX X.prog X.w) (envOfC qg sg sG.heap.objs.size g cdg :: outer) X.prog X.w HZ s1 Q E) s1 := by
    refine PySem.W.kla_callFunE hr.depth of1 rfl L.co L.gen rfl ⟨c', oc, vs, t, rfl, hoc, hdc, hvc⟩ (hbind un ?_)
    refine wpAny_newFunctionEnv (fun y hy => (L.own y hy).1) hlo (fun h₁ hns hsb => ⟨I1.nolimit.fresh _ hsb, ?_⟩) L.kind
    show codeAny _ _ (.expr body (lamEnv X scope s1.heap.objs.size f c')) _ _
    have kp : ∀ b o, s1.heap.get? b = some o → h₁.get? b = some o := fun b o e => hsb.extBut b o (Nat.ne_of_lt (Heap.lt_size e)) (Heap.get?_push_of_some _ e)
    have J := lam_enter (E := E) (f := f) (c' := c') (tk := s1.toks + binds.length) I L I1.env0 hr.hd un hns kp
    refine PySem.W.kla_codeExpr (wpAny_mono ((hbody _ _ s1 HZ (hr.deeper _)).run [] _ _ HZ Q J ht) (fun v s' hq => ?_) fun e s' hq => hq)
    obtain ⟨w', H', J', rv, q⟩ := hq
    exact ⟨w', H', J'.os, J'.bare, J'.base, J'.hok, rv, q⟩
  have hx : Passes (L2.CX X.prog X.w) ((cxOf CXg X.prog X.w X.K X.mg X.base Ng qg sg g cdg A outer sG HG Eg).tr pn xe) E := passes_call tk hW
  refine wpAny_call (codeAny_mono rc fun r s' hq => ?_)
  cases r with
  | error e => exact hx pinsZ σZ HZ s1 e s' I1 hq
  | ok fl =>
    cases fl with
    | ret u => exact I1.after hq
    | next => exact False.elim hq
    | brk => exact False.elim hq
    | cont => exact False.elim hq
end
end Mi
set_option Elab.async false
set_option linter.all false
set_option maxRecDepth 100000
set_option maxHeartbeats 2000000
namespace Mi
open PySem PySem.Spec PyProof.Rows L2 L2H LamX PySem.W
section
variable {M : Model} {A : Around} {E : Value → Shared → Prop} {s : Shared} {q : Str} {params : Arguments} {body : Expr} {scope : Scope} {env : PySem.Env} {c P : Addr} {ps : Array Value} {pos : Pos} {fl : Nat} {mg : Str → Option Value} {cl : List (Str × Addr)} {Q : Value → Shared → Prop} {dV : Value}
/-- the made function, its code object new -/
theorem tail_new (k1 : closureFor scope env = pure cl) (k2 : env.globals = mainGlobals) (k3 : s.heap.Ns mainGlobals mg) (k4 : env.code = .ref c) (k5 : CodeHd s.heap c P) (k6 : s.heap.get? P = some (tabObj ps)) (k7 : TriplesOk ps.toList) (k8 : codeAmong pos ps.toList = none) (k9 : mainGlobals ≠ P) (k10 : s.heap.BuiltinsAt mg P)
    (h : ∀ c' ct h' tk, Heap.ExtBut P s.heap h' → s.heap.objs.size ≤ c' → c' < h'.objs.size → h'.CodeRec (.ref c') q → h'.get? P = some (tabObj (ps ++ #[rawInt pos.line, rawInt pos.col, .ref c'])) →
      Q (.ref h'.objs.size) { s with heap := h'.push { cls := .type "function", data := .func (lamD q params body scope cl ((mg "__name__").getD .none) (.ref c') ct dV) }, toks := tk }) :
    wpAny M A (makeTail "<lambda>" q params (.expr body) scope env dV .none none pos fl) Q E s := by
  obtain ⟨bm, ob, b1, b2, _, b4, b5, b6, b7, b8⟩ := k10
  unfold makeTail
  rw [k1, k2]
  refine wpAny_bind (wpAny_pure ?_)
  have fin : ∀ (ct : Value) (hA : Heap), (∀ b o, s.heap.get? b = some o → hA.get? b = some o) → s.heap.objs.size ≤ hA.objs.size →
      wpAny M A (do
        let code ← functionCode env pos fl "<lambda>" q params scope (.expr body)
        let bi ← builtinsFor mainGlobals env.builtins
        let nm ← nsGet mainGlobals "__name__"
        let doc ← (pure .none : Sem Value)
        newObj (.type "function") (.func { name := "<lambda>", qualname := q, params := params, body := .expr body, scope := scope, globals := mainGlobals, closure := cl, closureTuple := ct, code := code, builtins := bi, defaults := dV, kwdefaults := .none, annotations := none, pyModule := nm.getD .none, doc := doc })) Q E { s with heap := hA } := by
    intro ct hA kA zA
    refine wpAny_bind (wpAny_functionCodeX k4 ((k5.keeps kA).code (kA _ _ k6) k7) ((k5.keeps kA).tab (kA _ _ k6)) k8 fun c' h' tk x1 x2 x3 _ x5 x6 _ => ?_)
    have y1 : h'.Ns mainGlobals mg := (k3.keeps kA).extBut x1 k9
    have y2 : Heap.ExtBut P s.heap h' := fun b o hb e => x1 b o hb (kA _ _ e)
    refine wpAny_bind (wpAny_builtinsFor y1 b1 b2 (y2 _ _ b4 b5) b6 b7 b8 ?_)
    refine wpAny_bind (wpAny_nsGet y1 ?_)
    exact wpAny_bind (wpAny_pure (wpAny_newObj_type (h c' ct h' tk y2 (Nat.le_trans zA x2) x3 x5 x6.2) (by size_fits)))
  cases cl with
  | nil =>
    simp only [List.isEmpty_nil, if_true]
    exact wpAny_bind (wpAny_pure (fin .none s.heap (fun _ _ e => e) (Nat.le_refl _)))
  | cons y r =>
    simp only [List.isEmpty_cons, Bool.false_eq_true, if_false]
    exact wpAny_bind (wpAny_newTextTuple (fin _ _ (fun b o e => Heap.get?_push_of_some _ e) (by rw [Heap.size_push]; omega)))
/-- the made function, its code object found -/
theorem tail_hit {cv : Value} (k1 : closureFor scope env = pure cl) (k2 : env.globals = mainGlobals) (k3 : s.heap.Ns mainGlobals mg) (k4 : env.code = .ref c) (k5 : CodeHd s.heap c P) (k6 : s.heap.get? P = some (tabObj ps)) (k7 : TriplesOk ps.toList) (k8 : codeAmong pos ps.toList = some cv) (k10 : s.heap.BuiltinsAt mg P)
    (h : ∀ (ct : Value) (h' : Heap) (tk : Tok), (∀ b o, s.heap.get? b = some o → h'.get? b = some o) → s.heap.objs.size ≤ h'.objs.size →
      Q (.ref h'.objs.size) { s with heap := h'.push { cls := .type "function", data := .func (lamD q params body scope cl ((mg "__name__").getD .none) cv ct dV) }, toks := tk }) :
    wpAny M A (makeTail "<lambda>" q params (.expr body) scope env dV .none none pos fl) Q E s := by
  obtain ⟨bm, ob, b1, b2, _, b4, b5, b6, b7, b8⟩ := k10
  unfold makeTail
  rw [k1, k2]
  refine wpAny_bind (wpAny_pure ?_)
  have fin : ∀ (ct : Value) (hA : Heap), (∀ b o, s.heap.get? b = some o → hA.get? b = some o) → s.heap.objs.size ≤ hA.objs.size →
      wpAny M A (do
        let code ← functionCode env pos fl "<lambda>" q params scope (.expr body)
        let bi ← builtinsFor mainGlobals env.builtins
        let nm ← nsGet mainGlobals "__name__"
        let doc ← (pure .none : Sem Value)
        newObj (.type "function") (.func { name := "<lambda>", qualname := q, params := params, body := .expr body, scope := scope, globals := mainGlobals, closure := cl, closureTuple := ct, code := code, builtins := bi, defaults := dV, kwdefaults := .none, annotations := none, pyModule := nm.getD .none, doc := doc })) Q E { s with heap := hA } := by
    intro ct hA kA zA
    refine wpAny_bind (wpAny_functionCode_hit k4 ((k5.keeps kA).code (kA _ _ k6) k7) k8 ?_)
    refine wpAny_bind (wpAny_builtinsFor (k3.keeps kA) b1 b2 (kA _ _ b5) b6 b7 b8 ?_)
    refine wpAny_bind (wpAny_nsGet (k3.keeps kA) ?_)
    exact wpAny_bind (wpAny_pure (wpAny_newObj_type (h ct hA s.toks kA zA) (by size_fits)))
  cases cl with
  | nil =>
    simp only [List.isEmpty_nil, if_true]
    exact wpAny_bind (wpAny_pure (fin .none s.heap (fun _ _ e => e) (Nat.le_refl _)))
  | cons y r =>
    simp only [List.isEmpty_cons, Bool.false_eq_true, if_false]
    exact wpAny_bind (wpAny_newTextTuple (fin _ _ (fun b o e => Heap.get?_push_of_some _ e) (by rw [Heap.size_push]; omega)))
end
section
variable {X : Cx} {pins : List (Addr × Obj)} {σ : L2.St} {H : Hp} {s : Shared}
/-- what is behind the making: dV the defaults -/
def MadeL (X : Cx) (pins : List (Addr × Obj)) (σ : L2.St) (H : Hp) (P : Addr) (q : Str) (params : Arguments) (body : Expr) (scope : Scope) (dV : Value) (Q : Value → Shared → Prop) : Prop :=
  ∀ (f c' : Addr) (pm ct : Value) (H1 : Hp) (s' : Shared), Inv X pins σ H1 s' → ExtN H H1 → TabS H1 P q → (∃ osl, s'.heap.get? f = some { cls := .type "function", data := .func (lamD q params body scope (cloFrom X.env.cells scope.names []) pm (.ref c') ct dV), slots := osl }) → H1 f = none → H1 c' = some (CodeO c' q) →
    (∀ T o, dV = .ref T → s.heap.get? T = some o → H T = none → s'.heap.get? T = some o ∧ H1 T = none) → Q (.ref f) s'
theorem tail_made {c P : Addr} {q : Str} {params : Arguments} {body : Expr} {scope : Scope} {pos : Pos} {fl : Nat} {dV : Value} {E : Value → Shared → Prop} {Q : Value → Shared → Prop} (I : Inv X pins σ H s) (TB : TabB X.base X.mg c P) (hcode : X.env.code = .ref c) (hT : TabS H P q)
    (hfree : ∀ y ∈ scope.names, y.2 = .free → ∃ c, X.env.cells.lookup y.1 = some c)
    (h : ∀ (f c' : Addr) (pm ct : Value) (H1 : Hp) (s' : Shared), Inv X pins σ H1 s' → ExtN H H1 → TabS H1 P q → (∃ osl, s'.heap.get? f = some { cls := .type "function", data := .func (lamD q params body scope (cloFrom X.env.cells scope.names []) pm (.ref c') ct dV), slots := osl }) → H1 f = none → H1 c' = some (CodeO c' q) →
      (∀ T o, s.heap.get? T = some o → H T = none → s'.heap.get? T = some o ∧ H1 T = none) → Q (.ref f) s') :
    wpAny (model X.prog X.w) X.A (makeTail "<lambda>" q params (.expr body) scope X.env dV .none none pos fl) Q E s := by
  obtain ⟨ps, hP, ht, ha⟩ := hT
  have bP : s.heap.BuiltinsAt X.mg P := TB.bm.keeps I.bk
  have hP' : s.heap.get? P = some { cls := .none, data := .fields ps } := I.hok P _ hP
  cases hc : codeAmong pos ps.toList with
  | none =>
    refine tail_new (mg := X.mg) (c := c) (P := P) (ps := ps) (closure_ok hfree) I.ok.glob (I.mod.glob.keeps I.bk) hcode (TB.code.keeps I.bk) hP' ht hc TB.gP bP fun c' ct h' tk hx hge hlt hrec htb => ?_
    obtain ⟨c2, oc, vs, t, e2, hoc, hd, hv⟩ := hrec
    cases e2
    have hsz : s.heap.objs.size ≤ h'.objs.size := Nat.le_trans hge (Nat.le_of_lt hlt)
    have nC : H c' = none := I.hok.fresh hge
    have I1 := inv_table (t' := tk) (more := #[rawInt pos.line, rawInt pos.col, .ref c']) (h' := h'.push { cls := .type "function", data := .func (lamD q params body scope (cloFrom X.env.cells scope.names []) ((X.mg "__name__").getD .none) (.ref c') ct dV) }) I hP
      (fun b o hb e => Heap.get?_push_of_some _ (hx b o hb e)) (Heap.get?_push_of_some _ htb) hge ⟨oc, vs, t, Heap.get?_push_of_some _ hoc, hd, hv⟩
    have hE : ExtN H (upd (upd H P (.tbl (ps ++ #[rawInt pos.line, rawInt pos.col, .ref c']))) c' (CodeO c' q)) := fun b o e n => by
      rw [upd_ne (ne_of_none e nC), upd_ne (fun z => n ps (Option.some.inj (e.symm.trans (by rw [z]; exact hP))))]; exact e
    have eL : (ps ++ #[rawInt pos.line, rawInt pos.col, .ref c']).toList = ps.toList ++ [rawInt pos.line, rawInt pos.col, .ref c'] := by simp
    refine h h'.objs.size c' _ ct _ _ I1 hE ⟨_, by rw [upd_ne (ne_of_none hP nC), upd_same], by rw [eL]; exact PySem.TriplesOk_snoc _ _ _ _ ht, fun p' cv hcv => ?_⟩ ⟨_, Heap.get?_push_size _ rfl⟩ ?_ upd_same fun T o eT nT => ?_
    · rw [eL] at hcv
      rcases among_app _ ht hcv with z | z
      · obtain ⟨c0, e1, e2⟩ := ha p' cv z
        exact ⟨c0, e1, hE _ _ e2 codeO_ne⟩
      · exact ⟨c', z, upd_same⟩
    · rw [upd_ne (Nat.ne_of_gt hlt), upd_ne (Nat.ne_of_gt (Nat.lt_of_lt_of_le (Heap.lt_size hP') hsz))]
      exact I.hok.fresh hsz
    · have hTP : T ≠ P := fun z => by rw [z, hP] at nT; cases nT
      have hTc : T ≠ c' := Nat.ne_of_lt (Nat.lt_of_lt_of_le (Heap.lt_size eT) hge)
      exact ⟨Heap.get?_push_of_some _ (hx _ _ hTP eT), by rw [upd_ne hTc, upd_ne hTP]; exact nT⟩
  | some cv =>
    obtain ⟨c', e, hco⟩ := ha pos cv hc
    subst e
    refine tail_hit (mg := X.mg) (c := c) (P := P) (ps := ps) (closure_ok hfree) I.ok.glob (I.mod.glob.keeps I.bk) hcode (TB.code.keeps I.bk) hP' ht hc bP fun ct h' tk hx hsz => ?_
    have I1 : Inv X pins σ H { s with heap := h'.push { cls := .type "function", data := .func (lamD q params body scope (cloFrom X.env.cells scope.names []) ((X.mg "__name__").getD .none) (.ref c') ct dV) }, toks := tk } := I.kept fun b o e => Heap.get?_push_of_some _ (hx b o e)
    exact h h'.objs.size c' _ ct H _ I1 (ExtN.refl H) ⟨ps, hP, ht, ha⟩ ⟨_, Heap.get?_push_size _ rfl⟩ (I.hok.fresh hsz) hco fun T o eT nT => ⟨Heap.get?_push_of_some _ (hx _ _ eT), nT⟩
theorem bind_dfl {q w : Str} {an : Option Expr} {p : Pos} {df : List Expr} {body : Expr} {scope : Scope} {cl : List (Str × Addr)} {pm cdv ct u : Value} {T : Addr} :
    ∃ k, bindArgs (lamD q ⟨[], [⟨w, an, p⟩], none, [], [], none, df⟩ body scope cl pm cdv ct (.ref T)) ⟨[], []⟩ = seqItems? (.ref T) >>= k ∧ k (some #[u]) = pure [(w, u)] := by
  have ns : notAStandIn .none = pure () := rfl
  refine ⟨_, rfl, ?_⟩
  simp [ns, seqItems?, List.lookup]
/-- the parameters: none, or one with a number as its default -/
def ParD (params : Arguments) (binds : List Str) : Prop := (params = ⟨[], [], none, [], [], none, []⟩ ∧ binds = []) ∨ ∃ w an p n kd pd, params = ⟨[], [⟨w, an, p⟩], none, [], [], none, [.Constant (.int n) kd pd]⟩ ∧ binds = [w]
/-- the lambda is made; what it binds when it is called without arguments -/
theorem lam_made {c P : Addr} {params : Arguments} {bn : List Str} {body : Expr} {scope : Scope} {pos : Pos} {Q : Value → Shared → Prop} (I : Inv X pins σ H s) (TB : TabB X.base X.mg c P) (hcode : X.env.code = .ref c) (hT : TabS H P (X.env.qual ++ "<lambda>")) (hp : ParD params bn)
    (hfree : ∀ y ∈ scope.names, y.2 = .free → ∃ c, X.env.cells.lookup y.1 = some c)
    (h : ∀ (f c' : Addr) (pm ct dV : Value) (H1 : Hp) (s' : Shared) (binds : List (Str × Value)), Inv X pins σ H1 s' → ExtN H H1 → TabS H1 P (X.env.qual ++ "<lambda>") → (∃ osl, s'.heap.get? f = some { cls := .type "function", data := .func (lamD (X.env.qual ++ "<lambda>") params body scope (cloFrom X.env.cells scope.names []) pm (.ref c') ct dV), slots := osl }) → H1 f = none → H1 c' = some (CodeO c' (X.env.qual ++ "<lambda>")) →
      binds.map (·.1) = bn → (∀ {s2 : Shared} {H2 : Hp} {M : Model} {A2 : Around} {Q2 : List (Str × Value) → Shared → Prop} {E2 : Value → Shared → Prop}, Lives H1 H2 s'.heap s2.heap → Q2 binds s2 → wpAny M A2 (bindArgs (lamD (X.env.qual ++ "<lambda>") params body scope (cloFrom X.env.cells scope.names []) pm (.ref c') ct dV) ⟨[], []⟩) Q2 E2 s2) → Q (.ref f) s') :
    wpAny (model X.prog X.w) X.A (eval (.Lambda params body scope pos) X.env) Q X.xe s := by
  rcases hp with ⟨rfl, rfl⟩ | ⟨w, an, p, n, kd, pd, rfl, rfl⟩
  · refine PySem.W.kla_eval rfl ?_
    rw [makeFunction_eq]
    simp only [List.zip_nil_right, List.filterMap_nil, List.isEmpty_nil, if_true, pure_bind]
    refine tail_made I TB hcode hT hfree fun f c' pm ct H1 s' I1 eN T1 hf hfn hco hlt => ?_
    exact h f c' pm ct .none H1 s' [] I1 eN T1 hf hfn hco rfl fun lv q2 => wpAny_pure q2
  · rw [arm_eval_Lambda]
    show wpAny _ _ (evalAll [eval (.Constant (.int n) kd pd) X.env] >>= fun dv => holding dv (evalAllOpt []) >>= fun kdv => makeFunction "<lambda>" (X.env.qual ++ "<lambda>") ⟨[], [⟨w, an, p⟩], none, [], [], none, [.Constant (.int n) kd pd]⟩ (.expr body) scope X.env dv kdv [] pos pos.line) Q X.xe s
    refine wpAny_bind (wpAny_bind (thn ((pe_int (i := n) (j := kd) (pos := pd)).run pins s σ H (fun v H1 => H1 = H) I rfl) fun u s1 ⟨v, H1, I1, r1, e1⟩ => ?_))
    subst e1
    refine wpAny_bind (wpAny_holding (wpAny_pure (wpAny_pure (wpAny_bind (wpAny_holding (wpAny_pure ?_))))))
    rw [makeFunction_eq]
    simp only [List.zip_nil_right, List.filterMap_nil, List.isEmpty_nil, List.isEmpty_cons, Bool.false_eq_true, if_true, if_false, pure_bind]
    refine wpAny_bind (wpAny_newTextTuple ?_)
    have I2 : Inv X pins σ H1 { s1 with heap := s1.heap.push { cls := .type "tuple", data := .seq [u].toArray } } := I1.kept fun b o e => Heap.get?_push_of_some _ e
    refine tail_made I2 TB hcode hT hfree fun f c' pm ct H2 s' I3 eN T1 hf hfn hco hlt => ?_
    obtain ⟨gT, nT⟩ := hlt s1.heap.objs.size _ (Heap.get?_push_size _ rfl) (I1.hok.fresh (Nat.le_refl _))
    refine h f c' pm ct (.ref s1.heap.objs.size) H2 s' [(w, u)] I3 eN T1 hf hfn hco rfl fun lv q2 => ?_
    obtain ⟨⟨sl, gT2⟩, _⟩ := lv _ _ gT nT
    obtain ⟨k, e1, e2⟩ := bind_dfl (q := X.env.qual ++ "<lambda>") (w := w) (an := an) (p := p) (df := [.Constant (.int n) kd pd]) (body := body) (scope := scope) (cl := cloFrom X.env.cells scope.names []) (pm := pm) (cdv := .ref c') (ct := ct) (u := u) (T := s1.heap.objs.size)
    rw [e1]
    refine wpAny_bind (wpAny_seqItems gT2 rfl ?_)
    rw [show [u].toArray = #[u] from rfl, e2]
    exact wpAny_pure q2
end
end Mi
set_option Elab.async false
set_option linter.all false
set_option maxRecDepth 100000
set_option maxHeartbeats 2000000
namespace Mi
open PySem PySem.Spec PyProof.Rows L2 L2H LamX
/-- f() wherever the lambda at f came to -/
def ActAt (X : Cx) (f c' : Addr) (q : Str) (s : Shared) (H : Hp) (k : Nat) (tl : XK → Hp → VK → Prop) : Prop := ∀ (Ng : List Str) (qg : Str) (sg : Scope) (g : Addr) (cdg : Value) (A : Around) (outer : List PySem.Env) (sG : Shared) (HG : Hp) (i : Nat) (a : Str) (W : WX) (pn : List (Addr × Obj)) (xe : Value → Shared → Prop) (E : XK) (p1 p2 : Pos), Lives H HG s.heap sG.heap →
  Takes ((cxOf C8.CX0 X.prog X.w X.K X.mg X.base Ng qg sg g cdg A outer sG HG C8.E0).tr pn xe) W → (∀ cls d σ' H', E cls d H' → W cls d σ' H') → Room (k + 1) (A.deeper (envOfC qg sg sG.heap.objs.size g cdg)) → Ng[i]? = some a → Vis sg a → (a == ("__debug__" : Str)) = false → (a == ("__classdict__" : Str)) = false →
  PE ((cxOf C8.CX0 X.prog X.w X.K X.mg X.base Ng qg sg g cdg A outer sG HG C8.E0).tr pn xe) (.Call (.Name a p1) [] [] p2) (fun σZ HZ Q => σZ[i]? = some (some (.ref f)) ∧ HZ c' = some (CodeO c' q) ∧ tl E HZ Q)
def GivesK (X : Cx) (k : Nat) (Ng : List Str) (x : Str) (sg : Scope) (g : Addr) (cdg : Value) (bg : List Stmt) (q : Str) (TT : (XK → Hp → VK → Prop) → Hp → VK → Prop) : Prop :=
  ∀ (f c' : Addr) (s : Shared) (H : Hp) (Q : VK) (tl : XK → Hp → VK → Prop), ActAt X f c' q s H k tl → H c' = some (CodeO c' q) → TT tl H Q →
    ∃ t, PSs (cxOf C8.CX0 X.prog X.w X.K X.mg X.base Ng x sg g cdg X.A X.stack s H C8.E0).nox bg t ∧ t { nx := fun _ H' => Q .non H', rt := Q } (L2.start Ng [.ref f]) H
theorem givesK_of {X : Cx} {k : Nat} {Ng : List Str} {x a q : Str} {sg : Scope} {g : Addr} {cdg : Value} {bg : List Stmt} {TT : (XK → Hp → VK → Prop) → Hp → VK → Prop} (hr : Room (k + 2) X.A) (hN : Ng[0]? = some a) (hv : Vis sg a) (d1 : (a == ("__debug__" : Str)) = false) (d2 : (a == ("__classdict__" : Str)) = false)
    (h : GivesTo X Ng x sg g cdg bg a q TT) : GivesK X k Ng x sg g cdg bg q TT := fun f c' s H Q tl act hc ht =>
  h f c' s H Q tl (fun W pn xe E p1 p2 tk hW => act Ng x sg g cdg X.A X.stack s H 0 a W pn xe E p1 p2 Lives.refl tk hW (hr.deeper _) hN hv d1 d2) hc ht
section
variable {X : Cx}
theorem lam_callK {TT : (XK → Hp → VK → Prop) → Hp → VK → Prop} {x a : Str} {g c P : Addr} {k : Nat} {pg : Arguments} {bg : List Stmt} {sg : Scope} {dV kV doc pm cdv ct oc : Value} {an od : Option Addr} {osl : Array (Option Value)} {Ng : List Str}
    {params : Arguments} {bn : List Str} {body : Expr} {scope : Scope} {t : XK → TE} {p lpos pos : Pos} {r : Nat} (hr : Room (r + 1) X.A) (hg : Gl X x) (hm : X.mg x = some (.ref g)) (hk : PySem.W.keepIn X.K (.ref g) = true)
    (lk : X.K.lookup g = some ⟨oc, od, .func (PySem.W.fnOf x x pg bg sg dV kV doc pm an cdv ct), osl⟩) (hcg : PySem.W.codeIn X.K cdv x = true) (hb : L2.Binds X.K (PySem.W.fnOf x x pg bg sg dV kV doc pm an cdv ct) [a] []) (Sg : FnScope Ng [a] sg)
    (hG : GivesK X k Ng x sg g cdv bg (X.env.qual ++ "<lambda>") TT) (TB : TabB X.base X.mg c P) (hcode : X.env.code = .ref c) (L : LamS2 X.N X.env.scope scope) (hp : ParD params bn) (hlo : ∀ y ∈ bn, scope.names.lookup y = some .local)
    (hbody : ∀ (A : Around) (outer : List PySem.Env) (s : Shared) (H : Hp) (E : XK) (f c' : Addr), Room k (A.deeper (lamEnv X scope s.heap.objs.size f c')) → PE (lamCx X A outer s H E scope f c') body (t E))
    (hdb : (x == ("__debug__" : Str)) = false) : PE X (.Call (.Name x p) [.Lambda params body scope lpos] [] pos) (tLam [(P, X.env.qual ++ "<lambda>")] TT t) := by
  refine ⟨fun pins s σ H Q I h => ?_⟩
  obtain ⟨hT, h⟩ := h
  refine wpAny_Call_Name_kw (ld_glob I hg hm ?_ hdb)
  refine PySem.W.callWith_K (h₀ := X.base) I.ok.mod.kin hk ?_ (by rfl) (by rfl)
  show wpAny _ _ (spliced ((false, eval (.Lambda params body scope lpos) X.env) :: backTo pos (starEach [] X.env))) _ _ s
  refine Calls.spliced_cons (lam_made I TB hcode (hT _ (List.mem_singleton.mpr rfl)) hp (L.has I.ok) fun f c' pm' ctv dV' H1 s' binds I1 eN T1 hf hfn hco hbn hbd => ?_)
  refine Calls.spliced_nil ⟨I1.kIn, ?_⟩
  obtain ⟨slf, hf⟩ := hf
  have T1' : Tabs [(P, X.env.qual ++ "<lambda>")] H1 := fun z hz => by rw [List.mem_singleton.mp hz]; exact T1
  have rc : codeAny (model X.prog X.w) X.A (.call (.ref g) ⟨[.ref f], []⟩) (CR C8.CX0 X.stack X.prog X.w H1 s' Q C8.E0) s' := by
    refine run_ofS (N := Ng) (ps := [a]) (us := [.ref f]) (vs := [.ref f]) lk hcg Sg hr I1.env0 (hb s' [.ref f] I1.kIn rfl) (.cons rfl .nil) rfl fun hr' => ?_
    obtain ⟨t', ht', hq'⟩ := hG f c' s' H1 Q (fun E H' Q' => t E σ H' Q') (fun Ng qg sg g cdg A outer sG HG i a W pn xe E p1 p2 lv tk hW hrm hN hv d1 d2 => lam_act I1 L rfl hf hfn (fun y hy => hlo y.1 (by rw [← hbn]; exact List.mem_map_of_mem hy)) hbd lv tk hW hrm (fun A outer s H hr2 => hbody A outer s H E f c' hr2) hN hv d1 d2) hco (h H1 eN T1')
    exact ⟨t', ht'.nox, hq'⟩
  refine wpAny_call (codeAny_mono rc fun r s2 hq => ?_)
  cases r with
  | error e => exact (show False from hq).elim
  | ok fl =>
    cases fl with
    | ret u => exact I1.after hq
    | next => exact False.elim hq
    | brk => exact False.elim hq
    | cont => exact False.elim hq
/-- the lambda handed on -/
theorem pe_hand {Z : Cx} {f c' : Addr} {q : Str} {tl : XK → Hp → VK → Prop} {s0 : Shared} {H0 : Hp} {TT : (XK → Hp → VK → Prop) → Hp → VK → Prop} {x a ask : Str} {g : Addr} {k : Nat} {pg : Arguments} {bg : List Stmt} {sg : Scope} {dV kV doc pm cdv ct oc : Value} {an od : Option Addr} {osl : Array (Option Value)} {Ng : List Str} {p p2 pos : Pos} {r : Nat}
    (hr : Room (r + 1) Z.A) (hr2 : Room (k + 2) Z.A) (hg : Gl Z x) (hm : Z.mg x = some (.ref g)) (hk : PySem.W.keepIn Z.K (.ref g) = true) (lk : Z.K.lookup g = some ⟨oc, od, .func (PySem.W.fnOf x x pg bg sg dV kV doc pm an cdv ct), osl⟩) (hcg : PySem.W.codeIn Z.K cdv x = true)
    (hb : L2.Binds Z.K (PySem.W.fnOf x x pg bg sg dV kV doc pm an cdv ct) [a] []) (Sg : FnScope Ng [a] sg) (hNg : Ng[0]? = some a) (hva : Vis sg a) (d1 : (a == ("__debug__" : Str)) = false) (d2 : (a == ("__classdict__" : Str)) = false) (hG : GivesTo Z Ng x sg g cdv bg a q TT)
    (hlv : ∀ pins s σ H, Inv Z pins σ H s → Lives H0 H s0.heap s.heap) (act : ActAt Z f c' q s0 H0 k tl) (hZ : Z.N[0]? = some ask) (hvz : Vis Z.env.scope ask) (d3 : (ask == ("__debug__" : Str)) = false) (d4 : (ask == ("__classdict__" : Str)) = false) (hdb : (x == ("__debug__" : Str)) = false) :
    PE Z (.Call (.Name x p) [.Name ask p2] [] pos) (fun σZ HZ Q => σZ[0]? = some (some (.ref f)) ∧ HZ c' = some (CodeO c' q) ∧ TT tl HZ Q) := by
  refine ⟨fun pins s σ H Q I h => ?_⟩
  obtain ⟨h0, hc, ht⟩ := h
  refine wpAny_Call_Name_kw (ld_glob I hg hm ?_ hdb)
  refine PySem.W.callWith_K (h₀ := Z.base) I.ok.mod.kin hk ?_ (by rfl) (by rfl)
  show wpAny _ _ (spliced ((false, eval (.Name ask p2) Z.env) :: backTo pos (starEach [] Z.env))) _ _ s
  refine Calls.spliced_cons (thn ((pe_var (pos := p2) (i := 0) hZ hvz d3 d4).run pins s σ H (fun v H1 => v = .ref f ∧ H1 = H) I ⟨.ref f, h0, rfl, rfl⟩) fun u s1 ⟨v, H1, I1, r1, q1⟩ => ?_)
  obtain ⟨rfl, rfl⟩ := q1
  refine Calls.spliced_nil ⟨I1.kIn, ?_⟩
  have rc : codeAny (model Z.prog Z.w) Z.A (.call (.ref g) ⟨[u], []⟩) (CR C8.CX0 Z.stack Z.prog Z.w H1 s1 Q C8.E0) s1 := by
    refine run_ofS (N := Ng) (ps := [a]) (us := [u]) (vs := [.ref f]) lk hcg Sg hr I1.env0 (hb s1 [u] I1.kIn rfl) (.cons r1 .nil) rfl fun hr' => ?_
    obtain ⟨t', ht', hq'⟩ := hG f c' s1 H1 Q tl (fun W pn xe E p1 p2 tk hW => act Ng x sg g cdv Z.A Z.stack s1 H1 0 a W pn xe E p1 p2 (hlv _ _ _ _ I1) tk hW (hr2.deeper _) hNg hva d1 d2) hc ht
    exact ⟨t', ht'.nox, hq'⟩
  refine wpAny_call (codeAny_mono rc fun r s2 hq => ?_)
  cases r with
  | error e => exact (show False from hq).elim
  | ok fl =>
    cases fl with
    | ret u => exact I1.after hq
    | next => exact False.elim hq
    | brk => exact False.elim hq
    | cont => exact False.elim hq
theorem pe_up {e : Expr} {t : TE} (h : PE X e t) : PE X e (fun σ H Q => ∃ Q0 : VK, (∀ v H', Q0 v H' → Q v H') ∧ t σ H Q0) := ⟨fun pins s σ H Q I ⟨Q0, hq, h0⟩ => thn (h.run pins s σ H Q0 I h0) fun u s1 ⟨v, H1, I1, r1, q1⟩ => ⟨v, H1, I1, r1, hq v H1 q1⟩⟩
end
def Told2 (K : PySem.W.Frag) (Q : VK) : VK := fun v H => ∃ (ω : Wd) (S : Store) (pv : PV), RelSt K ω S H ∧ Rep K ω H pv v ∧ Post K (fun _ _ _ => False) (Rep K) ω H (refM pv S) Q
/-- the text of `_law_refusal` -/
def refB (a t : Str) : List Stmt → Bool
  | [.Assign [.Name t1 _] (.Call (.Name x _) [.Name a1 _] [] _) _, .Return (some (.IfExp (.Compare (.Subscript (.Name t2 _) (.Constant (.int i) _ _) _) [o] [.Constant (.str v) _ _] _) (.Constant (.str v2) _ _) (.Name t3 _) _)) _] =>
    decide (t1 = t) && (decide (x = ("_law_try" : Str)) && (decide (a1 = a) && (decide (t2 = t) && (decide (i = 0) && (decide (o = copOf .eq) && (decide (v = toS valN) && (decide (v2 = toS valN) && decide (t3 = t))))))))
  | _ => false
end Mi
set_option Elab.async false
set_option linter.all false
set_option maxRecDepth 100000
set_option maxHeartbeats 2000000
namespace Mi
open PySem PySem.Spec PyProof.Rows L2 L2H LamX
theorem refM_inv {K : PySem.W.Frag} {E : XK} {Rl : Wd → Hp → PV → V → Prop} {ω : Wd} {H : Hp} {S : Store} {pv : PV} {Q : VK} (h : Post K E Rl ω H (refM pv S) Q) : ∃ s r, pv = .tup (.str s :: r) ∧ s.all (· < 1114112) = true ∧ Post K E Rl ω H (.ok (if s = valN then .str valN else .tup (.str s :: r)) S) Q := by
  cases pv with
  | tup xs =>
    cases xs with
    | nil => exact False.elim h
    | cons x r =>
      cases x with
      | str s =>
        have h : Post K E Rl ω H (if s.all (· < 1114112) then R.ok (if s = valN then PV.str valN else .tup (.str s :: r)) S else .stuck) Q := h
        by_cases hg : s.all (· < 1114112) = true
        · rw [if_pos hg] at h
          exact ⟨s, r, rfl, hg, h⟩
        · rw [if_neg hg] at h
          exact False.elim h
      | _ => exact False.elim h
  | _ => exact False.elim h
/-- told[0] == "value", as it is denoted -/
def refE (env : Env) : M PV := M.bind (M.bind (M.bind (getV env 1) fun x => M.bind (M.pure (.int 0)) fun y => opIx x y) fun x => M.bind (M.pure (.str valN)) fun y => M.bind (opC .eq x y) fun c => M.pure (.bl c)) fun x => M.bind (ofBl x) fun k => if k then M.pure (.str valN) else getV env 1
theorem refE_run {env : Env} {S : Store} {s : List Nat} {r : List PV} (h1 : env[1]? = some (some (.tup (.str s :: r)))) (hs : s.all (· < 1114112) = true) : refE env S = .ok (if s = valN then .str valN else .tup (.str s :: r)) S := by
  have g : getV env 1 S = .ok (.tup (.str s :: r)) S := by unfold getV; rw [h1]; rfl
  have ix : opIx (.tup (.str s :: r)) (.int 0) S = .ok (.str s) S := by
    show ofO (atI (PV.str s :: r) 0) S = _
    have : atI (PV.str s :: r) 0 = some (.str s) := by
      unfold atI ixN
      rw [if_pos (by decide), if_pos (by simp)]
      rfl
    rw [this]; rfl
  have cm : opC .eq (.str s) (.str valN) S = .ok (s == valN) S := by
    show guardM (okP 64 (.str s) && okP 64 (.str valN)) (eqP (.str s) (.str valN)) S = _
    have e1 : okP 64 (.str s) = true := by unfold okP; exact hs
    have e2 : okP 64 (.str valN) = true := by unfold okP; decide
    rw [e1, e2]
    unfold eqP
    rfl
  unfold refE
  have c1 : (M.bind (M.bind (getV env 1) fun x => M.bind (M.pure (.int 0)) fun y => opIx x y) fun x => M.bind (M.pure (.str valN)) fun y => M.bind (opC .eq x y) fun c => M.pure (PV.bl c)) S = .ok (.bl (s == valN)) S := by
    rw [bind_ok (a := PV.str s) (S' := S) (by rw [bind_ok g]; exact ix)]
    show M.bind (opC .eq (.str s) (.str valN)) _ S = _
    rw [bind_ok cm]; rfl
  rw [bind_ok c1]
  show (if (s == valN) = true then M.pure (PV.str valN) else getV env 1) S = _
  by_cases e : s = valN
  · rw [if_pos (by simpa using e), if_pos e]; rfl
  · rw [if_neg (by simpa using e), if_neg e]; exact g
theorem relEnv_none {K : PySem.W.Frag} {ω : Wd} {H : Hp} {σ : L2.St} : RelEnv K ω H (List.replicate σ.length none) σ := ⟨by simp, fun i v e => by
  rw [List.getElem?_replicate] at e
  split at e <;> cases e⟩
theorem start_0 {N : List Str} {f : Addr} : (L2.start N [V.ref f])[0]? = some (some (V.ref f)) := by unfold L2.start; simp
section
variable {X : Cx} {E : XK}
theorem ref_gives {Ng NgT : List Str} {a t q aT : Str} {sg sgT : Scope} {g gT : Addr} {cdg : Value} {bg bgT : List Stmt} {n : Nat} {pgT : Arguments} {dV kV doc pm cdT ct oc : Value} {an od : Option Addr} {osl : Array (Option Value)}
    (hB : refB a t bg = true) (hr : Room (n + 3) X.A) (hNd : Ng.Nodup) (h0 : Ng[0]? = some a) (h1 : Ng[1]? = some t) (hva : Vis sg a) (hlt : sg.names.lookup t = some .local) (d1 : (a == ("__debug__" : Str)) = false) (d2 : (a == ("__classdict__" : Str)) = false) (d3 : (t == ("__debug__" : Str)) = false) (d4 : (t == ("__classdict__" : Str)) = false)
    (hgT : sg.names.lookup ("_law_try" : Str) = some .globalImplicit) (hm : X.mg "_law_try" = some (.ref gT)) (hk : PySem.W.keepIn X.K (.ref gT) = true) (lk : X.K.lookup gT = some ⟨oc, od, .func (PySem.W.fnOf "_law_try" "_law_try" pgT bgT sgT dV kV doc pm an cdT ct), osl⟩) (hcg : PySem.W.codeIn X.K cdT "_law_try" = true)
    (hb : L2.Binds X.K (PySem.W.fnOf "_law_try" "_law_try" pgT bgT sgT dV kV doc pm an cdT ct) [aT] []) (Sg : FnScope NgT [aT] sgT) (hNT : NgT[0]? = some aT) (hvT : Vis sgT aT) (d5 : (aT == ("__debug__" : Str)) = false) (d6 : (aT == ("__classdict__" : Str)) = false)
    (hG : ∀ (s : Shared) (H : Hp), GivesTo (cxOf C8.CX0 X.prog X.w X.K X.mg X.base Ng "_law_refusal" sg g cdg X.A X.stack s H C8.E0).nox NgT "_law_try" sgT gT cdT bgT aT q (TTry X.K)) :
    GivesK X n Ng "_law_refusal" sg g cdg bg q (fun tl H Q => TTry X.K tl H (Told2 X.K Q)) := by
  intro f c' s H Q tl act hc ht
  unfold refB at hB
  split at hB
  · rename_i t1 p1 x p2 a1 p3 p4 p5 t2 p6 i k7 p7 p8 o v k9 p9 p10 v2 k11 p11 t3 p12 p13 p14
    simp only [Bool.and_eq_true, decide_eq_true_eq] at hB
    obtain ⟨rfl, rfl, rfl, rfl, rfl, rfl, rfl, rfl, rfl⟩ := hB
    generalize hZ : (cxOf C8.CX0 X.prog X.w X.K X.mg X.base Ng "_law_refusal" sg g cdg X.A X.stack s H C8.E0).nox = Z
    have hG1 := hG s H
    have act1 : ActAt Z f c' q s H n tl := by rw [← hZ]; exact act
    have hr1 : Room (n + 2) Z.A := by rw [← hZ]; exact hr.deeper _
    have hlv : ∀ pins s' σ H', Inv Z pins σ H' s' → Lives H H' s.heap s'.heap := by
      rw [← hZ]
      exact fun pins s' σ H' I => lives_un (fs := frs X.stack) I.base
    rw [hZ] at hG1
    have eK : Z.K = X.K := by rw [← hZ]; rfl
    have eM : Z.mg = X.mg := by rw [← hZ]; rfl
    have eN : Z.N = Ng := by rw [← hZ]; rfl
    have eS : Z.env.scope = sg := by rw [← hZ]; rfl
    have eF : ∀ y, Z.fn y = true := by rw [← hZ]; exact fun _ => rfl
    have hp := pe_hand (Z := Z) (p := p2) (p2 := p3) (pos := p4) (s0 := s) (H0 := H) (k := n) (r := n + 1) hr1 hr1 (by unfold Gl PySem.Env.kindOf; rw [eS]; exact hgT) (by rw [eM]; exact hm) (by rw [eK]; exact hk) (by rw [eK]; exact lk) (by rw [eK]; exact hcg) (by rw [eK]; exact hb) Sg hNT hvT d5 d6 hG1 hlv act1 (by rw [eN]; exact h0) (by rw [eS]; exact hva) d1 d2 (by decide)
    have hset := ps_set (X := Z) (i := 1) (x := t3) (pos := p5) (pos' := p1) (by rw [eN]; exact hNd) (by rw [eN]; exact h1) (by rw [eS]; exact .inl hlt) (pe_up hp) rfl (.inl (eF _))
    have hu : Z.A.units + 65 < cLine := by have := hr1.un; omega
    have v1 := e_var (X := Z) (E := fun _ _ _ => False) (i := 1) (x := t3) (pos := p6) (by rw [eN]; exact h1) (by rw [eS]; exact .inl hlt) d3 d4
    have v2 := e_var (X := Z) (E := fun _ _ _ => False) (i := 1) (x := t3) (pos := p12) (by rw [eN]; exact h1) (by rw [eS]; exact .inl hlt) d3 d4
    have lv : valN.length ≤ sizeLine := by show 5 ≤ sizeLine; rw [sizeLine_eq]; omega
    have c0 : PE Z (.Constant (.int 0) k7 p7) (tE Z.K (fun _ _ _ => False) (fun _ => M.pure (.int 0))) := e_const pe_int fun _ _ => rep_int
    have c1 : PE Z (.Constant (.str (toS valN)) k9 p9) (tE Z.K (fun _ _ _ => False) (fun _ => M.pure (.str valN))) := e_const pe_str fun _ _ => rep_str lv
    have c2 : PE Z (.Constant (.str (toS valN)) k11 p11) (tE Z.K (fun _ _ _ => False) (fun _ => M.pure (.str valN))) := e_const pe_str fun _ _ => rep_str lv
    have ix := e_idx (pos := p8) (fun _ _ => rfl) v1 c0
    have ct := t_cmp (op := .eq) (pos := p10) hu rfl ix c1
    have ie := e_ite (pos := p13) ct c2 v2
    have hret := pss_one (ps_ret (pos := p14) ie)
    refine ⟨_, pss_cons hset hret, ?_⟩
    refine ⟨Told2 X.K Q, fun v H' hv => ?_, start_0, hc, ht⟩
    obtain ⟨ω, S, pv, hS, hR, hP⟩ := hv
    obtain ⟨ss, rr, rfl, hss, hP⟩ := refM_inv hP
    have hlen : 1 < Ng.length := by
      rcases Nat.lt_or_ge 1 Ng.length with z | z
      · exact z
      · rw [List.getElem?_eq_none z] at h1; cases h1
    have hsl : 1 < (List.replicate (L2.start Ng [V.ref f]).length (none : Option PV)).length := by rw [List.length_replicate]; unfold L2.start; simp; omega
    refine ⟨ω, S, (List.replicate (L2.start Ng [V.ref f]).length none).set 1 (some (.tup (.str ss :: rr))), by rw [eK]; exact hS, by rw [eK]; exact relEnv_none.set hR 1, ?_⟩
    have := refE_run (env := (List.replicate (L2.start Ng [V.ref f]).length none).set 1 (some (.tup (.str ss :: rr)))) (S := S) (s := ss) (r := rr) (by rw [List.getElem?_set_self hsl]) hss
    show Post Z.K _ (Rep Z.K) ω H' (refE _ S) Q
    rw [this, eK]
    exact hP
  · cases hB
/-- no table, nothing read -/
theorem try_no {K : PySem.W.Frag} {G : Option PV} {m : Env → M PV} {σ : L2.St} {H : Hp} {Q : VK} (hG : ¬ ∃ j, G = some (.int j)) (h : tE K E (fun env => tryM G (m env)) σ H Q) : False := by
  obtain ⟨ω, S, env, hS, hE, hQ⟩ := h
  have hQ : Post K E (Rep K) ω H (if tabB G S[0]? = true then (match m env S with
    | .ok v S' => R.ok (PV.tup [.str [118, 97, 108, 117, 101], v]) S'
    | .exc x S' => ofO (excOut x) S'
    | .stuck => .stuck) else .stuck) Q := hQ
  have : tabB G S[0]? = false := by
    unfold tabB
    split
    · split
      · rename_i j _
        exact absurd ⟨_, rfl⟩ hG
      · rfl
    · rfl
  rw [this] at hQ
  exact False.elim hQ
theorem try_none {G : Option PV} {m : Env → M PV} {e : Expr} (hG : ¬ ∃ j, G = some (.int j)) : PE X e (tE X.K E (fun env => tryM G (m env))) := ⟨fun pins s σ H Q I h => (try_no hG h).elim⟩
theorem e_tryD {G : Option PV} {n : Nat} {m : Env → M PV} {params : Arguments} {bn : List Str} {body : Expr} {scope : Scope} {p lpos pos : Pos} (L : LamF X G n) (hg : Gl X "_law_try") (hs : LamS2 X.N X.env.scope scope) (hp : ParD params bn) (hlo : ∀ y ∈ bn, scope.names.lookup y = some .local)
    (hbody : ∀ (A : Around) (outer : List PySem.Env) (s : Shared) (H : Hp) (E : XK) (f c' : Addr), Room n (A.deeper (lamEnv X scope s.heap.objs.size f c')) → PE (lamCx X A outer s H E scope f c') body (tE X.K E m)) :
    PE X (.Call (.Name "_law_try" p) [.Lambda params body scope lpos] [] pos) (tE X.K E (fun env => tryM G (m env))) := by
  by_cases hG : ∃ j, G = some (.int j)
  · obtain ⟨j, hj⟩ := hG
    obtain ⟨c, P, e, TB, hcode⟩ := L.tab j hj
    obtain ⟨g, fd, a, Ng, pg, bg, sg, hm, hk, F, hb, Sg, hNg, hva, d1, d2, hgv⟩ := L.gives
    obtain ⟨oc, od, dV, kV, doc, pm, an, cdv, ct, osl, rfl, lk, hcd, hD, hK⟩ := F.ex
    refine peImp (lam_callK (r := n + 1) (t := fun E => tE X.K E m) (k := n) (L.room.mono (by omega)) hg hm hk lk hcd hb Sg (givesK_of (L.room.mono (by omega)) hNg hva d1 d2 (by rw [L.qual]; exact hgv cdv)) TB hcode hs hp hlo hbody (by decide)) fun σ H Q h => ?_
    rw [L.qual]
    exact try_read (fun j' hj' => by rw [hj] at hj'; cases hj'; exact e) h
  · exact try_none hG
/-- what the law's own context gives for `_law_refusal` -/
structure LamR (X : Cx) (n : Nat) : Prop where
  gives : ∃ (g : Addr) (fd : FuncData) (a : Str) (Ng : List Str) (pg : Arguments) (bg : List Stmt) (sg : Scope), X.mg "_law_refusal" = some (.ref g) ∧ PySem.W.keepIn X.K (.ref g) = true ∧ FunD X.K "_law_refusal" "_law_refusal" pg bg sg [] [] g fd ∧ Binds X.K fd [a] [] ∧ FnScope Ng [a] sg ∧
    ∀ cdg, GivesK X n Ng "_law_refusal" sg g cdg bg (toS lamQ) (fun tl H Q => TTry X.K tl H (Told2 X.K Q))
theorem post_ref {K : PySem.W.Frag} {E : XK} {ω : Wd} {H : Hp} {S : Store} {pv : PV} {Q : VK} (h : Post K E (Rep K) ω H (refM pv S) Q) : Post K (fun _ _ _ => False) (Rep K) ω H (refM pv S) Q := by
  obtain ⟨s, r, rfl, hs, h⟩ := refM_inv h
  have e : refM (.tup (.str s :: r)) S = .ok (if s = valN then .str valN else .tup (.str s :: r)) S := by
    show (if s.all (· < 1114112) then R.ok (if s = valN then PV.str valN else .tup (.str s :: r)) S else .stuck) = _
    rw [if_pos hs]
  rw [e]
  exact h
theorem e_ref {G : Option PV} {n : Nat} {m : Env → M PV} {params : Arguments} {bn : List Str} {body : Expr} {scope : Scope} {p lpos pos : Pos} (L : LamF X G n) (R0 : LamR X n) (hg : Gl X "_law_refusal") (hs : LamS2 X.N X.env.scope scope) (hp : ParD params bn) (hlo : ∀ y ∈ bn, scope.names.lookup y = some .local)
    (hbody : ∀ (A : Around) (outer : List PySem.Env) (s : Shared) (H : Hp) (E : XK) (f c' : Addr), Room n (A.deeper (lamEnv X scope s.heap.objs.size f c')) → PE (lamCx X A outer s H E scope f c') body (tE X.K E m)) :
    PE X (.Call (.Name "_law_refusal" p) [.Lambda params body scope lpos] [] pos) (tE X.K E (fun env => M.bind (tryM G (m env)) refM)) := by
  have up : ∀ {σ : L2.St} {H : Hp} {Q : VK}, tE X.K E (fun env => M.bind (tryM G (m env)) refM) σ H Q → tE X.K E (fun env => tryM G (m env)) σ H (Told2 X.K Q) := fun {σ H Q} h =>
    rdImp (rd_bind (Rl := Rep X.K) (f := fun _ => refM) h) fun x H1 ⟨ω1, S1, env1, v, s1, e1, r1, p1⟩ => ⟨ω1, S1, v, s1, r1, post_ref p1⟩
  by_cases hG : ∃ j, G = some (.int j)
  · obtain ⟨j, hj⟩ := hG
    obtain ⟨c, P, e, TB, hcode⟩ := L.tab j hj
    obtain ⟨g, fd, a, Ng, pg, bg, sg, hm, hk, F, hb, Sg, hgv⟩ := R0.gives
    obtain ⟨oc, od, dV, kV, doc, pm, an, cdv, ct, osl, rfl, lk, hcd, hD, hK⟩ := F.ex
    refine peImp (lam_callK (r := n + 1) (t := fun E => tE X.K E m) (k := n) (L.room.mono (by omega)) hg hm hk lk hcd hb Sg (by rw [L.qual]; exact hgv cdv) TB hcode hs hp hlo hbody (by decide)) fun σ H Q h => ?_
    rw [L.qual]
    have h2 := try_read (fun j' hj' => by rw [hj] at hj'; cases hj'; exact e) (up h)
    exact ⟨h2.1, h2.2⟩
  · exact ⟨fun pins s σ H Q I h => (try_no hG (up h)).elim⟩
end
end Mi
set_option Elab.async false
set_option linter.all false
set_option maxRecDepth 100000
namespace Mi
open PySem PySem.Spec PyProof.Rows L2

def notStar : Expr → Bool
  | .Starred .. => false
  | _ => true
def notSet : Expr → Bool
  | .Set .. => false
  | _ => true
def notSlice : Expr → Bool
  | .Slice .. => false
  | _ => true
def notComp : Expr → Bool
  | .ListComp .. => false
  | .SetComp .. => false
  | .DictComp .. => false
  | _ => true
def notCall : Expr → Bool
  | .Call .. => false
  | _ => true
def plainT : Expr → Bool
  | .UnaryOp .. => false
  | .BoolOp .. => false
  | .IfExp .. => false
  | .Compare .. => false
  | _ => true
theorem star_cons {e : Expr} {es : List Expr} {env : PySem.Env} (h : notStar e = true) : starEach (e :: es) env = (false, eval e env) :: starEach es env := by
  cases e <;> first | rfl | cases h
theorem star_any {env : PySem.Env} {pos : Pos} : ∀ {es : List Expr}, es.all notStar = true → (backTo pos (starEach es env)).any (·.1) = false
  | [], _ => rfl
  | e :: es, h => by
    rw [List.all_cons, Bool.and_eq_true] at h
    rw [star_cons h.1]
    show (false || (backTo pos (starEach es env)).any (·.1)) = false
    rw [star_any h.2]; rfl
theorem star_all {env : PySem.Env} {pos : Pos} : ∀ {es : List Expr}, es.all notStar = true → (backTo pos (starEach es env)).all (fun x => !x.1) = true
  | [], _ => rfl
  | e :: es, h => by
    rw [List.all_cons, Bool.and_eq_true] at h
    rw [star_cons h.1]
    show (true && (backTo pos (starEach es env)).all (fun x => !x.1)) = true
    rw [star_all h.2]; rfl
theorem set_marks {op : CmpOp} {b : Expr} (h : notSet b = true) : behindInMarks op b = false := by
  cases b <;> first | rfl | cases h
theorem slice_plain {b : Expr} (h : notSlice b = true) : PlainIx b := fun o i => by
  cases b <;> first | rfl | cases h
theorem set_fold {e : Expr} {env : PySem.Env} (h : notSet e = true) : ∀ x, foldedSetIterable e env x = pure x := fun x => by
  cases e <;> first | rfl | cases h
theorem call_base {o : Expr} {name : Str} {env : PySem.Env} {w : Sem Value} (h : notCall o = true) : attributeBase o name env w = w := by
  cases o <;> first | rfl | cases h
theorem comp_swaps {e : Expr} {t : Option Expr} {l : Nat} {env : PySem.Env} (h : notComp e = true) : swapsWith e t l env = pure false := by
  cases e <;> first | rfl | cases h
theorem plain_true {e : Expr} {env : PySem.Env} (h : plainT e = true) : ∀ whole, isTrue e env whole = (do let v ← whole; standAt e.pos; holding [v] (truthy v)) := fun w => by
  cases e <;> first | rfl | cases h

def visB (sc : Scope) (x : Str) : Bool := match sc.names.lookup x with
  | some .local => true
  | some .cell => true
  | some .free => true
  | _ => false
def gloB (sc : Scope) (x : Str) : Bool := match sc.names.lookup x with
  | some .globalImplicit => true
  | _ => false
def locB (sc : Scope) (fn : Str → Bool) (x : Str) : Bool := match sc.names.lookup x with
  | some .local => true
  | some .cell => fn x
  | _ => false
def plainX (x : Str) : Bool := !(x == ("__debug__" : Str)) && !(x == ("__classdict__" : Str)) && !(x == ("__name__" : Str))
theorem plainX_ok {x : Str} (h : plainX x = true) : (x == ("__debug__" : Str)) = false ∧ (x == ("__classdict__" : Str)) = false ∧ x ≠ "__name__" := by
  unfold plainX at h
  rw [Bool.and_eq_true, Bool.and_eq_true] at h
  refine ⟨by simpa using h.1.1, by simpa using h.1.2, fun e => ?_⟩
  rw [e] at h
  have := h.2
  simp at this
theorem visB_ok {sc : Scope} {x : Str} (h : visB sc x = true) : Vis sc x := by
  unfold visB at h
  unfold Vis
  cases q : sc.names.lookup x with
  | none => rw [q] at h; cases h
  | some k =>
    rw [q] at h
    cases k with
    | «local» => exact .inl rfl
    | cell => exact .inr (.inl rfl)
    | free => exact .inr (.inr rfl)
    | globalExplicit => cases h
    | globalImplicit => cases h
theorem gloB_ok {X : Cx} {x : Str} (h : gloB X.env.scope x = true) : Gl X x := by
  unfold gloB at h
  unfold Gl PySem.Env.kindOf
  cases q : X.env.scope.names.lookup x with
  | none => rw [q] at h; cases h
  | some k =>
    rw [q] at h
    cases k with
    | globalImplicit => rfl
    | _ => cases h
theorem locB_ok {sc : Scope} {fn : Str → Bool} {x : Str} (h : locB sc fn x = true) : L2.Loc sc x ∧ (fn x = true ∨ sc.names.lookup x = some .local) := by
  unfold locB at h
  unfold L2.Loc
  cases q : sc.names.lookup x with
  | none => rw [q] at h; cases h
  | some k =>
    rw [q] at h
    cases k with
    | «local» => exact ⟨.inl rfl, .inr rfl⟩
    | cell => exact ⟨.inr rfl, .inl h⟩
    | free => cases h
    | globalExplicit => cases h
    | globalImplicit => cases h

structure Sig where
  /-- a def's name -/
  nm : Nat → Option Str
  /-- a constant's name -/
  gn : Nat → Option Str
  /-- calls with keywords: the def, the number of positional arguments, the keywords, the order of the parameters -/
  kws : List (Nat × Nat × List Str × List Nat)
  /-- a def that takes any number of arguments: its name, its leading parameters -/
  st : Nat → Option (Str × Nat)
  /-- the exceptions' classes that are there -/
  exs : List Nat
  /-- this is the law, which may hold lambdas -/
  own : Bool
  /-- `_law_refusal` is there -/
  rf : Bool
def lenE : Es → Nat
  | .nil => 0
  | .cons _ es => lenE es + 1
def ownP (N : List Str) (own : List Nat) : List (Str × Nat) := own.map fun i => (N.getD i Str.empty, i)
theorem ownP_snd (N : List Str) (own : List Nat) : (ownP N own).map (·.2) = own := by
  unfold ownP
  rw [List.map_map]
  exact (List.map_congr_left fun i _ => rfl).trans (List.map_id _)
def chkTg (N : List Str) (sc : Scope) (fn : Str → Bool) : Tg → Expr → Bool
  | .one i, .Name x _ => decide (N[i]? = some x) && locB sc fn x
  | .two i j, .Tuple [.Name x _, .Name y _] _ _ => decide (N[i]? = some x) && locB sc fn x && (decide (N[j]? = some y) && locB sc fn y)
  | .thr i j l, .Tuple [.Name x _, .Name y _, .Name z _] _ _ => decide (N[i]? = some x) && locB sc fn x && (decide (N[j]? = some y) && locB sc fn y && (decide (N[l]? = some z) && locB sc fn z))
  | _, _ => false
def cmpIs (op : COp) (o : CmpOp) : Bool := decide (copOf op = o)
def revP : Expr → Option Expr
  | .Subscript x (.Slice none none (some (.UnaryOp .USub (.Constant (.int 1) _ _) _)) _) _ => some x
  | _ => none
theorem revP_ok {e x : Expr} (h : revP e = some x) : ∃ k p1 p2 p3 pos, e = .Subscript x (.Slice none none (some (.UnaryOp .USub (.Constant (.int 1) k p1) p2)) p3) pos := by
  unfold revP at h
  split at h
  · cases h; exact ⟨_, _, _, _, _, rfl⟩
  · cases h
def dgetP : Expr → Option (List (Option Expr) × List Expr × Expr)
  | .Subscript (.Dict ks vs _) y _ => some (ks, vs, y)
  | _ => none
theorem dgetP_ok {e y : Expr} {ks : List (Option Expr)} {vs : List Expr} (h : dgetP e = some (ks, vs, y)) : ∃ p pos, e = .Subscript (.Dict ks vs p) y pos := by
  unfold dgetP at h
  split at h
  · cases h; exact ⟨_, _, rfl⟩
  · cases h
def lamP : Expr → Option (Str × Arguments × Expr × Scope)
  | .Call (.Name x _) [.Lambda ps y scope _] [] _ => some (x, ps, y, scope)
  | _ => none
theorem lamP_ok {e y : Expr} {x : Str} {ps : Arguments} {scope : Scope} (h : lamP e = some (x, ps, y, scope)) : ∃ p1 p2 p3, e = .Call (.Name x p1) [.Lambda ps y scope p2] [] p3 := by
  unfold lamP at h
  split at h
  · cases h; exact ⟨_, _, _, rfl⟩
  · cases h
/-- a lambda's parameters: none, or one with a number as its default -/
def parB : Arguments → Option (List Str)
  | ⟨[], [], none, [], [], none, []⟩ => some []
  | ⟨[], [⟨w, _, _⟩], none, [], [], none, [.Constant (.int _) _ _]⟩ => some [w]
  | _ => none
theorem parB_ok {ps : Arguments} {bn : List Str} (h : parB ps = some bn) : ParD ps bn := by
  unfold parB at h
  split at h
  · cases h; exact .inl ⟨rfl, rfl⟩
  · cases h; exact .inr ⟨_, _, _, _, _, _, rfl, rfl⟩
  · cases h
/-- nm(lambda: y) in the law's own block -/
def lamG (Γ : Sig) (N : List Str) (sc : Scope) (fn : Str → Bool) (nm : Str) (e : Expr) : Option (Expr × Scope) := match lamP e with
  | some (x, ps, y, scope) => (match parB ps with
    | some bn => if (Γ.own && (fn Str.empty && (decide (sc.names.lookup Str.empty = none) && (decide (x = nm) && (gloB sc x && (lamSB2 N sc scope && bn.all fun w => decide (scope.names.lookup w = some .local))))))) then some (y, scope) else none
    | none => none)
  | none => none
structure LamOk (Γ : Sig) (N : List Str) (sc : Scope) (fn : Str → Bool) (nm : Str) (e y : Expr) (scope : Scope) : Prop where
  ex : ∃ ps bn p1 p2 p3, e = .Call (.Name nm p1) [.Lambda ps y scope p2] [] p3 ∧ ParD ps bn ∧ ∀ w ∈ bn, scope.names.lookup w = some .local
  own : Γ.own = true
  fe : fn Str.empty = true
  no : sc.names.lookup Str.empty = none
  glo : gloB sc nm = true
  lam : LamS2 N sc scope
theorem lamG_ok {Γ : Sig} {N : List Str} {sc scope : Scope} {fn : Str → Bool} {nm : Str} {e y : Expr} (h : lamG Γ N sc fn nm e = some (y, scope)) : LamOk Γ N sc fn nm e y scope := by
  unfold lamG at h
  cases q : lamP e with
  | none => rw [q] at h; cases h
  | some r =>
    obtain ⟨x, ps, y', sc'⟩ := r
    rw [q] at h
    obtain ⟨p1, p2, p3, rfl⟩ := lamP_ok q
    cases q2 : parB ps with
    | none => simp only [q2] at h; cases h
    | some bn =>
      simp only [q2] at h
      split at h
      · rename_i hb
        simp only [Bool.and_eq_true, decide_eq_true_eq, List.all_eq_true] at hb
        obtain ⟨h1, h2, h3, h4, h5, h6, h7⟩ := hb
        cases h
        subst h4
        exact ⟨⟨ps, bn, p1, p2, p3, rfl, parB_ok q2, h7⟩, h1, h2, h3, h5, lamS2_by h6⟩
      · cases h
theorem slice_no {b : Expr} (h : notSlice b = true) : NoSl b := fun o i => by
  cases b <;> first | rfl | cases h
mutual
def chkE (Γ : Sig) (N : List Str) : Scope → (Str → Bool) → E → Expr → Bool
  | sc, fn, .var i, e => (match e with
    | .Name x _ => decide (N[i]? = some x) && visB sc x && plainX x
    | _ => false)
  | sc, fn, .int i, e => (match e with
    | .Constant (.int j) _ _ => decide (i = j)
    | _ => false)
  | sc, fn, .str s, e => (match e with
    | .Constant (.str x) _ _ => decide (x = toS s) && decide (s.length ≤ 100000)
    | _ => false)
  | sc, fn, .bl b, e => (match e with
    | .Constant (.bool c) _ _ => b == c
    | _ => false)
  | sc, fn, .non, e => (match e with
    | .Constant .none _ _ => true
    | _ => false)
  | sc, fn, .glb g, e => (match e with
    | .Name x _ => decide (Γ.gn g = some x) && gloB sc x && plainX x
    | _ => false)
  | sc, fn, .bin op a b, e => (match e with
    | .BinOp x o y _ => decide (opOf op = o) && chkE Γ N sc fn a x && chkE Γ N sc fn b y
    | _ => false)
  | sc, fn, .neg a, e => (match e with
    | .UnaryOp .USub x _ => chkE Γ N sc fn a x
    | _ => false)
  | sc, fn, .not a, e => (match e with
    | .UnaryOp .Not x _ => chkE Γ N sc fn a x
    | _ => false)
  | sc, fn, .and a b, e => (match e with
    | .BoolOp .And (x :: y :: r) p => chkE Γ N sc fn a x && (match r with
      | [] => chkE Γ N sc fn b y
      | _ => chkE Γ N sc fn b (.BoolOp .And (y :: r) p))
    | _ => false)
  | sc, fn, .or a b, e => (match e with
    | .BoolOp .Or (x :: y :: r) p => chkE Γ N sc fn a x && (match r with
      | [] => chkE Γ N sc fn b y
      | _ => chkE Γ N sc fn b (.BoolOp .Or (y :: r) p))
    | _ => false)
  | sc, fn, .cmp op a b, e => (match e with
    | .Compare x [o] [y] _ => cmpIs op o && notSet y && chkE Γ N sc fn a x && chkE Γ N sc fn b y
    | _ => false)
  | sc, fn, .chain op op' a b c, e => (match e with
    | .Compare x [o, o'] [y, z] _ => cmpIs op o && cmpIs op' o' && notSet z && chkE Γ N sc fn a x && chkE Γ N sc fn b y && chkE Γ N sc fn c z
    | _ => false)
  | sc, fn, .ite c a b, e => (match e with
    | .IfExp z x y _ => chkT Γ N sc fn c z && chkE Γ N sc fn a x && chkE Γ N sc fn b y
    | _ => false)
  | sc, fn, .tup es, e => (match e with
    | .Tuple xs _ _ => decide (lenE es ≤ 100000) && chkA Γ N sc fn es xs
    | _ => false)
  | sc, fn, .lst _ es, e => (match e with
    | .List xs _ => decide (lenE es ≤ 100000) && chkA Γ N sc fn es xs
    | _ => false)
  | sc, fn, .idx a b, e => (match e with
    | .Subscript x y _ => notSlice y && chkE Γ N sc fn a x && chkE Γ N sc fn b y
    | _ => false)
  | sc, fn, .slc a lo hi, e => (match e with
    | .Subscript x (.Slice l h none _) _ => chkE Γ N sc fn a x && chkO Γ N sc fn lo l && chkO Γ N sc fn hi h
    | _ => false)
  | sc, fn, .rev a, e => (match revP e with
    | some x => chkE Γ N sc fn a x
    | none => false)
  | sc, fn, .opx o a, e => (match o with
    | .dget kvs => (match dgetP e with
      | some (ks, vs, y) => dispE kvs ks vs && !kvs.isEmpty && decide (kvs.length ≤ 15) && notSlice y && chkE Γ N sc fn a y
      | none => false)
    | .refu => (match a with
      | .tryL b => Γ.rf && (match lamG Γ N sc fn "_law_refusal" e with
        | some (y, scope) => chkE Γ N scope (fun _ => false) b y
        | none => false)
      | _ => false))
  | sc, fn, .callS f k st es, e => (match e with
    | .Call (.Name x _) xs [] _ => decide (Γ.st f = some (x, k)) && gloB sc x && plainX x && chkSt Γ N sc fn st es xs
    | _ => false)
  | sc, fn, .tryL a, e => (match lamG Γ N sc fn "_law_try" e with
    | some (y, scope) => chkE Γ N scope (fun _ => false) a y
    | none => false)
  | sc, fn, .call f es, e => (match e with
    | .Call (.Name x _) xs [] _ => decide (Γ.nm f = some x) && gloB sc x && plainX x && chkA Γ N sc fn es xs
    | _ => false)
  | sc, fn, .callK f es kes perm, e => (match e with
    | .Call (.Name x _) xs kws _ => decide (Γ.nm f = some x) && gloB sc x && plainX x && chkA Γ N sc fn es xs && chkA Γ N sc fn kes (kws.map (·.value)) && kws.all (·.arg.isSome) &&
        decide ((f, lenE es, kws.filterMap (·.arg), perm) ∈ Γ.kws)
    | _ => false)
  | sc, fn, .bi b es, e => (match e with
    | .Call (.Name x _) (y :: ys) [] _ => decide (biName b = x) && gloB sc x && plainX x && chkA Γ N sc fn es (y :: ys)
    | _ => false)
  | sc, fn, .isi a t, e => (match e with
    | .Call (.Name x _) [y, .Name z _] [] _ => decide (x = ("isinstance" : Str)) && gloB sc x && decide (z = Str.ofString (tyName t)) && gloB sc z && notStar y && chkE Γ N sc fn a y
    | _ => false)
  | sc, fn, .mth m o es, e => (match e with
    | .Call (.Attribute x nm p) ys [] q => decide (mtName m = nm) && notCall x && (p.endLine == q.line) && decide (ys.length < 29) && chkE Γ N sc fn o x && chkA Γ N sc fn es ys
    | _ => false)
  | sc, fn, .lc _ elt tg it ifs own, e => (match e with
    | .ListComp y [⟨g, i, fs, 0⟩] scope _ => blkC N sc scope (ownP N own) && decide (∀ i ∈ tgs tg, i ∈ own) && notSet i && chkI Γ N sc fn it g i &&
        chkTg N (relS scope sc) (fun x => scope.names.lookup x == some .cell) tg g && chkTs Γ N (relS scope sc) (fun x => scope.names.lookup x == some .cell) ifs fs &&
        chkE Γ N (relS scope sc) (fun x => scope.names.lookup x == some .cell) elt y
    | _ => false)
def chkT (Γ : Sig) (N : List Str) : Scope → (Str → Bool) → E → Expr → Bool
  | sc, fn, .not a, e => (match e with
    | .UnaryOp .Not x _ => chkT Γ N sc fn a x
    | _ => false)
  | sc, fn, .and a b, e => (match e with
    | .BoolOp .And (x :: y :: r) p => chkT Γ N sc fn a x && (match r with
      | [] => chkT Γ N sc fn b y
      | _ => chkT Γ N sc fn b (.BoolOp .And (y :: r) p))
    | _ => false)
  | sc, fn, .or a b, e => (match e with
    | .BoolOp .Or (x :: y :: r) p => chkT Γ N sc fn a x && (match r with
      | [] => chkT Γ N sc fn b y
      | _ => chkT Γ N sc fn b (.BoolOp .Or (y :: r) p))
    | _ => false)
  | sc, fn, .cmp op a b, e => (match e with
    | .Compare x [o] [y] _ => cmpIs op o && notSet y && chkE Γ N sc fn a x && chkE Γ N sc fn b y
    | _ => false)
  | sc, fn, .chain op op' a b c, e => (match e with
    | .Compare x [o, o'] [y, z] _ => cmpIs op o && cmpIs op' o' && notSet z && chkE Γ N sc fn a x && chkE Γ N sc fn b y && chkE Γ N sc fn c z
    | _ => false)
  | sc, fn, .var i, e => (match e with
    | .Name x _ => decide (N[i]? = some x) && visB sc x && plainX x
    | _ => false)
  | sc, fn, .bl b, e => (match e with
    | .Constant (.bool c) _ _ => b == c
    | _ => false)
  | sc, fn, .idx a b, e => (match e with
    | .Subscript x y _ => notSlice y && chkE Γ N sc fn a x && chkE Γ N sc fn b y
    | _ => false)
  | sc, fn, .call f es, e => (match e with
    | .Call (.Name x _) xs [] _ => decide (Γ.nm f = some x) && gloB sc x && plainX x && chkA Γ N sc fn es xs
    | _ => false)
  | sc, fn, .bi b es, e => (match e with
    | .Call (.Name x _) (y :: ys) [] _ => decide (biName b = x) && gloB sc x && plainX x && chkA Γ N sc fn es (y :: ys)
    | _ => false)
  | sc, fn, .isi a t, e => (match e with
    | .Call (.Name x _) [y, .Name z _] [] _ => decide (x = ("isinstance" : Str)) && gloB sc x && decide (z = Str.ofString (tyName t)) && gloB sc z && notStar y && chkE Γ N sc fn a y
    | _ => false)
  | _, _, _, _ => false
def chkA (Γ : Sig) (N : List Str) : Scope → (Str → Bool) → Es → List Expr → Bool
  | sc, fn, .nil, xs => xs.isEmpty
  | sc, fn, .cons e es, xs => (match xs with
    | x :: r => notStar x && chkE Γ N sc fn e x && chkA Γ N sc fn es r
    | [] => false)
def chkSt (Γ : Sig) (N : List Str) : Scope → (Str → Bool) → List Bool → Es → List Expr → Bool
  | sc, fn, st, .nil, xs => st.isEmpty && xs.isEmpty
  | sc, fn, st, .cons e es, xs => (match st, xs with
    | true :: st, .Starred x _ :: r => chkE Γ N sc fn e x && chkSt Γ N sc fn st es r
    | false :: st, x :: r => notStar x && chkE Γ N sc fn e x && chkSt Γ N sc fn st es r
    | _, _ => false)
def chkO (Γ : Sig) (N : List Str) : Scope → (Str → Bool) → Es → Option Expr → Bool
  | sc, fn, .nil, o => o.isNone
  | sc, fn, .cons e _, o => (match o with
    | some x => chkE Γ N sc fn e x
    | none => false)
def chkTs (Γ : Sig) (N : List Str) : Scope → (Str → Bool) → Es → List Expr → Bool
  | sc, fn, .nil, xs => xs.isEmpty
  | sc, fn, .cons e _, xs => (match xs with
    | [x] => chkT Γ N sc fn e x
    | _ => false)
def chkI (Γ : Sig) (N : List Str) : Scope → (Str → Bool) → I → Expr → Expr → Bool
  | sc, fn, .sq e, _, x => chkE Γ N sc fn e x
  | sc, fn, .rng es, _, e => (match e with
    | .Call (.Name x _) xs [] _ => decide (x = ("range" : Str)) && gloB sc x && (decide (xs.length = 1) || decide (xs.length = 2)) && chkA Γ N sc fn es xs
    | _ => false)
  | sc, fn, .zip a b, g, e => (match g, e with
    | .Tuple .., .Call (.Name x _) [y, z] [] _ => decide (x = ("zip" : Str)) && gloB sc x && notStar y && notStar z && chkE Γ N sc fn a y && chkE Γ N sc fn b z
    | _, _ => false)
  | sc, fn, .enum a, g, e => (match g, e with
    | .Tuple .., .Call (.Name x _) [y] [] _ => decide (x = ("enumerate" : Str)) && gloB sc x && notStar y && chkE Γ N sc fn a y
    | _, _ => false)
end
theorem chkA_star {Γ : Sig} {N : List Str} {sc : Scope} {fn : Str → Bool} : ∀ {es : Es} {xs : List Expr}, chkA Γ N sc fn es xs = true → xs.all notStar = true
  | .nil, xs, h => by
    have h : xs.isEmpty = true := by simpa only [chkA] using h
    cases xs with
    | nil => rfl
    | cons => cases h
  | .cons e es, xs, h => by
    cases xs with
    | nil => simp [chkA] at h
    | cons x r =>
      simp only [chkA, Bool.and_eq_true] at h
      rw [List.all_cons, h.1.1, chkA_star h.2]; rfl
theorem chkA_len {Γ : Sig} {N : List Str} {sc : Scope} {fn : Str → Bool} : ∀ {es : Es} {xs : List Expr}, chkA Γ N sc fn es xs = true → xs.length = lenE es
  | .nil, xs, h => by
    have h : xs.isEmpty = true := by simpa only [chkA] using h
    cases xs with
    | nil => rfl
    | cons => cases h
  | .cons e es, xs, h => by
    cases xs with
    | nil => simp [chkA] at h
    | cons x r =>
      simp only [chkA, Bool.and_eq_true] at h
      simp [lenE, chkA_len h.2]
theorem denA_len {C : Cfg} : ∀ {es : Es} {env : Env} {S : Store} {xs : List PV} {S' : Store}, denA C es env S = .ok xs S' → xs.length = lenE es
  | .nil, env, S, xs, S', h => by
    have h : (R.ok [] S : R (List PV)) = .ok xs S' := h
    cases h; rfl
  | .cons e es, env, S, xs, S', h => by
    simp only [denA] at h
    cases q : denE C e env S with
    | exc c S1 => rw [bind_exc q] at h; cases h
    | stuck => rw [bind_stuck q] at h; cases h
    | ok x S1 =>
      rw [bind_ok q] at h
      cases q2 : denA C es env S1 with
      | exc c S2 => rw [bind_exc q2] at h; cases h
      | stuck => rw [bind_stuck q2] at h; cases h
      | ok ys S2 =>
        rw [bind_ok q2] at h
        have h : (R.ok (x :: ys) S2 : R (List PV)) = .ok xs S' := h
        cases h
        simp [lenE, denA_len q2]

structure Prg where
  sig : Sig
  D : Nat → Option Def
  G : Nat → Option PV
  wf : Nat
abbrev cfg (P : Prg) (n : Nat) : Cfg := ⟨callN P.D P.G P.wf n, P.G, P.wf⟩
/-- a def's promise: what the denotation says -/
def spN (P : Prg) (K : PySem.W.Frag) (n f : Nat) : Sp := fun vs H Q E => ∃ ω S pvs d, RelSt K ω S H ∧ Reps K ω H pvs vs ∧ P.D f = some d ∧ pvs.length = d.par ∧ Post K E (Rep K) ω H (callN P.D P.G P.wf n f pvs S) Q
structure FnAt (P : Prg) (X : Cx) (n f : Nat) (x : Str) : Prop where
  ex : ∃ (a : Addr) (fd : FuncData) (ps : List Str), X.mg x = some (.ref a) ∧ PySem.W.keepIn X.K (.ref a) = true ∧ Binds X.K fd ps [] ∧
    (∀ m ks perm, (f, m, ks, perm) ∈ P.sig.kws → ∀ (s : Shared) (us ws : List Value), us.length = m → ws.length = ks.length → BindsTo s fd ⟨us, ks.zip ws⟩ (ps.zip (pick perm (us ++ ws)))) ∧
    (∀ d, P.D f = some d → ps.length = d.par) ∧ FnOk X.prog X.w X.K X.mg X.base (CX X.prog X.w) (n + 2) a fd ps (spN P X.K n f)
/-- a def that takes any number of arguments -/
def spS (P : Prg) (K : PySem.W.Frag) (n f k : Nat) : Sp := fun vs H Q E => ∃ ws rest, vs = ws ++ rest ∧ ws.length = k ∧ rest.length ≤ sizeLine ∧ ∀ p, H p = none → spN P K n f (ws ++ [V.ref p]) (upd H p (.tup rest)) Q E
def FnS (P : Prg) (X : Cx) (n f : Nat) (x : Str) (k : Nat) : Prop := ∃ a : Addr, X.mg x = some (.ref a) ∧ PySem.W.keepIn X.K (.ref a) = true ∧ FnR X.prog X.w X.K X.mg X.base (CX X.prog X.w) (n + 2) a (spS P X.K n f k)
def freeNames : List Str := ["len", "list", "tuple", "sum", "max", "min", "all", "any", "int", "str", "sorted", "isinstance", "range", "zip", "enumerate", "bool"]
structure Cn (P : Prg) (n : Nat) (E : XK) (X : Cx) : Prop where
  calm : X.calm = true
  nd : X.N.Nodup
  room : Room (n + 2) X.A
  tk : Takes X (fun c d _ H => E c d H)
  free : ∀ x ∈ freeNames, X.mg x = none
  glb : ∀ g v x, P.G g = some v → P.sig.gn g = some x → ∃ u vv, X.mg x = some u ∧ RelV vv u ∧ ∀ ω H, Rep X.K ω H v vv
  fns : ∀ f x, P.sig.nm f = some x → FnAt P X n f x
  has : ∀ f x, P.sig.nm f = some x → ∃ d, P.D f = some d
  fnsS : ∀ f x k, P.sig.st f = some (x, k) → FnS P X n f x k
  hasS : ∀ f x k, P.sig.st f = some (x, k) → ∃ d, P.D f = some d
  excs : ∀ c ∈ P.sig.exs, ∀ nm fo, excTab[c]? = some (nm, fo) → ExcD X.K X.mg (toS nm) (fo.map toS)
  lam : P.sig.own = true → X.fn Str.empty = true → X.env.scope.names.lookup Str.empty = none → LamF X (P.G tabG) (n + 2)
  lamR : P.sig.own = true → P.sig.rf = true → X.fn Str.empty = true → X.env.scope.names.lookup Str.empty = none → LamR X (n + 2)
theorem map_none {f : Str × NameKind → Str × NameKind} (hf : ∀ y, (f y).1 = y.1) {x : Str} : ∀ {l : List (Str × NameKind)}, (l.map f).lookup x = none → l.lookup x = none
  | [], _ => rfl
  | (n, k) :: l, h => by
    have e := hf (n, k)
    rw [List.map_cons, show f (n, k) = (n, (f (n, k)).2) from Prod.ext e rfl] at h
    by_cases hx : (x == n) = true
    · simp [List.lookup, hx] at h
    · have hx : (x == n) = false := by simpa using hx
      simp only [List.lookup, hx] at h ⊢
      exact map_none hf h
/-- the context of a comprehension's block -/
theorem Cn.blk {P : Prg} {n : Nat} {E : XK} {X : Cx} (h : Cn P n E X) (s : Shared) (H : Hp) (scope : Scope) (cenv : PySem.Env) (fp : List Addr) (hs : cenv.scope = relS scope X.env.scope := by rfl) : Cn P n E0 (X.blk s H scope cenv fp) where
  calm := h.calm
  nd := h.nd
  room := h.room
  tk := fun u s' ⟨a, B, sI, pins, σ, H, cls, d, e, I, nb, up, sky, na, os, ag, w⟩ => w
  free := h.free
  glb := h.glb
  fns := fun f x e1 => ⟨(h.fns f x e1).ex⟩
  has := h.has
  fnsS := h.fnsS
  hasS := h.hasS
  excs := h.excs
  lam := fun _ h2 h3 => by
    have h2 : (scope.names.lookup Str.empty == some .cell) = true := h2
    have h3 : cenv.scope.names.lookup Str.empty = none := h3
    rw [hs] at h3
    rw [map_none (fun y => by obtain ⟨n, k⟩ := y; dsimp only; split <;> rfl) h3] at h2
    cases h2
  lamR := fun _ _ h2 h3 => by
    have h2 : (scope.names.lookup Str.empty == some .cell) = true := h2
    have h3 : cenv.scope.names.lookup Str.empty = none := h3
    rw [hs] at h3
    rw [map_none (fun y => by obtain ⟨n, k⟩ := y; dsimp only; split <;> rfl) h3] at h2
    cases h2
/-- the context of a lambda's body -/
theorem Cn.lamC {P : Prg} {n : Nat} {E : XK} {X : Cx} (h : Cn P n E X) {A : Around} {outer : List PySem.Env} {s : Shared} {H : Hp} {E2 : XK} {scope : Scope} {f c' : Addr} (hr : Room (n + 2) (A.deeper (LamX.lamEnv X scope s.heap.objs.size f c'))) : Cn P n E2 (LamX.lamCx X A outer s H E2 scope f c') where
  calm := rfl
  nd := h.nd
  room := hr
  tk := takes_of rfl rfl rfl rfl
  free := h.free
  glb := h.glb
  fns := fun f x e1 => ⟨(h.fns f x e1).ex⟩
  has := h.has
  fnsS := h.fnsS
  hasS := h.hasS
  excs := h.excs
  lam := fun _ h2 _ => by cases h2
  lamR := fun _ _ h2 _ => by cases h2
theorem Cn.hu {P : Prg} {n : Nat} {E : XK} {X : Cx} (h : Cn P n E X) : X.A.units + 65 < cLine := by have := h.room.un; omega
def biVal : Bi → Value
  | .len => .builtin "len" | .list => .type "list" | .tuple => .type "tuple" | .sum => .builtin "sum" | .max => .builtin "max" | .min => .builtin "min" | .all => .builtin "all" | .any => .builtin "any" | .int => .type "int" | .str => .type "str" | .sorted => .builtin "sorted"
theorem bi_boot (b : Bi) : bootBuiltins (biName b) = some (biVal b) := by cases b <;> decide +kernel
theorem bi_free (b : Bi) : biName b ∈ freeNames := by cases b <;> decide +kernel
theorem ty_boot (t : Ty) : bootBuiltins (Str.ofString (tyName t)) = some (.type (tyName t)) := by cases t <;> decide +kernel
theorem ty_free (t : Ty) : Str.ofString (tyName t) ∈ freeNames := by cases t <;> decide +kernel
theorem ty_plain (t : Ty) : plainX (Str.ofString (tyName t)) = true := by cases t <;> decide +kernel
theorem isi_boot : bootBuiltins "isinstance" = some (.builtin "isinstance") := by decide +kernel
theorem bi_sound {X : Cx} {E : XK} (hc : X.calm = true) (b : Bi) : BiS X E (biVal b) (opBi b) := by
  cases b with
  | len => exact bs_len
  | list => exact bs_list hc
  | tuple => exact bs_tuple
  | sum => exact bs_sum hc
  | max => exact bs_max hc
  | min => exact bs_min hc
  | all => exact bs_all hc
  | any => exact bs_any hc
  | int => exact bs_int
  | str => exact bs_str
  | sorted => exact bs_sorted
section
variable {P : Prg} {n : Nat} {E : XK} {X : Cx} {pos : Pos} {a : Expr} {es : List Expr} {mes : Env → M (List PV)}
theorem e_biAll (hC : Cn P n E X) {b : Bi} {p : Pos} (hg : gloB X.env.scope (biName b) = true) (hp : plainX (biName b) = true) (hs : (a :: es).all notStar = true) (h : PA X (a :: es) (tA X.K E mes)) :
    PE X (.Call (.Name (biName b) p) (a :: es) [] pos) (tE X.K E (fun env => M.bind (mes env) fun xs => opBi b xs)) := by
  have hB := bi_sound (E := E) hC.calm b
  have hv := bi_boot b
  have hm := hC.free _ (bi_free b)
  obtain ⟨h1, _, h3⟩ := plainX_ok hp
  rw [List.all_cons, Bool.and_eq_true] at hs
  have e1 : starEach (a :: es) X.env = (false, eval a X.env) :: starEach es X.env := star_cons hs.1
  have e2 : (backTo pos (starEach es X.env)).any (·.1) = false := star_any hs.2
  cases b with
  | len => exact e_bi hB (gloB_ok hg) hm hv h3 h1 e1 e2 h
  | list => exact e_biTy hB (gloB_ok hg) hm hv h3 h1 e1 e2 h
  | tuple => exact e_biTy hB (gloB_ok hg) hm hv h3 h1 e1 e2 h
  | sum => exact e_bi hB (gloB_ok hg) hm hv h3 h1 e1 e2 h
  | max => exact e_bi hB (gloB_ok hg) hm hv h3 h1 e1 e2 h
  | min => exact e_bi hB (gloB_ok hg) hm hv h3 h1 e1 e2 h
  | all => exact e_bi hB (gloB_ok hg) hm hv h3 h1 e1 e2 h
  | any => exact e_bi hB (gloB_ok hg) hm hv h3 h1 e1 e2 h
  | int => exact e_biTy hB (gloB_ok hg) hm hv h3 h1 e1 e2 h
  | str => exact e_biTy hB (gloB_ok hg) hm hv h3 h1 e1 e2 h
  | sorted => exact e_bi hB (gloB_ok hg) hm hv h3 h1 e1 e2 h
theorem call_par {pvs : List PV} {f : Nat} {d : Def} {K : PySem.W.Frag} {ω : Wd} {H : Hp} {S : Store} {Q : VK} (hd : P.D f = some d) (p : Post K E (Rep K) ω H (callN P.D P.G P.wf n f pvs S) Q) : pvs.length = d.par := by
  cases n with
  | zero => exact False.elim p
  | succ n =>
    unfold callN at p
    rw [hd] at p
    by_cases z : pvs.length = d.par
    · exact z
    · simp only [if_neg z] at p
      exact False.elim p
/-- a call by position -/
theorem e_call (hC : Cn P n E X) {f : Nat} {x : Str} {p : Pos} (hn : P.sig.nm f = some x) (hg : gloB X.env.scope x = true) (hp : plainX x = true) (hs : (a :: es).all notStar = true) (h : PA X (a :: es) (tA X.K E mes)) :
    PE X (.Call (.Name x p) (a :: es) [] pos) (tE X.K E (fun env => M.bind (mes env) fun xs => (cfg P n).call f xs)) := by
  obtain ⟨h1, _, h3⟩ := plainX_ok hp
  obtain ⟨d, hd⟩ := hC.has f x hn
  obtain ⟨adr, fd, ps, hm, hk, hb, hkb, hps, F⟩ := (hC.fns f x hn).ex
  have hx : Passes (CX X.prog X.w) X E := passes_call hC.tk fun _ _ _ _ z => z
  rw [List.all_cons, Bool.and_eq_true] at hs
  refine peImp (pe_call F hC.room (gloB_ok hg) hm hk hb .nil hx h h1 (star_cons hs.1) (star_any hs.2)) fun σ H Q h => ?_
  refine rdImp (rd_bind (Rl := Reps X.K) h) fun vs H1 ⟨ω1, S1, env1, pvs, s1, e1, r1, p1⟩ => ?_
  rw [List.append_nil]
  exact ⟨ω1, S1, pvs, d, s1, r1, hd, call_par hd p1, p1⟩
theorem e_call0 (hC : Cn P n E X) {f : Nat} {x : Str} {p : Pos} (hn : P.sig.nm f = some x) (hg : gloB X.env.scope x = true) (hp : plainX x = true) :
    PE X (.Call (.Name x p) [] [] pos) (tE X.K E (fun env => M.bind (M.pure []) fun xs => (cfg P n).call f xs)) := by
  obtain ⟨h1, _, h3⟩ := plainX_ok hp
  obtain ⟨d, hd⟩ := hC.has f x hn
  obtain ⟨adr, fd, ps, hm, hk, hb, hkb, hps, F⟩ := (hC.fns f x hn).ex
  have hx : Passes (CX X.prog X.w) X E := passes_call hC.tk fun _ _ _ _ z => z
  refine peImp (pe_call0 F hC.room (gloB_ok hg) hm hk hb .nil hx h1) fun σ H Q ⟨ω, S, env, hS, hE, hP⟩ => ?_
  exact ⟨ω, S, [], d, hS, .nil, hd, call_par hd hP, hP⟩
abbrev starM (P : Prg) (n f k : Nat) : List PV → M PV := fun ys => if decide (k ≤ ys.length ∧ ys.length ≤ lineN) then (cfg P n).call f (ys.take k ++ [.tup (ys.drop k)]) else stuck
theorem star_sp {f k : Nat} {d : Def} (hd : P.D f = some d) : ∀ ω S H vs pvs Q, RelSt X.K ω S H → Reps X.K ω H pvs vs → Post X.K E (Rep X.K) ω H (starM P n f k pvs S) Q → spS P X.K n f k vs H Q E := by
  intro ω S H vs pvs Q s r h
  by_cases hz : k ≤ pvs.length ∧ pvs.length ≤ lineN
  · have h : Post X.K E (Rep X.K) ω H ((if decide (k ≤ pvs.length ∧ pvs.length ≤ lineN) = true then (cfg P n).call f (pvs.take k ++ [.tup (pvs.drop k)]) else stuck) S) Q := h
    rw [if_pos (decide_eq_true hz)] at h
    have hlen := r.length
    have h2 : pvs.length ≤ sizeLine := hz.2
    refine ⟨vs.take k, vs.drop k, (List.take_append_drop k vs).symm, by rw [List.length_take]; omega, by rw [List.length_drop]; omega, fun p hp => ?_⟩
    have l := le_new (ω := ω) (o := HO.tup (vs.drop k)) hp
    refine ⟨ω, S, pvs.take k ++ [.tup (pvs.drop k)], d, s.new hp, ?_, hd, call_par hd h, h.mono l⟩
    refine ((r.take k).mono l).append (.one (rep_tup (s.fresh hp) upd_same ?_ ((r.drop k).mono l)))
    rw [List.length_drop]; omega
  · have h : Post X.K E (Rep X.K) ω H ((if decide (k ≤ pvs.length ∧ pvs.length ≤ lineN) = true then (cfg P n).call f (pvs.take k ++ [.tup (pvs.drop k)]) else stuck) S) Q := h
    rw [if_neg (by simpa using hz)] at h
    exact False.elim h
/-- the shapes of an argument list -/
inductive ArgSh : List Bool → List Expr → Prop
  | nil : ArgSh [] []
  | star (st : List Bool) (x : Expr) (p : Pos) (r : List Expr) (h : ArgSh st r) : ArgSh (true :: st) (.Starred x p :: r)
  | plain (st : List Bool) (x : Expr) (r : List Expr) (hx : notStar x = true) (h : ArgSh st r) : ArgSh (false :: st) (x :: r)
theorem ArgSh.any {st : List Bool} {es : List Expr} (h : ArgSh st es) : (backTo pos (starEach es X.env)).any (·.1) = st.any id := by
  induction h with
  | nil => rfl
  | star st x p r h ih =>
    show (true || (backTo pos (starEach r X.env)).any (·.1)) = _
    simp
  | plain st x r hx h ih =>
    rw [star_cons hx]
    show (false || (backTo pos (starEach r X.env)).any (·.1)) = _
    rw [ih]; simp
theorem ArgSh.head {st : List Bool} {e : Expr} {es : List Expr} (h : ArgSh st (e :: es)) : ∃ y, starEach (e :: es) X.env = y :: starEach es X.env := by
  cases h with
  | star st x p r h => exact ⟨_, rfl⟩
  | plain st x r hx h => exact ⟨_, star_cons hx⟩
theorem e_callS (hC : Cn P n E X) {f k : Nat} {x : Str} {p : Pos} {st : List Bool} {es : List Expr} {mes : Env → M (List PV)} (hn : P.sig.st f = some (x, k)) (hg : gloB X.env.scope x = true) (hp : plainX x = true) (hs : ArgSh st es) (h : PA X es (tA X.K E (flatM st mes)))
    (h0 : es = [] → mes = fun _ => M.pure []) (hl : ∀ a q, es = [.Starred a q] → ∃ ma : Env → M PV, PE X a (tE X.K E ma) ∧ mes = fun env => M.bind (ma env) fun x => M.bind (M.pure []) fun xs => M.pure (x :: xs)) :
    PE X (.Call (.Name x p) es [] pos) (tE X.K E (fun env => M.bind (flatM st mes env) (starM P n f k))) := by
  obtain ⟨h1, _, h3⟩ := plainX_ok hp
  obtain ⟨d, hd⟩ := hC.hasS f x k hn
  obtain ⟨adr, hm, hk, F⟩ := hC.fnsS f x k hn
  have hx : Passes (CX X.prog X.w) X E := passes_call hC.tk fun _ _ _ _ z => z
  have fin : ∀ σ H Q, tE X.K E (fun env => M.bind (flatM st mes env) (starM P n f k)) σ H Q → tA X.K E (flatM st mes) σ H (fun vs H1 => spS P X.K n f k vs H1 Q E) := fun σ H Q q =>
    rdImp (rd_bind (Rl := Reps X.K) (f := fun _ => starM P n f k) q) fun vs H1 ⟨ω1, S1, env1, pvs, s1, e1, r1, p1⟩ => star_sp hd _ _ _ _ _ _ s1 r1 p1
  cases hs with
  | nil =>
    refine peImp (pe_callR0 F hC.room hk (gloB_ok hg) hm hx h1) fun σ H Q q => ?_
    obtain ⟨ω, S, env, hS, hE, hP⟩ := fin σ H Q q
    rw [h0 rfl] at hP
    exact Post.ok (v := ([] : List PV)) hP hS .nil
  | star st' a q r hr =>
    cases r with
    | nil =>
      cases hr
      obtain ⟨ma, ha, em⟩ := hl a q rfl
      refine peImp (StX.pe_callS1 F hC.room hk (gloB_ok hg) hm hx ha h1) fun σ H Q q => ?_
      rw [em] at q
      exact f_lone (m := starM P n f k) (star_sp hd) q
    | cons e2 r =>
      exact peImp (pe_callR2 F hC.room hk (gloB_ok hg) hm hx h h1 hr.head) fin
  | plain st' a r hxa hr =>
    have hany := hr.any (X := X) (pos := pos)
    cases hb : st'.any id with
    | true => exact peImp (StX.pe_callS2 F hC.room hk (gloB_ok hg) hm hx h h1 (star_cons hxa) (by rw [hany, hb])) fin
    | false => exact peImp (pe_callR F hC.room hk (gloB_ok hg) hm hx h h1 (star_cons hxa) (by rw [hany, hb])) fin
theorem Reps.pick {K : PySem.W.Frag} {ω : Wd} {H : Hp} {l : List PV} {vs : List V} (r : Reps K ω H l vs) : ∀ perm : List Nat, Reps K ω H (Mi.pick perm l) (Mi.pick perm vs)
  | [] => .nil
  | i :: perm => by
    have ih := Reps.pick r perm
    unfold Mi.pick at ih ⊢
    cases q : l[i]? with
    | none =>
      have : vs[i]? = none := List.getElem?_eq_none (by rw [r.length]; exact List.getElem?_eq_none_iff.mp q)
      rw [List.filterMap_cons, q, List.filterMap_cons, this]
      exact ih
    | some y =>
      obtain ⟨v, e, rv⟩ := r.get q
      rw [List.filterMap_cons, q, List.filterMap_cons, e]
      exact .cons rv ih
theorem vals_pick {l : List V} {us : List Value} (r : Vals l us) : ∀ perm : List Nat, Vals (Mi.pick perm l) (Mi.pick perm us)
  | [] => .nil
  | i :: perm => by
    have ih := vals_pick r perm
    unfold Mi.pick at ih ⊢
    cases q : l[i]? with
    | none =>
      rw [List.filterMap_cons, q, List.filterMap_cons, r.none_of q]
      exact ih
    | some y =>
      obtain ⟨v, e, rv⟩ := r.get q
      rw [List.filterMap_cons, q, List.filterMap_cons, e]
      exact .cons rv ih
/-- the values of the keywords -/
theorem k_args {kmes : Env → M (List PV)} : ∀ {kws : List Keyword} {m : Env → M (List PV)}, (∀ (k : Keyword), k ∈ kws → True) → True := fun _ => trivial
end
/-- a call with keywords -/
theorem pe_callKW {X : Cx} {CX : CXT} {k n : Nat} {f : Addr} {fd : FuncData} {ps ks : List Str} {sp : Sp} {E : XK} {x : Str} {p pos : Pos} {es : List Expr} {kws : List Keyword} {t tk : TA} {g : List Value → List Value → List Value} {gV : List V → List V → List V}
    (F : FnOk X.prog X.w X.K X.mg X.base CX k f fd ps sp) (hr : Room k X.A) (hg : Gl X x) (hm : X.mg x = some (.ref f)) (hk : PySem.W.keepIn X.K (.ref f) = true) (hb : KBn X.K fd ps n ks g gV) (hx : Passes CX X E)
    (ha : PA X es t) (hkw : PK X kws tk) (hall : (backToKw pos (keywordEach kws X.env)).all (·.1.isSome) = true) (hks : (backToKw pos (keywordEach kws X.env)).filterMap (·.1) = ks)
    (hdb : (x == ("__debug__" : Str)) = false) (hs : es.all notStar = true) (hnn : (backToKw pos (keywordEach kws X.env)).any (·.1.isNone) = false) (h0 : t = tNil ∨ es ≠ []) (h00 : es = [] → t = tNil) :
    PE X (.Call (.Name x p) es kws pos) (tCallN n ks.length sp gV E t tk) := by
  cases es with
  | cons e es =>
    have hs' := hs
    rw [List.all_cons, Bool.and_eq_true] at hs'
    exact pe_callN F hr hg hm hk hb hx ha hkw hall hks hdb (star_cons hs'.1) (by rw [star_any hs, hnn]; rfl)
  | nil =>
    have := h00 rfl
    subst this
    refine ⟨fun pins s σ H Q I h => ?_⟩
    refine wpAny_Call_Name_kw (ld_glob I hg hm ?_ hdb)
    refine PySem.W.callWith_KW0 (h₀ := X.base) I.ok.mod.kin hk hall ?_ (by rw [hnn]; rfl)
    have h : tk σ H fun zs H2 => ([] : List V).length = n ∧ zs.length = ks.length ∧ sp (gV [] zs) H2 Q E := h
    refine thn (hkw.run pos pins s σ H _ I h) fun ws s2 ⟨zs, H2, I2, rz, l1, l2, q2⟩ => ⟨I2.kIn, ?_⟩
    rw [hks]
    exact run_fnN F hr hb hx I2 .nil rz l1 l2 q2
end Mi
set_option Elab.async false
set_option linter.all false
set_option maxRecDepth 100000
namespace Mi
open PySem PySem.Spec PyProof.Rows L2
theorem kw_all {env : PySem.Env} {pos : Pos} : ∀ {kws : List Keyword}, kws.all (·.arg.isSome) = true → (backToKw pos (keywordEach kws env)).all (·.1.isSome) = true ∧ (backToKw pos (keywordEach kws env)).any (·.1.isNone) = false ∧
    (backToKw pos (keywordEach kws env)).filterMap (·.1) = kws.filterMap (·.arg)
  | [], _ => ⟨rfl, rfl, rfl⟩
  | ⟨nm, v, p⟩ :: r, h => by
    rw [List.all_cons, Bool.and_eq_true] at h
    obtain ⟨h1, h2, h3⟩ := kw_all (env := env) (pos := pos) h.2
    have hn : nm.isSome = true := h.1
    cases nm with
    | none => cases hn
    | some y =>
      refine ⟨?_, ?_, ?_⟩
      · show (true && (backToKw pos (keywordEach r env)).all (·.1.isSome)) = true
        rw [h1]; rfl
      · show (false || (backToKw pos (keywordEach r env)).any (·.1.isNone)) = false
        rw [h2]; rfl
      · show y :: (backToKw pos (keywordEach r env)).filterMap (·.1) = y :: r.filterMap (·.arg)
        rw [h3]
theorem kw_len : ∀ {kws : List Keyword}, kws.all (·.arg.isSome) = true → (kws.filterMap (·.arg)).length = kws.length
  | [], _ => rfl
  | k :: r, h => by
    rw [List.all_cons, Bool.and_eq_true] at h
    cases ek : k.arg with
    | none => rw [ek] at h; cases h.1
    | some z => rw [List.filterMap_cons, ek]; simp [kw_len h.2]
theorem g_tg {X : Cx} (hc : X.calm = true) (hN : X.N.Nodup) {tg : Tg} {g : Expr} (h : chkTg X.N X.env.scope X.fn tg g = true) : PG X g (gOf X.K tg) := by
  cases tg with
  | one i =>
    cases g with
    | Name x p =>
      simp only [chkTg, Bool.and_eq_true] at h
      obtain ⟨h1, h2⟩ := locB_ok h.2
      exact pg_name hN (of_decide_eq_true h.1) h1 h2
    | _ => simp [chkTg] at h
  | two i j =>
    cases g with
    | Tuple es k p =>
      match es, h with
      | [.Name x px, .Name y py], h =>
        simp only [chkTg, Bool.and_eq_true] at h
        obtain ⟨h1, h2⟩ := locB_ok h.1.2
        obtain ⟨h3, h4⟩ := locB_ok h.2.2
        exact pg_tup hc (pgs_cons (pg_name hN (of_decide_eq_true h.1.1) h1 h2) (pgs_cons (pg_name hN (of_decide_eq_true h.2.1) h3 h4) pgs_nil rfl) rfl) rfl rfl
    | _ => simp [chkTg] at h
  | thr i j l =>
    cases g with
    | Tuple es k p =>
      match es, h with
      | [.Name x px, .Name y py, .Name z pz], h =>
        simp only [chkTg, Bool.and_eq_true] at h
        obtain ⟨h1, h2⟩ := locB_ok h.1.2
        obtain ⟨h3, h4⟩ := locB_ok h.2.1.2
        obtain ⟨h5, h6⟩ := locB_ok h.2.2.2
        exact pg_tup hc (pgs_cons (pg_name hN (of_decide_eq_true h.1.1) h1 h2) (pgs_cons (pg_name hN (of_decide_eq_true h.2.1.1) h3 h4) (pgs_cons (pg_name hN (of_decide_eq_true h.2.2.1) h5 h6) pgs_nil rfl) rfl) rfl) rfl rfl
    | _ => simp [chkTg] at h
abbrev fnB (scope : Scope) : Str → Bool := fun x => scope.names.lookup x == some .cell
mutual
theorem sE (P : Prg) (n : Nat) : ∀ (e : E) (X : Cx) (Ex : XK) (x : Expr), Cn P n Ex X → chkE P.sig X.N X.env.scope X.fn e x = true → PE X x (tE X.K Ex (denE (cfg P n) e))
  | .var i, X, Ex, x, hC, h => by
    cases x <;> simp only [chkE, Bool.false_eq_true] at h
    rw [Bool.and_eq_true, Bool.and_eq_true] at h
    obtain ⟨h1, h2, _⟩ := plainX_ok h.2
    exact e_var (of_decide_eq_true h.1.1) (visB_ok h.1.2) h1 h2
  | .int i, X, Ex, x, hC, h => by
    cases x with
    | Constant c k p =>
      cases c <;> simp only [chkE, Bool.false_eq_true] at h
      have := of_decide_eq_true h
      subst this
      exact e_const pe_int fun _ _ => rep_int
    | _ => simp only [chkE, Bool.false_eq_true] at h
  | .str s, X, Ex, x, hC, h => by
    cases x with
    | Constant c k p =>
      cases c <;> simp only [chkE, Bool.false_eq_true] at h
      rw [Bool.and_eq_true] at h
      have := of_decide_eq_true h.1
      subst this
      exact e_const pe_str fun _ _ => rep_str (Nat.le_trans (of_decide_eq_true h.2) (by decide))
    | _ => simp only [chkE, Bool.false_eq_true] at h
  | .bl b, X, Ex, x, hC, h => by
    cases x with
    | Constant c k p =>
      cases c <;> simp only [chkE, Bool.false_eq_true] at h
      have := eq_of_beq h
      subst this
      exact e_const pe_bl fun _ _ => rep_bl
    | _ => simp only [chkE, Bool.false_eq_true] at h
  | .non, X, Ex, x, hC, h => by
    cases x with
    | Constant c k p =>
      cases c <;> simp only [chkE, Bool.false_eq_true] at h
      exact e_const pe_non fun _ _ => rep_non
    | _ => simp only [chkE, Bool.false_eq_true] at h
  | .glb g, X, Ex, x, hC, h => by
    cases x <;> simp only [chkE, Bool.false_eq_true] at h
    rw [Bool.and_eq_true, Bool.and_eq_true] at h
    obtain ⟨h1, h2, _⟩ := plainX_ok h.2
    have hg := of_decide_eq_true h.1.1
    show PE X _ (tE X.K Ex (fun _ => ofO (P.G g)))
    cases q : P.G g with
    | none => exact ⟨fun pins s σ H Q I ⟨_, _, _, _, _, z⟩ => False.elim z⟩
    | some v =>
      obtain ⟨u, vv, hm, r, hr⟩ := hC.glb g v _ q hg
      exact e_const (pe_glob (gloB_ok h.1.2) hm r h1) hr
  | .bin op a b, X, Ex, x, hC, h => by
    cases x <;> simp only [chkE, Bool.false_eq_true] at h
    rw [Bool.and_eq_true, Bool.and_eq_true] at h
    have := of_decide_eq_true h.1.1
    subst this
    exact e_bin (sE P n a X Ex _ hC h.1.2) (sE P n b X Ex _ hC h.2)
  | .neg a, X, Ex, x, hC, h => by
    cases x with
    | UnaryOp o y p =>
      cases o <;> simp only [chkE, Bool.false_eq_true] at h
      exact e_neg (sE P n a X Ex _ hC h)
    | _ => simp only [chkE, Bool.false_eq_true] at h
  | .not a, X, Ex, x, hC, h => by
    cases x with
    | UnaryOp o y p =>
      cases o <;> simp only [chkE, Bool.false_eq_true] at h
      exact e_not (sE P n a X Ex _ hC h)
    | _ => simp only [chkE, Bool.false_eq_true] at h
  | .and a b, X, Ex, x, hC, h => by
    cases x with
    | BoolOp o es p =>
      match o, es, h with
      | .And, y :: z :: [], h =>
        simp only [chkE, Bool.and_eq_true] at h
        exact e_and (sE P n a X Ex _ hC h.1) (pe_one (sE P n b X Ex _ hC h.2))
      | .And, y :: z :: w :: r, h =>
        simp only [chkE, Bool.and_eq_true] at h
        exact e_and (sE P n a X Ex _ hC h.1) (sE P n b X Ex _ hC h.2)
      | .And, [], h => simp only [chkE, Bool.false_eq_true] at h
      | .And, [_], h => simp only [chkE, Bool.false_eq_true] at h
      | .Or, _, h => simp only [chkE, Bool.false_eq_true] at h
    | _ => simp only [chkE, Bool.false_eq_true] at h
  | .or a b, X, Ex, x, hC, h => by
    cases x with
    | BoolOp o es p =>
      match o, es, h with
      | .Or, y :: z :: [], h =>
        simp only [chkE, Bool.and_eq_true] at h
        exact e_or (sE P n a X Ex _ hC h.1) (pe_one (sE P n b X Ex _ hC h.2))
      | .Or, y :: z :: w :: r, h =>
        simp only [chkE, Bool.and_eq_true] at h
        exact e_or (sE P n a X Ex _ hC h.1) (sE P n b X Ex _ hC h.2)
      | .Or, [], h => simp only [chkE, Bool.false_eq_true] at h
      | .Or, [_], h => simp only [chkE, Bool.false_eq_true] at h
      | .And, _, h => simp only [chkE, Bool.false_eq_true] at h
    | _ => simp only [chkE, Bool.false_eq_true] at h
  | .cmp op a b, X, Ex, x, hC, h => by
    cases x with
    | Compare l ops cs p =>
      match ops, cs, h with
      | [o], [y], h =>
        simp only [chkE, Bool.and_eq_true] at h
        have := of_decide_eq_true h.1.1.1
        subst this
        exact e_cmp hC.hu (set_marks h.1.1.2) (sE P n a X Ex _ hC h.1.2) (sE P n b X Ex _ hC h.2)
      | [], _, h => simp only [chkE, Bool.false_eq_true] at h
      | _ :: _ :: _, _, h => simp only [chkE, Bool.false_eq_true] at h
      | [_], [], h => simp only [chkE, Bool.false_eq_true] at h
      | [_], _ :: _ :: _, h => simp only [chkE, Bool.false_eq_true] at h
    | _ => simp only [chkE, Bool.false_eq_true] at h
  | .chain op op' a b c, X, Ex, x, hC, h => by
    cases x with
    | Compare l ops cs p =>
      match ops, cs, h with
      | [o, o'], [y, z], h =>
        simp only [chkE, Bool.and_eq_true] at h
        have e1 := of_decide_eq_true h.1.1.1.1.1
        have e2 := of_decide_eq_true h.1.1.1.1.2
        subst e1 e2
        exact e_chain hC.hu (set_marks h.1.1.1.2) (sE P n a X Ex _ hC h.1.1.2) (sE P n b X Ex _ hC h.1.2) (sE P n c X Ex _ hC h.2)
      | [], _, h => simp only [chkE, Bool.false_eq_true] at h
      | [_], _, h => simp only [chkE, Bool.false_eq_true] at h
      | _ :: _ :: _ :: _, _, h => simp only [chkE, Bool.false_eq_true] at h
      | [_, _], [], h => simp only [chkE, Bool.false_eq_true] at h
      | [_, _], [_], h => simp only [chkE, Bool.false_eq_true] at h
      | [_, _], _ :: _ :: _ :: _, h => simp only [chkE, Bool.false_eq_true] at h
    | _ => simp only [chkE, Bool.false_eq_true] at h
  | .ite c a b, X, Ex, x, hC, h => by
    cases x <;> simp only [chkE, Bool.false_eq_true] at h
    rw [Bool.and_eq_true, Bool.and_eq_true] at h
    exact e_ite (sT P n c X Ex _ hC h.1.1) (sE P n a X Ex _ hC h.1.2) (sE P n b X Ex _ hC h.2)
  | .tup es, X, Ex, x, hC, h => by
    cases x <;> simp only [chkE, Bool.false_eq_true] at h
    rw [Bool.and_eq_true] at h
    exact e_tup (fun env S xs S' q => by rw [denA_len q]; exact Nat.le_trans (of_decide_eq_true h.1) (by decide)) (sA P n es X Ex _ hC h.2)
  | .lst mu es, X, Ex, x, hC, h => by
    cases x <;> simp only [chkE, Bool.false_eq_true] at h
    rw [Bool.and_eq_true] at h
    exact e_lst (fun env S xs S' q => by rw [denA_len q]; exact Nat.le_trans (of_decide_eq_true h.1) (by decide)) (sA P n es X Ex _ hC h.2)
  | .idx a b, X, Ex, x, hC, h => by
    cases x <;> simp only [chkE, Bool.false_eq_true] at h
    rw [Bool.and_eq_true, Bool.and_eq_true] at h
    exact e_idx (slice_plain h.1.1) (sE P n a X Ex _ hC h.1.2) (sE P n b X Ex _ hC h.2)
  | .slc a lo hi, X, Ex, x, hC, h => by
    cases x with
    | Subscript y z p =>
      cases z with
      | Slice l u st q =>
        cases st <;> simp only [chkE, Bool.false_eq_true] at h
        rw [Bool.and_eq_true, Bool.and_eq_true] at h
        exact e_slc (sE P n a X Ex _ hC h.1.1) (sO P n lo X Ex _ hC h.1.2) (sO P n hi X Ex _ hC h.2)
      | _ => simp only [chkE, Bool.false_eq_true] at h
    | _ => simp only [chkE, Bool.false_eq_true] at h
  | .rev a, X, Ex, x, hC, h => by
    simp only [chkE] at h
    cases q : revP x with
    | none => rw [q] at h; cases h
    | some y =>
      rw [q] at h
      obtain ⟨k, p1, p2, p3, pos, rfl⟩ := revP_ok q
      exact e_rev (sE P n a X Ex _ hC h)
  | .opx o a, X, Ex, x, hC, h => by
    cases o with
    | dget kvs =>
      simp only [chkE] at h
      cases q : dgetP x with
      | none => rw [q] at h; cases h
      | some r =>
        obtain ⟨ks, vs, y⟩ := r
        rw [q] at h
        obtain ⟨p, pos, rfl⟩ := dgetP_ok q
        simp only [Bool.and_eq_true] at h
        obtain ⟨⟨⟨⟨h1, h2⟩, h3⟩, h4⟩, h5⟩ := h
        exact e_dget (by have := hC.hu; omega) h1 (by cases kvs with | nil => cases h2 | cons => simp) (of_decide_eq_true h3) (slice_no h4) (sE P n a X Ex _ hC h5)
    | refu =>
      cases a with
      | tryL b =>
        simp only [chkE, Bool.and_eq_true] at h
        obtain ⟨h0, h⟩ := h
        cases q : lamG P.sig X.N X.env.scope X.fn "_law_refusal" x with
        | none => rw [q] at h; cases h
        | some r =>
          obtain ⟨z, scope⟩ := r
          rw [q] at h
          have k := lamG_ok q
          obtain ⟨ps, bn, p1, p2, p3, rfl, hp, hlo⟩ := k.ex
          refine peImp (e_ref (m := denE (cfg P n) b) (G := P.G tabG) (hC.lam k.own k.fe k.no) (hC.lamR k.own h0 k.fe k.no) (gloB_ok k.glo) k.lam hp hlo fun A outer s H E f c' hr => sE P n b (LamX.lamCx X A outer s H E scope f c') E z (hC.lamC hr) h) fun σ H Q z => rdCongr z fun env => ?_
          simp only [denE]
          rfl
      | _ => simp only [chkE, Bool.false_eq_true] at h
  | .callS f k st es, X, Ex, x, hC, h => by
    cases x with
    | Call g xs kws p =>
      cases g with
      | Name y q =>
        cases kws with
        | cons => simp only [chkE, Bool.false_eq_true] at h
        | nil =>
          simp only [chkE, Bool.and_eq_true] at h
          obtain ⟨hA, hsh, h0, hl⟩ := sSt P n es X Ex st xs hC h.2
          refine peImp (e_callS hC (of_decide_eq_true h.1.1.1) h.1.1.2 h.1.2 hsh hA h0 hl) fun σ H Q z => rdCongr z fun env => ?_
          simp only [denE]
          funext S
          show M.bind _ _ S = M.bind (M.bind _ _) _ S
          cases q1 : noX (denA (cfg P n) es env) S with
          | ok ys S1 =>
            rw [bind_ok q1]
            cases q2 : flatS st ys with
            | none =>
              have w : M.bind (noX (denA (cfg P n) es env)) (fun xs => ofO (flatS st xs)) S = .stuck := by rw [bind_ok q1, q2]; rfl
              rw [bind_stuck w]; rfl
            | some zs =>
              have w : M.bind (noX (denA (cfg P n) es env)) (fun xs => ofO (flatS st xs)) S = .ok zs S1 := by rw [bind_ok q1, q2]; rfl
              rw [bind_ok w]; rfl
          | exc c S1 => rw [bind_exc q1, bind_exc (bind_exc q1)]
          | stuck => rw [bind_stuck q1, bind_stuck (bind_stuck q1)]
      | _ => simp only [chkE, Bool.false_eq_true] at h
    | _ => simp only [chkE, Bool.false_eq_true] at h
  | .tryL a, X, Ex, x, hC, h => by
    rw [chkE] at h
    cases q : lamG P.sig X.N X.env.scope X.fn "_law_try" x with
    | none => rw [q] at h; cases h
    | some r =>
      obtain ⟨z, scope⟩ := r
      rw [q] at h
      have k := lamG_ok q
      obtain ⟨ps, bn, p1, p2, p3, rfl, hp, hlo⟩ := k.ex
      exact e_tryD (m := denE (cfg P n) a) (hC.lam k.own k.fe k.no) (gloB_ok k.glo) k.lam hp hlo fun A outer s H E f c' hr => sE P n a (LamX.lamCx X A outer s H E scope f c') E z (hC.lamC hr) h
  | .call f es, X, Ex, x, hC, h => by
    cases x with
    | Call g xs kws p =>
      cases g with
      | Name y q =>
        cases kws with
        | cons => simp only [chkE, Bool.false_eq_true] at h
        | nil =>
          simp only [chkE, Bool.and_eq_true] at h
          have hA := sA P n es X Ex _ hC h.2
          have hst := chkA_star h.2
          cases es with
          | nil =>
            have hl := chkA_len h.2
            have hx : xs = [] := List.eq_nil_of_length_eq_zero hl
            subst hx
            exact e_call0 hC (of_decide_eq_true h.1.1.1) h.1.1.2 h.1.2
          | cons e es =>
            cases xs with
            | nil => simp [chkA] at h
            | cons y ys => exact e_call hC (of_decide_eq_true h.1.1.1) h.1.1.2 h.1.2 hst hA
      | _ => simp only [chkE, Bool.false_eq_true] at h
    | _ => simp only [chkE, Bool.false_eq_true] at h
  | .callK f es kes perm, X, Ex, x, hC, h => by
    cases x with
    | Call g xs kws p =>
      cases g with
      | Name y q =>
        simp only [chkE, Bool.and_eq_true] at h
        obtain ⟨⟨⟨⟨⟨⟨h1, h2⟩, h3⟩, h4⟩, h5⟩, h6⟩, h7⟩ := h
        have hA := sA P n es X Ex _ hC h4
        have hK := sK P n kes X Ex kws hC h5
        have hn := of_decide_eq_true h1
        have hm7 := of_decide_eq_true h7
        obtain ⟨g1, _, g3⟩ := plainX_ok h3
        obtain ⟨d, hd⟩ := hC.has f y hn
        obtain ⟨adr, fd, ps, hm, hk, hb, hkb, hps, F⟩ := (hC.fns f y hn).ex
        have hx : Passes (CX X.prog X.w) X Ex := passes_call hC.tk fun _ _ _ _ z => z
        obtain ⟨k1, k2, k3⟩ := kw_all (env := X.env) (pos := p) h6
        have kb : KBn X.K fd ps (lenE es) (kws.filterMap (·.arg)) (fun us ws => pick perm (us ++ ws)) (fun vs zs => pick perm (vs ++ zs)) :=
          ⟨fun s us ws _ l1 l2 => hkb _ _ _ hm7 s us ws l1 l2, fun r1 r2 => vals_pick (r1.append r2) perm⟩
        have key : ∀ {t : TA} (σ : L2.St) (H : Hp) (Q : VK), (∀ R, tA X.K Ex (denA (cfg P n) es) σ H R → t σ H R) → tE X.K Ex (denE (cfg P n) (.callK f es kes perm)) σ H Q →
            tCallN (lenE es) (kws.filterMap (·.arg)).length (spN P X.K n f) (fun vs zs => pick perm (vs ++ zs)) Ex t (tA X.K Ex (denA (cfg P n) kes)) σ H Q := by
          intro t σ H Q ht h
          apply ht
          have h' : rd X.K Ex (Rep X.K) (fun env => M.bind (denA (cfg P n) es env) fun xs => M.bind (denA (cfg P n) kes env) fun zs => (cfg P n).call f (pick perm (xs ++ zs))) σ H Q := h
          obtain ⟨ω, S, env, hS, hE, hP⟩ := h'
          refine ⟨ω, S, env, hS, hE, ?_⟩
          have hP : Post X.K Ex (Rep X.K) ω H (M.bind (denA (cfg P n) es env) (fun xs => M.bind (denA (cfg P n) kes env) fun zs => (cfg P n).call f (pick perm (xs ++ zs))) S) Q := hP
          cases qa : denA (cfg P n) es env S with
          | exc c S1 => rw [bind_exc qa] at hP; exact hP
          | stuck => rw [bind_stuck qa] at hP; exact False.elim hP
          | ok ys S1 =>
            rw [bind_ok qa] at hP
            refine fun ω1 H1 vs l1 s1 r1 => ⟨ω1, S1, env, s1, hE.mono l1, ?_⟩
            have hP := hP.mono l1
            cases qz : denA (cfg P n) kes env S1 with
            | exc c S2 => rw [bind_exc qz] at hP; exact hP
            | stuck => rw [bind_stuck qz] at hP; exact False.elim hP
            | ok zs S2 =>
              rw [bind_ok qz] at hP
              refine fun ω2 H2 ws l2 s2 r2 => ⟨?_, ?_, ω2, S2, pick perm (ys ++ zs), d, s2, ((r1.mono l2).append r2).pick perm, hd, call_par hd (hP.mono l2), hP.mono l2⟩
              · rw [r1.length]; exact denA_len qa
              · rw [r2.length, denA_len qz, ← chkA_len h5, List.length_map]
                exact (kw_len h6).symm
        by_cases he : xs = []
        · subst he
          have hl := chkA_len h4
          cases es with
          | cons => simp [lenE] at hl
          | nil =>
            refine peImp (pe_callKW F hC.room (gloB_ok h2) hm hk kb hx pa_nil hK k1 k3 g1 rfl k2 (.inl rfl) (fun _ => rfl)) fun σ H Q q => key σ H Q (fun R z => ?_) q
            obtain ⟨ω, S, env, hS, hE, hP⟩ := z
            have hP : Post X.K Ex (Reps X.K) ω H (.ok [] S) R := hP
            exact Post.ok hP hS .nil
        · exact peImp (pe_callKW F hC.room (gloB_ok h2) hm hk kb hx hA hK k1 k3 g1 (chkA_star h4) k2 (.inr he) (fun z => absurd z he)) fun σ H Q q => key σ H Q (fun R z => z) q
      | _ => simp only [chkE, Bool.false_eq_true] at h
    | _ => simp only [chkE, Bool.false_eq_true] at h
  | .bi b es, X, Ex, x, hC, h => by
    cases x with
    | Call g xs kws p =>
      cases g with
      | Name y q =>
        cases kws with
        | cons => cases xs <;> simp only [chkE, Bool.false_eq_true] at h
        | nil =>
          cases xs with
          | nil => simp only [chkE, Bool.false_eq_true] at h
          | cons z zs =>
            simp only [chkE, Bool.and_eq_true] at h
            have := of_decide_eq_true h.1.1.1
            subst this
            exact e_biAll hC h.1.1.2 h.1.2 (chkA_star h.2) (sA P n es X Ex _ hC h.2)
      | _ => simp only [chkE, Bool.false_eq_true] at h
    | _ => simp only [chkE, Bool.false_eq_true] at h
  | .isi a t, X, Ex, x, hC, h => by
    cases x with
    | Call g xs kws p =>
      cases g with
      | Name y q =>
        match xs, kws, h with
        | [z, .Name w r], [], h =>
          simp only [chkE, Bool.and_eq_true] at h
          obtain ⟨⟨⟨⟨⟨h1, h2⟩, h3⟩, h4⟩, h5⟩, h6⟩ := h
          have e1 := of_decide_eq_true h1
          have e2 := of_decide_eq_true h3
          subst e1 e2
          obtain ⟨g1, _, g3⟩ := plainX_ok (ty_plain t)
          exact e_isi (gloB_ok h2) (hC.free _ (by decide +kernel)) isi_boot (by decide +kernel) (by decide +kernel) (gloB_ok h4) (hC.free _ (ty_free t)) (ty_boot t) g3 g1 (star_cons h5) (sE P n a X Ex _ hC h6)
      | _ => simp only [chkE, Bool.false_eq_true] at h
    | _ => simp only [chkE, Bool.false_eq_true] at h
  | .mth m o es, X, Ex, x, hC, h => by
    cases x with
    | Call g xs kws p =>
      cases g with
      | Attribute y nm q =>
        cases kws with
        | cons => simp only [chkE, Bool.false_eq_true] at h
        | nil =>
          simp only [chkE, Bool.and_eq_true] at h
          obtain ⟨⟨⟨⟨⟨h1, h2⟩, h3⟩, h4⟩, h5⟩, h6⟩ := h
          have e1 := of_decide_eq_true h1
          subst e1
          have hO := sE P n o X Ex _ hC h5
          have hA := sA P n es X Ex _ hC h6
          have hst := chkA_star h6
          cases es with
          | nil =>
            have hl := chkA_len h6
            have hx : xs = [] := List.eq_nil_of_length_eq_zero hl
            subst hx
            exact e_mth0 (call_base h2) h3 hO
          | cons e es =>
            cases xs with
            | nil => simp [chkA] at h6
            | cons z zs =>
              have hst' := hst
              rw [List.all_cons, Bool.and_eq_true] at hst'
              refine e_mth (call_base h2) ?_ h3 (star_cons hst'.1) (star_any hst'.2) hO hA
              rw [star_all hst]
              have : (z :: zs).length < 29 := of_decide_eq_true h4
              show (true && true && decide ((z :: zs).length + 0 + 0 < 30)) = true
              rw [decide_eq_true (by omega)]; rfl
      | _ => simp only [chkE, Bool.false_eq_true] at h
    | _ => simp only [chkE, Bool.false_eq_true] at h
  | .lc mu elt tg it ifs own, X, Ex, x, hC, h => by
    cases x with
    | ListComp y gs scope p =>
      match gs, h with
      | [⟨g, i, fs, 0⟩], h =>
        simp only [chkE, Bool.and_eq_true] at h
        obtain ⟨⟨⟨⟨⟨⟨h1, h2⟩, h3⟩, h4⟩, h5⟩, h6⟩, h7⟩ := h
        have ho : ∀ i ∈ tgs tg, i ∈ own := of_decide_eq_true h2
        have hI := sI P n it X Ex g i hC h4
        refine peImp (pe_lc (own := ownP X.N own) (g := gOf X.K tg) (tt := tT X.K E0 (denT (cfg P n) ifs)) (te := tE X.K E0 (denE (cfg P n) elt)) hC.calm hC.nd hI (blkOk_by h1)
          (fun s H C cl fp => g_tg (X := X.blk s H scope (compEnvC scope cl C X.env) fp) hC.calm hC.nd h5)
          (fun s H C cl fp => sTs P n ifs (X.blk s H scope (compEnvC scope cl C X.env) fp) E0 _ (hC.blk s H scope _ fp) h6)
          (fun s H C cl fp => sE P n elt (X.blk s H scope (compEnvC scope cl C X.env) fp) E0 _ (hC.blk s H scope _ fp) h7) (set_fold h3)) fun σ H Q q => ?_
        rw [ownP_snd]
        exact lc_ok ho q
    | _ => simp only [chkE, Bool.false_eq_true] at h
theorem sT (P : Prg) (n : Nat) : ∀ (e : E) (X : Cx) (Ex : XK) (x : Expr), Cn P n Ex X → chkT P.sig X.N X.env.scope X.fn e x = true → PT X x (tT X.K Ex (tst (denE (cfg P n) e)))
  | .not a, X, Ex, x, hC, h => by
    cases x with
    | UnaryOp o y p =>
      cases o <;> simp only [chkT, Bool.false_eq_true] at h
      exact t_not (sT P n a X Ex _ hC h)
    | _ => simp only [chkT, Bool.false_eq_true] at h
  | .and a b, X, Ex, x, hC, h => by
    cases x with
    | BoolOp o es p =>
      match o, es, h with
      | .And, y :: z :: [], h =>
        simp only [chkT, Bool.and_eq_true] at h
        exact (w_and (sT P n a X Ex _ hC h.1) (w_and1 (sT P n b X Ex _ hC h.2))).pt
      | .And, y :: z :: w :: r, h =>
        simp only [chkT, Bool.and_eq_true] at h
        exact (w_and (sT P n a X Ex _ hC h.1) (sW P n b X Ex .And (z :: w :: r) p hC h.2)).pt
      | .And, [], h => simp only [chkT, Bool.false_eq_true] at h
      | .And, [_], h => simp only [chkT, Bool.false_eq_true] at h
      | .Or, _, h => simp only [chkT, Bool.false_eq_true] at h
    | _ => simp only [chkT, Bool.false_eq_true] at h
  | .or a b, X, Ex, x, hC, h => by
    cases x with
    | BoolOp o es p =>
      match o, es, h with
      | .Or, y :: z :: [], h =>
        simp only [chkT, Bool.and_eq_true] at h
        exact (w_or (sT P n a X Ex _ hC h.1) (w_or1 (sT P n b X Ex _ hC h.2))).pt
      | .Or, y :: z :: w :: r, h =>
        simp only [chkT, Bool.and_eq_true] at h
        exact (w_or (sT P n a X Ex _ hC h.1) (sW P n b X Ex .Or (z :: w :: r) p hC h.2)).pt
      | .Or, [], h => simp only [chkT, Bool.false_eq_true] at h
      | .Or, [_], h => simp only [chkT, Bool.false_eq_true] at h
      | .And, _, h => simp only [chkT, Bool.false_eq_true] at h
    | _ => simp only [chkT, Bool.false_eq_true] at h
  | .cmp op a b, X, Ex, x, hC, h => by
    cases x with
    | Compare l ops cs p =>
      match ops, cs, h with
      | [o], [y], h =>
        simp only [chkT, Bool.and_eq_true] at h
        have := of_decide_eq_true h.1.1.1
        subst this
        exact t_cmp hC.hu (set_marks h.1.1.2) (sE P n a X Ex _ hC h.1.2) (sE P n b X Ex _ hC h.2)
      | [], _, h => simp only [chkT, Bool.false_eq_true] at h
      | _ :: _ :: _, _, h => simp only [chkT, Bool.false_eq_true] at h
      | [_], [], h => simp only [chkT, Bool.false_eq_true] at h
      | [_], _ :: _ :: _, h => simp only [chkT, Bool.false_eq_true] at h
    | _ => simp only [chkT, Bool.false_eq_true] at h
  | .chain op op' a b c, X, Ex, x, hC, h => by
    cases x with
    | Compare l ops cs p =>
      match ops, cs, h with
      | [o, o'], [y, z], h =>
        simp only [chkT, Bool.and_eq_true] at h
        have e1 := of_decide_eq_true h.1.1.1.1.1
        have e2 := of_decide_eq_true h.1.1.1.1.2
        subst e1 e2
        exact t_chain hC.hu (set_marks h.1.1.1.2) (sE P n a X Ex _ hC h.1.1.2) (sE P n b X Ex _ hC h.1.2) (sE P n c X Ex _ hC h.2)
      | [], _, h => simp only [chkT, Bool.false_eq_true] at h
      | [_], _, h => simp only [chkT, Bool.false_eq_true] at h
      | _ :: _ :: _ :: _, _, h => simp only [chkT, Bool.false_eq_true] at h
      | [_, _], [], h => simp only [chkT, Bool.false_eq_true] at h
      | [_, _], [_], h => simp only [chkT, Bool.false_eq_true] at h
      | [_, _], _ :: _ :: _ :: _, h => simp only [chkT, Bool.false_eq_true] at h
    | _ => simp only [chkT, Bool.false_eq_true] at h
  | .var i, X, Ex, x, hC, h => by
    cases x <;> simp only [chkT, Bool.false_eq_true] at h
    rw [Bool.and_eq_true, Bool.and_eq_true] at h
    obtain ⟨h1, h2, _⟩ := plainX_ok h.2
    exact t_of (e_var (of_decide_eq_true h.1.1) (visB_ok h.1.2) h1 h2) (plain_true rfl)
  | .bl b, X, Ex, x, hC, h => by
    cases x with
    | Constant c k p =>
      cases c <;> simp only [chkT, Bool.false_eq_true] at h
      have := eq_of_beq h
      subst this
      exact t_of (e_const pe_bl fun _ _ => rep_bl) (plain_true rfl)
    | _ => simp only [chkT, Bool.false_eq_true] at h
  | .idx a b, X, Ex, x, hC, h => by
    cases x <;> simp only [chkT, Bool.false_eq_true] at h
    rw [Bool.and_eq_true, Bool.and_eq_true] at h
    exact t_of (e_idx (slice_plain h.1.1) (sE P n a X Ex _ hC h.1.2) (sE P n b X Ex _ hC h.2)) (plain_true rfl)
  | .call f es, X, Ex, x, hC, h => by
    cases x with
    | Call g xs kws p =>
      cases g with
      | Name y q =>
        cases kws with
        | cons => simp only [chkT, Bool.false_eq_true] at h
        | nil =>
          simp only [chkT, Bool.and_eq_true] at h
          have hA := sA P n es X Ex _ hC h.2
          have hst := chkA_star h.2
          cases es with
          | nil =>
            have hl := chkA_len h.2
            have hx : xs = [] := List.eq_nil_of_length_eq_zero hl
            subst hx
            exact t_of (e_call0 hC (of_decide_eq_true h.1.1.1) h.1.1.2 h.1.2) (plain_true rfl)
          | cons e es =>
            cases xs with
            | nil => simp [chkA] at h
            | cons y ys => exact t_of (e_call hC (of_decide_eq_true h.1.1.1) h.1.1.2 h.1.2 hst hA) (plain_true rfl)
      | _ => simp only [chkT, Bool.false_eq_true] at h
    | _ => simp only [chkT, Bool.false_eq_true] at h
  | .bi b es, X, Ex, x, hC, h => by
    cases x with
    | Call g xs kws p =>
      cases g with
      | Name y q =>
        cases kws with
        | cons => cases xs <;> simp only [chkT, Bool.false_eq_true] at h
        | nil =>
          cases xs with
          | nil => simp only [chkT, Bool.false_eq_true] at h
          | cons z zs =>
            simp only [chkT, Bool.and_eq_true] at h
            have := of_decide_eq_true h.1.1.1
            subst this
            exact t_of (e_biAll hC h.1.1.2 h.1.2 (chkA_star h.2) (sA P n es X Ex _ hC h.2)) (plain_true rfl)
      | _ => simp only [chkT, Bool.false_eq_true] at h
    | _ => simp only [chkT, Bool.false_eq_true] at h
  | .isi a t, X, Ex, x, hC, h => by
    cases x with
    | Call g xs kws p =>
      cases g with
      | Name y q =>
        match xs, kws, h with
        | [z, .Name w r], [], h =>
          simp only [chkT, Bool.and_eq_true] at h
          obtain ⟨⟨⟨⟨⟨h1, h2⟩, h3⟩, h4⟩, h5⟩, h6⟩ := h
          have e1 := of_decide_eq_true h1
          have e2 := of_decide_eq_true h3
          subst e1 e2
          obtain ⟨g1, _, g3⟩ := plainX_ok (ty_plain t)
          exact t_of (e_isi (gloB_ok h2) (hC.free _ (by decide +kernel)) isi_boot (by decide +kernel) (by decide +kernel) (gloB_ok h4) (hC.free _ (ty_free t)) (ty_boot t) g3 g1 (star_cons h5) (sE P n a X Ex _ hC h6)) (plain_true rfl)
      | _ => simp only [chkT, Bool.false_eq_true] at h
    | _ => simp only [chkT, Bool.false_eq_true] at h
  | .int i, X, Ex, x, hC, h => by simp only [chkT, Bool.false_eq_true] at h
  | .str i, X, Ex, x, hC, h => by simp only [chkT, Bool.false_eq_true] at h
  | .non, X, Ex, x, hC, h => by simp only [chkT, Bool.false_eq_true] at h
  | .glb i, X, Ex, x, hC, h => by simp only [chkT, Bool.false_eq_true] at h
  | .bin _ _ _, X, Ex, x, hC, h => by simp only [chkT, Bool.false_eq_true] at h
  | .neg _, X, Ex, x, hC, h => by simp only [chkT, Bool.false_eq_true] at h
  | .ite _ _ _, X, Ex, x, hC, h => by simp only [chkT, Bool.false_eq_true] at h
  | .tup _, X, Ex, x, hC, h => by simp only [chkT, Bool.false_eq_true] at h
  | .lst _ _, X, Ex, x, hC, h => by simp only [chkT, Bool.false_eq_true] at h
  | .slc _ _ _, X, Ex, x, hC, h => by simp only [chkT, Bool.false_eq_true] at h
  | .rev _, X, Ex, x, hC, h => by simp only [chkT, Bool.false_eq_true] at h
  | .opx _ _, X, Ex, x, hC, h => by simp only [chkT, Bool.false_eq_true] at h
  | .callS _ _ _ _, X, Ex, x, hC, h => by simp only [chkT, Bool.false_eq_true] at h
  | .tryL _, X, Ex, x, hC, h => by simp only [chkT, Bool.false_eq_true] at h
  | .callK _ _ _ _, X, Ex, x, hC, h => by simp only [chkT, Bool.false_eq_true] at h
  | .mth _ _ _, X, Ex, x, hC, h => by simp only [chkT, Bool.false_eq_true] at h
  | .lc _ _ _ _ _ _, X, Ex, x, hC, h => by simp only [chkT, Bool.false_eq_true] at h
/-- the rest of an and, of an or, as a test -/
theorem sW (P : Prg) (n : Nat) : ∀ (e : E) (X : Cx) (Ex : XK) (o : BoolOp) (es : List Expr) (p : Pos), Cn P n Ex X → chkT P.sig X.N X.env.scope X.fn e (.BoolOp o es p) = true → PW X (.BoolOp o es p) (tT X.K Ex (tst (denE (cfg P n) e)))
  | .and a b, X, Ex, o, es, p, hC, h => by
    match o, es, h with
    | .And, y :: z :: [], h =>
      simp only [chkT, Bool.and_eq_true] at h
      exact w_and (sT P n a X Ex _ hC h.1) (w_and1 (sT P n b X Ex _ hC h.2))
    | .And, y :: z :: w :: r, h =>
      simp only [chkT, Bool.and_eq_true] at h
      exact w_and (sT P n a X Ex _ hC h.1) (sW P n b X Ex .And (z :: w :: r) p hC h.2)
    | .And, [], h => simp only [chkT, Bool.false_eq_true] at h
    | .And, [_], h => simp only [chkT, Bool.false_eq_true] at h
    | .Or, _, h => simp only [chkT, Bool.false_eq_true] at h
  | .or a b, X, Ex, o, es, p, hC, h => by
    match o, es, h with
    | .Or, y :: z :: [], h =>
      simp only [chkT, Bool.and_eq_true] at h
      exact w_or (sT P n a X Ex _ hC h.1) (w_or1 (sT P n b X Ex _ hC h.2))
    | .Or, y :: z :: w :: r, h =>
      simp only [chkT, Bool.and_eq_true] at h
      exact w_or (sT P n a X Ex _ hC h.1) (sW P n b X Ex .Or (z :: w :: r) p hC h.2)
    | .Or, [], h => simp only [chkT, Bool.false_eq_true] at h
    | .Or, [_], h => simp only [chkT, Bool.false_eq_true] at h
    | .And, _, h => simp only [chkT, Bool.false_eq_true] at h
  | .not _, X, Ex, o, es, p, hC, h => by simp only [chkT, Bool.false_eq_true] at h
  | .cmp _ _ _, X, Ex, o, es, p, hC, h => by simp only [chkT, Bool.false_eq_true] at h
  | .chain _ _ _ _ _, X, Ex, o, es, p, hC, h => by simp only [chkT, Bool.false_eq_true] at h
  | .var _, X, Ex, o, es, p, hC, h => by simp only [chkT, Bool.false_eq_true] at h
  | .bl _, X, Ex, o, es, p, hC, h => by simp only [chkT, Bool.false_eq_true] at h
  | .idx _ _, X, Ex, o, es, p, hC, h => by simp only [chkT, Bool.false_eq_true] at h
  | .call _ _, X, Ex, o, es, p, hC, h => by simp only [chkT, Bool.false_eq_true] at h
  | .bi _ _, X, Ex, o, es, p, hC, h => by simp only [chkT, Bool.false_eq_true] at h
  | .isi _ _, X, Ex, o, es, p, hC, h => by simp only [chkT, Bool.false_eq_true] at h
  | .int i, X, Ex, o, es, p, hC, h => by simp only [chkT, Bool.false_eq_true] at h
  | .str i, X, Ex, o, es, p, hC, h => by simp only [chkT, Bool.false_eq_true] at h
  | .non, X, Ex, o, es, p, hC, h => by simp only [chkT, Bool.false_eq_true] at h
  | .glb i, X, Ex, o, es, p, hC, h => by simp only [chkT, Bool.false_eq_true] at h
  | .bin _ _ _, X, Ex, o, es, p, hC, h => by simp only [chkT, Bool.false_eq_true] at h
  | .neg _, X, Ex, o, es, p, hC, h => by simp only [chkT, Bool.false_eq_true] at h
  | .ite _ _ _, X, Ex, o, es, p, hC, h => by simp only [chkT, Bool.false_eq_true] at h
  | .tup _, X, Ex, o, es, p, hC, h => by simp only [chkT, Bool.false_eq_true] at h
  | .lst _ _, X, Ex, o, es, p, hC, h => by simp only [chkT, Bool.false_eq_true] at h
  | .slc _ _ _, X, Ex, o, es, p, hC, h => by simp only [chkT, Bool.false_eq_true] at h
  | .rev _, X, Ex, o, es, p, hC, h => by simp only [chkT, Bool.false_eq_true] at h
  | .opx _ _, X, Ex, o, es, p, hC, h => by simp only [chkT, Bool.false_eq_true] at h
  | .callS _ _ _ _, X, Ex, o, es, p, hC, h => by simp only [chkT, Bool.false_eq_true] at h
  | .tryL _, X, Ex, o, es, p, hC, h => by simp only [chkT, Bool.false_eq_true] at h
  | .callK _ _ _ _, X, Ex, o, es, p, hC, h => by simp only [chkT, Bool.false_eq_true] at h
  | .mth _ _ _, X, Ex, o, es, p, hC, h => by simp only [chkT, Bool.false_eq_true] at h
  | .lc _ _ _ _ _ _, X, Ex, o, es, p, hC, h => by simp only [chkT, Bool.false_eq_true] at h
theorem sSt (P : Prg) (n : Nat) : ∀ (es : Es) (X : Cx) (Ex : XK) (st : List Bool) (xs : List Expr), Cn P n Ex X → chkSt P.sig X.N X.env.scope X.fn st es xs = true → PA X xs (tA X.K Ex (flatM st (denA (cfg P n) es))) ∧ ArgSh st xs ∧
    (xs = [] → denA (cfg P n) es = fun _ => M.pure []) ∧ (∀ a q, xs = [.Starred a q] → ∃ ma : Env → M PV, PE X a (tE X.K Ex ma) ∧ denA (cfg P n) es = fun env => M.bind (ma env) fun x => M.bind (M.pure []) fun xs => M.pure (x :: xs))
  | .nil, X, Ex, st, xs, hC, h => by
    simp only [chkSt, Bool.and_eq_true] at h
    have e1 : st = [] := List.isEmpty_iff.mp h.1
    have e2 : xs = [] := List.isEmpty_iff.mp h.2
    subst e1 e2
    exact ⟨f_nil, .nil, fun _ => by funext env; simp only [denA], fun a q z => by cases z⟩
  | .cons e es, X, Ex, st, xs, hC, h => by
    match st, xs, h with
    | true :: st, y :: r, h =>
      cases y with
      | Starred x q =>
        simp only [chkSt, Bool.and_eq_true] at h
        have hE := sE P n e X Ex x hC h.1
        obtain ⟨hA, hsh, h0, hl⟩ := sSt P n es X Ex st r hC h.2
        refine ⟨?_, .star _ _ _ _ hsh, (fun z => by cases z), fun a q z => ?_⟩
        · have := f_star (p := q) hE hA
          simpa only [denA] using this
        · cases z
          exact ⟨_, hE, by funext env; simp only [denA, h0 rfl]⟩
      | _ => simp only [chkSt, Bool.false_eq_true] at h
    | false :: st, x :: r, h =>
      have h : (notStar x && chkE P.sig X.N X.env.scope X.fn e x && chkSt P.sig X.N X.env.scope X.fn st es r) = true := by
        cases x <;> simpa only [chkSt] using h
      simp only [Bool.and_eq_true] at h
      have hE := sE P n e X Ex x hC h.1.2
      obtain ⟨hA, hsh, h0, hl⟩ := sSt P n es X Ex st r hC h.2
      refine ⟨?_, .plain _ _ _ h.1.1 hsh, fun z => (by cases z), fun a q z => ?_⟩
      · have := f_cons (star_cons h.1.1) hE hA
        simpa only [denA] using this
      · cases z; cases h.1.1
    | [], _, h => simp only [chkSt, Bool.false_eq_true] at h
    | true :: _, [], h => simp only [chkSt, Bool.false_eq_true] at h
    | false :: _, [], h => simp only [chkSt, Bool.false_eq_true] at h
theorem sA (P : Prg) (n : Nat) : ∀ (es : Es) (X : Cx) (Ex : XK) (xs : List Expr), Cn P n Ex X → chkA P.sig X.N X.env.scope X.fn es xs = true → PA X xs (tA X.K Ex (denA (cfg P n) es))
  | .nil, X, Ex, xs, hC, h => by
    cases xs with
    | nil => exact a_nil
    | cons => simp [chkA] at h
  | .cons e es, X, Ex, xs, hC, h => by
    cases xs with
    | nil => simp [chkA] at h
    | cons x r =>
      simp only [chkA, Bool.and_eq_true] at h
      exact a_cons (star_cons h.1.1) (sE P n e X Ex _ hC h.1.2) (sA P n es X Ex _ hC h.2)
theorem sK (P : Prg) (n : Nat) : ∀ (es : Es) (X : Cx) (Ex : XK) (kws : List Keyword), Cn P n Ex X → chkA P.sig X.N X.env.scope X.fn es (kws.map (·.value)) = true → PK X kws (tA X.K Ex (denA (cfg P n) es))
  | .nil, X, Ex, kws, hC, h => by
    cases kws with
    | nil => exact ⟨fun pos pins s σ H Q I ⟨ω, S, env, hS, hE, hP⟩ => pk_nil.run pos pins s σ H Q I (Post.ok (v := ([] : List PV)) hP hS .nil)⟩
    | cons => simp [chkA] at h
  | .cons e es, X, Ex, kws, hC, h => by
    cases kws with
    | nil => simp [chkA] at h
    | cons k r =>
      obtain ⟨nm, v, kp⟩ := k
      simp only [List.map_cons, chkA, Bool.and_eq_true] at h
      have h1 := sE P n e X Ex _ hC h.1.2
      have h2 := sK P n es X Ex r hC h.2
      refine ⟨fun pos pins s σ H Q I q => (pk_cons h1 h2).run pos pins s σ H Q I ?_⟩
      have q' : rd X.K Ex (Reps X.K) (fun env => M.bind (denE (cfg P n) e env) fun x => M.bind (denA (cfg P n) es env) fun xs => M.pure (x :: xs)) σ H Q := q
      refine rdImp (rd_bind (Rl := Rep X.K) q') fun x H1 ⟨ω1, S1, env1, v, s1, e1, r1, p1⟩ => ?_
      exact rdImp (rd_next (Rl := Reps X.K) s1 e1 p1) fun y H2 ⟨ω2, S2, w, l2, s2, e2, r2, p2⟩ => Post.ok p2 s2 (.cons (r1.mono l2) r2)
theorem sO (P : Prg) (n : Nat) : ∀ (es : Es) (X : Cx) (Ex : XK) (o : Option Expr), Cn P n Ex X → chkO P.sig X.N X.env.scope X.fn es o = true → PO X o (tO X.K Ex (denO (cfg P n) es))
  | .nil, X, Ex, o, hC, h => by
    cases o with
    | none => exact o_none
    | some => simp [chkO] at h
  | .cons e es, X, Ex, o, hC, h => by
    cases o with
    | none => simp [chkO] at h
    | some x =>
      simp only [chkO] at h
      exact o_some (sE P n e X Ex _ hC h)
theorem sTs (P : Prg) (n : Nat) : ∀ (es : Es) (X : Cx) (Ex : XK) (xs : List Expr), Cn P n Ex X → chkTs P.sig X.N X.env.scope X.fn es xs = true → PTs X xs (tT X.K Ex (denT (cfg P n) es))
  | .nil, X, Ex, xs, hC, h => by
    cases xs with
    | nil => exact ptsImp pts_nil fun σ H Q ⟨ω, S, env, hS, hE, hP⟩ => Post.ok (v := true) hP hS rfl
    | cons => simp [chkTs] at h
  | .cons e es, X, Ex, xs, hC, h => by
    match xs, h with
    | [x], h =>
      simp only [chkTs] at h
      exact pts_one (sT P n e X Ex _ hC h)
    | [], h => simp [chkTs] at h
    | _ :: _ :: _, h => simp [chkTs] at h
theorem sI (P : Prg) (n : Nat) : ∀ (it : I) (X : Cx) (Ex : XK) (g x : Expr), Cn P n Ex X → chkI P.sig X.N X.env.scope X.fn it g x = true → PI X g x (tI X.K Ex (denI (cfg P n) it))
  | .sq e, X, Ex, g, x, hC, h => by
    simp only [chkI] at h
    exact i_sq (sE P n e X Ex _ hC h)
  | .rng es, X, Ex, g, x, hC, h => by
    cases x with
    | Call f xs kws p =>
      cases f with
      | Name y q =>
        cases kws with
        | cons => simp only [chkI, Bool.false_eq_true] at h
        | nil =>
          simp only [chkI, Bool.and_eq_true] at h
          obtain ⟨⟨⟨h1, h2⟩, h3⟩, h4⟩ := h
          have e1 := of_decide_eq_true h1
          subst e1
          have hA := sA P n es X Ex _ hC h4
          have hst := chkA_star h4
          have hl := chkA_len h4
          have hm := hC.free "range" (by decide +kernel)
          match xs, h3, hA, hst, hl with
          | [a], _, hA, hst, hl =>
            rw [List.all_cons, Bool.and_eq_true] at hst
            exact i_rng1 (gloB_ok h2) hm (star_cons hst.1) hA fun env S ys S' q => by rw [denA_len q, ← hl]; rfl
          | [a, b], _, hA, hst, hl =>
            rw [List.all_cons, Bool.and_eq_true, List.all_cons, Bool.and_eq_true] at hst
            exact i_rng2 (gloB_ok h2) hm (by rw [star_cons hst.1, star_cons hst.2.1]; rfl) (star_cons hst.2.1) hA fun env S ys S' q => by rw [denA_len q, ← hl]; rfl
          | [], h3, _, _, _ => simp at h3
          | _ :: _ :: _ :: _, h3, _, _, _ => simp at h3
      | _ => simp only [chkI, Bool.false_eq_true] at h
    | _ => simp only [chkI, Bool.false_eq_true] at h
  | .zip a b, X, Ex, g, x, hC, h => by
    cases g with
    | Tuple elts kk tp =>
      cases x with
      | Call f xs kws p =>
        cases f with
        | Name y q =>
          match xs, kws, h with
          | [z, w], [], h =>
            simp only [chkI, Bool.and_eq_true] at h
            obtain ⟨⟨⟨⟨⟨h1, h2⟩, h3⟩, h4⟩, h5⟩, h6⟩ := h
            have e1 := of_decide_eq_true h1
            subst e1
            exact i_zip (gloB_ok h2) (hC.free "zip" (by decide +kernel)) (star_cons h3) (star_cons h4) (sE P n a X Ex _ hC h5) (sE P n b X Ex _ hC h6)
          | [], _, h => simp only [chkI, Bool.false_eq_true] at h
          | [_], _, h => simp only [chkI, Bool.false_eq_true] at h
          | [_, _], _ :: _, h => simp only [chkI, Bool.false_eq_true] at h
          | _ :: _ :: _ :: _, _, h => simp only [chkI, Bool.false_eq_true] at h
        | _ => simp only [chkI, Bool.false_eq_true] at h
      | _ => simp only [chkI, Bool.false_eq_true] at h
    | _ => cases x <;> simp only [chkI, Bool.false_eq_true] at h
  | .enum a, X, Ex, g, x, hC, h => by
    cases g with
    | Tuple elts kk tp =>
      cases x with
      | Call f xs kws p =>
        cases f with
        | Name y q =>
          match xs, kws, h with
          | [z], [], h =>
            simp only [chkI, Bool.and_eq_true] at h
            obtain ⟨⟨⟨h1, h2⟩, h3⟩, h4⟩ := h
            have e1 := of_decide_eq_true h1
            subst e1
            exact i_enum (gloB_ok h2) (hC.free "enumerate" (by decide +kernel)) (star_cons h3) (sE P n a X Ex _ hC h4)
          | [], _, h => simp only [chkI, Bool.false_eq_true] at h
          | [_], _ :: _, h => simp only [chkI, Bool.false_eq_true] at h
          | _ :: _ :: _, _, h => simp only [chkI, Bool.false_eq_true] at h
        | _ => simp only [chkI, Bool.false_eq_true] at h
      | _ => simp only [chkI, Bool.false_eq_true] at h
    | _ => cases x <;> simp only [chkI, Bool.false_eq_true] at h
end
end Mi
set_option Elab.async false
set_option linter.all false
set_option maxRecDepth 100000
namespace Mi
open PySem PySem.Spec PyProof.Rows L2
theorem psImp {X : Cx} {x : Stmt} {t t' : TS} (h : PS X x t) (f : ∀ D σ H, t' D σ H → t D σ H) : PS X x t' := ⟨fun pins s σ H D I q => h.run pins s σ H D I (f D σ H q)⟩
theorem pssImp {X : Cx} {x : List Stmt} {t t' : TS} (h : PSs X x t) (f : ∀ D σ H, t' D σ H → t D σ H) : PSs X x t' := ⟨fun pins s σ H D I q => h.run pins s σ H D I (f D σ H q)⟩
section
variable {X : Cx} {E : XK} {pos : Pos} {me : Env → M PV} {e : Expr}
theorem s_expr (hn : notComp e = true) (he : PE X e (tE X.K E me)) : PS X (.Expr e pos) (tS X.K E (fun env => M.bind (me env) fun _ => M.pure (.nx env))) := by
  refine psImp (ps_expr he (comp_swaps hn)) fun D σ H h => ?_
  refine rdImp (rd_bind (Rl := Rep X.K) h) fun x H1 ⟨ω1, S1, env1, v, s1, e1, r1, p1⟩ => ?_
  exact Post.ok (v := Fl.nx env1) (x := FlV.nx σ) p1 s1 e1
theorem s_ret (he : PE X e (tE X.K E me)) : PS X (.Return (some e) pos) (tS X.K E (fun env => M.bind (me env) fun x => M.pure (.rt x))) := by
  refine psImp (ps_ret he) fun D σ H h => ?_
  refine rdImp (rd_bind (Rl := Rep X.K) h) fun x H1 ⟨ω1, S1, env1, v, s1, e1, r1, p1⟩ => ?_
  exact Post.ok (v := Fl.rt v) (x := FlV.rt x) p1 s1 r1
theorem s_retN : PS X (.Return none pos) (tS X.K E (fun _ => M.pure (.rt .non))) := by
  refine psImp ps_retN fun D σ H ⟨ω, S, env, hS, hE, hP⟩ => ?_
  exact Post.ok (v := Fl.rt .non) (x := FlV.rt .non) hP hS (rep_non (K := X.K) (ω := ω) (H := H))
theorem s_pass : PS X (.Pass pos) (tS X.K E (fun env => M.pure (.nx env))) := by
  refine psImp ps_pass fun D σ H ⟨ω, S, env, hS, hE, hP⟩ => ?_
  exact Post.ok (v := Fl.nx env) (x := FlV.nx σ) hP hS hE
theorem s_brk : PS X (.Break pos) (tS X.K E (fun env => M.pure (.bk env))) := by
  refine psImp ps_break fun D σ H ⟨ω, S, env, hS, hE, hP⟩ => ?_
  exact Post.ok (v := Fl.bk env) (x := FlV.bk σ) hP hS hE
theorem s_cont : PS X (.Continue pos) (tS X.K E (fun env => M.pure (.ct env))) := by
  refine psImp ps_continue fun D σ H ⟨ω, S, env, hS, hE, hP⟩ => ?_
  exact Post.ok (v := Fl.ct env) (x := FlV.ct σ) hP hS hE
theorem s_dead {st : Stmt} : PS X st (tS X.K E (fun _ => stuck)) := psImp ps_never fun D σ H ⟨ω, S, env, hS, hE, hP⟩ => hP
theorem ss_nil : PSs X [] (tS X.K E (fun env => M.pure (.nx env))) := by
  refine pssImp pss_nil fun D σ H ⟨ω, S, env, hS, hE, hP⟩ => ?_
  exact Post.ok (v := Fl.nx env) (x := FlV.nx σ) hP hS hE
def seqM (m m' : Env → M Fl) : Env → M Fl := fun env => M.bind (m env) fun f => (match f with
    | .nx e => m' e
    | g => M.pure g)
theorem ss_cons {st : Stmt} {rest : List Stmt} {m m' : Env → M Fl} (h1 : PS X st (tS X.K E m)) (h2 : PSs X rest (tS X.K E m')) : PSs X (st :: rest) (tS X.K E (seqM m m')) := by
  refine pssImp (pss_cons h1 h2) fun D σ H h => ?_
  refine rdImp (rd_bind (Rl := RelF X.K) h) fun x H1 ⟨ω1, S1, env1, f, s1, e1, r1, p1⟩ => ?_
  cases f with
  | nx e =>
    cases x with
    | nx σ' => exact ⟨ω1, S1, e, s1, r1, p1⟩
    | _ => exact False.elim r1
  | rt v =>
    cases x with
    | rt y =>
      have z : QF D (FlV.rt y) H1 := Post.ok (v := Fl.rt v) (x := FlV.rt y) p1 s1 r1
      exact z
    | _ => exact False.elim r1
  | bk e =>
    cases x with
    | bk σ' =>
      have z : QF D (FlV.bk σ') H1 := Post.ok (v := Fl.bk e) (x := FlV.bk σ') p1 s1 r1
      exact z
    | _ => exact False.elim r1
  | ct e =>
    cases x with
    | ct σ' =>
      have z : QF D (FlV.ct σ') H1 := Post.ok (v := Fl.ct e) (x := FlV.ct σ') p1 s1 r1
      exact z
    | _ => exact False.elim r1
theorem s_if {c : Expr} {a b : List Stmt} {mc : Env → M PV} {m m' : Env → M Fl} (hc : PT X c (tT X.K E (tst mc))) (h1 : PSs X a (tS X.K E m)) (h2 : PSs X b (tS X.K E m')) :
    PS X (.If c a b pos) (tS X.K E (fun env => M.bind (mc env) fun x => M.bind (ofBl x) fun k => if k then m env else m' env)) := by
  refine psImp (ps_if hc h1 h2) fun D σ H h => ?_
  have h' : rd X.K E (RelF X.K) (fun env => M.bind (tst mc env) fun k => if k then m env else m' env) σ H (QF D) := by
    refine rdCongr h fun env => ?_
    simp only [tst, M.bind_assoc]
  refine rdImp (rd_bind (Rl := eqR) h') fun x H1 ⟨ω1, S1, env1, v, s1, e1, r1, p1⟩ => ?_
  have r1 : v = x := r1
  subst r1
  cases v with
  | true => rw [if_pos rfl]; exact ⟨ω1, S1, env1, s1, e1, p1⟩
  | false => rw [if_neg (by decide)]; exact ⟨ω1, S1, env1, s1, e1, p1⟩
abbrev asgM (me : Env → M PV) (tg : Tg) : Env → M Fl := fun env => M.bind (me env) fun x => M.bind (ofO (bindT tg x env)) fun env' => M.pure (.nx env')
theorem asg_ok {me : Env → M PV} {tg : Tg} {D : Ends} {σ : L2.St} {H : Hp} (h : tS X.K E (asgM me tg) D σ H) : tAsg (tE X.K E me) (gOf X.K tg) D σ H := by
  refine rdImp (rd_bind (Rl := Rep X.K) h) fun x H1 ⟨ω1, S1, env1, v, s1, e1, r1, p1⟩ => ?_
  cases q : bindT tg v env1 with
  | none => rw [q] at p1; exact False.elim p1
  | some env' =>
    rw [q] at p1
    exact bind_g q r1 e1 fun σ' e' _ => Post.ok (v := Fl.nx env') (x := FlV.nx σ') p1 s1 e'
theorem sw_fold {ts vs : List Expr} {kt k2 : Nat} {pt pt2 : Pos} {env : PySem.Env} (h : vs.all (foldedForSure 8) = true) : swappedStores [.Tuple ts kt pt] (.Tuple vs k2 pt2) env = pure none := by
  unfold swappedStores
  dsimp only
  repeat' split
  all_goals first | rfl | (rw [if_pos h]; rfl) | (rename_i z; exact absurd h z) | contradiction
/-- the right side is no comprehension; not two tuples -/
theorem s_asg {t : Expr} {tg : Tg} (hc : X.calm = true) (hN : X.N.Nodup) (ht : chkTg X.N X.env.scope X.fn tg t = true) (hn : notComp e = true) (h2 : (match t, e with | .Tuple .., .Tuple vs _ _ => vs.all (foldedForSure 8) | _, _ => true) = true) (he : PE X e (tE X.K E me)) :
    PS X (.Assign [t] e pos) (tS X.K E (asgM me tg)) := by
  refine psImp (ps_asg he (g_tg hc hN ht) (comp_swaps hn) ?_ ?_) fun D σ H h => asg_ok h
  · cases t with
    | Name y p => cases e <;> rfl
    | Tuple es k p =>
      cases e <;> first | rfl | exact sw_fold h2
    | _ => cases tg <;> simp [chkTg] at ht
  · cases t with
    | Name y p => rfl
    | Tuple es k p => rfl
    | _ => cases tg <;> simp [chkTg] at ht
/-- a name given a comprehension that is not moved -/
theorem s_setE {i : Nat} {y : Str} {py : Pos} (hN : X.N.Nodup) (hi : X.N[i]? = some y) (hl : locB X.env.scope X.fn y = true) (hs : swapsWith e (some (.Name y py)) pos.line X.env = pure false) (he : PE X e (tE X.K E me)) :
    PS X (.Assign [.Name y py] e pos) (tS X.K E (asgM me (.one i))) := by
  obtain ⟨h1, h2⟩ := locB_ok hl
  exact psImp (ps_set hN hi h1 he hs h2) fun D σ H h => asg_ok (tg := .one i) h
def swB (sc scope : Scope) (y : Str) (py p : Pos) : Bool := decide (sc.names.lookup y = some .local) && (py.line == p.line) && !(scope.names.any fun (n, k) => n == y && (k == .local || k == .cell))
theorem sw_eq {elt : Expr} {gs : List Comprehension} {scope : Scope} {p py : Pos} {y : Str} {l : Nat} {env : PySem.Env} (hk : env.scope.kind = .function) :
    swapsWith (.ListComp elt gs scope p) (some (.Name y py)) l env = pure (swB env.scope scope y py p) := by
  have hb : env.blockKind = .function := by unfold PySem.Env.blockKind; rw [hk]; rfl
  unfold swapsWith swB
  simp only [hb, Expr.pos]
  have e1 : (env.kindOf y == some NameKind.local) = decide (env.scope.names.lookup y = some .local) := by
    unfold PySem.Env.kindOf
    rw [Bool.eq_iff_iff]
    simp
  rw [e1]
  rfl
theorem star_f (a : Expr) (h : notStar a = true) : (match (generalizing := false) a with | .Starred _ _ => true | _ => false) = false := by cases a <;> first | rfl | cases h
theorem sw_par {x y : Str} {px py pt pt2 : Pos} {kt k2 : Nat} {a b : Expr} {env : PySem.Env} (hk : env.scope.kind = .function) (hx : env.scope.names.lookup x = some .local) (hy : env.scope.names.lookup y = some .local) (hl : (py.line == px.line) = true) (hne : (x == y) = false)
    (na : notStar a = true) (nb : notStar b = true) (h1 : (foldedForSure 8 a && foldedForSure 8 b) = false) (h2 : (constantsAlone 8 a && constantsAlone 8 b) = false) :
    swappedStores [.Tuple [.Name x px, .Name y py] kt pt] (.Tuple [a, b] k2 pt2) env = pure (some [x, y]) := by
  have hb : env.blockKind = .function := by unfold PySem.Env.blockKind; rw [hk]; rfl
  have kx : env.kindOf x = some .local := hx
  have ky : env.kindOf y = some .local := hy
  have sa := star_f a na
  have sb := star_f b nb
  have hne' : (y == x) = false := by
    rw [Bool.eq_false_iff] at hne ⊢
    simp at hne ⊢
    exact fun e => hne e.symm
  have hl' : py.line = px.line := by simpa using hl
  have hxy : ¬ x = y := by simpa using hne
  have hyx : ¬ y = x := fun e => hxy e.symm
  unfold swappedStores
  simp only [hb, List.any_cons, List.any_nil, List.all_cons, List.all_nil, Bool.and_true, h1, h2]
  simp only [List.filterMap_cons, List.filterMap_nil, List.head?_cons, Option.map_some, Option.getD_some, Expr.pos, kx, ky, hl', beq_self_eq_true, Bool.and_true, if_true]
  simp [List.eraseDups, List.eraseDupsBy, List.eraseDupsBy.loop, hxy, hyx]
  rw [hne']
  rw [if_neg]
  · rfl
  · intro h
    clear h1 h2 sa sb
    rcases h with h | h
    · revert h na; cases a <;> simp [notStar]
    · revert h nb; cases b <;> simp [notStar]
theorem sw_par3 {x y z : Str} {px py pz pt pt2 : Pos} {kt k2 : Nat} {a b c : Expr} {env : PySem.Env} (hk : env.scope.kind = .function) (hx : env.scope.names.lookup x = some .local) (hy : env.scope.names.lookup y = some .local) (hz : env.scope.names.lookup z = some .local)
    (hl : (py.line == px.line) = true) (hlz : (pz.line == px.line) = true) (hne : (x == y) = false) (hnz : (x == z) = false) (hyz : (y == z) = false)
    (na : notStar a = true) (nb : notStar b = true) (nc : notStar c = true) (h1 : (foldedForSure 8 a && (foldedForSure 8 b && foldedForSure 8 c)) = false) (h2 : (constantsAlone 8 a && (constantsAlone 8 b && constantsAlone 8 c)) = false) :
    swappedStores [.Tuple [.Name x px, .Name y py, .Name z pz] kt pt] (.Tuple [a, b, c] k2 pt2) env = pure (some [x, y, z]) := by
  have hb : env.blockKind = .function := by unfold PySem.Env.blockKind; rw [hk]; rfl
  have kx : env.kindOf x = some .local := hx
  have ky : env.kindOf y = some .local := hy
  have kz : env.kindOf z = some .local := hz
  have sym : ∀ {u v : Str}, (u == v) = false → (v == u) = false := fun h => by
    rw [Bool.eq_false_iff] at h ⊢
    simp at h ⊢
    exact fun e => h e.symm
  have e1 := sym hne
  have e2 := sym hnz
  have e3 := sym hyz
  have hl' : py.line = px.line := by simpa using hl
  have hlz' : pz.line = px.line := by simpa using hlz
  unfold swappedStores
  simp only [hb, List.any_cons, List.any_nil, List.all_cons, List.all_nil, Bool.and_true, h1, h2]
  simp only [List.filterMap_cons, List.filterMap_nil, List.head?_cons, Option.map_some, Option.getD_some, Expr.pos, kx, ky, kz, hl', hlz', beq_self_eq_true, Bool.and_true, if_true]
  simp [List.eraseDups, List.eraseDupsBy, List.eraseDupsBy.loop]
  rw [e1]
  simp [List.eraseDupsBy.loop, e2, e3]
  intro h
  exfalso
  clear h1 h2
  rcases h with h | h | h
  · revert h na; cases a <;> simp [notStar]
  · revert h nb; cases b <;> simp [notStar]
  · revert h nc; cases c <;> simp [notStar]
variable {ma mb mc : Env → M PV} {a b c : Expr}
theorem s_par {i j : Nat} {x y : Str} {px py pt pt2 : Pos} {kt k2 : Nat} (hk : X.env.scope.kind = .function) (hc : X.calm = true) (hN : X.N.Nodup) (hi : X.N[i]? = some x) (hj : X.N[j]? = some y) (hij : i ≠ j)
    (hx : X.env.scope.names.lookup x = some .local) (hy : X.env.scope.names.lookup y = some .local) (hl : (py.line == px.line) = true) (na : notStar a = true) (nb : notStar b = true)
    (h1 : (foldedForSure 8 a && foldedForSure 8 b) = false) (h2 : (constantsAlone 8 a && constantsAlone 8 b) = false) (ha : PE X a (tE X.K E ma)) (hb : PE X b (tE X.K E mb)) :
    PS X (.Assign [.Tuple [.Name x px, .Name y py] kt pt] (.Tuple [a, b] k2 pt2) pos) (tS X.K E (fun env => M.bind (ma env) fun u => M.bind (mb env) fun v => M.pure (.nx ((env.set i (some u)).set j (some v))))) := by
  have hne : (x == y) = false := by
    rw [Bool.eq_false_iff]
    intro e
    have e : x = y := by simpa using e
    obtain ⟨g1, g2⟩ := List.getElem?_eq_some_iff.mp hi
    obtain ⟨g3, g4⟩ := List.getElem?_eq_some_iff.mp hj
    exact hij ((List.getElem_inj hN).mp (by rw [g2, g4, e]))
  refine psImp (ps_par hc hN hi hj hij hx hy (pa_cons ha (pa_cons hb pa_nil (star_cons nb)) (star_cons na)) (sw_par hk hx hy hl hne na nb h1 h2) rfl) fun D σ H h => ?_
  refine rdImp (rd_bind (Rl := Rep X.K) h) fun u H1 ⟨ω1, S1, env1, pu, s1, e1, r1, p1⟩ => ?_
  refine rdImp (rd_next (Rl := Rep X.K) s1 e1 p1) fun v H2 ⟨ω2, S2, pv, l2, s2, e2, r2, p2⟩ => ?_
  exact ⟨u, v, rfl, Post.ok (v := Fl.nx _) (x := FlV.nx _) p2 s2 ((e2.set (r1.mono l2) i).set r2 j)⟩
theorem s_par3 {i j l : Nat} {x y z : Str} {px py pz pt pt2 : Pos} {kt k2 : Nat} (hk : X.env.scope.kind = .function) (hc : X.calm = true) (hN : X.N.Nodup) (hi : X.N[i]? = some x) (hj : X.N[j]? = some y) (hl' : X.N[l]? = some z) (hij : i ≠ j) (hil : i ≠ l) (hjl : j ≠ l)
    (hx : X.env.scope.names.lookup x = some .local) (hy : X.env.scope.names.lookup y = some .local) (hz : X.env.scope.names.lookup z = some .local) (hl : (py.line == px.line) = true) (hlz : (pz.line == px.line) = true) (na : notStar a = true) (nb : notStar b = true) (nc : notStar c = true)
    (h1 : (foldedForSure 8 a && (foldedForSure 8 b && foldedForSure 8 c)) = false) (h2 : (constantsAlone 8 a && (constantsAlone 8 b && constantsAlone 8 c)) = false) (ha : PE X a (tE X.K E ma)) (hb : PE X b (tE X.K E mb)) (hcc : PE X c (tE X.K E mc)) :
    PS X (.Assign [.Tuple [.Name x px, .Name y py, .Name z pz] kt pt] (.Tuple [a, b, c] k2 pt2) pos) (tS X.K E (fun env => M.bind (ma env) fun u => M.bind (mb env) fun v => M.bind (mc env) fun w => M.pure (.nx (((env.set i (some u)).set j (some v)).set l (some w))))) := by
  have nex : ∀ {i j : Nat} {x y : Str}, X.N[i]? = some x → X.N[j]? = some y → i ≠ j → (x == y) = false := fun {i j x y} hi hj hij => by
    rw [Bool.eq_false_iff]
    intro e
    have e : x = y := by simpa using e
    obtain ⟨g1, g2⟩ := List.getElem?_eq_some_iff.mp hi
    obtain ⟨g3, g4⟩ := List.getElem?_eq_some_iff.mp hj
    exact hij ((List.getElem_inj hN).mp (by rw [g2, g4, e]))
  refine psImp (ps_par3 hc hN hi hj hl' hij hil hjl hx hy hz (pa_cons ha (pa_cons hb (pa_cons hcc pa_nil (star_cons nc)) (star_cons nb)) (star_cons na)) (sw_par3 hk hx hy hz hl hlz (nex hi hj hij) (nex hi hl' hil) (nex hj hl' hjl) na nb nc h1 h2) rfl) fun D σ H h => ?_
  refine rdImp (rd_bind (Rl := Rep X.K) h) fun u H1 ⟨ω1, S1, env1, pu, s1, e1, r1, p1⟩ => ?_
  refine rdImp (rd_next (Rl := Rep X.K) s1 e1 p1) fun v H2 ⟨ω2, S2, pv, l2, s2, e2, r2, p2⟩ => ?_
  refine rdImp (rd_next (Rl := Rep X.K) s2 e2 p2) fun w H3 ⟨ω3, S3, pw, l3, s3, e3, r3, p3⟩ => ?_
  exact ⟨u, v, w, rfl, Post.ok (v := Fl.nx _) (x := FlV.nx _) p3 s3 (((e3.set ((r1.mono l2).mono l3) i).set (r2.mono l3) j).set r3 l)⟩
/-- o[i] = e -/
theorem s_put {tp : Pos} (hn : notComp e = true) (hs : notSlice b = true) (he : PE X e (tE X.K E me)) (ha : PE X a (tE X.K E ma)) (hb : PE X b (tE X.K E mb)) :
    PS X (.Assign [.Subscript a b tp] e pos) (tS X.K E (fun env => M.bind (me env) fun v => M.bind (ma env) fun x => M.bind (mb env) fun k => M.bind (opPut x k v) fun _ => M.pure (.nx env))) := by
  have hasg : ∀ v, assign (.Subscript a b tp) X.env v = (do
      let ov ← holding [v] (eval a X.env)
      let iv ← holding [v, ov] (eval b X.env)
      standAt tp
      holding [v, ov, iv] (setItem ov iv v)
      release [v, ov, iv] []) := fun v => by cases b <;> first | rfl | cases hs
  refine psImp (ps_asg he (pg_sub ha hb set_list hasg) (show swapsWith e (some (.Subscript a b tp)) pos.line X.env = pure false from comp_swaps hn) (by cases e <;> rfl) rfl) fun D σ H h => ?_
  refine rdImp (rd_bind (Rl := Rep X.K) h) fun v H1 ⟨ω1, S1, env1, pv, s1, e1, r1, p1⟩ => ?_
  refine rdImp (rd_next (Rl := Rep X.K) s1 e1 p1) fun o H2 ⟨ω2, S2, po, l2, s2, e2, r2, p2⟩ => ?_
  refine rdImp (rd_next (Rl := Rep X.K) s2 e2 p2) fun k H3 ⟨ω3, S3, pk, l3, s3, e3, r3, p3⟩ => ?_
  have r1 := (r1.mono l2).mono l3
  have r2 := r2.mono l3
  cases po with
  | ref i =>
    cases pk with
    | int j =>
      simp only [Rep] at r2
      obtain ⟨ad, ea, eo⟩ := r2
      have p3 : Post X.K E (RelF X.K) ω3 H3 (M.bind (opPut (.ref i) (.int j) pv) (fun _ => M.pure (Fl.nx env1)) S3) (QF D) := p3
      unfold M.bind opPut at p3
      cases q : S3[i]? with
      | none => simp only [q] at p3; exact False.elim p3
      | some cc =>
        cases cc with
        | lst xs =>
          simp only [q] at p3
          cases qi : Mi.ixN xs.length j with
          | none => simp only [qi] at p3; exact False.elim p3
          | some jj =>
            simp only [qi] at p3
            obtain ⟨oo, ho, vs, eo', hl, hr⟩ := s3.cell i _ ad q ea
            subst eo'
            refine ⟨ad, vs, j, jj, eo, r3.int, ho, by rw [hr.length]; exact qi, ?_⟩
            have p3 : Post X.K E (RelF X.K) ω3 H3 (.ok (Fl.nx env1) (S3.set i (.lst (xs.set jj pv)))) (QF D) := p3
            have le : Le ω3 H3 ω3 (upd H3 ad (.lst (vs.set jj v))) := le_put (List.mem_of_getElem? ea)
            exact p3 ω3 _ (FlV.nx σ) le (s3.put ea ⟨_, rfl, by rw [List.length_set]; exact hl, hr.set r1 jj⟩) (e3.mono le)
        | tab p0 q0 => simp only [q] at p3; exact False.elim p3
    | _ => exact False.elim p3
  | _ => exact False.elim p3
/-- x op= e -/
theorem s_aug {op : BOp} {i : Nat} {y : Str} {py : Pos} (hN : X.N.Nodup) (hi : X.N[i]? = some y) (hl : locB X.env.scope X.fn y = true) (he : PE X e (tE X.K E me)) :
    PS X (.AugAssign (.Name y py) (opOf op) e pos) (tS X.K E (fun env => M.bind (getV env i) fun x => M.bind (me env) fun w => M.bind (opAug op x w) fun z => M.pure (.nx (env.set i (some z))))) := by
  obtain ⟨h1, h2⟩ := locB_ok hl
  -- the operator by values
  have key : ∃ ti : TIp, PIp X (opOf op) ti ∧ ∀ (ω : Wd) (S : Store) (H : Hp) (v w : PV) (x y : V) (Q : VK), RelSt X.K ω S H → Rep X.K ω H v x → Rep X.K ω H w y → Post X.K E (Rep X.K) ω H (opAug op v w S) Q → ti x y H Q := by
    cases op with
    | add =>
      have ho : OpR X (inplaceOp .Add) _ := iop_add.or iop_add_str
      refine ⟨_, ho, fun ω S H v w x y Q s rv rw' h => ?_⟩
      cases v with
      | int i =>
        cases w with
        | int j => exact .inl ⟨i, j, rv.int, rw'.int, Post.ok (v := PV.int (i + j)) h s rep_int⟩
        | _ => exact False.elim h
      | str p =>
        cases w with
        | str q =>
          obtain ⟨g, h⟩ := Post.guard h
          have g := of_decide_eq_true g
          refine .inr ⟨_, _, rv.str.1, rw'.str.1, by rw [toS_length, toS_length]; exact g, ?_⟩
          rw [← toS_append]
          exact Post.ok h s (rep_str (by rw [List.length_append]; exact g))
        | _ => exact False.elim h
      | _ => exact False.elim h
    | sub =>
      have ho : OpR X (inplaceOp .Sub) _ := iop_sub
      refine ⟨_, ho, fun ω S H v w x y Q s rv rw' h => ?_⟩
      cases v with
      | int i =>
        cases w with
        | int j => exact ⟨i, j, rv.int, rw'.int, Post.ok (v := PV.int (i - j)) h s rep_int⟩
        | _ => exact False.elim h
      | _ => exact False.elim h
    | mul => exact ⟨fun _ _ _ _ => False, fun _ _ _ _ _ _ _ _ _ _ _ _ z => z.elim, fun ω S H v w x y Q s rv rw' h => by cases v <;> cases w <;> exact h⟩
    | fdiv => exact ⟨fun _ _ _ _ => False, fun _ _ _ _ _ _ _ _ _ _ _ _ z => z.elim, fun ω S H v w x y Q s rv rw' h => by cases v <;> cases w <;> exact h⟩
    | mod => exact ⟨fun _ _ _ _ => False, fun _ _ _ _ _ _ _ _ _ _ _ _ z => z.elim, fun ω S H v w x y Q s rv rw' h => by cases v <;> cases w <;> exact h⟩
    | pow => exact ⟨fun _ _ _ _ => False, fun _ _ _ _ _ _ _ _ _ _ _ _ z => z.elim, fun ω S H v w x y Q s rv rw' h => by cases v <;> cases w <;> exact h⟩
  obtain ⟨ti, ho, hr⟩ := key
  refine psImp (ps_aug hN hi h1 he ho h2) fun D σ H ⟨ω, S, env, hS, hE, hP⟩ => ?_
  unfold getV at hP
  cases q : env[i]? with
  | none => simp only [q] at hP; exact False.elim hP
  | some o =>
    cases o with
    | none => simp only [q] at hP; exact False.elim hP
    | some v =>
      simp only [q] at hP
      obtain ⟨xv, e1, r⟩ := hE.get i v q
      refine ⟨xv, e1, ?_⟩
      have hP : Post X.K E (RelF X.K) ω H (M.bind (me env) (fun w => M.bind (opAug op v w) fun z => M.pure (.nx (env.set i (some z)))) S) (QF D) := hP
      refine rdImp (rd_next (Rl := Rep X.K) hS hE hP) fun w H1 ⟨ω1, S1, pw, l1, s1, e1, r1, p1⟩ => ?_
      refine hr ω1 S1 H1 v pw xv w _ s1 (r.mono l1) r1 ((Post.bind (Rl := Rep X.K) p1).imp fun z H2 ⟨ω2, S2, pz, l2, s2, r2, p2⟩ => ?_)
      exact Post.ok (v := Fl.nx _) (x := FlV.nx _) p2 s2 ((e1.mono l2).set r2 i)
theorem s_while {body : List Stmt} {m : Env → M Fl} {wf : Nat} (hp : PassesOwn (model X.prog X.w) X.A X.env X.xe) (hc : PT X c (tT X.K E (tst mc))) (hb : PSs X body (tS X.K E m)) :
    PS X (.While c body [] pos) (tS X.K E (fun env => whileLoop (tst mc) m wf env)) := by
  refine psImp (ps_while hp hc hb) fun D σ H h => ?_
  refine ⟨fun k σ H => ∃ ω S env, RelSt X.K ω S H ∧ RelEnv X.K ω H env σ ∧ Post X.K E (RelF X.K) ω H (whileLoop (tst mc) m k env S) (QF D), ⟨wf, h⟩, ?_⟩
  rintro k σ H ⟨ω, S, env, hS, hE, hP⟩
  cases k with
  | zero => exact False.elim hP
  | succ k =>
    have hP : Post X.K E (RelF X.K) ω H (M.bind (tst mc env) (fun b => if b then M.bind (m env) fun f => (match f with
      | .nx e => whileLoop (tst mc) m k e
      | .ct e => whileLoop (tst mc) m k e
      | .bk e => M.pure (.nx e)
      | .rt v => M.pure (.rt v)) else M.pure (.nx env)) S) (QF D) := hP
    refine rdImp (rd_next (Rl := eqR) hS hE hP) fun b H1 ⟨ω1, S1, b', l1, s1, e1, r1, p1⟩ => ?_
    have r1 : b' = b := r1
    subst r1
    cases b' with
    | false => rw [if_neg (by decide)] at p1 ⊢; exact Post.ok (v := Fl.nx env) (x := FlV.nx σ) p1 s1 e1
    | true =>
      rw [if_pos rfl] at p1 ⊢
      refine ⟨fun σ H => ∃ ω S env, RelSt X.K ω S H ∧ RelEnv X.K ω H env σ ∧ Post X.K E (RelF X.K) ω H (whileLoop (tst mc) m k env S) (QF D), fun σ' H' z => ⟨k, Nat.lt_succ_self k, z⟩, ?_⟩
      refine rdImp (rd_next (Rl := RelF X.K) s1 e1 p1) fun x H2 ⟨ω2, S2, f, l2, s2, e2, r2, p2⟩ => ?_
      cases f with
      | nx e =>
        cases x with
        | nx σ' => exact ⟨ω2, S2, e, s2, r2, p2⟩
        | _ => exact False.elim r2
      | ct e =>
        cases x with
        | ct σ' => exact ⟨ω2, S2, e, s2, r2, p2⟩
        | _ => exact False.elim r2
      | bk e =>
        cases x with
        | bk σ' =>
          have z : QF D (FlV.nx σ') H2 := Post.ok (v := Fl.nx e) (x := FlV.nx σ') p2 s2 r2
          exact z
        | _ => exact False.elim r2
      | rt v =>
        cases x with
        | rt y =>
          have z : QF D (FlV.rt y) H2 := Post.ok (v := Fl.rt v) (x := FlV.rt y) p2 s2 r2
          exact z
        | _ => exact False.elim r2
theorem forLoop_no {body : Env → M Fl} {tg : Tg} {src : Src} {xs : List PV} {env : Env} {S : Store} (h : ¬ src.ok src.xs S = true) : forLoop body tg src xs env S = .stuck := by
  cases xs <;> exact if_neg h
theorem forLoop_nil {body : Env → M Fl} {tg : Tg} {src : Src} {env : Env} {S : Store} (h : src.ok src.xs S = true) : forLoop body tg src [] env S = .ok (.nx env) S := if_pos h
theorem forLoop_cons {body : Env → M Fl} {tg : Tg} {src : Src} {x : PV} {xs : List PV} {env : Env} {S : Store} (h : src.ok src.xs S = true) : forLoop body tg src (x :: xs) env S = (match bindT tg x env with
    | none => .stuck
    | some env' => M.bind (body env') (fun f => match f with
      | .nx e => forLoop body tg src xs e
      | .ct e => forLoop body tg src xs e
      | .bk e => M.pure (.nx e)
      | .rt v => M.pure (.rt v)) S) := if_pos h
theorem s_for {t iter : Expr} {tg : Tg} {body : List Stmt} {mi : Env → M Src} {m : Env → M Fl} (hp : PassesOwn (model X.prog X.w) X.A X.env X.xe) (hc : X.calm = true) (hN : X.N.Nodup) (hi : PI X t iter (tI X.K E mi)) (hg : chkTg X.N X.env.scope X.fn tg t = true) (hs : notSet iter = true)
    (hb : PSs X body (tS X.K E m)) : PS X (.For t iter body [] pos) (tS X.K E (fun env => M.bind (mi env) fun src => forLoop m tg src src.xs env)) := by
  refine psImp (ps_for hp hc hi (g_tg hc hN hg) hb (set_fold hs)) fun D σ H h => ?_
  refine rdImp (rd_bind (Rl := RelI X.K) h) fun J H1 ⟨ω1, S1, env1, src, s1, e1, ⟨I, dr, i1, hlen⟩, p1⟩ => ?_
  refine ⟨fun i k σ H => k = src.xs.length - i ∧ i ≤ src.xs.length ∧ ∃ ω S env, RelSt X.K ω S H ∧ RelEnv X.K ω H env σ ∧ I ω H ∧ Post X.K E (RelF X.K) ω H (forLoop m tg src (src.xs.drop i) env S) (QF D), ⟨_, rfl, Nat.zero_le _, ω1, S1, env1, s1, e1, i1, p1⟩, ?_⟩
  rintro i k σ H ⟨rfl, hi', ω, S, env, hS, hE, hI, hP⟩
  have hok : src.ok src.xs S = true := by
    by_cases z : src.ok src.xs S = true
    · exact z
    · rw [forLoop_no z] at hP; exact False.elim hP
  by_cases hlt : i < src.xs.length
  · right
    refine ⟨dr.go _ _ _ hI hlt, fun σ' H' => i + 1 ≤ src.xs.length ∧ ∃ ω S env, RelSt X.K ω S H' ∧ RelEnv X.K ω H' env σ' ∧ I ω H' ∧ Post X.K E (RelF X.K) ω H' (forLoop m tg src (src.xs.drop (i + 1)) env S) (QF D), fun σ' H' z => ⟨src.xs.length - (i + 1), by omega, rfl, z⟩, ?_⟩
    intro x H3 hy
    have hd : src.xs.drop i = src.xs[i] :: src.xs.drop (i + 1) := List.drop_eq_getElem_cons hlt
    rw [hd, forLoop_cons hok] at hP
    obtain ⟨le3, s3, r3⟩ := dr.yld _ S _ i src.xs[i] x H3 hI hS (by simp [hlt]) hy
    cases hb' : bindT tg src.xs[i] env with
    | none => rw [hb'] at hP; exact False.elim hP
    | some env' =>
      rw [hb'] at hP
      refine bind_g hb' r3 (hE.mono le3) fun σ2 e2 _ => ?_
      have hP := hP.mono le3
      refine rdImp (rd_next (Rl := RelF X.K) s3 e2 hP) fun y H4 ⟨ω4, S4, f, l4, s4, e4, r4, p4⟩ => ?_
      have again : ∀ {e : Env} {σ' : L2.St}, RelEnv X.K ω4 H4 e σ' → Post X.K E (RelF X.K) ω4 H4 (forLoop m tg src (src.xs.drop (i + 1)) e S4) (QF D) → i + 1 ≤ src.xs.length ∧ ∃ ω S env, RelSt X.K ω S H4 ∧ RelEnv X.K ω H4 env σ' ∧ I ω H4 ∧ Post X.K E (RelF X.K) ω H4 (forLoop m tg src (src.xs.drop (i + 1)) env S) (QF D) := fun {e σ'} re pe => by
        have ok4 : src.ok src.xs S4 = true := by
          by_cases z : src.ok src.xs S4 = true
          · exact z
          · rw [forLoop_no z] at pe; exact False.elim pe
        exact ⟨hlt, ω4, S4, e, s4, re, dr.keep _ _ _ _ _ hI (le3.trans l4) s4 ok4, pe⟩
      cases f with
      | nx e =>
        cases y with
        | nx σ' => exact again r4 p4
        | _ => exact False.elim r4
      | ct e =>
        cases y with
        | ct σ' => exact again r4 p4
        | _ => exact False.elim r4
      | bk e =>
        cases y with
        | bk σ' =>
          have z : QF D (FlV.nx σ') H4 := Post.ok (v := Fl.nx e) (x := FlV.nx σ') p4 s4 r4
          exact z
        | _ => exact False.elim r4
      | rt v =>
        cases y with
        | rt y =>
          have z : QF D (FlV.rt y) H4 := Post.ok (v := Fl.rt v) (x := FlV.rt y) p4 s4 r4
          exact z
        | _ => exact False.elim r4
  · have hi2 : i = src.xs.length := by omega
    subst hi2
    left
    rw [List.drop_length, forLoop_nil hok] at hP
    exact ⟨dr.stop _ _ _ hI (Nat.le_refl _), Post.ok (v := Fl.nx env) (x := FlV.nx σ) hP hS hE⟩
end
end Mi
set_option Elab.async false
set_option linter.all false
set_option maxRecDepth 100000
set_option maxHeartbeats 2000000
namespace Mi
open PySem PySem.Spec PyProof.Rows L2 L2H
section
variable {X : Cx} {E : XK} {c : Nat} {nm : List Nat} {p pos pos' : Pos}
theorem s_raise0 (hc : X.calm = true) (tk : Takes X (fun c d _ H => E c d H)) (hr : Room 2 X.A) (hx : excTab[c]? = some (nm, none)) (hn : nm.length ≤ 100) (D : ExcD X.K X.mg (toS nm) none) (hg : Gl X (toS nm)) (hdb : (toS nm == ("__debug__" : Str)) = false) :
    PS X (.Raise (some (.Call (.Name (toS nm) p) [] [] pos)) none pos') (tS X.K E (fun env => M.bind (M.pure []) fun xs => fun S => .exc ⟨c, xs⟩ S)) := by
  obtain ⟨fI, fd, name, qual, params, body, scope, ps, N, iC, tI, F, hb, Sc, hB⟩ := D.init
  have F1 := init_fn (P := X.prog) (w := X.w) (mg := X.mg) (base := X.base) D.oex D.cls.code D.fld F Sc hB
  refine psImp (ps_raise hc tk (pmk_oex0 (k := 1) D.oex iC tI F1 hr hb noPass hg D.glo hdb)) fun D0 σ H h => ?_
  obtain ⟨ω, S, env, hS, hE, hQ⟩ := h
  have hQ : Post X.K E (RelF X.K) ω H (.exc ⟨c, []⟩ S) (QF D0) := hQ
  intro a ha
  refine ⟨a, rfl, upd_same, fun dx h1 h2 => ⟨rfl, dx, [("code", .str (toS nm))], upd_same, ?_, ?_, ?_⟩⟩
  · rw [upd_ne h2, upd_same]
  · rw [upd_ne h2] at h1; exact h1
  · rw [upd_ne h2] at h1
    rw [upd_back ha h2]
    exact hQ ω _ _ _ (le_new h1) (hS.new h1) ⟨nm, none, dx, _, hx, rfl, rfl, D.cls, upd_same, rfl, hn, trivial⟩
theorem s_raise1 {e : Expr} {me : Env → M PV} {f : List Nat} (hc : X.calm = true) (tk : Takes X (fun c d _ H => E c d H)) (hr : Room 2 X.A) (hx : excTab[c]? = some (nm, some f)) (hn : nm.length ≤ 100) (hfc : toS f ≠ "code") (D : ExcD X.K X.mg (toS nm) (some (toS f))) (hg : Gl X (toS nm)) (hdb : (toS nm == ("__debug__" : Str)) = false)
    (hs : notStar e = true) (he : PE X e (tE X.K E me)) :
    PS X (.Raise (some (.Call (.Name (toS nm) p) [e] [] pos)) none pos') (tS X.K E (fun env => M.bind (M.bind (me env) fun x => M.bind (M.pure []) fun xs => M.pure (x :: xs)) fun xs => fun S => .exc ⟨c, xs⟩ S)) := by
  obtain ⟨fI, fd, name, qual, params, body, scope, ps, N, iC, tI, F, hb, Sc, hB⟩ := D.init
  have F1 := init_fn (P := X.prog) (w := X.w) (mg := X.mg) (base := X.base) D.oex D.cls.code D.fld F Sc hB
  refine psImp (ps_raise hc tk (pmk_oex (k := 1) (dvs := []) D.oex iC tI F1 hr hb .nil noPass hg D.glo (pa_cons he pa_nil (star_cons hs)) hdb (star_cons hs) rfl)) fun D0 σ H h => ?_
  have h : rd X.K E (RelF X.K) (fun env => M.bind (me env) fun x => fun S => .exc ⟨c, [x]⟩ S) σ H (QF D0) := rdCongr h fun env => M.bind_assoc (me env) (fun x => M.bind (M.pure []) fun xs => M.pure (x :: xs)) (fun xs => (fun S => R.exc ⟨c, xs⟩ S : M Fl))
  refine rdImp (rd_bind (Rl := Rep X.K) (f := fun _ x => fun S => R.exc ⟨c, [x]⟩ S) h) fun v H1 ⟨ω, S, env, x, hS, hE, r1, hQ⟩ => ?_
  have hQ : Post X.K E (RelF X.K) ω H1 (.exc ⟨c, [x]⟩ S) (QF D0) := hQ
  refine ⟨by show 1 ≤ 1000; omega, fun a ha => ?_⟩
  refine ⟨a, v, rfl, upd_same, fun dx h1 h2 => ⟨rfl, dx, [("code", .str (toS nm)), (toS f, v)], ?_, upd_same, ?_, ?_⟩⟩
  · rw [upd_ne (Ne.symm h2), upd_same]
  · rw [upd_ne h2] at h1; exact h1
  · rw [upd_ne h2] at h1
    rw [upd_back2 ha h2]
    refine hQ ω _ _ _ (le_new h1) (hS.new h1) ⟨nm, some f, dx, _, hx, rfl, rfl, D.cls, upd_same, rfl, hn, v, r1.mono (le_new h1), ?_, D.fld _ rfl⟩
    have : (toS f == ("code" : Str)) = false := by simpa using hfc
    simp [List.lookup, this]
end
end Mi
set_option Elab.async false
set_option linter.all false
set_option maxRecDepth 100000
set_option maxHeartbeats 2000000
namespace Mi
open PySem PySem.Spec PyProof.Rows L2
def bothTup : Expr → Expr → Bool
  | .Tuple .., .Tuple vs _ _ => !vs.all (foldedForSure 8)
  | _, _ => false
def isLoc (sc : Scope) (x : Str) : Bool := decide (sc.names.lookup x = some .local)
def parP : Stmt → Option (Str × Pos × Str × Pos × Expr × Expr)
  | .Assign [.Tuple [.Name x px, .Name y py] _ _] (.Tuple [u, v] _ _) _ => some (x, px, y, py, u, v)
  | _ => none
def par3P : Stmt → Option (Str × Pos × Str × Pos × Str × Pos × Expr × Expr × Expr)
  | .Assign [.Tuple [.Name x px, .Name y py, .Name z pz] _ _] (.Tuple [u, v, w] _ _) _ => some (x, px, y, py, z, pz, u, v, w)
  | _ => none
theorem parP_ok {st : Stmt} {x y : Str} {px py : Pos} {u v : Expr} (h : parP st = some (x, px, y, py, u, v)) : ∃ kt pt k2 pt2 p, st = .Assign [.Tuple [.Name x px, .Name y py] kt pt] (.Tuple [u, v] k2 pt2) p := by
  unfold parP at h
  split at h
  · cases h; exact ⟨_, _, _, _, _, rfl⟩
  · cases h
theorem par3P_ok {st : Stmt} {x y z : Str} {px py pz : Pos} {u v w : Expr} (h : par3P st = some (x, px, y, py, z, pz, u, v, w)) : ∃ kt pt k2 pt2 p, st = .Assign [.Tuple [.Name x px, .Name y py, .Name z pz] kt pt] (.Tuple [u, v, w] k2 pt2) p := by
  unfold par3P at h
  split at h
  · cases h; exact ⟨_, _, _, _, _, rfl⟩
  · cases h
/-- two names of which one is a cell: the values are stored one by one, as of any tuple -/
theorem sw_cell {x y : Str} {px py pt pt2 : Pos} {kt k2 : Nat} {a b : Expr} {env : PySem.Env} (h : (isLoc env.scope x && isLoc env.scope y) = false) :
    swappedStores [.Tuple [.Name x px, .Name y py] kt pt] (.Tuple [a, b] k2 pt2) env = pure none := by
  have e : ∀ z : Str, (env.kindOf z == some NameKind.local) = isLoc env.scope z := fun z => by
    unfold PySem.Env.kindOf isLoc
    rw [Bool.eq_iff_iff]
    simp
  unfold swappedStores
  simp only [List.filterMap_cons, List.filterMap_nil, List.head?_cons, Option.map_some, Option.getD_some, Expr.pos, e]
  generalize hq1 : (px.line == px.line) = q1
  generalize hq2 : (py.line == px.line) = q2
  cases hx : isLoc env.scope x with
  | false =>
    cases hy : isLoc env.scope y <;> cases q2 <;> simp only [Bool.false_and, Bool.true_and, Bool.false_eq_true, if_false, if_true] <;> (split <;> first | rfl | (split <;> rfl))
  | true =>
    rw [hx, Bool.true_and] at h
    rw [h]
    cases q1 <;> simp only [Bool.false_and, Bool.true_and, Bool.false_eq_true, if_false, if_true] <;> (split <;> first | rfl | (split <;> rfl))
theorem s_parC {X : Cx} {E : XK} {me : Env → M PV} {pos : Pos} {i j : Nat} {x y : Str} {px py pt pt2 : Pos} {kt k2 : Nat} {a b : Expr} (hc : X.calm = true) (hN : X.N.Nodup) (ht : chkTg X.N X.env.scope X.fn (.two i j) (.Tuple [.Name x px, .Name y py] kt pt) = true)
    (hl : (isLoc X.env.scope x && isLoc X.env.scope y) = false) (he : PE X (.Tuple [a, b] k2 pt2) (tE X.K E me)) : PS X (.Assign [.Tuple [.Name x px, .Name y py] kt pt] (.Tuple [a, b] k2 pt2) pos) (tS X.K E (asgM me (.two i j))) :=
  psImp (ps_asg he (g_tg hc hN ht) rfl (sw_cell hl) rfl) fun D σ H h => asg_ok h
def parC (Γ : Sig) (N : List Str) (sc : Scope) (fn : Str → Bool) (i j : Nat) (a b : E) : Stmt → Bool
  | .Assign [.Tuple [.Name x px, .Name y py] kt pt] (.Tuple [u, v] k2 pt2) _ => !(isLoc sc x && isLoc sc y) && chkTg N sc fn (.two i j) (.Tuple [.Name x px, .Name y py] kt pt) && chkE Γ N sc fn (.tup (.cons a (.cons b .nil))) (.Tuple [u, v] k2 pt2)
  | _ => false
def raiseP : Stmt → Option (Str × List Expr)
  | .Raise (some (.Call (.Name x _) xs [] _)) none _ => some (x, xs)
  | _ => none
theorem raiseP_ok {st : Stmt} {x : Str} {xs : List Expr} (h : raiseP st = some (x, xs)) : ∃ p1 p2 p3, st = .Raise (some (.Call (.Name x p1) xs [] p2)) none p3 := by
  unfold raiseP at h
  split at h
  · cases h; exact ⟨_, _, _, rfl⟩
  · cases h
/-- what is asked of a row of the table of exceptions -/
def excRow (r : List Nat × Option (List Nat)) : Bool := decide (r.1.length ≤ 100) && (!(toS r.1 == ("__debug__" : Str)) && (match r.2 with
  | none => true
  | some f => decide (toS f ≠ ("code" : Str))))
theorem excTab_ok : excTab.all excRow = true := by decide +kernel
theorem excTab_get {c : Nat} {nm : List Nat} {fo : Option (List Nat)} (h : excTab[c]? = some (nm, fo)) : nm.length ≤ 100 ∧ (toS nm == ("__debug__" : Str)) = false ∧ ∀ f, fo = some f → toS f ≠ "code" := by
  have := List.all_eq_true.mp excTab_ok _ (List.mem_of_getElem? h)
  unfold excRow at this
  simp only [Bool.and_eq_true, decide_eq_true_eq, Bool.not_eq_true'] at this
  refine ⟨this.1, this.2.1, fun f e => ?_⟩
  have h2 := this.2.2
  subst e
  exact of_decide_eq_true h2
mutual
def chkS (Γ : Sig) (N : List Str) (sc : Scope) (fn : Str → Bool) : S → Stmt → Bool
  | .asg tg e, st => (match st with
    | .Assign [t] x _ => chkTg N sc fn tg t && (match x with
      | .ListComp .. => (match tg with
        | .one _ => chkE Γ N sc fn e x
        | _ => false)
      | _ => notComp x && !bothTup t x && chkE Γ N sc fn e x)
    | _ => false)
  | .par i j a b, st => parC Γ N sc fn i j a b st || (match parP st with
    | some (x, px, y, py, u, v) => decide (N[i]? = some x) && decide (N[j]? = some y) && decide (i ≠ j) && isLoc sc x && isLoc sc y && (py.line == px.line) &&
        notStar u && notStar v && !(foldedForSure 8 u && foldedForSure 8 v) && !(constantsAlone 8 u && constantsAlone 8 v) && chkE Γ N sc fn a u && chkE Γ N sc fn b v
    | none => false)
  | .par3 i j l a b c, st => (match par3P st with
    | some (x, px, y, py, z, pz, u, v, w) => decide (N[i]? = some x) && decide (N[j]? = some y) && decide (N[l]? = some z) && decide (i ≠ j) && decide (i ≠ l) && decide (j ≠ l) && isLoc sc x && isLoc sc y && isLoc sc z &&
        (py.line == px.line) && (pz.line == px.line) && notStar u && notStar v && notStar w && !(foldedForSure 8 u && (foldedForSure 8 v && foldedForSure 8 w)) && !(constantsAlone 8 u && (constantsAlone 8 v && constantsAlone 8 w)) &&
        chkE Γ N sc fn a u && chkE Γ N sc fn b v && chkE Γ N sc fn c w
    | none => false)
  | .put o i e, st => (match st with
    | .Assign [.Subscript u v _] x _ => notComp x && notSlice v && chkE Γ N sc fn o u && chkE Γ N sc fn i v && chkE Γ N sc fn e x
    | _ => false)
  | .aug i op e, st => (match st with
    | .AugAssign (.Name y _) o x _ => decide (opOf op = o) && decide (N[i]? = some y) && locB sc fn y && chkE Γ N sc fn e x
    | _ => false)
  | .expr e, st => (match st with
    | .Expr x _ => notComp x && chkE Γ N sc fn e x
    | _ => false)
  | .ret e, st => (match st with
    | .Return (some x) _ => chkE Γ N sc fn e x
    | _ => false)
  | .retN, st => (match st with
    | .Return none _ => true
    | _ => false)
  | .ifS c t e, st => (match st with
    | .If z a b _ => chkT Γ N sc fn c z && chkSs Γ N sc fn t a && chkSs Γ N sc fn e b
    | _ => false)
  | .forS tg it body, st => (match st with
    | .For t i b [] _ => chkTg N sc fn tg t && notSet i && chkI Γ N sc fn it t i && chkSs Γ N sc fn body b
    | _ => false)
  | .whileS c body, st => (match st with
    | .While z b [] _ => chkT Γ N sc fn c z && chkSs Γ N sc fn body b
    | _ => false)
  | .brk, st => (match st with
    | .Break _ => true
    | _ => false)
  | .cont, st => (match st with
    | .Continue _ => true
    | _ => false)
  | .pass, st => (match st with
    | .Pass _ => true
    | _ => false)
  | .dead, _ => true
  | .raise c es, st => (match raiseP st with
    | some (x, xs) => decide (c ∈ Γ.exs) && gloB sc x && (match excTab[c]? with
      | some (nm, none) => decide (x = toS nm) && (match es with
        | .nil => xs.isEmpty
        | _ => false)
      | some (nm, some _) => decide (x = toS nm) && (match es with
        | .cons e .nil => (match xs with
          | [y] => notStar y && chkE Γ N sc fn e y
          | _ => false)
        | _ => false)
      | none => false)
    | none => false)
  | _, _ => false
def chkSs (Γ : Sig) (N : List Str) (sc : Scope) (fn : Str → Bool) : S → List Stmt → Bool
  | .skip, sts => sts.isEmpty
  | .seq s r, sts => (match sts with
    | st :: rest => chkS Γ N sc fn s st && chkSs Γ N sc fn r rest
    | [] => false)
  | _, _ => false
end
structure Cs (P : Prg) (n : Nat) (E : XK) (X : Cx) : Prop extends Cn P n E X where
  kind : X.env.scope.kind = .function
  pass : PassesOwn (model X.prog X.w) X.A X.env X.xe
theorem s_lc (P : Prg) (n : Nat) {X : Cx} {Ex : XK} (hC : Cs P n Ex X) {e : E} {i : Nat} {y : Str} {py pos p : Pos} {elt : Expr} {gs : List Comprehension} {scope : Scope} (hi : X.N[i]? = some y) (hl : locB X.env.scope X.fn y = true)
    (h : chkE P.sig X.N X.env.scope X.fn e (.ListComp elt gs scope p) = true) : PS X (.Assign [.Name y py] (.ListComp elt gs scope p) pos) (tS X.K Ex (asgM (denE (cfg P n) e) (.one i))) := by
  by_cases hsw : swB X.env.scope scope y py p = true
  · cases e with
    | lc mu el tg it ifs own =>
      match gs, h with
      | [⟨g, ite, fs, 0⟩], h =>
        simp only [chkE, Bool.and_eq_true] at h
        obtain ⟨⟨⟨⟨⟨⟨h1, h2⟩, h3⟩, h4⟩, h5⟩, h6⟩, h7⟩ := h
        have ho : ∀ i ∈ tgs tg, i ∈ own := of_decide_eq_true h2
        have hI := sI P n it X Ex g ite hC.toCn h4
        have hyl : X.env.scope.names.lookup y = some .local := by
          unfold swB at hsw
          rw [Bool.and_eq_true, Bool.and_eq_true] at hsw
          exact of_decide_eq_true hsw.1.1
        have hs : swapsWith (.ListComp elt [⟨g, ite, fs, 0⟩] scope p) (some (.Name y py)) pos.line X.env = pure true := by rw [sw_eq hC.kind, hsw]
        refine psImp (ps_setLc (own := ownP X.N own) (g := gOf X.K tg) (tt := tT X.K E0 (denT (cfg P n) ifs)) (te := tE X.K E0 (denE (cfg P n) el)) hC.calm hC.nd hi hyl hs hI (blkOk_by h1)
          (fun s H C cl fp => g_tg (X := X.blk s H scope (compEnvC scope cl C X.env) fp) hC.calm hC.nd h5)
          (fun s H C cl fp => sTs P n ifs (X.blk s H scope (compEnvC scope cl C X.env) fp) E0 _ (hC.toCn.blk s H scope _ fp) h6)
          (fun s H C cl fp => sE P n el (X.blk s H scope (compEnvC scope cl C X.env) fp) E0 _ (hC.toCn.blk s H scope _ fp) h7) (set_fold h3)) fun D σ H q => ?_
        rw [ownP_snd]
        have q' := asg_ok (tg := .one i) q
        exact lc_ok ho q'
    | rev a => simp [chkE, revP] at h
    | opx o a =>
      cases o with
      | dget kvs => simp [chkE, dgetP] at h
      | refu => cases a <;> simp [chkE, lamG, lamP] at h
    | callS f k st es => simp [chkE] at h
    | tryL a => simp [chkE, lamG, lamP] at h
    | _ => simp only [chkE, Bool.false_eq_true] at h
  · exact s_setE hC.nd hi hl (by rw [sw_eq hC.kind, Bool.eq_false_iff.mpr hsw]) (sE P n e X Ex _ hC.toCn h)
mutual
theorem sS (P : Prg) (n : Nat) : ∀ (s : S) (X : Cx) (Ex : XK) (st : Stmt), Cs P n Ex X → chkS P.sig X.N X.env.scope X.fn s st = true → PS X st (tS X.K Ex (denS (cfg P n) s))
  | .asg tg e, X, Ex, st, hC, h => by
    cases st with
    | Assign ts x p =>
      match ts, h with
      | [t], h =>
        simp only [chkS, Bool.and_eq_true] at h
        have ht := h.1
        by_cases hl : notComp x = true
        · have hx : (notComp x && !bothTup t x && chkE P.sig X.N X.env.scope X.fn e x) = true := by
            cases x <;> first | exact h.2 | cases hl
          rw [Bool.and_eq_true, Bool.and_eq_true] at hx
          refine s_asg hC.calm hC.nd ht hl ?_ (sE P n e X Ex _ hC.toCn hx.2)
          have hb := hx.1.2
          cases t <;> first | rfl | (cases x <;> first | rfl | (simpa [bothTup] using hb))
        · cases x with
          | ListComp el gs scope q =>
            cases tg with
            | one i =>
              cases t with
              | Name y py =>
                simp only [chkTg, Bool.and_eq_true] at ht
                exact s_lc P n hC (of_decide_eq_true ht.1) ht.2 h.2
              | _ => simp [chkTg] at ht
            | two i j => exact absurd h.2 Bool.false_ne_true
            | thr i j l => exact absurd h.2 Bool.false_ne_true
          | SetComp => exact absurd h.2 Bool.false_ne_true
          | DictComp => exact absurd h.2 Bool.false_ne_true
          | _ => exact absurd rfl hl
      | [], h => simp only [chkS, Bool.false_eq_true] at h
      | _ :: _ :: _, h => simp only [chkS, Bool.false_eq_true] at h
    | _ => simp only [chkS, Bool.false_eq_true] at h
  | .par i j a b, X, Ex, st, hC, h => by
    rw [chkS, Bool.or_eq_true] at h
    rcases h with h | h
    · unfold parC at h
      split at h
      · rename_i y py z pz kt pt u v k2 pt2 p
        rw [Bool.and_eq_true, Bool.and_eq_true] at h
        refine psImp (s_parC (me := denE (cfg P n) (.tup (.cons a (.cons b .nil)))) hC.calm hC.nd h.1.2 (by simpa only [Bool.not_eq_true'] using h.1.1) (sE P n _ X Ex _ hC.toCn h.2)) fun D σ H q => ?_
        refine rdCongr q fun env => ?_
        simp only [denS, denE, denA, asgM, M.bind_assoc]
        rfl
      · cases h
    cases q : parP st with
    | none => rw [q] at h; cases h
    | some r =>
      obtain ⟨y, py, z, pz, u, v⟩ := r
      rw [q] at h
      obtain ⟨kt, pt, k2, pt2, p, rfl⟩ := parP_ok q
      simp only [Bool.and_eq_true] at h
      obtain ⟨⟨⟨⟨⟨⟨⟨⟨⟨⟨⟨h1, h2⟩, h3⟩, h4⟩, h5⟩, h6⟩, h7⟩, h8⟩, h9⟩, h10⟩, h11⟩, h12⟩ := h
      exact s_par hC.kind hC.calm hC.nd (of_decide_eq_true h1) (of_decide_eq_true h2) (of_decide_eq_true h3) (of_decide_eq_true h4) (of_decide_eq_true h5) h6 h7 h8 (by simpa only [Bool.not_eq_true'] using h9) (by simpa only [Bool.not_eq_true'] using h10) (sE P n a X Ex _ hC.toCn h11) (sE P n b X Ex _ hC.toCn h12)
  | .par3 i j l a b c, X, Ex, st, hC, h => by
    simp only [chkS] at h
    cases q : par3P st with
    | none => rw [q] at h; cases h
    | some r =>
      obtain ⟨y, py, z, pz, t, pt', u, v, w⟩ := r
      rw [q] at h
      obtain ⟨kt, pt, k2, pt2, p, rfl⟩ := par3P_ok q
      simp only [Bool.and_eq_true] at h
      obtain ⟨⟨⟨⟨⟨⟨⟨⟨⟨⟨⟨⟨⟨⟨⟨⟨⟨⟨h1, h2⟩, h3⟩, h4⟩, h5⟩, h6⟩, h7⟩, h8⟩, h9⟩, h10⟩, h11⟩, h12⟩, h13⟩, h14⟩, h15⟩, h16⟩, h17⟩, h18⟩, h19⟩ := h
      exact s_par3 hC.kind hC.calm hC.nd (of_decide_eq_true h1) (of_decide_eq_true h2) (of_decide_eq_true h3) (of_decide_eq_true h4) (of_decide_eq_true h5) (of_decide_eq_true h6) (of_decide_eq_true h7) (of_decide_eq_true h8) (of_decide_eq_true h9) h10 h11 h12 h13 h14 (by simpa only [Bool.not_eq_true'] using h15) (by simpa only [Bool.not_eq_true'] using h16)
          (sE P n a X Ex _ hC.toCn h17) (sE P n b X Ex _ hC.toCn h18) (sE P n c X Ex _ hC.toCn h19)
  | .put o i e, X, Ex, st, hC, h => by
    cases st with
    | Assign ts x p =>
      match ts, h with
      | [.Subscript u v q], h =>
        simp only [chkS, Bool.and_eq_true] at h
        obtain ⟨⟨⟨⟨h1, h2⟩, h3⟩, h4⟩, h5⟩ := h
        exact s_put h1 h2 (sE P n e X Ex _ hC.toCn h5) (sE P n o X Ex _ hC.toCn h3) (sE P n i X Ex _ hC.toCn h4)
    | _ => simp only [chkS, Bool.false_eq_true] at h
  | .aug i op e, X, Ex, st, hC, h => by
    cases st with
    | AugAssign t o x p =>
      cases t with
      | Name y q =>
        simp only [chkS, Bool.and_eq_true] at h
        obtain ⟨⟨⟨h1, h2⟩, h3⟩, h4⟩ := h
        have e1 := of_decide_eq_true h1
        subst e1
        exact s_aug hC.nd (of_decide_eq_true h2) h3 (sE P n e X Ex _ hC.toCn h4)
      | _ => simp only [chkS, Bool.false_eq_true] at h
    | _ => simp only [chkS, Bool.false_eq_true] at h
  | .expr e, X, Ex, st, hC, h => by
    cases st <;> simp only [chkS, Bool.false_eq_true] at h
    rw [Bool.and_eq_true] at h
    exact s_expr h.1 (sE P n e X Ex _ hC.toCn h.2)
  | .ret e, X, Ex, st, hC, h => by
    cases st with
    | Return v p =>
      cases v <;> simp only [chkS, Bool.false_eq_true] at h
      exact s_ret (sE P n e X Ex _ hC.toCn h)
    | _ => simp only [chkS, Bool.false_eq_true] at h
  | .retN, X, Ex, st, hC, h => by
    cases st with
    | Return v p =>
      cases v <;> simp only [chkS, Bool.false_eq_true] at h
      exact s_retN
    | _ => simp only [chkS, Bool.false_eq_true] at h
  | .ifS c t e, X, Ex, st, hC, h => by
    cases st <;> simp only [chkS, Bool.false_eq_true] at h
    rw [Bool.and_eq_true, Bool.and_eq_true] at h
    exact s_if (sT P n c X Ex _ hC.toCn h.1.1) (sSs P n t X Ex _ hC h.1.2) (sSs P n e X Ex _ hC h.2)
  | .forS tg it body, X, Ex, st, hC, h => by
    cases st with
    | For t i b oe p =>
      cases oe <;> simp only [chkS, Bool.false_eq_true] at h
      rw [Bool.and_eq_true, Bool.and_eq_true, Bool.and_eq_true] at h
      exact s_for hC.pass hC.calm hC.nd (sI P n it X Ex _ _ hC.toCn h.1.2) h.1.1.1 h.1.1.2 (sSs P n body X Ex _ hC h.2)
    | _ => simp only [chkS, Bool.false_eq_true] at h
  | .whileS c body, X, Ex, st, hC, h => by
    cases st with
    | While z b oe p =>
      cases oe <;> simp only [chkS, Bool.false_eq_true] at h
      rw [Bool.and_eq_true] at h
      exact s_while hC.pass (sT P n c X Ex _ hC.toCn h.1) (sSs P n body X Ex _ hC h.2)
    | _ => simp only [chkS, Bool.false_eq_true] at h
  | .brk, X, Ex, st, hC, h => by
    cases st <;> simp only [chkS, Bool.false_eq_true] at h
    exact s_brk
  | .cont, X, Ex, st, hC, h => by
    cases st <;> simp only [chkS, Bool.false_eq_true] at h
    exact s_cont
  | .pass, X, Ex, st, hC, h => by
    cases st <;> simp only [chkS, Bool.false_eq_true] at h
    exact s_pass
  | .dead, X, Ex, st, hC, h => s_dead
  | .skip, X, Ex, st, hC, h => by simp only [chkS, Bool.false_eq_true] at h
  | .seq _ _, X, Ex, st, hC, h => by simp only [chkS, Bool.false_eq_true] at h
  | .raise c es, X, Ex, st, hC, h => by
    rw [chkS] at h
    cases q : raiseP st with
    | none => rw [q] at h; cases h
    | some r =>
      obtain ⟨x, xs⟩ := r
      rw [q] at h
      obtain ⟨p1, p2, p3, rfl⟩ := raiseP_ok q
      simp only [Bool.and_eq_true, decide_eq_true_eq] at h
      obtain ⟨⟨h1, h2⟩, h3⟩ := h
      cases e0 : excTab[c]? with
      | none => rw [e0] at h3; cases h3
      | some row =>
        obtain ⟨nm, fo⟩ := row
        rw [e0] at h3
        obtain ⟨g1, g2, g3⟩ := excTab_get e0
        have D := hC.excs c h1 nm fo e0
        cases fo with
        | none =>
          simp only [Bool.and_eq_true, decide_eq_true_eq] at h3
          obtain ⟨rfl, h4⟩ := h3
          cases es with
          | nil =>
            cases xs with
            | nil => exact s_raise0 hC.calm hC.tk (hC.room.mono (by omega)) e0 g1 D (gloB_ok h2) g2
            | cons => cases h4
          | cons => cases h4
        | some f =>
          simp only [Bool.and_eq_true, decide_eq_true_eq] at h3
          obtain ⟨rfl, h4⟩ := h3
          cases es with
          | nil => cases h4
          | cons e r =>
            cases r with
            | cons => cases h4
            | nil =>
              match xs, h4 with
              | [y], h4 =>
                rw [Bool.and_eq_true] at h4
                exact s_raise1 hC.calm hC.tk (hC.room.mono (by omega)) e0 g1 (g3 f rfl) D (gloB_ok h2) g2 h4.1 (sE P n e X Ex y hC.toCn h4.2)
theorem sSs (P : Prg) (n : Nat) : ∀ (s : S) (X : Cx) (Ex : XK) (sts : List Stmt), Cs P n Ex X → chkSs P.sig X.N X.env.scope X.fn s sts = true → PSs X sts (tS X.K Ex (denS (cfg P n) s))
  | .skip, X, Ex, sts, hC, h => by
    cases sts with
    | nil => exact ss_nil
    | cons => simp [chkSs] at h
  | .seq s r, X, Ex, sts, hC, h => by
    cases sts with
    | nil => simp [chkSs] at h
    | cons st rest =>
      simp only [chkSs, Bool.and_eq_true] at h
      exact ss_cons (sS P n s X Ex _ hC h.1) (sSs P n r X Ex _ hC h.2)
  | .asg _ _, X, Ex, sts, hC, h => by simp only [chkSs, Bool.false_eq_true] at h
  | .par _ _ _ _, X, Ex, sts, hC, h => by simp only [chkSs, Bool.false_eq_true] at h
  | .par3 _ _ _ _ _ _, X, Ex, sts, hC, h => by simp only [chkSs, Bool.false_eq_true] at h
  | .put _ _ _, X, Ex, sts, hC, h => by simp only [chkSs, Bool.false_eq_true] at h
  | .aug _ _ _, X, Ex, sts, hC, h => by simp only [chkSs, Bool.false_eq_true] at h
  | .expr _, X, Ex, sts, hC, h => by simp only [chkSs, Bool.false_eq_true] at h
  | .ret _, X, Ex, sts, hC, h => by simp only [chkSs, Bool.false_eq_true] at h
  | .retN, X, Ex, sts, hC, h => by simp only [chkSs, Bool.false_eq_true] at h
  | .ifS _ _ _, X, Ex, sts, hC, h => by simp only [chkSs, Bool.false_eq_true] at h
  | .forS _ _ _, X, Ex, sts, hC, h => by simp only [chkSs, Bool.false_eq_true] at h
  | .whileS _ _, X, Ex, sts, hC, h => by simp only [chkSs, Bool.false_eq_true] at h
  | .brk, X, Ex, sts, hC, h => by simp only [chkSs, Bool.false_eq_true] at h
  | .cont, X, Ex, sts, hC, h => by simp only [chkSs, Bool.false_eq_true] at h
  | .pass, X, Ex, sts, hC, h => by simp only [chkSs, Bool.false_eq_true] at h
  | .dead, X, Ex, sts, hC, h => by simp only [chkSs, Bool.false_eq_true] at h
  | .raise _ _, X, Ex, sts, hC, h => by simp only [chkSs, Bool.false_eq_true] at h
end

/-- a def of the text: its place in the table, its parameters, its slots -/
structure DefT (P : Prg) (K : PySem.W.Frag) (mg : Str → Option Value) (f : Nat) (x : Str) : Prop where
  ex : ∃ (adr : Addr) (fd : FuncData) (ps N : List Str) (params : Arguments) (body : List Stmt) (scope : Scope) (d : Def), P.D f = some d ∧ mg x = some (.ref adr) ∧ FunD K x x params body scope [] [] adr fd ∧ FnScope N ps scope ∧
    chkSs P.sig N scope (fun _ => true) d.body body = true ∧ d.par = ps.length ∧ d.slots = N.length ∧ Binds K fd ps [] ∧
    (∀ m ks perm, (f, m, ks, perm) ∈ P.sig.kws → ∀ (s : Shared) (us ws : List Value), us.length = m → ws.length = ks.length → BindsTo s fd ⟨us, ks.zip ws⟩ (ps.zip (pick perm (us ++ ws))))
/-- a def that takes any number of arguments -/
structure StarT (P : Prg) (K : PySem.W.Frag) (mg : Str → Option Value) (f : Nat) (x : Str) (k : Nat) : Prop where
  ex : ∃ (adr : Addr) (fd : FuncData) (ps : List Str) (pv : Str) (N : List Str) (params : Arguments) (body : List Stmt) (scope : Scope) (d : Def), P.D f = some d ∧ mg x = some (.ref adr) ∧ FunD K x x params body scope [] [] adr fd ∧ FnScope N (ps ++ [pv]) scope ∧ ps.length = k ∧
    chkSs P.sig N scope (fun _ => true) d.body body = true ∧ d.par = (ps ++ [pv]).length ∧ d.slots = N.length ∧
    (∀ us rest : List Value, us.length = ps.length → bindArgs fd ⟨us ++ rest, []⟩ = (newTuple rest >>= fun t => pure (ps.zip us ++ [(pv, t)])))
structure Lay (P : Prg) (K : PySem.W.Frag) (mg : Str → Option Value) : Prop where
  free : ∀ x ∈ freeNames, mg x = none
  glb : ∀ g v x, P.G g = some v → P.sig.gn g = some x → ∃ u vv, mg x = some u ∧ RelV vv u ∧ ∀ ω H, Rep K ω H v vv
  defs : ∀ f x, P.sig.nm f = some x → DefT P K mg f x
  stars : ∀ f x k, P.sig.st f = some (x, k) → StarT P K mg f x k
  excs : ∀ c ∈ P.sig.exs, ∀ nm fo, excTab[c]? = some (nm, fo) → ExcD K mg (toS nm) (fo.map toS)
  own : P.sig.own = false
theorem relEnv_start {K : PySem.W.Frag} {ω : Wd} {H : Hp} {pvs : List PV} {vs : List V} {N : List Str} {d : Def} (r : Reps K ω H pvs vs) (hs : d.slots = N.length) (hl : pvs.length ≤ N.length) : RelEnv K ω H (startE d pvs) (L2.start N vs) := by
  have hv := r.length
  refine ⟨by unfold startE L2.start; simp [hv, hs], fun i v e => ?_⟩
  unfold startE at e
  unfold L2.start
  by_cases hi : i < pvs.length
  · rw [List.getElem?_append_left (by simpa using hi), List.getElem?_map] at e
    cases q : pvs[i]? with
    | none => rw [q] at e; cases e
    | some z =>
      rw [q] at e
      have : z = v := by simpa using e
      subst this
      obtain ⟨x, e1, rx⟩ := r.get q
      refine ⟨x, ?_, rx⟩
      rw [List.getElem?_append_left (by simpa [hv] using hi), List.getElem?_map, e1]
      rfl
  · rw [List.getElem?_append_right (by simpa using hi)] at e
    rw [List.getElem?_replicate] at e
    split at e <;> cases e
def AllAt (P : Prg) (prog : Program) (w : World) (K : PySem.W.Frag) (mg : Str → Option Value) (base : Heap) (n : Nat) : Prop := (∀ (f : Nat) (x : Str) (k : Nat), P.sig.st f = some (x, k) → ∃ a : Addr, mg x = some (.ref a) ∧ PySem.W.keepIn K (.ref a) = true ∧ FnR prog w K mg base (CX prog w) (n + 2) a (spS P K n f k)) ∧ ∀ (f : Nat) (x : Str), P.sig.nm f = some x →
    ∃ (a : Addr) (fd : FuncData) (ps : List Str), mg x = some (.ref a) ∧ PySem.W.keepIn K (.ref a) = true ∧ Binds K fd ps [] ∧
      (∀ m ks perm, (f, m, ks, perm) ∈ P.sig.kws → ∀ (s : Shared) (us ws : List Value), us.length = m → ws.length = ks.length → BindsTo s fd ⟨us, ks.zip ws⟩ (ps.zip (pick perm (us ++ ws)))) ∧
      (∀ d, P.D f = some d → ps.length = d.par) ∧ FnOk prog w K mg base (CX prog w) (n + 2) a fd ps (spN P K n f)
theorem body_go {P : Prg} {prog : Program} {w : World} {K : PySem.W.Frag} {mg : Str → Option Value} {base : Heap} {n f : Nat} {x : Str} {adr : Addr} {ps N : List Str} {body : List Stmt} {scope : Scope} {d : Def}
    (hd : P.D f = some d) (Sc : FnScope N ps scope) (hch : chkSs P.sig N scope (fun _ => true) d.body body = true) (hpar : d.par = ps.length) (hsl : d.slots = N.length)
    {cdv : Value} {A : Around} {outer : List PySem.Env} {s : Shared} {H : Hp} {vs : List V} {Q : VK} {E : XK} (hC : Cs P n E (cxOf (CX prog w) prog w K mg base N x scope adr cdv A outer s H E)) (hsp : spN P K (n + 1) f vs H Q E) :
    ∃ t, PSs (cxOf (CX prog w) prog w K mg base N x scope adr cdv A outer s H E) body t ∧ t { nx := fun _ H' => Q .non H', rt := Q } (L2.start N vs) H := by
  obtain ⟨ω, S, pvs, d', hS, r, hd', hl, hP⟩ := hsp
  rw [hd] at hd'; cases hd'
  refine ⟨_, sSs P n d.body _ E body hC hch, ?_⟩
  have hNp : ps.length ≤ N.length := by
    have := Sc.pre
    have h2 := congrArg List.length this
    rw [List.length_take] at h2
    omega
  refine ⟨ω, S, startE d pvs, hS, relEnv_start r hsl (by omega), ?_⟩
  have hP : Post K E (Rep K) ω H (callN P.D P.G P.wf (n + 1) f pvs S) Q := hP
  unfold callN at hP
  rw [hd] at hP
  simp only [if_pos hl] at hP
  refine (Post.bind (Rl := RelF K) hP).imp fun y H1 ⟨ω1, S1, fl, l1, s1, r1, p1⟩ => ?_
  cases fl with
  | nx e =>
    cases y with
    | nx σ' =>
      have z : Q V.non H1 := Post.ok (v := PV.non) p1 s1 rep_non
      exact z
    | _ => exact False.elim r1
  | rt v =>
    cases y with
    | rt y =>
      have z : Q y H1 := Post.ok (v := v) p1 s1 r1
      exact z
    | _ => exact False.elim r1
  | bk e => exact False.elim p1
  | ct e => exact False.elim p1
theorem body_ok {P : Prg} {prog : Program} {w : World} {K : PySem.W.Frag} {mg : Str → Option Value} {base : Heap} (L : Lay P K mg) {n f : Nat} (ih : AllAt P prog w K mg base n) {x : Str} {adr : Addr} {ps N : List Str} {body : List Stmt} {scope : Scope} {d : Def}
    (hd : P.D f = some d) (Sc : FnScope N ps scope) (hch : chkSs P.sig N scope (fun _ => true) d.body body = true) (hpar : d.par = ps.length) (hsl : d.slots = N.length)
    {cdv : Value} {A : Around} {outer : List PySem.Env} {s : Shared} {H : Hp} {vs : List V} {Q : VK} {E : XK} (hr : Room (n + 2) (A.deeper (envOfC x scope s.heap.objs.size adr cdv))) (hsp : spN P K (n + 1) f vs H Q E) :
    ∃ t, PSs (cxOf (CX prog w) prog w K mg base N x scope adr cdv A outer s H E) body t ∧ t { nx := fun _ H' => Q .non H', rt := Q } (L2.start N vs) H := by
  have hC : Cs P n E (cxOf (CX prog w) prog w K mg base N x scope adr cdv A outer s H E) := {
    calm := rfl
    nd := Sc.nd
    room := hr
    tk := takes_of rfl rfl rfl rfl
    free := L.free
    glb := L.glb
    fns := fun f x e => ⟨ih.2 f x e⟩
    has := fun f x e => by
      obtain ⟨_, _, _, _, _, _, _, d, hd, _⟩ := (L.defs f x e).ex
      exact ⟨d, hd⟩
    fnsS := fun f x k e => ih.1 f x k e
    hasS := fun f x k e => by
      obtain ⟨_, _, _, _, _, _, _, _, d, hd, _⟩ := (L.stars f x k e).ex
      exact ⟨d, hd⟩
    excs := L.excs
    lam := fun z => by rw [L.own] at z; cases z
    lamR := fun z => by rw [L.own] at z; cases z
    kind := Sc.kind
    pass := passes_of rfl }
  exact body_go hd Sc hch hpar hsl hC hsp
/-- the law, which may hold lambdas -/
def Prg.law (P : Prg) : Prg := ⟨⟨P.sig.nm, P.sig.gn, P.sig.kws, P.sig.st, P.sig.exs, true, P.sig.rf⟩, P.D, P.G, P.wf⟩
theorem law_step {P : Prg} {prog : Program} {w : World} {K : PySem.W.Frag} {mg : Str → Option Value} {base : Heap} (L : Lay P K mg) {n f : Nat} (ih : AllAt P prog w K mg base n) {x : Str} {adr : Addr} {fd : FuncData} {ps N : List Str} {params : Arguments} {body : List Stmt} {scope : Scope} {d : Def}
    (hd : P.D f = some d) (F : FunD K x x params body scope [] [] adr fd) (Sc : FnScope N ps scope) (hch : chkSs P.law.sig N scope (fun _ => true) d.body body = true) (hpar : d.par = ps.length) (hsl : d.slots = N.length)
    (hlam : ∀ (A : Around) (outer : List PySem.Env) (s : Shared) (H : Hp) (E : XK), Room (n + 5) (A.deeper (envOfC x scope s.heap.objs.size adr fd.code)) → LamF (cxOf (CX prog w) prog w K mg base N x scope adr fd.code A outer s H E) (P.G tabG) (n + 2) ∧ (P.sig.rf = true → LamR (cxOf (CX prog w) prog w K mg base N x scope adr fd.code A outer s H E) (n + 2))) :
    FnOk prog w K mg base (CX prog w) (n + 6) adr fd ps (spN P K (n + 1) f) := by
  have len : ∀ vs H Q E, spN P K (n + 1) f vs H Q E → vs.length = ps.length := fun vs H Q E ⟨ω, S, pvs, d', s, r, hd', hl, _⟩ => by
    rw [hd] at hd'; cases hd'
    rw [r.length, hl, hpar]
  obtain ⟨oc, od, dV, kV, doc, pm, an, cdv, ct, osl, rfl, lk, hcd, _, _⟩ := F.ex
  refine fn_of lk hcd Sc len fun A outer s H vs Q E hr hsp => ?_
  have hC : Cs P.law n E (cxOf (CX prog w) prog w K mg base N x scope adr cdv A outer s H E) := {
    calm := rfl
    nd := Sc.nd
    room := hr.mono (by omega)
    tk := takes_of rfl rfl rfl rfl
    free := L.free
    glb := L.glb
    fns := fun f x e => ⟨ih.2 f x e⟩
    has := fun f x e => by
      obtain ⟨_, _, _, _, _, _, _, d, hd, _⟩ := (L.defs f x e).ex
      exact ⟨d, hd⟩
    fnsS := fun f x k e => ih.1 f x k e
    hasS := fun f x k e => by
      obtain ⟨_, _, _, _, _, _, _, _, d, hd, _⟩ := (L.stars f x k e).ex
      exact ⟨d, hd⟩
    excs := L.excs
    lam := fun _ _ _ => (hlam A outer s H E hr).1
    lamR := fun _ z _ _ => (hlam A outer s H E hr).2 z
    kind := Sc.kind
    pass := passes_of rfl }
  exact body_go (P := P.law) hd Sc hch hpar hsl hC hsp
theorem fn_step {P : Prg} {prog : Program} {w : World} {K : PySem.W.Frag} {mg : Str → Option Value} {base : Heap} (L : Lay P K mg) {n f : Nat} (ih : AllAt P prog w K mg base n) {x : Str} {adr : Addr} {fd : FuncData} {ps N : List Str} {params : Arguments} {body : List Stmt} {scope : Scope} {d : Def}
    (hd : P.D f = some d) (F : FunD K x x params body scope [] [] adr fd) (Sc : FnScope N ps scope) (hch : chkSs P.sig N scope (fun _ => true) d.body body = true) (hpar : d.par = ps.length) (hsl : d.slots = N.length) :
    FnOk prog w K mg base (CX prog w) (n + 3) adr fd ps (spN P K (n + 1) f) := by
  have len : ∀ vs H Q E, spN P K (n + 1) f vs H Q E → vs.length = ps.length := fun vs H Q E ⟨ω, S, pvs, d', s, r, hd', hl, _⟩ => by
    rw [hd] at hd'; cases hd'
    rw [r.length, hl, hpar]
  exact F.ok Sc len fun cdv A outer s H vs Q E hr hsp => body_ok L ih hd Sc hch hpar hsl hr hsp
theorem star_step {P : Prg} {prog : Program} {w : World} {K : PySem.W.Frag} {mg : Str → Option Value} {base : Heap} (L : Lay P K mg) {n f : Nat} (ih : AllAt P prog w K mg base n) {x pv : Str} {adr : Addr} {fd : FuncData} {ps N : List Str} {params : Arguments} {body : List Stmt} {scope : Scope} {d : Def}
    (hd : P.D f = some d) (F : FunD K x x params body scope [] [] adr fd) (Sc : FnScope N (ps ++ [pv]) scope) (hch : chkSs P.sig N scope (fun _ => true) d.body body = true) (hpar : d.par = (ps ++ [pv]).length) (hsl : d.slots = N.length)
    (hb : ∀ us rest : List Value, us.length = ps.length → bindArgs fd ⟨us ++ rest, []⟩ = (newTuple rest >>= fun t => pure (ps.zip us ++ [(pv, t)]))) : FnR prog w K mg base (CX prog w) (n + 3) adr (spS P K (n + 1) f ps.length) := by
  obtain ⟨oc, od, dV, kV, doc, pm, an, cdv, ct, osl, rfl, lk, hcd, _, _⟩ := F.ex
  exact StX.fn_star lk hcd Sc StX.cxUp hb fun A outer s H vs Q E hr hsp => body_ok L ih hd Sc hch hpar hsl hr hsp
theorem all_fns {P : Prg} {prog : Program} {w : World} {K : PySem.W.Frag} {mg : Str → Option Value} {base : Heap} (L : Lay P K mg) : ∀ n, AllAt P prog w K mg base n
  | 0 => by
    refine ⟨fun f x k h => ?_, fun f x h => ?_⟩
    · obtain ⟨adr, fd, ps, pv, N, params, body, scope, d, hd, hm, F, Sc, ek, hch, hpar, hsl, hb⟩ := (L.stars f x k h).ex
      refine ⟨adr, hm, F.kp, fun A outer s H us vs Q E hr e0 r hsp => ?_⟩
      obtain ⟨ws, rest, ev, hl, hz, hq⟩ := hsp
      obtain ⟨_, _, _, _, _, _, _, _, z⟩ := hq s.heap.objs.size (e0.hok.fresh (Nat.le_refl _))
      exact False.elim z
    · obtain ⟨adr, fd, ps, N, params, body, scope, d, hd, hm, F, Sc, hch, hpar, hsl, hb, hk⟩ := (L.defs f x h).ex
      have no : ∀ vs H Q E, ¬ spN P K 0 f vs H Q E := fun vs H Q E ⟨_, _, _, _, _, _, _, _, z⟩ => z
      exact ⟨adr, fd, ps, hm, F.kp, hb, hk, fun d' e => by rw [hd] at e; cases e; exact hpar.symm, ⟨fun vs H Q E z => (no vs H Q E z).elim, fun A outer s H args us vs Q E _ _ _ _ z => (no vs H Q E z).elim⟩⟩
  | n + 1 => by
    refine ⟨fun f x k h => ?_, fun f x h => ?_⟩
    · obtain ⟨adr, fd, ps, pv, N, params, body, scope, d, hd, hm, F, Sc, ek, hch, hpar, hsl, hb⟩ := (L.stars f x k h).ex
      subst ek
      exact ⟨adr, hm, F.kp, star_step L (all_fns L n) hd F Sc hch hpar hsl hb⟩
    · obtain ⟨adr, fd, ps, N, params, body, scope, d, hd, hm, F, Sc, hch, hpar, hsl, hb, hk⟩ := (L.defs f x h).ex
      exact ⟨adr, fd, ps, hm, F.kp, hb, hk, fun d' e => by rw [hd] at e; cases e; exact hpar.symm, fn_step L (all_fns L n) hd F Sc hch hpar hsl⟩
end Mi
set_option Elab.async false
set_option linter.all false
set_option maxRecDepth 100000
namespace Mi
open PySem PySem.Spec PyProof.Rows L2

theorem zip_look {α : Type} : ∀ {ps : List Str} {us : List α} (_ : ps.Nodup) (_ : us.length = ps.length), (ps.filterMap fun n => ((ps.zip us).lookup n).map (n, ·)) = ps.zip us
  | [], _, _, _ => rfl
  | p :: ps, [], _, hl => by cases hl
  | p :: ps, u :: us, nd, hl => by
    have hl' : us.length = ps.length := by simpa using hl
    have nd' := List.nodup_cons.mp nd
    rw [List.zip_cons_cons, List.filterMap_cons]
    have e0 : ((p, u) :: ps.zip us).lookup p = some u := by simp [List.lookup]
    rw [e0]
    show (p, u) :: _ = _
    congr 1
    rw [← zip_look nd'.2 hl']
    rw [zip_look nd'.2 hl']
    have : ∀ n ∈ ps, (((p, u) :: ps.zip us).lookup n).map (n, ·) = ((ps.zip us).lookup n).map (n, ·) := fun n hn => by
      have : (n == p) = false := by
        rw [beq_eq_false_iff_ne]
        exact fun e => nd'.1 (e ▸ hn)
      simp [List.lookup, this]
    have cg : ∀ (l : List Str) (f g : Str → Option (Str × α)), (∀ n ∈ l, f n = g n) → l.filterMap f = l.filterMap g := by
      intro l f g
      induction l with
      | nil => intro _; rfl
      | cons a l ih =>
        intro h
        rw [List.filterMap_cons, List.filterMap_cons, h a List.mem_cons_self, ih fun n hn => h n (List.mem_cons_of_mem _ hn)]
    rw [cg _ _ _ this, zip_look nd'.2 hl']
theorem zip_miss {α : Type} {ps : List Str} {us : List α} (nd : ps.Nodup) (hl : us.length = ps.length) : (ps.filter fun n => ((ps.zip us).lookup n).isNone) = [] := by
  rw [List.filter_eq_nil_iff]
  intro n hn hc
  have e := zip_look nd hl
  have hno : ((ps.zip us).lookup n) = none := by
    cases q : (ps.zip us).lookup n with
    | none => rfl
    | some _ => rw [q] at hc; cases hc
  -- count lengths
  have h1 : (ps.filterMap fun n => ((ps.zip us).lookup n).map (n, ·)).length = ps.length := by rw [e, List.length_zip, hl, Nat.min_self]
  have h2 : (ps.filterMap fun n => ((ps.zip us).lookup n).map (n, ·)).length < ps.length := by
    have : ∀ (l : List Str) (f : Str → Option (Str × α)), (∃ n ∈ l, f n = none) → (l.filterMap f).length < l.length := by
      intro l f
      induction l with
      | nil => rintro ⟨_, h, _⟩; cases h
      | cons a l ih =>
        rintro ⟨n, hn, hf⟩
        rw [List.filterMap_cons]
        cases q : f a with
        | none =>
          have := List.length_filterMap_le f l
          simp only [List.length_cons]
          omega
        | some b =>
          have hn' : n ∈ l := by
            cases hn with
            | head => rw [hf] at q; cases q
            | tail _ h => exact h
          have := ih ⟨n, hn', hf⟩
          simp only [List.length_cons]
          omega
    exact this _ _ ⟨n, hn, by rw [hno]; rfl⟩
  omega

theorem bind_simple {x qual : Str} {as : List Arg} {kd : List (Option Expr)} {df : List Expr} {body : List Stmt} {scope : Scope} {kV doc pm cdv ct : Value} {an : Option Addr} {ps : List Str} (h : as.map (·.arg) = ps) (nd : ps.Nodup) (us : List Value) (hl : us.length = ps.length) :
    bindArgs (PySem.W.fnOf x qual ⟨[], as, none, [], kd, none, df⟩ body scope .none kV doc pm an cdv ct) ⟨us, []⟩ = pure (ps.zip us) := by
  subst h
  have m := zip_miss nd hl
  have k := zip_look nd hl
  have pos : (as.map (·.arg)).length = us.length := hl.symm
  have hl2 : us.length = as.length := by simpa using hl
  have ns : notAStandIn .none = pure () := rfl
  have tk : List.take as.length (as.map (·.arg)) = as.map (·.arg) := List.take_of_length_le (by simp)
  have k' := k
  rw [List.filterMap_map] at k'
  unfold bindArgs
  simp [PySem.W.fnOf, seqItems?, ns, hl2, tk, m, k']

theorem zip_more {α : Type} : ∀ {ps : List Str} {us rest : List α}, us.length = ps.length → ps.zip (us ++ rest) = ps.zip us
  | [], [], rest, _ => by simp
  | p :: ps, u :: us, rest, h => by simp [zip_more (ps := ps) (us := us) (rest := rest) (by simpa using h)]
  | [], _ :: _, _, h => by simp at h
  | _ :: _, [], _, h => by simp at h
theorem bind_many {x qual : Str} {as : List Arg} {v : Arg} {kd : List (Option Expr)} {df : List Expr} {body : List Stmt} {scope : Scope} {kV doc pm cdv ct : Value} {an : Option Addr} (nd : (as.map (·.arg)).Nodup) (us rest : List Value) (hl : us.length = as.length) :
    bindArgs (PySem.W.fnOf x qual ⟨[], as, some v, [], kd, none, df⟩ body scope .none kV doc pm an cdv ct) ⟨us ++ rest, []⟩ = (newTuple rest >>= fun t => pure ((as.map (·.arg)).zip us ++ [(v.arg, t)])) := by
  have hl' : us.length = (as.map (·.arg)).length := by simpa using hl
  have m := zip_miss nd hl'
  have k := zip_look nd hl'
  have ns : notAStandIn .none = pure () := rfl
  have tk : List.take as.length (as.map (·.arg)) = as.map (·.arg) := List.take_of_length_le (by simp)
  have zm : (as.map (·.arg)).zip (us ++ rest) = (as.map (·.arg)).zip us := zip_more hl'
  have dr : List.drop as.length (us ++ rest) = rest := by rw [← hl]; simp
  have k' := k
  rw [List.filterMap_map] at k'
  unfold bindArgs
  simp [PySem.W.fnOf, seqItems?, ns, zm, tk, m, k', dr]
def argsB (ps : List Str) (a : Arguments) : Bool := match a with
  | ⟨[], as, none, [], _, none, _⟩ => decide (as.map (·.arg) = ps)
  | _ => false
theorem argsB_ok {ps : List Str} {a : Arguments} (h : argsB ps a = true) : ∃ as kd df, a = ⟨[], as, none, [], kd, none, df⟩ ∧ as.map (·.arg) = ps := by
  unfold argsB at h
  split at h
  · exact ⟨_, _, _, rfl, of_decide_eq_true h⟩
  · cases h
def scB (N ps : List Str) (sc : Scope) : Bool := decide (sc.kind = .function) && (decide (sc.isCoroutine = false) && (decide (sc.isGenerator = false) && (decide N.Nodup && (decide (N.take ps.length = ps) && (ps.all (fun x => decide (sc.names.lookup x = some .local) || decide (sc.names.lookup x = some .cell)) && sc.names.all fun y => decide (y.2 ≠ .free))))))
theorem scB_ok {N ps : List Str} {sc : Scope} (h : scB N ps sc = true) : FnScope N ps sc := by
  unfold scB at h
  simp only [Bool.and_eq_true, decide_eq_true_eq, List.all_eq_true, Bool.or_eq_true] at h
  obtain ⟨h1, h2, h3, h4, h5, h6, h7⟩ := h
  exact ⟨h1, h2, h3, h4, h5, h6, h7⟩
/-- sk: the leading parameters of a def that takes any number of arguments -/
structure RowD where
  id : Nat
  nm : Str
  N : List Str
  ps : List Str
  st : Stmt
  d : Def
  sk : Option Nat
def argsS (ps : List Str) (k : Nat) (a : Arguments) : Bool := match a with
  | ⟨[], as, some v, [], _, none, _⟩ => decide (as.map (·.arg) ++ [v.arg] = ps) && decide (as.length = k)
  | _ => false
theorem argsS_ok {ps : List Str} {k : Nat} {a : Arguments} (h : argsS ps k a = true) : ∃ as v kd df, a = ⟨[], as, some v, [], kd, none, df⟩ ∧ ps = as.map (·.arg) ++ [v.arg] ∧ as.length = k := by
  unfold argsS at h
  split at h
  · rw [Bool.and_eq_true] at h
    exact ⟨_, _, _, _, rfl, (of_decide_eq_true h.1).symm, of_decide_eq_true h.2⟩
  · cases h
def RowD.ok (sg : Sig) (r : RowD) : Bool := (match r.sk with | none => argsB r.ps (defArgs r.st) | some k => argsS r.ps k (defArgs r.st)) && (scB r.N r.ps (defScope r.st) && (chkSs sg r.N (defScope r.st) (fun _ => true) r.d.body (defBody r.st) && (decide (r.d.par = r.ps.length) && (decide (r.d.slots = r.N.length) && decide r.ps.Nodup))))
/-- the __init__ of a class's text -/
def initSt : Stmt → Stmt
  | .ClassDef _ _ _ body _ _ _ _ _ _ _ => (body.find? fun s => match s with
    | .FunctionDef .. => true
    | _ => false).getD (.Pass ⟨0, 0, 0, 0⟩)
  | s => s
/-- exs: the exceptions' classes, by number, with their texts -/
structure TextD where
  rows : List RowD
  gl : List (Nat × Str × PV)
  kws : List (Nat × Nat × List Str × List Nat)
  wf : Nat
  exs : List (Nat × Stmt) := []
  rf : Bool := false
def xNm (c : Nat) : Str := match excTab[c]? with
  | some r => toS r.1
  | none => Str.empty
def xFo (c : Nat) : Option Str := match excTab[c]? with
  | some r => r.2.map toS
  | none => none
def argNs (a : Arguments) : List Str := a.args.map (·.arg)
def xPs (q : Nat × Stmt) : List Str := argNs (defArgs (initSt q.2))
/-- what is asked of the text of an exception's class -/
def xOk (q : Nat × Stmt) : Bool := argsB (xPs q) (defArgs (initSt q.2)) && (scB (xPs q) (xPs q) (defScope (initSt q.2)) && (initB (xNm q.1) (xFo q.1) (xPs q) (defScope (initSt q.2)) (defBody (initSt q.2)) && decide (xPs q).Nodup))
def xDd (q : Nat × Stmt) : He.DefD := ⟨(xNm q.1, some "__init__"), "__init__", xNm q.1 ++ ".__init__", defArgs (initSt q.2), defBody (initSt q.2), defScope (initSt q.2), [], []⟩
/-- what is asked of an exception's class in the written part -/
def oexB (K : PySem.W.Frag) (C : Addr) : Bool := (match K.lookup C with
  | some ⟨.type t, _, .cls cd, sl⟩ => (match cd.mro, sl.toList with
    | .ref C' :: bm, [_, _, _, _, some (.builtin n), _] => decide (t = "type") && (decide (C' = C) && (decide (n = "ValueError.__new__") && (!cd.hasDel && (cd.hasDict && PySem.HandSPX.refsVE bm))))
    | _, _ => false)
  | _ => false) && (decide (PySem.W.findIn K (.ref C) "__setattr__" = some (some (.builtin "object.__setattr__"))) && (decide (PySem.W.subIn K (.ref C) (.type "BaseException") = some true) && (decide (PySem.W.typeIn K (.ref C) = some (.type "type")) && PySem.W.keepIn K (.ref C))))
theorem oexB_ok {K : PySem.W.Frag} {C : Addr} (h : oexB K C = true) : OexC K C := by
  unfold oexB at h
  simp only [Bool.and_eq_true, decide_eq_true_eq] at h
  obtain ⟨h1, h2, h3, h4, h5⟩ := h
  refine ⟨?_, h2, h3, h4, h5⟩
  split at h1
  · rename_i t dd cd sl ho
    split at h1
    · rename_i C' bm k0 k1 k2 k3 n k5 hm hs
      simp only [Bool.and_eq_true, decide_eq_true_eq, Bool.not_eq_true'] at h1
      obtain ⟨rfl, rfl, rfl, hdel, hdc, hbm⟩ := h1
      obtain ⟨nm, bs, mro, ns, qn, hd, sn, sub, ab, col, del⟩ := cd
      dsimp only at hm hdel hdc
      subst hm hdel hdc
      have hsl : sl = #[k0, k1, k2, k3, some (.builtin "ValueError.__new__"), k5] := by
        obtain ⟨l⟩ := sl
        simp only at hs
        rw [hs]
      subst hsl
      exact ⟨nm, qn, ns, bs, bm, sn, sub, ab, col, dd, k0, k1, k2, k3, k5, ho, hbm⟩
    · cases h1
  · cases h1
def xB (K : PySem.W.Frag) (c : Nat) : Bool := oexB K (He.ga K (xNm c)) && (L2.xfB K (He.ga K (xNm c)) && (decide (PySem.W.findIn K (.ref (He.ga K (xNm c))) "code" = some none) && (decide (PySem.W.exmOne K (.ref (He.ga K (xNm c))) (.ref (He.ga K "ScatterError")) = some true) &&
  ((match xFo c with
  | none => true
  | some f => decide (PySem.W.findIn K (.ref (He.ga K (xNm c))) f = some none)) && (decide (PySem.W.findIn K (.ref (He.ga K (xNm c))) "__init__" = some (some (.ref (He.fAd K (xNm c, some "__init__"))))) && decide (PySem.W.typeIn K (.ref (He.fAd K (xNm c, some "__init__"))) = some (.type "function")))))))
theorem exc_of {K : PySem.W.Frag} {mg : Str → Option Value} {q : Nat × Stmt} (hk : xOk q = true) (hB : xB K q.1 = true) (hg : mg (xNm q.1) = some (.ref (He.ga K (xNm q.1)))) (hF : ∃ fd, FunD K (xDd q).name (xDd q).qual (xDd q).params (xDd q).body (xDd q).scope [] [] (He.fAd K (xDd q).at_) fd) :
    ExcD K mg (xNm q.1) (xFo q.1) := by
  unfold xOk at hk
  unfold xB at hB
  simp only [Bool.and_eq_true, decide_eq_true_eq] at hk hB
  obtain ⟨k1, k2, k3, k4⟩ := hk
  obtain ⟨b1, b2, b3, b4, b5, b6, b7⟩ := hB
  obtain ⟨fd, F⟩ := hF
  obtain ⟨as, kd, df, ea, ep⟩ := argsB_ok k1
  refine ⟨hg, oexB_ok b1, ⟨L2.xfB_ok b2, b3, b4⟩, fun f e => ?_, _, fd, _, _, _, _, _, xPs q, xPs q, b6, b7, F, ?_, scB_ok k2, k3⟩
  · rw [e] at b5
    exact of_decide_eq_true b5
  · refine FunD.bindsN F fun kV doc pm an cdv ct us hl => ?_
    show bindArgs (PySem.W.fnOf _ _ (defArgs (initSt q.2)) _ _ _ _ _ _ _ _ _) _ = _
    rw [ea]
    exact bind_simple ep k4 us hl
def TextD.row (T : TextD) (i : Nat) : Option RowD := T.rows.find? fun r => r.id == i
def TextD.glo (T : TextD) (i : Nat) : Option (Nat × Str × PV) := T.gl.find? fun r => r.1 == i
def TextD.nmOf (T : TextD) (i : Nat) : Option Str := (T.row i).bind fun r => match r.sk with | none => some r.nm | some _ => none
def TextD.stOf (T : TextD) (i : Nat) : Option (Str × Nat) := (T.row i).bind fun r => r.sk.map fun k => (r.nm, k)
def TextD.prg (T : TextD) : Prg := ⟨⟨T.nmOf, fun i => (T.glo i).map (·.2.1), T.kws, T.stOf, T.exs.map (·.1), false, T.rf⟩, fun i => (T.row i).map (·.d), fun i => (T.glo i).map (·.2.2), T.wf⟩
theorem eq_D {T : TextD} {l : List (Nat × Def)} (h : T.rows.map (fun r => (r.id, r.d)) = l) : T.prg.D = fun i => (l.find? fun p => p.1 == i).map (·.2) := by
  subst h
  funext i
  show (T.rows.find? fun r => r.id == i).map (·.d) = _
  rw [List.find?_map, Option.map_map]
  rfl
theorem eq_G {T : TextD} {l : List (Nat × PV)} (h : T.gl.map (fun r => (r.1, r.2.2)) = l) : T.prg.G = fun i => (l.find? fun p => p.1 == i).map (·.2) := by
  subst h
  funext i
  show (T.gl.find? fun r => r.1 == i).map (·.2.2) = _
  rw [List.find?_map, Option.map_map]
  rfl
def RowD.dd (r : RowD) : He.DefD := ⟨(r.nm, none), r.nm, r.nm, defArgs r.st, defBody r.st, defScope r.st, [], []⟩
def TextD.defs (T : TextD) : List He.DefD := T.rows.map RowD.dd ++ T.exs.map xDd
def TextD.facts (T : TextD) : List He.Fa := (T.rows.map (fun r => He.Fa.glo r.nm) ++ T.exs.map fun q => He.Fa.glo (xNm q.1)) ++ freeNames.map He.Fa.free
mutual
def pvB (K : PySem.W.Frag) : PV → Value → Bool
  | .non, .none => true
  | .bl b, .bool c => decide (b = c)
  | .int i, .int j _ => decide (i = j)
  | .str s, .str y _ => decide (toS s = y) && decide (s.length ≤ sizeLine)
  | .tup xs, .ref a => (match K.lookup a with
    | some ⟨.type c, _, .seq its _, _⟩ => decide (c = "tuple") && (decide (its.size ≤ sizeLine) && (decide (xs.length ≤ sizeLine) && pvBs K xs its.toList))
    | _ => false)
  | _, _ => false
def pvBs (K : PySem.W.Frag) : List PV → List Value → Bool
  | [], [] => true
  | x :: xs, u :: us => pvB K x u && pvBs K xs us
  | _, _ => false
end
mutual
theorem pvB_ok {K : PySem.W.Frag} : ∀ (v : PV) (u : Value), pvB K v u = true → ∃ vv, RelV vv u ∧ ∀ ω H, Rep K ω H v vv
  | .non, u, h => by
    cases u <;> simp [pvB] at h
    exact ⟨.non, rfl, fun _ _ => by simp [Rep]⟩
  | .bl b, u, h => by
    cases u <;> simp [pvB] at h
    subst h
    exact ⟨.bl b, rfl, fun _ _ => by simp [Rep]⟩
  | .int i, u, h => by
    cases u <;> simp [pvB] at h
    subst h
    exact ⟨.int i, ⟨_, rfl⟩, fun _ _ => by simp [Rep]⟩
  | .str s, u, h => by
    cases u <;> simp [pvB] at h
    obtain ⟨h1, h2⟩ := h
    subst h1
    exact ⟨.str _, ⟨_, rfl⟩, fun _ _ => by simp [Rep, h2]⟩
  | .tup xs, u, h => by
    cases u <;> simp only [pvB, Bool.false_eq_true] at h
    rename_i a
    split at h
    · rename_i c od its n sl q
      simp only [Bool.and_eq_true, decide_eq_true_eq] at h
      obtain ⟨h1, h2, h3, h4⟩ := h
      subst h1
      obtain ⟨vs, r, p⟩ := pvBs_ok xs its.toList h4
      refine ⟨.ref a, rfl, fun ω H => ?_⟩
      simp only [Rep]
      exact ⟨a, vs, rfl, .inr ⟨_, its, n, q, rfl, rfl, h2, r⟩, h3, p ω H⟩
    · cases h
  | .lst xs, u, h => by cases u <;> simp [pvB] at h
  | .frz xs, u, h => by cases u <;> simp [pvB] at h
  | .ref i, u, h => by cases u <;> simp [pvB] at h
theorem pvBs_ok {K : PySem.W.Frag} : ∀ (xs : List PV) (us : List Value), pvBs K xs us = true → ∃ vs, Vals vs us ∧ ∀ ω H, Reps K ω H xs vs
  | [], us, h => by
    cases us <;> simp [pvBs] at h
    exact ⟨[], .nil, fun _ _ => by simp [Reps]⟩
  | x :: xs, us, h => by
    cases us with
    | nil => simp [pvBs] at h
    | cons u us =>
      simp only [pvBs, Bool.and_eq_true] at h
      obtain ⟨v, r, p⟩ := pvB_ok x u h.1
      obtain ⟨vs, rs, ps⟩ := pvBs_ok xs us h.2
      exact ⟨v :: vs, .cons r rs, fun ω H => by simp only [Reps]; exact ⟨v, vs, rfl, p ω H, ps ω H⟩⟩
end
def TextD.exG (T : TextD) (K : PySem.W.Frag) : Bool := T.gl.all fun q => match PySem.W.nsIn K mainGlobals q.2.1 with
  | some (some u) => pvB K q.2.2 u
  | _ => false
def TextD.ex (T : TextD) (K : PySem.W.Frag) : Bool := T.exG K && T.exs.all fun q => xB K q.1
/-- what the head tells of a text -/
structure Told (T : TextD) (K : PySem.W.Frag) : Prop where
  facts : ∀ {f : He.Fa}, f ∈ T.facts → f.ok K = true
  defs : ∀ {d : He.DefD}, d ∈ T.defs → ∃ fd, FunD K d.name d.qual d.params d.body d.scope (d.dvs K) (d.kws K) (He.fAd K d.at_) fd
  more : T.ex K = true
theorem Told.glo {T : TextD} {K : PySem.W.Frag} (c : Told T K) {r : RowD} (hm : r ∈ T.rows) : (He.Fa.glo r.nm).ok K = true :=
  c.facts (List.mem_append_left _ (List.mem_append_left _ (List.mem_map_of_mem (f := fun r => He.Fa.glo r.nm) hm)))
theorem Told.def_ {T : TextD} {K : PySem.W.Frag} (c : Told T K) {r : RowD} (hm : r ∈ T.rows) : ∃ fd, FunD K r.nm r.nm (defArgs r.st) (defBody r.st) (defScope r.st) [] [] (He.ga K r.nm) fd :=
  c.defs (d := r.dd) (List.mem_append_left _ (List.mem_map_of_mem hm))
/-- a call by keywords binds in the parameters' order -/
def KwOk (ps : List Str) (a : Arguments) (m : Nat) (ks : List Str) (perm : List Nat) : Prop := ∀ (x qual : Str) (body : List Stmt) (scope : Scope) (kV doc pm : Value) (an : Option Addr) (cdv ct : Value) (us ws : List Value), us.length = m → ws.length = ks.length →
  bindArgs (PySem.W.fnOf x qual a body scope .none kV doc pm an cdv ct) ⟨us, ks.zip ws⟩ = pure (ps.zip (pick perm (us ++ ws)))
theorem lay_of {T : TextD} {K : PySem.W.Frag} {h : Heap} {mg : Str → Option Value} (X : K.In h) (G : h.Ns mainGlobals mg) (c : Told T K) (hx : T.exs.all xOk = true)
    (hok : T.rows.all (RowD.ok T.prg.sig) = true) (hkw : ∀ q ∈ T.kws, ∃ r, T.row q.1 = some r ∧ KwOk r.ps (defArgs r.st) q.2.1 q.2.2.1 q.2.2.2) : Lay T.prg K mg where
  free := fun x hx => He.free_ok X G (c.facts (List.mem_append_right _ (List.mem_map_of_mem hx)))
  glb := fun g v x hv hx => by
    have hv' : (T.glo g).map (·.2.2) = some v := hv
    have hx' : (T.glo g).map (·.2.1) = some x := hx
    cases q : T.glo g with
    | none => rw [q] at hv'; cases hv'
    | some z =>
      rw [q] at hv' hx'
      cases hv'; cases hx'
      have := List.all_eq_true.mp (Bool.and_eq_true_iff.mp c.more).1 z (List.mem_of_find?_eq_some q)
      cases e : PySem.W.nsIn K mainGlobals z.2.1 with
      | none => rw [e] at this; cases this
      | some o =>
        rw [e] at this
        cases o with
        | none => cases this
        | some u =>
          obtain ⟨vv, r, p⟩ := pvB_ok z.2.2 u this
          exact ⟨u, vv, PySem.W.mg_of X G e, r, p⟩
  defs := fun f x hx => by
    have hx' : ((T.row f).bind fun r => match r.sk with | none => some r.nm | some _ => none) = some x := hx
    cases q : T.row f with
    | none => rw [q] at hx'; cases hx'
    | some r =>
      rw [q] at hx'
      have hx' : (match r.sk with | none => some r.nm | some _ => none) = some x := hx'
      cases hsk : r.sk with
      | some k => rw [hsk] at hx'; cases hx'
      | none =>
      rw [hsk] at hx'
      cases hx'
      have hm := List.mem_of_find?_eq_some q
      obtain ⟨fd, F⟩ := c.def_ hm
      have hg := He.glo_ok X G (x := r.nm) (c.glo hm)
      have h0 := List.all_eq_true.mp hok r hm
      unfold RowD.ok at h0
      simp only [Bool.and_eq_true, decide_eq_true_eq] at h0
      obtain ⟨h1, h2, h3, h4, h5, h6⟩ := h0
      rw [hsk] at h1
      obtain ⟨as, kd, df, ea, ep⟩ := argsB_ok h1
      refine ⟨⟨_, fd, r.ps, r.N, _, _, _, r.d, ?_, hg, F, scB_ok h2, h3, h4, h5, ?_, ?_⟩⟩
      · show (T.row f).map (·.d) = some r.d
        rw [q]; rfl
      · refine F.bindsN fun kV doc pm an cdv ct us hl => ?_
        rw [ea]
        exact bind_simple ep h6 us hl
      · intro m ks perm hk s us ws hu hw
        obtain ⟨r', e', hb⟩ := hkw _ hk
        have e' : T.row f = some r' := e'
        rw [q] at e'; cases e'
        obtain ⟨oc, od, dV, kV, doc, pm, an, cdv, ct, osl, rfl, lk, hcd, hD, hK⟩ := F.ex
        rcases hD with ⟨_, rfl⟩ | ⟨e, _⟩
        · exact .of_eq (hb _ _ _ _ _ _ _ _ _ _ us ws hu hw)
        · exact absurd rfl e
  stars := fun f x k hx => by
    have hx' : ((T.row f).bind fun r => r.sk.map fun k => (r.nm, k)) = some (x, k) := hx
    cases q : T.row f with
    | none => rw [q] at hx'; cases hx'
    | some r =>
      rw [q] at hx'
      have hx' : (r.sk.map fun k => (r.nm, k)) = some (x, k) := hx'
      cases hsk : r.sk with
      | none => rw [hsk] at hx'; cases hx'
      | some j =>
        rw [hsk] at hx'
        cases hx'
        have hm := List.mem_of_find?_eq_some q
        obtain ⟨fd, F⟩ := c.def_ hm
        have hg := He.glo_ok X G (x := r.nm) (c.glo hm)
        have h0 := List.all_eq_true.mp hok r hm
        unfold RowD.ok at h0
        simp only [Bool.and_eq_true, decide_eq_true_eq] at h0
        obtain ⟨h1, h2, h3, h4, h5, h6⟩ := h0
        rw [hsk] at h1
        obtain ⟨as, v, kd, df, ea, ep, ek⟩ := argsS_ok h1
        have h2' := scB_ok h2
        rw [ep] at h2' h4 h6
        refine ⟨⟨_, fd, as.map (·.arg), v.arg, r.N, _, _, _, r.d, ?_, hg, F, h2', by rw [List.length_map]; exact ek, h3, h4, h5, ?_⟩⟩
        · show (T.row f).map (·.d) = some r.d
          rw [q]; rfl
        · intro us rest hl
          obtain ⟨oc, od, dV, kV, doc, pm, an, cdv, ct, osl, rfl, lk, hcd, hD, hK⟩ := F.ex
          rcases hD with ⟨_, rfl⟩ | ⟨e, _⟩
          · rw [ea]
            exact bind_many (List.nodup_append.mp h6).1 us rest (by simpa using hl)
          · exact absurd rfl e
  excs := fun i hi nm fo e => by
    obtain ⟨q, hq, rfl⟩ := List.mem_map.mp hi
    have e1 : xNm q.1 = toS nm := by unfold xNm; rw [e]
    have e2 : xFo q.1 = fo.map toS := by unfold xFo; rw [e]
    have := exc_of (List.all_eq_true.mp hx q hq) (List.all_eq_true.mp (Bool.and_eq_true_iff.mp c.more).2 q hq)
      (He.glo_ok X G (x := xNm q.1) (c.facts (List.mem_append_left _ (List.mem_append_right _ (List.mem_map_of_mem (f := fun q => He.Fa.glo (xNm q.1)) hq))))) (c.defs (d := xDd q) (List.mem_append_right _ (List.mem_map_of_mem hq)))
    rw [e1, e2] at this
    exact this
  own := rfl
theorem told_of {T : TextD} {w : World} {h : Heap} {K : PySem.W.Frag} {fa : List He.Fa} {fn : List He.DefD} {tf : List He.Defn} {ex : PySem.W.Frag → Bool} (c : He.SaysX fa fn [] tf ex w h K) (hf : ∀ f ∈ T.facts, f ∈ fa) (hd : ∀ d ∈ T.defs, d ∈ fn) (hx : ex K = true → T.ex K = true) : Told T K :=
  ⟨fun m => c.t.d.facts (hf _ m), fun m => c.t.d.defs (hd _ m), hx c.more⟩
theorem rep_script {K : PySem.W.Frag} {H : Hp} {a : Addr} {ns : List Int} (hO : Only H) (hS : SqL K H a (ns.map V.int)) (hl : ns.length ≤ sizeLine) : Rep K ⟨[], []⟩ H (.frz (ns.map PV.int)) (.ref a) := by
  have hr : ∀ ns : List Int, Reps K ⟨[], []⟩ H (ns.map PV.int) (ns.map V.int) := by
    intro ns
    induction ns with
    | nil => simp [Reps]
    | cons n ns ih =>
      simp only [List.map_cons, Reps]
      exact ⟨_, _, rfl, by simp [Rep], ih⟩
  simp only [Rep]
  refine ⟨a, _, rfl, ?_, by simpa using hl, hr ns⟩
  rcases hS with h | h
  · rcases h with h | ⟨o, h⟩
    · rcases hO a with z | ⟨o, xs, z⟩
      · rw [h] at z; cases z
      · rw [h] at z; cases z
    · exact .inl ⟨_, ⟨.inr ⟨o, rfl⟩, h⟩, by simp, by simp⟩
  · exact .inr h
/-- the law's end: the whole text is sound, so the law's denotation is what is left -/
theorem end_of {l : PySem.W.OpenLaw} {T : TextD} {n k fl hk : Nat} {q : Program} {loose : List Str} {XP : (Str → Option Value) → Heap → Prop} {d : DefRec} {x : Str} {r : RowD}
    (hn : l.most = some n) (hn2 : n ≤ sizeLine) (hdf : d.params.defaults = []) (hr : Room (k + 2) callerA) (hrow : T.row fl = some r) (hps : r.ps = [x]) (hnm : r.nm = d.name) (hsk : r.sk = none)
    (hxs : T.exs.all xOk = true) (hok : T.rows.all (RowD.ok T.prg.sig) = true) (hkw : ∀ q ∈ T.kws, ∃ r, T.row q.1 = some r ∧ KwOk r.ps (defArgs r.st) q.2.1 q.2.2.1 q.2.2.2)
    (hP : ∀ ns : List Int, ns.length ≤ n → ∃ S, callN T.prg.D T.prg.G T.wf k fl [.frz (ns.map PV.int)] [] = .ok (.bl true) S) :
    PySem.W.WalkO q loose XP (He.hookX hk T.facts T.defs [] [] T.ex).says l.row.toRowW d [] (fun f vs => PySem.call f vs) := by
  refine Att.attach_call hn hdf fun w s₀ s₁ mg mb fa o pm cd doc a vs ns G Y ho hd hcd hmg hobj hints hlen hg => ?_
  obtain ⟨K, KX, c⟩ := Y
  have c := told_of (T := T) c (fun _ h => h) (fun _ h => h) id
  have L : Lay T.prg K mg := lay_of KX G.T.g c hxs hok hkw
  have hm := List.mem_of_find?_eq_some hrow
  obtain ⟨fd, F⟩ := c.def_ hm
  have hg' := He.glo_ok KX G.T.g (x := r.nm) (c.glo hm)
  rw [hnm] at hg'
  have ea : fa = He.ga K r.nm := by
    have := hmg.symm.trans hg'
    rw [hnm]
    cases this; rfl
  subst ea
  have h0 := List.all_eq_true.mp hok r hm
  unfold RowD.ok at h0
  simp only [Bool.and_eq_true, decide_eq_true_eq] at h0
  obtain ⟨h1, h2, h3, h4, h5, h6⟩ := h0
  rw [hsk] at h1
  obtain ⟨as, kd, df, ea, ep⟩ := argsB_ok h1
  have hrd : (T.prg.D fl) = some r.d := by
    show (T.row fl).map (·.d) = some r.d
    rw [hrow]; rfl
  have hb : ∀ (s : Shared) (u : Value), BindsTo s fd ⟨[u], []⟩ [(x, u)] := fun s u => by
    have := F.bindsA (ps := r.ps) (fun kV doc pm an cdv ct us hl => by rw [ea]; exact bind_simple ep h6 us hl) s [u] (by rw [hps]; rfl)
    rw [hps] at this
    exact this
  cases k with
  | zero =>
    obtain ⟨S, e⟩ := hP [] (Nat.zero_le _)
    unfold callN at e
    cases e
  | succ k =>
    refine law_call (CX := CX l.prog w) (sp := spN T.prg K (k + 1) fl) KX G.T.g G.T.b G.T.builtins G.T.nolimit hg hobj hints (Nat.le_trans hlen hn2) hr (fun base _ _ => ?_) hb (fun H hO hS => ?_) ?_
    · rw [← hps]
      exact fn_step L (all_fns L k) hrd F (scB_ok h2) h3 h4 h5
    · obtain ⟨S, e⟩ := hP ns hlen
      refine ⟨⟨[], []⟩, [], [.frz (ns.map PV.int)], r.d, ⟨List.nodup_nil, rfl, fun i c a e => by simp at e, fun a h => by simp at h, fun i p q e => by simp at e⟩, ?_, hrd, by rw [h4, hps]; rfl, ?_⟩
      · simp only [Reps]
        exact ⟨_, _, rfl, rep_script hO hS (Nat.le_trans hlen hn2), rfl⟩
      · have e : callN T.prg.D T.prg.G T.prg.wf (k + 1) fl [.frz (ns.map PV.int)] [] = .ok (.bl true) S := e
        rw [e]
        intro ω' H' x _ _ hx
        simpa only [Rep] using hx
    · rintro H e s' ⟨a, B, H', cls, d, _, _, _, _, _, _, _, z⟩
      exact z
end Mi
set_option Elab.async false
set_option linter.all false
set_option maxRecDepth 100000
set_option maxHeartbeats 2000000
namespace Mi
open PySem PySem.Spec PyProof.Rows L2 L2H LamX
/-- a text with `_law_try` and `_law_field`; lr: the law, which is none of the rows -/
structure TextO extends TextD where
  lr : RowD
  tS : Stmt
  tN : List Str
  ta : Str
  te : Str
  ti : Nat
  fS : Stmt
  fN : List Str
  fe : Str
  rS : Stmt := .Pass ⟨0, 0, 0, 0⟩
  rN : List Str := []
  ra : Str := Str.empty
  rt : Str := Str.empty
def isGlo (sc : Scope) (x : Str) : Bool := decide (sc.names.lookup x = some .globalImplicit)
def TextO.okT (T : TextO) : Bool := argsB [T.ta] (defArgs T.tS) && (scB T.tN [T.ta] (defScope T.tS) && (tryB T.ta T.te (defBody T.tS) && (plainY T.ta && (plainY T.te && (decide (T.tN[0]? = some T.ta) && (visB (defScope T.tS) T.ta && (decide (T.tN[T.ti]? = some T.te) &&
  (decide ((defScope T.tS).names.lookup T.te = some .local) && (isGlo (defScope T.tS) "ScatterError" && (isGlo (defScope T.tS) "Missing" && isGlo (defScope T.tS) "_law_field"))))))))))
def TextO.okF (T : TextO) : Bool := argsB [T.fe] (defArgs T.fS) && (scB T.fN [T.fe] (defScope T.fS) && (decide (T.fN[0]? = some T.fe) && (visB (defScope T.fS) T.fe && (plainY T.fe && excTab.all fun r => decide (bodyF T.fe (toS r.1) (defBody T.fS) = some (r.2.map toS))))))
def TextO.okR (T : TextO) : Bool := !T.rf || (argsB [T.ra] (defArgs T.rS) && (scB T.rN [T.ra] (defScope T.rS) && (refB T.ra T.rt (defBody T.rS) && (plainY T.ra && (plainY T.rt && (decide (T.rN[0]? = some T.ra) && (decide (T.rN[1]? = some T.rt) && (visB (defScope T.rS) T.ra && (decide ((defScope T.rS).names.lookup T.rt = some .local) && isGlo (defScope T.rS) "_law_try")))))))))
def TextO.moreR (T : TextO) : List He.DefD := if T.rf then [⟨("_law_refusal", none), "_law_refusal", "_law_refusal", defArgs T.rS, defBody T.rS, defScope T.rS, [], []⟩] else []
def TextO.factR (T : TextO) : List He.Fa := if T.rf then [.glo "_law_refusal"] else []
def TextO.moreD (T : TextO) : List He.DefD := [T.lr.dd, ⟨("_law_try", none), "_law_try", "_law_try", defArgs T.tS, defBody T.tS, defScope T.tS, [], []⟩, ⟨("_law_field", none), "_law_field", "_law_field", defArgs T.fS, defBody T.fS, defScope T.fS, [], []⟩]
def TextO.moreF : List He.Fa := [.glo "law", .glo "_law_try", .glo "_law_field", .glo "ScatterError", .glo "Missing"]
def TextO.defsT (T : TextO) : List He.DefD := T.defs ++ (T.moreD ++ T.moreR)
def TextO.factsT (T : TextO) : List He.Fa := T.facts ++ (TextO.moreF ++ T.factR)
def TextO.tf : List He.Defn := [("law", none)]
/-- the program, the table's address told -/
def TextO.prgT (T : TextO) (p : Nat) : Prg := ⟨T.prg.sig, fun i => ((T.lr :: T.rows).find? fun r => r.id == i).map (·.d), fun i => if i = tabG then some (.int p) else T.prg.G i, T.prg.wf⟩
theorem eq_DT {T : TextO} {p : Nat} {l : List (Nat × Def)} (h : (T.lr :: T.rows).map (fun r => (r.id, r.d)) = l) : (T.prgT p).D = fun i => (l.find? fun p => p.1 == i).map (·.2) := by
  subst h
  funext i
  show ((T.lr :: T.rows).find? fun r => r.id == i).map (·.d) = _
  rw [List.find?_map, Option.map_map]
  rfl
theorem eq_GT {T : TextO} {p : Nat} {l : List (Nat × PV)} (h : T.gl.map (fun r => (r.1, r.2.2)) = l) : (T.prgT p).G = fun i => if i = tabG then some (.int p) else (l.find? fun p => p.1 == i).map (·.2) := by
  funext i
  show (if i = tabG then some (PV.int p) else T.prg.G i) = _
  rw [eq_G h]
theorem prgT_D {T : TextO} {p f : Nat} {d : Def} (hL : T.row T.lr.id = none) (h : T.prg.D f = some d) : (T.prgT p).D f = some d := by
  have h : (T.row f).map (·.d) = some d := h
  have hne : (T.lr.id == f) = false := by
    rw [beq_eq_false_iff_ne]
    intro e
    rw [← e, hL] at h; cases h
  show ((T.lr :: T.rows).find? fun r => r.id == f).map (·.d) = some d
  rw [List.find?_cons, hne]
  exact h
theorem lay_T {T : TextO} {K : PySem.W.Frag} {mg : Str → Option Value} {p : Nat} (hG : T.glo tabG = none) (hL : T.row T.lr.id = none) (L : Lay T.prg K mg) : Lay (T.prgT p) K mg where
  free := L.free
  glb := fun g v x hv hx => by
    by_cases hg : g = tabG
    · subst hg
      have hx : (T.glo tabG).map (·.2.1) = some x := hx
      rw [hG] at hx; cases hx
    · have hv : (if g = tabG then some (PV.int p) else T.prg.G g) = some v := hv
      rw [if_neg hg] at hv
      exact L.glb g v x hv hx
  defs := fun f x h => by
    obtain ⟨adr, fd, ps, N, params, body, scope, d, hd, r⟩ := (L.defs f x h).ex
    exact ⟨adr, fd, ps, N, params, body, scope, d, prgT_D hL hd, r⟩
  stars := fun f x k h => by
    obtain ⟨adr, fd, ps, pv, N, params, body, scope, d, hd, r⟩ := (L.stars f x k h).ex
    exact ⟨adr, fd, ps, pv, N, params, body, scope, d, prgT_D hL hd, r⟩
  excs := L.excs
  own := L.own
theorem binds_one {K : PySem.W.Frag} {x a : Str} {st : Stmt} {f : Addr} {fd : FuncData} (h : argsB [a] (defArgs st) = true) (F : FunD K x x (defArgs st) (defBody st) (defScope st) [] [] f fd) : Binds K fd [a] [] := by
  obtain ⟨as, kd, df, ea, ep⟩ := argsB_ok h
  refine F.bindsN fun kV doc pm an cdv ct us hl => ?_
  rw [ea]
  exact bind_simple ep (by simp) us hl
theorem start0 {N : List Str} {f : Addr} : (L2.start N [V.ref f])[0]? = some (some (V.ref f)) := by unfold L2.start; simp
theorem lamF_of {T : TextO} {prog : Program} {w : World} {K : PySem.W.Frag} {mg : Str → Option Value} {base h : Heap} {N : List Str} {scope : Scope} {adr : Addr} {cdv : Value} {A : Around} {outer : List PySem.Env} {s : Shared} {H : Hp} {E : XK} {n c p : Nat}
    (KX : K.In h) (hns : h.Ns mainGlobals mg) (hf : ∀ f ∈ TextO.moreF, f.ok K = true) (hd : ∀ d ∈ T.moreD, ∃ fd, FunD K d.name d.qual d.params d.body d.scope (d.dvs K) (d.kws K) (He.fAd K d.at_) fd) (hT : T.okT = true) (hF : T.okF = true)
    (hr : Room (n + 3) (A.deeper (envOfC "law" scope s.heap.objs.size adr cdv))) (hcd : cdv = .ref c) (TB : TabB base mg c p) :
    LamF (cxOf (CX prog w) prog w K mg base N "law" scope adr cdv A outer s H E) (some (.int p)) n := by
  unfold TextO.okT at hT
  unfold TextO.okF at hF
  simp only [Bool.and_eq_true, decide_eq_true_eq] at hT hF
  obtain ⟨t1, t2, t3, t4, t5, t6, t7, t8, t9, t10, t11, t12⟩ := hT
  obtain ⟨f1, f2, f3, f4, f5, f6⟩ := hF
  obtain ⟨fdT, FT⟩ := hd _ (List.mem_cons_of_mem _ List.mem_cons_self)
  obtain ⟨fdF, FF⟩ := hd _ (List.mem_cons_of_mem _ (List.mem_cons_of_mem _ List.mem_cons_self))
  have FT : FunD K "_law_try" "_law_try" (defArgs T.tS) (defBody T.tS) (defScope T.tS) [] [] (He.ga K "_law_try") fdT := FT
  have FF : FunD K "_law_field" "_law_field" (defArgs T.fS) (defBody T.fS) (defScope T.fS) [] [] (He.ga K "_law_field") fdF := FF
  have g1 := He.glo_ok KX hns (hf (.glo "_law_try") (by simp [TextO.moreF]))
  have g2 := He.glo_ok KX hns (hf (.glo "_law_field") (by simp [TextO.moreF]))
  have g3 := He.glo_ok KX hns (hf (.glo "ScatterError") (by simp [TextO.moreF]))
  have g4 := He.glo_ok KX hns (hf (.glo "Missing") (by simp [TextO.moreF]))
  obtain ⟨d1, d2, _⟩ := plainY_ok t4
  obtain ⟨d3, d4, _⟩ := plainY_ok t5
  obtain ⟨d5, d6, _⟩ := plainY_ok f5
  refine ⟨hr, ⟨_, fdT, T.ta, T.tN, _, _, _, g1, FT.kp, FT, binds_one t1 FT, scB_ok t2, t6, visB_ok t7, d1, d2, fun cdg => ?_⟩, fun j hj => ?_, ?_⟩
  · refine try_gives (e' := T.fe) t3 hr (scB_ok t2).nd (of_decide_eq_true t10) (of_decide_eq_true t11) (of_decide_eq_true t12) g3 g4 rfl t8 t9 d3 d4 (fun f e => ?_) ⟨_, fdF, T.fN, _, _, _, g2, FF, scB_ok f2, f3, visB_ok f4, binds_one f1 FF, fun nm fo hm => ?_⟩ d5 d6 fun f => start0
    · have e : mg "_law_field" = some (.ref f) := e
      rw [g2] at e
      cases e
      exact FF.kp
    · exact of_decide_eq_true (List.all_eq_true.mp f6 (nm, fo) hm)
  · cases hj
    exact ⟨c, p, rfl, TB, hcd⟩
  · show (("law" : Str) ++ ".<locals>.") ++ "<lambda>" = toS lamQ
    decide +kernel
theorem lamR_of {T : TextO} {prog : Program} {w : World} {K : PySem.W.Frag} {mg : Str → Option Value} {base h : Heap} {N : List Str} {scope : Scope} {adr : Addr} {cdv : Value} {A : Around} {outer : List PySem.Env} {s : Shared} {H : Hp} {E : XK} {n : Nat}
    (KX : K.In h) (hns : h.Ns mainGlobals mg) (hf : ∀ f ∈ TextO.moreF, f.ok K = true) (hd : ∀ d ∈ T.moreD, ∃ fd, FunD K d.name d.qual d.params d.body d.scope (d.dvs K) (d.kws K) (He.fAd K d.at_) fd) (hT : T.okT = true) (hF : T.okF = true) (hR : T.okR = true) (hrf : T.rf = true)
    (hfr : ∀ f ∈ T.factR, f.ok K = true) (hdr : ∀ d ∈ T.moreR, ∃ fd, FunD K d.name d.qual d.params d.body d.scope (d.dvs K) (d.kws K) (He.fAd K d.at_) fd) (hr : Room (n + 4) (A.deeper (envOfC "law" scope s.heap.objs.size adr cdv))) :
    LamR (cxOf (CX prog w) prog w K mg base N "law" scope adr cdv A outer s H E) (n + 1) := by
  unfold TextO.okT at hT
  unfold TextO.okF at hF
  unfold TextO.okR at hR
  simp only [hrf, Bool.not_true, Bool.false_or, Bool.and_eq_true, decide_eq_true_eq] at hT hF hR
  obtain ⟨t1, t2, t3, t4, t5, t6, t7, t8, t9, t10, t11, t12⟩ := hT
  obtain ⟨f1, f2, f3, f4, f5, f6⟩ := hF
  obtain ⟨r1, r2, r3, r4, r5, r6, r7, r8, r9, r10⟩ := hR
  obtain ⟨fdT, FT⟩ := hd _ (List.mem_cons_of_mem _ List.mem_cons_self)
  obtain ⟨fdF, FF⟩ := hd _ (List.mem_cons_of_mem _ (List.mem_cons_of_mem _ List.mem_cons_self))
  obtain ⟨fdR, FR⟩ := hdr _ (by unfold TextO.moreR; rw [if_pos hrf]; exact List.mem_cons_self)
  have FT : FunD K "_law_try" "_law_try" (defArgs T.tS) (defBody T.tS) (defScope T.tS) [] [] (He.ga K "_law_try") fdT := FT
  have FF : FunD K "_law_field" "_law_field" (defArgs T.fS) (defBody T.fS) (defScope T.fS) [] [] (He.ga K "_law_field") fdF := FF
  have FR : FunD K "_law_refusal" "_law_refusal" (defArgs T.rS) (defBody T.rS) (defScope T.rS) [] [] (He.ga K "_law_refusal") fdR := FR
  have g1 := He.glo_ok KX hns (hf (.glo "_law_try") (by simp [TextO.moreF]))
  have g2 := He.glo_ok KX hns (hf (.glo "_law_field") (by simp [TextO.moreF]))
  have g3 := He.glo_ok KX hns (hf (.glo "ScatterError") (by simp [TextO.moreF]))
  have g4 := He.glo_ok KX hns (hf (.glo "Missing") (by simp [TextO.moreF]))
  have g5 := He.glo_ok KX hns (hfr (.glo "_law_refusal") (by unfold TextO.factR; rw [if_pos hrf]; exact List.mem_cons_self))
  obtain ⟨d1, d2, _⟩ := plainY_ok t4
  obtain ⟨d3, d4, _⟩ := plainY_ok t5
  obtain ⟨d5, d6, _⟩ := plainY_ok f5
  obtain ⟨d7, d8, _⟩ := plainY_ok r4
  obtain ⟨d9, d10, _⟩ := plainY_ok r5
  refine ⟨_, fdR, T.ra, T.rN, _, _, _, g5, FR.kp, FR, binds_one r1 FR, scB_ok r2, fun cdg => ?_⟩
  obtain ⟨oc, od, dV, kV, doc, pm, an, cdT, ct, osl, eT, lk, hcg, hD, hK⟩ := FT.ex
  have bT := binds_one t1 FT
  rw [eT] at lk bT
  refine ref_gives (X := cxOf (CX prog w) prog w K mg base N "law" scope adr cdv A outer s H E) (n := n + 1) r3 hr (scB_ok r2).nd r6 r7 (visB_ok r8) r9 d7 d8 d9 d10 (of_decide_eq_true r10) g1 FT.kp lk hcg bT (scB_ok t2) t6 (visB_ok t7) d1 d2 fun s' H' => ?_
  refine try_gives (e' := T.fe) (n := n) t3 (hr.deeper _) (scB_ok t2).nd (of_decide_eq_true t10) (of_decide_eq_true t11) (of_decide_eq_true t12) g3 g4 rfl t8 t9 d3 d4 (fun f e => ?_) ⟨_, fdF, T.fN, _, _, _, g2, FF, scB_ok f2, f3, visB_ok f4, binds_one f1 FF, fun nm fo hm => ?_⟩ d5 d6 fun f => start0
  · have e : mg "_law_field" = some (.ref f) := e
    rw [g2] at e
    cases e
    exact FF.kp
  · exact of_decide_eq_true (List.all_eq_true.mp f6 (nm, fo) hm)
theorem rep_scriptT {K : PySem.W.Frag} {H : Hp} {a p : Addr} {ns : List Int} (hp : H p = some (.tbl #[])) (hS : SqL K H a (ns.map V.int)) (hl : ns.length ≤ sizeLine) : Rep K ⟨[p], []⟩ H (.frz (ns.map PV.int)) (.ref a) := by
  have hr : ∀ ns : List Int, Reps K ⟨[p], []⟩ H (ns.map PV.int) (ns.map V.int) := by
    intro ns
    induction ns with
    | nil => simp [Reps]
    | cons n ns ih =>
      simp only [List.map_cons, Reps]
      exact ⟨_, _, rfl, by simp [Rep], ih⟩
  simp only [Rep]
  refine ⟨a, _, rfl, ?_, by simpa using hl, hr ns⟩
  have ne : ∀ u, H a = some u → NoT u → a ∉ [p] := fun u h t m => by
    rw [List.mem_singleton.mp m, hp] at h
    cases h
    exact t #[] rfl
  rcases hS with h | h
  · rcases h with h | ⟨o, h⟩
    · exact .inl ⟨_, ⟨.inl rfl, h⟩, ne _ h noT_lst, by simp⟩
    · exact .inl ⟨_, ⟨.inr ⟨o, rfl⟩, h⟩, ne _ h noT_frz, by simp⟩
  · exact .inr h
theorem end_ofT {l : PySem.W.OpenLaw} {T : TextO} {n k hk : Nat} {q : Program} {loose : List Str} {XP : (Str → Option Value) → Heap → Prop} {d : DefRec} {x : Str}
    (hn : l.most = some n) (hn2 : n ≤ sizeLine) (hdf : d.params.defaults = []) (hr : Room (k + 5) callerA) (hps : T.lr.ps = [x]) (hnm : d.name = "law") (hnr : T.lr.nm = "law") (hsk : T.lr.sk = none)
    (hxs : T.exs.all xOk = true) (hoL : RowD.ok T.prg.law.sig T.lr = true) (hok : T.rows.all (RowD.ok T.prg.sig) = true) (hkw : ∀ q ∈ T.kws, ∃ r, T.row q.1 = some r ∧ KwOk r.ps (defArgs r.st) q.2.1 q.2.2.1 q.2.2.2)
    (hT : T.okT = true) (hF : T.okF = true) (hR : T.okR = true) (hG : T.glo tabG = none) (hL : T.row T.lr.id = none)
    (hP : ∀ (p : Nat) (ns : List Int), ns.length ≤ n → ∃ S, callN (T.prgT p).D (T.prgT p).G T.wf k T.lr.id [.frz (ns.map PV.int)] [.tab p lamQ] = .ok (.bl true) S) :
    PySem.W.WalkO q loose XP (He.hookX hk T.factsT T.defsT [] TextO.tf T.ex).says l.row.toRowW d [] (fun f vs => PySem.call f vs) := by
  refine Att.attach_callB hn hdf fun w s₀ s₁ mg mb fa o pm cd doc a vs ns G Y ho hd hcd hmg hobj hints hlen hbits hg => ?_
  obtain ⟨K, KX, c⟩ := Y
  have c1 : Told T.toTextD K := told_of c (fun _ h => List.mem_append_left _ h) (fun _ h => List.mem_append_left _ h) id
  have hf : ∀ f ∈ TextO.moreF, f.ok K = true := fun f m => c.t.d.facts (List.mem_append_right _ (List.mem_append_left _ m))
  have hfr : ∀ f ∈ T.factR, f.ok K = true := fun f m => c.t.d.facts (List.mem_append_right _ (List.mem_append_right _ m))
  have hd2 : ∀ d ∈ T.moreD, ∃ fd, FunD K d.name d.qual d.params d.body d.scope (d.dvs K) (d.kws K) (He.fAd K d.at_) fd := fun d m => c.t.d.defs (List.mem_append_right _ (List.mem_append_left _ m))
  have hdr : ∀ d ∈ T.moreR, ∃ fd, FunD K d.name d.qual d.params d.body d.scope (d.dvs K) (d.kws K) (He.fAd K d.at_) fd := fun d m => c.t.d.defs (List.mem_append_right _ (List.mem_append_right _ m))
  have L0 : Lay T.prg K mg := lay_of KX G.T.g c1 hxs hok hkw
  obtain ⟨fd, F⟩ := hd2 _ List.mem_cons_self
  have F : FunD K T.lr.nm T.lr.nm (defArgs T.lr.st) (defBody T.lr.st) (defScope T.lr.st) [] [] (He.ga K T.lr.nm) fd := F
  rw [hnr] at F
  have hg' := He.glo_ok KX G.T.g (hf (.glo "law") List.mem_cons_self)
  rw [hnm, hg'] at hmg
  cases hmg
  have h0 := hoL
  unfold RowD.ok at h0
  simp only [Bool.and_eq_true, decide_eq_true_eq] at h0
  obtain ⟨h1, h2, h3, h4, h5, h6⟩ := h0
  rw [hsk] at h1
  obtain ⟨as, kd, df, ea, ep⟩ := argsB_ok h1
  have hb : ∀ (s : Shared) (u : Value), BindsTo s fd ⟨[u], []⟩ [(x, u)] := fun s u => by
    have := F.bindsA (ps := T.lr.ps) (fun kV doc pm an cdv ct us hl => by rw [ea]; exact bind_simple ep h6 us hl) s [u] (by rw [hps]; rfl)
    rw [hps] at this
    exact this
  obtain ⟨c0, ecode, ec0⟩ : ∃ c0, fd.code = .ref c0 ∧ He.codeOf K ("law", none) = c0 := by
    obtain ⟨oc, od, dV, kV, doc, pm, an, cdv, ct, osl, rfl, lk, hcd, _, _⟩ := F.ex
    obtain ⟨c0, e⟩ := He.codeIn_ref hcd
    exact ⟨c0, e, He.codeOf_eq (p := ("law", none)) lk e⟩
  have m1 : (("law", none) : He.Defn) ∈ TextO.tf := List.mem_singleton.mpr rfl
  have hhd := c.hd _ m1
  have hout := c.out _ m1
  have hemp := c.empty _ m1
  have ect : He.cT K ("law", none) = (c0, (He.cT K ("law", none)).2) := Prod.ext ec0 rfl
  generalize ep0 : (He.cT K ("law", none)).2 = p at hhd hout hemp ect
  rw [ect] at hhd
  have L : Lay (T.prgT p) K mg := lay_T hG hL L0
  have hrd : (T.prgT p).D T.lr.id = some T.lr.d := by
    show ((T.lr :: T.rows).find? fun r => r.id == T.lr.id).map (·.d) = some T.lr.d
    rw [List.find?_cons, beq_self_eq_true]; rfl
  cases k with
  | zero =>
    obtain ⟨S, e⟩ := hP p [] (Nat.zero_le _)
    unfold callN at e
    cases e
  | succ k =>
    refine law_callTs (CX := CX l.prog w) (cs := [(c0, p)]) (sp := spN (T.prgT p) K (k + 1) T.lr.id) KX G.T.g G.T.b G.T.builtins G.T.nolimit hg (fun z hz => ?_) (fun z hz => ?_) (fun z hz => ?_) G.T.bmain hobj hints (Nat.le_trans hlen hn2) hr (fun base hKb hNb TBs => ?_) hb (fun H hH hS => ?_) ?_
    · rw [List.mem_singleton.mp hz]; exact hemp
    · rw [List.mem_singleton.mp hz]; exact hout
    · rw [List.mem_singleton.mp hz]; exact PySem.W.codeHd_of_K KX hhd
    · rw [← hps]
      refine law_step L (all_fns L k) hrd F (scB_ok h2) h3 h4 h5 fun A outer s H E hr2 => ?_
      exact ⟨lamF_of KX G.T.g hf hd2 hT hF hr2 ecode (TBs _ (List.mem_singleton.mpr rfl)), fun z => lamR_of KX G.T.g hf hd2 hT hF hR z hfr hdr (hr2.mono (by omega))⟩
    · obtain ⟨S, e⟩ := hP p ns hlen
      have hp := hH _ (List.mem_singleton.mpr rfl)
      refine ⟨⟨[p], []⟩, [.tab p lamQ], [.frz (ns.map PV.int)], T.lr.d, ⟨by simp, rfl, fun i c a e1 e2 => ?_, fun a h => by simp at h, fun i p1 q1 e1 => ?_⟩, ?_, hrd, by rw [h4, hps]; rfl, ?_⟩
      · cases i with
        | zero =>
          cases e1; cases e2
          refine ⟨_, hp, rfl, #[], rfl, True.intro, fun pos cv hc => ?_⟩
          have z : codeAmong pos [] = some cv := hc
          simp [codeAmong] at z
        | succ i => simp at e1
      · cases i with
        | zero => rfl
        | succ i => simp at e1
      · simp only [Reps]
        exact ⟨_, _, rfl, rep_scriptT hp hS (Nat.le_trans hlen hn2), rfl⟩
      · have e : callN (T.prgT p).D (T.prgT p).G (T.prgT p).wf (k + 1) T.lr.id [.frz (ns.map PV.int)] [.tab p lamQ] = .ok (.bl true) S := e
        rw [e]
        intro ω' H' x _ _ hx
        simpa only [Rep] using hx
    · rintro H e s' ⟨a, B, H', cls, d, _, _, _, _, _, _, _, z⟩
      exact z
end Mi
set_option Elab.async false
set_option linter.all false
namespace Mi
class Has (D : Nat → Option Def) (f : Nat) (d : outParam Def) : Prop where
  h : D f = some d
class HasG (G : Nat → Option PV) (g : Nat) (v : outParam PV) : Prop where
  h : G g = some v
/-- a mark: what it stands beside is not rewritten -/
structure Fx {α : Type} (f : α) : Type where
def bndF {α β : Type} (f : α → Store → R β) (h : Fx f) (r : R α) : R β := match r with
  | .ok a S => f a S
  | .exc x S => .exc x S
  | .stuck => .stuck
abbrev bnd {α β : Type} (r : R α) (f : α → Store → R β) : R β := bndF f ⟨⟩ r
theorem bnd_ext {α β : Type} {r : R α} {f g : α → Store → R β} (h : f = g) : bnd r f = bnd r g := by rw [h]
@[simp] theorem bnd_ok {α β : Type} (a : α) (S : Store) (f : α → Store → R β) : bnd (.ok a S) f = f a S := rfl
@[simp] theorem bnd_exc {α β : Type} (x : Exc) (S : Store) (f : α → Store → R β) : bnd (.exc x S) f = .exc x S := rfl
@[simp] theorem bnd_stuck {α β : Type} (f : α → Store → R β) : bnd .stuck f = .stuck := rfl
theorem bnd_bnd {α β γ : Type} (r : R α) (f : α → Store → R β) (g : β → Store → R γ) : bnd (bnd r f) g = bnd r fun a S => bnd (f a S) g := by cases r <;> rfl
@[simp ↓] theorem bind_app {α β : Type} (m : M α) (f : α → M β) (S : Store) : M.bind m f S = bnd (m S) fun a S1 => f a S1 := rfl
@[simp] theorem pure_app {α : Type} (a : α) (S : Store) : M.pure a S = .ok a S := rfl
@[simp] theorem stuck_app {α : Type} (S : Store) : (stuck : M α) S = .stuck := rfl
@[simp] theorem guard_app {α : Type} (b : Bool) (a : α) (S : Store) : guardM b a S = if b then .ok a S else .stuck := rfl
@[simp] theorem getV_app (env : Env) (i : Nat) (S : Store) : getV env i S = (match env[i]? with
  | some (some v) => .ok v S
  | _ => .stuck) := by
  unfold getV
  cases env[i]? with
  | none => rfl
  | some o => cases o <;> rfl
section
variable (C : Cfg) (env : Env) (S : Store)
@[simp ↓] theorem ev_var (i : Nat) : denE C (.var i) env S = getV env i S := by simp only [denE]
@[simp ↓] theorem ev_int (i : Int) : denE C (.int i) env S = .ok (.int i) S := by simp only [denE, M.pure]
@[simp ↓] theorem ev_str (i : List Nat) : denE C (.str i) env S = .ok (.str i) S := by simp only [denE, M.pure]
@[simp ↓] theorem ev_bl (i : Bool) : denE C (.bl i) env S = .ok (.bl i) S := by simp only [denE, M.pure]
@[simp ↓] theorem ev_non : denE C .non env S = .ok .non S := by simp only [denE, M.pure]
@[simp ↓] theorem ev_glb (g : Nat) : denE C (.glb g) env S = ofO (C.glb g) S := by simp only [denE]
@[simp ↓] theorem ev_bin (op : BOp) (a b : E) : denE C (.bin op a b) env S = bnd (denE C a env S) fun x S1 => bnd (denE C b env S1) fun y S2 => opB op x y S2 := by simp only [denE]; rfl
@[simp ↓] theorem ev_neg (a : E) : denE C (.neg a) env S = bnd (denE C a env S) fun x S1 => bnd (ofInt x S1) fun i S2 => .ok (.int (-i)) S2 := by simp only [denE]; rfl
@[simp ↓] theorem ev_not (a : E) : denE C (.not a) env S = bnd (denE C a env S) fun x S1 => bnd (ofBl x S1) fun c S2 => .ok (.bl (!c)) S2 := by simp only [denE]; rfl
@[simp ↓] theorem ev_and (a b : E) : denE C (.and a b) env S = bnd (denE C a env S) fun x S1 => bnd (ofBl x S1) fun c S2 => if c then denE C b env S2 else .ok (.bl false) S2 := by
  simp only [denE]; show bnd _ _ = _
  refine bnd_ext (funext fun x => funext fun S1 => ?_)
  show bnd _ _ = _
  refine bnd_ext (funext fun x => funext fun S1 => ?_)
  cases x <;> rfl
@[simp ↓] theorem ev_or (a b : E) : denE C (.or a b) env S = bnd (denE C a env S) fun x S1 => bnd (ofBl x S1) fun c S2 => if c then .ok (.bl true) S2 else denE C b env S2 := by
  simp only [denE]; show bnd _ _ = _
  refine bnd_ext (funext fun x => funext fun S1 => ?_)
  show bnd _ _ = _
  refine bnd_ext (funext fun x => funext fun S1 => ?_)
  cases x <;> rfl
@[simp ↓] theorem ev_cmp (op : COp) (a b : E) : denE C (.cmp op a b) env S = bnd (denE C a env S) fun x S1 => bnd (denE C b env S1) fun y S2 => bnd (opC op x y S2) fun c S3 => .ok (.bl c) S3 := by simp only [denE]; rfl
@[simp ↓] theorem ev_ite (c a b : E) : denE C (.ite c a b) env S = bnd (denE C c env S) fun x S1 => bnd (ofBl x S1) fun k S2 => if k then denE C a env S2 else denE C b env S2 := by
  simp only [denE]; show bnd _ _ = _
  refine bnd_ext (funext fun x => funext fun S1 => ?_)
  show bnd _ _ = _
  refine bnd_ext (funext fun x => funext fun S1 => ?_)
  cases x <;> rfl
@[simp ↓] theorem ev_chain (op op' : COp) (a b c : E) : denE C (.chain op op' a b c) env S = bnd (denE C a env S) fun x S1 => bnd (denE C b env S1) fun y S2 => bnd (opC op x y S2) fun k S3 => if k then bnd (denE C c env S3) fun z S4 => bnd (opC op' y z S4) fun k' S5 => .ok (.bl k') S5 else .ok (.bl false) S3 := by
  simp only [denE]; show bnd _ _ = _
  refine bnd_ext (funext fun x => funext fun S1 => ?_)
  show bnd _ _ = _
  refine bnd_ext (funext fun x => funext fun S1 => ?_)
  show bnd _ _ = _
  refine bnd_ext (funext fun x => funext fun S1 => ?_)
  cases x <;> rfl
@[simp ↓] theorem ev_tup (es : Es) : denE C (.tup es) env S = bnd (denA C es env S) fun xs S1 => .ok (.tup xs) S1 := by simp only [denE]; rfl
@[simp ↓] theorem ev_lst (mu : Bool) (es : Es) : denE C (.lst mu es) env S = bnd (denA C es env S) fun xs S1 => newL mu xs S1 := by simp only [denE]; rfl
@[simp ↓] theorem ev_idx (a b : E) : denE C (.idx a b) env S = bnd (denE C a env S) fun x S1 => bnd (denE C b env S1) fun y S2 => opIx x y S2 := by simp only [denE]; rfl
@[simp ↓] theorem ev_slc (a : E) (lo hi : Es) : denE C (.slc a lo hi) env S = bnd (denE C a env S) fun x S1 => bnd (denO C lo env S1) fun l S2 => bnd (denO C hi env S2) fun h S3 => opSl x l h S3 := by simp only [denE]; rfl
@[simp ↓] theorem ev_rev (a : E) : denE C (.rev a) env S = bnd (denE C a env S) fun x S1 => opRev x S1 := by simp only [denE]; rfl
@[simp ↓] theorem ev_call (f : Nat) (es : Es) : denE C (.call f es) env S = bnd (denA C es env S) fun xs S1 => C.call f xs S1 := by simp only [denE]; rfl
@[simp ↓] theorem ev_callK (f : Nat) (es kes : Es) (perm : List Nat) : denE C (.callK f es kes perm) env S = bnd (denA C es env S) fun xs S1 => bnd (denA C kes env S1) fun zs S2 => C.call f (pick perm (xs ++ zs)) S2 := by simp only [denE]; rfl
@[simp ↓] theorem ev_bi (b : Bi) (es : Es) : denE C (.bi b es) env S = bnd (denA C es env S) fun xs S1 => opBi b xs S1 := by simp only [denE]; rfl
@[simp ↓] theorem ev_isi (a : E) (t : Ty) : denE C (.isi a t) env S = bnd (denE C a env S) fun x S1 => bnd (opIsi x t S1) fun c S2 => .ok (.bl c) S2 := by simp only [denE]; rfl
@[simp ↓] theorem ev_mth (m : Mt) (o : E) (es : Es) : denE C (.mth m o es) env S = bnd (denE C o env S) fun x S1 => bnd (recv m x S1) fun _ S2 => bnd (denA C es env S2) fun xs S3 => opMt m x xs S3 := by simp only [denE]; rfl
@[simp ↓] theorem ev_lc (mu : Bool) (elt : E) (tg : Tg) (it : I) (ifs : Es) (own : List Nat) : denE C (.lc mu elt tg it ifs own) env S = bnd (denI C it env S) fun src S1 => bnd (lcLoop (denT C ifs) (denE C elt) tg (wipeE env own) src src.xs [] S1) fun ys S2 => newL mu ys S2 := by simp only [denE]; rfl
@[simp ↓] theorem ev_opx (o : OpX) (e : E) : denE C (.opx o e) env S = bnd (denE C e env S) fun xs S1 => opX o xs S1 := by simp only [denE]; rfl
@[simp ↓] theorem ev_callS (f k : Nat) (st : List Bool) (es : Es) : denE C (.callS f k st es) env S = bnd (noX (denA C es env) S) fun xs S1 => bnd (ofO (flatS st xs) S1) fun ys S2 => if k ≤ ys.length ∧ ys.length ≤ lineN then C.call f (ys.take k ++ [.tup (ys.drop k)]) S2 else .stuck := by
  simp only [denE]; show bnd _ _ = _
  refine bnd_ext (funext fun x => funext fun S1 => ?_)
  show bnd _ _ = _
  refine bnd_ext (funext fun x => funext fun S1 => ?_)
  by_cases h : k ≤ x.length ∧ x.length ≤ lineN
  · rw [if_pos h, decide_eq_true h]; rfl
  · rw [if_neg h, decide_eq_false h]; rfl
@[simp ↓] theorem ev_tryL (e : E) : denE C (.tryL e) env S = tryM (C.glb tabG) (denE C e env) S := by simp only [denE]
@[simp ↓] theorem ev_nil : denA C .nil env S = .ok [] S := by simp only [denA, M.pure]
@[simp ↓] theorem ev_cons (e : E) (es : Es) : denA C (.cons e es) env S = bnd (denE C e env S) fun x S1 => bnd (denA C es env S1) fun xs S2 => .ok (x :: xs) S2 := by simp only [denA]; rfl
@[simp ↓] theorem ev_onil : denO C .nil env S = .ok none S := by simp only [denO, M.pure]
@[simp ↓] theorem ev_ocons (e : E) (es : Es) : denO C (.cons e es) env S = bnd (denE C e env S) fun x S1 => bnd (ofInt x S1) fun i S2 => .ok (some i) S2 := by simp only [denO]; rfl
@[simp ↓] theorem ev_tnil : denT C .nil env S = .ok true S := by simp only [denT, M.pure]
@[simp ↓] theorem ev_tcons (e : E) (es : Es) : denT C (.cons e es) env S = bnd (denE C e env S) fun x S1 => ofBl x S1 := by simp only [denT]; rfl
@[simp ↓] theorem ev_sq (e : E) : denI C (.sq e) env S = bnd (denE C e env S) fun x S1 => srcOf x S1 := by simp only [denI]; rfl
@[simp ↓] theorem ev_rng (es : Es) : denI C (.rng es) env S = bnd (denA C es env S) fun x S1 => rngM x S1 := by simp only [denI]; rfl
@[simp ↓] theorem ev_zip (a b : E) : denI C (.zip a b) env S = bnd (denE C a env S) fun x S1 => bnd (denE C b env S1) fun y S2 => zipM x y S2 := by simp only [denI]; rfl
@[simp ↓] theorem ev_enum (a : E) : denI C (.enum a) env S = bnd (denE C a env S) fun x S1 => enumM x S1 := by simp only [denI]; rfl
/-- where a block goes on -/
def goOn (f : Fl) (k : Env → M Fl) : M Fl := match f with
  | .nx e => k e
  | g => M.pure g
@[simp] theorem goOn_nx (e : Env) (k : Env → M Fl) (S : Store) : goOn (.nx e) k S = k e S := rfl
@[simp] theorem goOn_rt (v : PV) (k : Env → M Fl) (S : Store) : goOn (.rt v) k S = .ok (.rt v) S := rfl
@[simp] theorem goOn_bk (v : Env) (k : Env → M Fl) (S : Store) : goOn (.bk v) k S = .ok (.bk v) S := rfl
@[simp] theorem goOn_ct (v : Env) (k : Env → M Fl) (S : Store) : goOn (.ct v) k S = .ok (.ct v) S := rfl
@[simp ↓] theorem ev_skip : denS C .skip env S = .ok (.nx env) S := by simp only [denS, M.pure]
@[simp ↓] theorem ev_seq (s r : Mi.S) : denS C (.seq s r) env S = bnd (denS C s env S) fun f S1 => goOn f (denS C r) S1 := by
  simp only [denS]; show bnd _ _ = _
  refine bnd_ext (funext fun f => funext fun S1 => ?_)
  cases f <;> rfl
@[simp ↓] theorem ev_asg (tg : Tg) (e : E) : denS C (.asg tg e) env S = bnd (denE C e env S) fun x S1 => bnd (ofO (bindT tg x env) S1) fun e' S2 => .ok (.nx e') S2 := by simp only [denS]; rfl
@[simp ↓] theorem ev_par (i j : Nat) (a b : E) : denS C (.par i j a b) env S = bnd (denE C a env S) fun x S1 => bnd (denE C b env S1) fun y S2 => .ok (.nx ((env.set i (some x)).set j (some y))) S2 := by simp only [denS]; rfl
@[simp ↓] theorem ev_par3 (i j l : Nat) (a b c : E) : denS C (.par3 i j l a b c) env S = bnd (denE C a env S) fun x S1 => bnd (denE C b env S1) fun y S2 => bnd (denE C c env S2) fun z S3 => .ok (.nx (((env.set i (some x)).set j (some y)).set l (some z))) S3 := by simp only [denS]; rfl
@[simp ↓] theorem ev_put (o i e : E) : denS C (.put o i e) env S = bnd (denE C e env S) fun v S1 => bnd (denE C o env S1) fun x S2 => bnd (denE C i env S2) fun k S3 => bnd (opPut x k v S3) fun _ S4 => .ok (.nx env) S4 := by simp only [denS]; rfl
@[simp ↓] theorem ev_aug (i : Nat) (op : BOp) (e : E) : denS C (.aug i op e) env S = bnd (getV env i S) fun x S1 => bnd (denE C e env S1) fun y S2 => bnd (opAug op x y S2) fun z S3 => .ok (.nx (env.set i (some z))) S3 := by simp only [denS]; rfl
@[simp ↓] theorem ev_expr (e : E) : denS C (.expr e) env S = bnd (denE C e env S) fun _ S1 => .ok (.nx env) S1 := by simp only [denS]; rfl
@[simp ↓] theorem ev_ret (e : E) : denS C (.ret e) env S = bnd (denE C e env S) fun x S1 => .ok (.rt x) S1 := by simp only [denS]; rfl
@[simp ↓] theorem ev_retN : denS C .retN env S = .ok (.rt .non) S := by simp only [denS, M.pure]
@[simp ↓] theorem ev_if (c : E) (t e : Mi.S) : denS C (.ifS c t e) env S = bnd (denE C c env S) fun x S1 => bnd (ofBl x S1) fun k S2 => if k then denS C t env S2 else denS C e env S2 := by
  simp only [denS]; show bnd _ _ = _
  refine bnd_ext (funext fun x => funext fun S1 => ?_)
  show bnd _ _ = _
  refine bnd_ext (funext fun x => funext fun S1 => ?_)
  cases x <;> rfl
@[simp ↓] theorem ev_for (tg : Tg) (it : I) (body : Mi.S) : denS C (.forS tg it body) env S = bnd (denI C it env S) fun src S1 => forLoop (denS C body) tg src src.xs env S1 := by simp only [denS]; rfl
@[simp ↓] theorem ev_while (c : E) (body : Mi.S) : denS C (.whileS c body) env S = whileLoop (fun env => M.bind (denE C c env) ofBl) (denS C body) C.wf env S := by simp only [denS]
@[simp ↓] theorem ev_brk : denS C .brk env S = .ok (.bk env) S := by simp only [denS, M.pure]
@[simp ↓] theorem ev_cont : denS C .cont env S = .ok (.ct env) S := by simp only [denS, M.pure]
@[simp ↓] theorem ev_pass : denS C .pass env S = .ok (.nx env) S := by simp only [denS, M.pure]
@[simp ↓] theorem ev_dead : denS C .dead env S = .stuck := by simp only [denS, stuck]
@[simp ↓] theorem ev_raise (c : Nat) (es : Es) : denS C (.raise c es) env S = bnd (denA C es env S) fun xs S1 => .exc ⟨c, xs⟩ S1 := by simp only [denS]; rfl
end
def endF (f : Fl) (S : Store) : R PV := match f with
  | .rt v => .ok v S
  | .nx _ => .ok .non S
  | _ => .stuck
@[simp] theorem endF_rt (v : PV) (S : Store) : endF (.rt v) S = .ok v S := rfl
@[simp] theorem endF_nx (v : Env) (S : Store) : endF (.nx v) S = .ok .non S := rfl
/-- a call, opened -/
theorem call_eq {D : Nat → Option Def} {G : Nat → Option PV} {wf n f : Nat} {d : Def} [H : Has D f d] {vs : List PV} {S : Store} (hl : vs.length = d.par) :
    callN D G wf (n + 1) f vs S = bnd (denS ⟨callN D G wf n, G, wf⟩ d.body (startE d vs) S) endF := by
  unfold callN
  rw [H.h]
  simp only [if_pos hl]
  refine bnd_ext (funext fun f => funext fun S1 => ?_)
  cases f <;> rfl
section
variable (S : Store)
@[simp] theorem ofO_some {α : Type} (a : α) : ofO (some a) S = .ok a S := rfl
@[simp] theorem ofO_none {α : Type} : (ofO none : M α) S = .stuck := rfl
@[simp] theorem ofBl_bl (b : Bool) : ofBl (.bl b) S = .ok b S := rfl
@[simp] theorem ofInt_int (b : Int) : ofInt (.int b) S = .ok b S := rfl
@[simp] theorem opAdd_int (i j : Int) : opB .add (.int i) (.int j) S = .ok (.int (i + j)) S := rfl
@[simp] theorem opSub_int (i j : Int) : opB .sub (.int i) (.int j) S = .ok (.int (i - j)) S := rfl
@[simp] theorem opMul_int (i j : Int) : opB .mul (.int i) (.int j) S = if mulOk i j then .ok (.int (i * j)) S else .stuck := rfl
@[simp] theorem opMod_int (i j : Int) : opB .mod (.int i) (.int j) S = if 0 < j then .ok (.int (i % j)) S else .stuck := by simp [opB]
@[simp] theorem opDiv_int (i j : Int) : opB .fdiv (.int i) (.int j) S = if 0 < j ∧ j.natAbs.log2 < 9000 then .ok (.int (i / j)) S else .stuck := by simp [opB]
@[simp] theorem opLt_int (i j : Int) : opC .lt (.int i) (.int j) S = .ok (decide (i < j)) S := rfl
@[simp] theorem opLe_int (i j : Int) : opC .le (.int i) (.int j) S = .ok (decide (i ≤ j)) S := rfl
@[simp] theorem opGt_int (i j : Int) : opC .gt (.int i) (.int j) S = .ok (decide (j < i)) S := rfl
@[simp] theorem opGe_int (i j : Int) : opC .ge (.int i) (.int j) S = .ok (decide (j ≤ i)) S := rfl
@[simp] theorem opEq_int (i j : Int) : opC .eq (.int i) (.int j) S = .ok (decide (i = j)) S := by
  show guardM (okP 64 (.int i) && okP 64 (.int j)) (eqP (.int i) (.int j)) S = _
  simp only [okP, eqP, guardM, Bool.and_self, if_true]
  by_cases h : i = j
  · subst h; simp
  · simp [h]
@[simp] theorem viewL_lst (xs : List PV) : viewL (.lst xs) S = .ok xs S := rfl
@[simp] theorem viewL_frz (xs : List PV) : viewL (.frz xs) S = .ok xs S := rfl
@[simp] theorem newL_f (xs : List PV) : newL false xs S = .ok (.lst xs) S := rfl
@[simp] theorem newL_t (xs : List PV) : newL true xs S = .ok (.ref S.length) (S ++ [.lst xs]) := rfl
@[simp] theorem opIx_tup (xs : List PV) (i : Int) : opIx (.tup xs) (.int i) S = ofO (atI xs i) S := rfl
@[simp] theorem opIx_lst (xs : List PV) (i : Int) : opIx (.lst xs) (.int i) S = ofO (atI xs i) S := rfl
@[simp] theorem opIx_frz (xs : List PV) (i : Int) : opIx (.frz xs) (.int i) S = ofO (atI xs i) S := rfl
theorem viewL_ref {r : Nat} {xs : List PV} (h : S[r]? = some (.lst xs)) : viewL (.ref r) S = .ok xs S := by
  show (match S[r]? with
    | some (.lst xs) => R.ok xs S
    | _ => .stuck) = _
  rw [h]
theorem opPut_ref {r : Nat} {xs : List PV} (h : S[r]? = some (.lst xs)) (k : Int) (v : PV) : opPut (.ref r) (.int k) v S = (match ixN xs.length k with
      | some j => .ok () (S.set r (.lst (xs.set j v)))
      | none => .stuck) := by
  show (match S[r]? with
    | some (.lst xs) => (match ixN xs.length k with
      | some j => R.ok () (S.set r (.lst (xs.set j v)))
      | none => .stuck)
    | _ => .stuck) = _
  rw [h]
theorem opIx_ref {r : Nat} {xs : List PV} (h : S[r]? = some (.lst xs)) (i : Int) : opIx (.ref r) (.int i) S = ofO (atI xs i) S := by
  show bnd (viewL (.ref r) S) (fun xs => ofO (atI xs i)) = _
  rw [viewL_ref S h]; rfl
@[simp] theorem atI_0 {α : Type} (x : α) (xs : List α) : atI (x :: xs) 0 = some x := by
  simp only [atI, ixN, List.length_cons]
  rw [if_pos (by decide), if_pos (by omega)]; rfl
theorem atI_nat {α : Type} (xs : List α) (i : Nat) : atI xs (i : Int) = xs[i]? := by
  simp only [atI, ixN]
  rw [if_pos (by omega)]
  split
  · simp
  · rename_i h
    have h : xs.length ≤ i := by omega
    rw [List.getElem?_eq_none h]; rfl
@[simp] theorem atI_1 {α : Type} (x y : α) (xs : List α) : atI (x :: y :: xs) 1 = some y := atI_nat _ 1
@[simp] theorem atI_2 {α : Type} (x y z : α) (xs : List α) : atI (x :: y :: z :: xs) 2 = some z := atI_nat _ 2
@[simp] theorem atI_3 {α : Type} (x y z u : α) (xs : List α) : atI (x :: y :: z :: u :: xs) 3 = some u := atI_nat _ 3
@[simp] theorem atI_4 {α : Type} (x y z u v : α) (xs : List α) : atI (x :: y :: z :: u :: v :: xs) 4 = some v := atI_nat _ 4
@[simp] theorem opLen_lst (xs : List PV) : opBi .len [.lst xs] S = .ok (.int xs.length) S := rfl
@[simp] theorem opLen_tup (xs : List PV) : opBi .len [.tup xs] S = .ok (.int xs.length) S := rfl
@[simp] theorem opInt_int (i : Int) : opBi .int [.int i] S = .ok (.int i) S := rfl
@[simp] theorem opInt_bl (i : Bool) : opBi .int [.bl i] S = .ok (.int (if i then 1 else 0)) S := rfl
@[simp] theorem opList_tup (xs : List PV) : opBi .list [.tup xs] S = .ok (.lst xs) S := rfl
@[simp] theorem opList_lst (xs : List PV) : opBi .list [.lst xs] S = .ok (.lst xs) S := rfl
@[simp] theorem opTuple_lst (xs : List PV) : opBi .tuple [.lst xs] S = .ok (.tup xs) S := rfl
@[simp] theorem bindT_one (i : Nat) (x : PV) (env : Env) : bindT (.one i) x env = some (env.set i (some x)) := rfl
@[simp] theorem bindT_two (i j : Nat) (a b : PV) (env : Env) : bindT (.two i j) (.tup [a, b]) env = some ((env.set i (some a)).set j (some b)) := rfl
@[simp] theorem bindT_thr (i j l : Nat) (a b c : PV) (env : Env) : bindT (.thr i j l) (.tup [a, b, c]) env = some (((env.set i (some a)).set j (some b)).set l (some c)) := rfl
@[simp] theorem srcOf_lst (xs : List PV) : srcOf (.lst xs) S = .ok ⟨xs, none⟩ S := rfl
@[simp] theorem srcOf_frz (xs : List PV) : srcOf (.frz xs) S = .ok ⟨xs, none⟩ S := rfl
@[simp] theorem srcOf_tup (xs : List PV) : srcOf (.tup xs) S = .ok ⟨xs, none⟩ S := rfl
@[simp] theorem viewL_at (r : Nat) : viewL (.ref r) S = (match S[r]? with
    | some (.lst xs) => .ok xs S
    | _ => .stuck) := rfl
@[simp] theorem opIx_at (r : Nat) (i : Int) : opIx (.ref r) (.int i) S = (match S[r]? with
    | some (.lst xs) => ofO (atI xs i) S
    | _ => .stuck) := by
  show bnd (viewL (.ref r) S) (fun xs => ofO (atI xs i)) = _
  rw [viewL_at]
  cases S[r]? with
  | none => rfl
  | some c => cases c <;> rfl
@[simp] theorem opPut_at (r : Nat) (k : Int) (v : PV) : opPut (.ref r) (.int k) v S = (match S[r]? with
    | some (.lst xs) => (match ixN xs.length k with
      | some j => .ok () (S.set r (.lst (xs.set j v)))
      | none => .stuck)
    | _ => .stuck) := rfl
@[simp] theorem ixN_0 (n : Nat) : ixN (n + 1) 0 = some 0 := by
  unfold ixN; rw [if_pos (by decide), if_pos (by omega)]; rfl
@[simp] theorem ixN_1 (n : Nat) : ixN (n + 1 + 1) 1 = some 1 := by
  unfold ixN; rw [if_pos (by decide), if_pos (by omega)]; rfl
@[simp] theorem ixN_2 (n : Nat) : ixN (n + 1 + 1 + 1) 2 = some 2 := by
  unfold ixN; rw [if_pos (by decide), if_pos (by omega)]; rfl
@[simp] theorem ixN_3 (n : Nat) : ixN (n + 1 + 1 + 1 + 1) 3 = some 3 := by
  unfold ixN; rw [if_pos (by decide), if_pos (by omega)]; rfl
@[simp] theorem ixN_4 (n : Nat) : ixN (n + 1 + 1 + 1 + 1 + 1) 4 = some 4 := by
  unfold ixN; rw [if_pos (by decide), if_pos (by omega)]; rfl
theorem set_at {S : Store} {r : Nat} {c : Cell} (h : S[r]? = some c) (x : Cell) : (S.set r x)[r]? = some x := by
  have hr : r < S.length := by
    rcases Nat.lt_or_ge r S.length with z | z
    · exact z
    · rw [List.getElem?_eq_none z] at h; cases h
  rw [List.getElem?_set_self hr]
theorem mul_ok {i j : Int} (hi : i.natAbs < 2 ^ 300) (hj : j.natAbs < 2 ^ 300) : mulOk i j = true := by
  have l : ∀ k : Nat, k < 2 ^ 300 → k.log2 < 300 := fun k hk => by
    by_cases h0 : k = 0
    · subst h0; decide
    · exact (Nat.log2_lt h0).mpr hk
  have := l _ hi
  have := l _ hj
  unfold mulOk
  rw [decide_eq_true_eq]; omega
@[simp] theorem opPow_int (i j : Int) : opB .pow (.int i) (.int j) S = if 0 ≤ j ∧ j ≤ 1000000 ∧ i.natAbs < 2 ^ 64 then .ok (.int (i ^ j.toNat)) S else .stuck := by simp [opB]
theorem log_ok {m : Int} (h0 : 0 ≤ m) (h : m < 2 ^ 300) : m.natAbs.log2 < 9000 := by
  by_cases h0 : m.natAbs = 0
  · rw [h0]; decide
  · have : m.natAbs.log2 < 300 := (Nat.log2_lt h0).mpr (by omega)
    omega
end

section
variable (S : Store)
def okT (s : List Nat) : Bool := s.all (· < 1114112)
@[simp] theorem okT_nil : okT [] = true := rfl
@[simp] theorem okT_cons (c : Nat) (s : List Nat) : okT (c :: s) = (decide (c < 1114112) && okT s) := rfl
@[simp] theorem opEq_str (a b : List Nat) : opC .eq (.str a) (.str b) S = if okT a && okT b then .ok (a == b) S else .stuck := by
  show guardM (okP 64 (.str a) && okP 64 (.str b)) (eqP (.str a) (.str b)) S = _
  simp only [okP, eqP, guardM, okT]
  rfl
@[simp] theorem opNe_str (a b : List Nat) : opC .ne (.str a) (.str b) S = if okT a && okT b then .ok (!(a == b)) S else .stuck := by
  show bnd (opC .eq (.str a) (.str b) S) (fun c S => R.ok (!c) S) = _
  rw [opEq_str]
  split <;> rfl
@[simp] theorem eqP_ss (a b : List Nat) : eqP (.str a) (.str b) = (a == b) := by unfold eqP; rfl
@[simp] theorem eqP_ii (a b : Int) : eqP (.int a) (.int b) = (a == b) := by unfold eqP; rfl
@[simp] theorem eqP_bb (a b : Bool) : eqP (.bl a) (.bl b) = (a == b) := by unfold eqP; rfl
@[simp] theorem eqP_ll (a b : List PV) : eqP (.lst a) (.lst b) = eqPs a b := by unfold eqP; rfl
@[simp] theorem eqP_tt (a b : List PV) : eqP (.tup a) (.tup b) = eqPs a b := by unfold eqP; rfl
@[simp] theorem eqP_st (a : List Nat) (b : List PV) : eqP (.str a) (.tup b) = false := by unfold eqP; rfl
@[simp] theorem eqP_is (a : Int) (b : List Nat) : eqP (.int a) (.str b) = false := by unfold eqP; rfl
@[simp] theorem eqPs_nn : eqPs [] [] = true := by unfold eqPs; rfl
@[simp] theorem eqPs_nc (y : PV) (ys : List PV) : eqPs [] (y :: ys) = false := by unfold eqPs; rfl
@[simp] theorem eqPs_cn (y : PV) (ys : List PV) : eqPs (y :: ys) [] = false := by unfold eqPs; rfl
@[simp] theorem eqPs_cc (x y : PV) (xs ys : List PV) : eqPs (x :: xs) (y :: ys) = (eqP x y && eqPs xs ys) := by rw [eqPs]
@[simp] theorem okP_i (d : Nat) (a : Int) : okP d (.int a) = true := by cases d <;> (unfold okP; rfl)
@[simp] theorem okP_b (d : Nat) (a : Bool) : okP d (.bl a) = true := by cases d <;> (unfold okP; rfl)
@[simp] theorem okP_n (d : Nat) : okP d .non = true := by cases d <;> (unfold okP; rfl)
@[simp] theorem okP_s (d : Nat) (a : List Nat) : okP d (.str a) = okT a := by cases d <;> (unfold okP; rfl)
@[simp] theorem okP_l (d : Nat) (a : List PV) : okP (d + 1) (.lst a) = okPs d a := by rw [okP]
@[simp] theorem okP_t (d : Nat) (a : List PV) : okP (d + 1) (.tup a) = okPs d a := by rw [okP]
@[simp] theorem okPs_n (d : Nat) : okPs d [] = true := by cases d <;> (unfold okPs; rfl)
@[simp] theorem okPs_c (d : Nat) (x : PV) (xs : List PV) : okPs d (x :: xs) = (okP d x && okPs d xs) := by cases d <;> rw [okPs]
theorem okPs_map {α : Type} (d : Nat) (f : α → PV) (h : ∀ x, okP d (f x) = true) : ∀ l : List α, okPs d (l.map f) = true
  | [] => by simp
  | x :: l => by simp [h x, okPs_map d f h l]
@[simp] theorem opIn_tup (a : PV) (ys : List PV) : opC .isin a (.tup ys) S = if okP 0 a && okPs 0 ys then .ok (ys.any fun y => eqP y a) S else .stuck := rfl
@[simp] theorem opIn_lst (a : PV) (ys : List PV) : opC .isin a (.lst ys) S = if okP 64 a && okPs 63 ys then .ok (ys.any fun y => eqP y a) S else .stuck := rfl
@[simp] theorem noX_app {α : Type} (m : M α) : noX m S = (match m S with
  | .ok a S' => .ok a S'
  | _ => .stuck) := by unfold noX; rfl
@[simp] theorem opEq_lst (xs ys : List PV) : opC .eq (.lst xs) (.lst ys) S = if okPs 63 xs && okPs 63 ys then .ok (eqPs xs ys) S else .stuck := by
  show guardM (okP 64 (.lst xs) && okP 64 (.lst ys)) (eqP (.lst xs) (.lst ys)) S = _
  rw [guard_app, okP_l, okP_l, eqP_ll]
@[simp] theorem opEq_tup (xs ys : List PV) : opC .eq (.tup xs) (.tup ys) S = if okPs 63 xs && okPs 63 ys then .ok (eqPs xs ys) S else .stuck := by
  show guardM (okP 64 (.tup xs) && okP 64 (.tup ys)) (eqP (.tup xs) (.tup ys)) S = _
  rw [guard_app, okP_t, okP_t, eqP_tt]
@[simp] theorem opEq_bl (a b : Bool) : opC .eq (.bl a) (.bl b) S = .ok (a == b) S := by
  show guardM (okP 64 (.bl a) && okP 64 (.bl b)) (eqP (.bl a) (.bl b)) S = _
  rw [guard_app, okP_b, okP_b, eqP_bb]; rfl
@[simp] theorem opNe_eq (a b : PV) : opC .ne a b S = bnd (opC .eq a b S) fun c S => .ok (!c) S := rfl
@[simp] theorem opNotIn_eq (a b : PV) : opC .notin a b S = bnd (opC .isin a b S) fun c S => .ok (!c) S := rfl
@[simp] theorem opIs_non (a : PV) : opC .is a .non S = .ok (isNonP a) S := rfl
@[simp] theorem isNon_n : isNonP .non = true := rfl
@[simp] theorem isNon_b (b : Bool) : isNonP (.bl b) = false := rfl
@[simp] theorem isNon_i (b : Int) : isNonP (.int b) = false := rfl
@[simp] theorem isNon_s (b : List Nat) : isNonP (.str b) = false := rfl
@[simp] theorem isNon_t (b : List PV) : isNonP (.tup b) = false := rfl
@[simp] theorem isNon_l (b : List PV) : isNonP (.lst b) = false := rfl
@[simp] theorem isi_n (t : Ty) : opIsi .non t S = .ok false S := by cases t <;> rfl
@[simp] theorem isi_b (b : Bool) (t : Ty) : opIsi (.bl b) t S = .ok (match t with | .bool => true | .int => true | _ => false) S := by cases t <;> rfl
@[simp] theorem isi_i (b : Int) (t : Ty) : opIsi (.int b) t S = .ok (match t with | .int => true | _ => false) S := by cases t <;> rfl
@[simp] theorem isi_s (b : List Nat) (t : Ty) : opIsi (.str b) t S = .ok (match t with | .str => true | _ => false) S := by cases t <;> rfl
@[simp] theorem isi_t (b : List PV) (t : Ty) : opIsi (.tup b) t S = .ok (match t with | .tuple => true | _ => false) S := by cases t <;> rfl
@[simp] theorem isi_l (b : List PV) (t : Ty) : opIsi (.lst b) t S = .ok (match t with | .list => true | _ => false) S := by cases t <;> rfl
@[simp] theorem opX_dget (kvs : List (List Nat × List Nat)) (s : List Nat) : opX (.dget kvs) (.str s) S = bnd (ofO (dgetL kvs s none) S) fun v S1 => if v.length ≤ lineN then .ok (.str v) S1 else .stuck := by
  show bnd _ _ = _
  refine bnd_ext (funext fun v => funext fun S1 => ?_)
  simp
@[simp] theorem opRev_tup (xs : List PV) : opRev (.tup xs) S = .ok (.tup xs.reverse) S := rfl
@[simp] theorem opRev_lst (xs : List PV) : opRev (.lst xs) S = .ok (.lst xs.reverse) S := rfl
@[simp] theorem enumM_l (a : List PV) : enumM (.lst a) S = .ok ⟨enumL 0 a, none⟩ S := rfl
@[simp] theorem enumM_t (a : List PV) : enumM (.tup a) S = .ok ⟨enumL 0 a, none⟩ S := rfl
@[simp] theorem zipM_l (a b : List PV) : zipM (.lst a) (.lst b) S = .ok ⟨zipL a b, none⟩ S := rfl
@[simp] theorem zipM_t (a b : List PV) : zipM (.tup a) (.tup b) S = .ok ⟨zipL a b, none⟩ S := rfl
theorem line_le (j : Int) : lnI j = decide (j.toNat ≤ lineN) := by
  rw [Bool.eq_iff_iff, lnI_iff, decide_eq_true_eq]; unfold lineN; omega
@[simp] theorem rngM_one (j : Int) : rngM [.int j] S = if small62 j && decide (j.toNat ≤ lineN) then .ok ⟨rangeL 0 j, none⟩ S else .stuck := by
  rw [← line_le]; rfl
@[simp] theorem rngM_two (i j : Int) : rngM [.int i, .int j] S = if (j - i).toNat ≤ lineN then .ok ⟨rangeL i j, none⟩ S else .stuck := by
  have h : rngM [.int i, .int j] S = if lnI (j - i) then .ok ⟨rangeL i j, none⟩ S else .stuck := rfl
  rw [h, line_le]; simp
@[simp] theorem opSorted (a : PV) : opBi .sorted [a] S = bnd (viewL a S) fun xs S => bnd (ofO (intsP xs) S) fun ns S => .ok (.lst ((isort ns).map PV.int)) S := rfl
@[simp] theorem opSum_lst (xs : List PV) : opBi .sum [.lst xs] S = bnd (ofO (intsP xs) S) fun ns S => .ok (.int ns.sum) S := rfl
@[simp] theorem opMax_lst (xs : List PV) : opBi .max [.lst xs] S = bnd (ofO (intsP xs) S) fun ns S => if !ns.isEmpty then .ok (.int (maxI ns)) S else .stuck := rfl
@[simp] theorem opAll_lst (xs : List PV) : opBi .all [.lst xs] S = bnd (ofO (bools xs) S) fun ns S => .ok (.bl (ns.all id)) S := rfl
@[simp] theorem opAny_lst (xs : List PV) : opBi .any [.lst xs] S = bnd (ofO (bools xs) S) fun ns S => .ok (.bl (ns.any id)) S := rfl
@[simp] theorem opAdd_lst (xs ys : List PV) : opB .add (.lst xs) (.lst ys) S = if xs.length + ys.length ≤ lineN then .ok (.lst (xs ++ ys)) S else .stuck := by simp [opB, opAdd]
@[simp] theorem wipe_nil (env : Env) : wipeE env [] = env := rfl
@[simp] theorem wipe_cons (env : Env) (v : Nat) (vs : List Nat) : wipeE env (v :: vs) = (wipeE env vs).set v none := rfl
theorem ints_map {α : Type} (f : α → Int) : ∀ l : List α, intsP (l.map fun x => .int (f x)) = some (l.map f)
  | [] => rfl
  | x :: l => by simp [intsP, ints_map f l]
theorem bools_map {α : Type} (f : α → Bool) : ∀ l : List α, bools (l.map fun x => .bl (f x)) = some (l.map f)
  | [] => rfl
  | x :: l => by simp [bools, bools_map f l]
end
theorem mul_ok2 {i j : Int} {a b : Nat} (hi : i.natAbs < 2 ^ a) (hj : j.natAbs < 2 ^ b) (ha : 0 < a) (hb : 0 < b) (h : a + b ≤ 1000000) : mulOk i j = true := by
  have l : ∀ (k c : Nat), 0 < c → k < 2 ^ c → k.log2 < c := fun k c hc hk => by
    by_cases h0 : k = 0
    · subst h0; exact hc
    · exact (Nat.log2_lt h0).mpr hk
  have := l _ _ ha hi
  have := l _ _ hb hj
  unfold mulOk
  rw [decide_eq_true_eq]; omega
theorem src_ok {s : Src} (h : s.cell = none) (xs : List PV) (S : Store) : s.ok xs S = true := by unfold Src.ok; rw [h]
theorem for_inv {body : Env → M Fl} {tg : Tg} {src : Src} (hc : src.cell = none) (I : List PV → Env → Store → Prop)
    (step : ∀ x xs env S, I (x :: xs) env S → ∃ e1 e2 S', bindT tg x env = some e1 ∧ (body e1 S = .ok (.nx e2) S' ∨ body e1 S = .ok (.ct e2) S') ∧ I xs e2 S') :
    ∀ xs env S, I xs env S → ∃ e' S', forLoop body tg src xs env S = .ok (.nx e') S' ∧ I [] e' S'
  | [], env, S, h => ⟨env, S, by simp [forLoop, src_ok hc], h⟩
  | x :: xs, env, S, h => by
    obtain ⟨e1, e2, S', hb, hr, hI⟩ := step x xs env S h
    obtain ⟨e', S2, he, hJ⟩ := for_inv hc I step xs e2 S' hI
    refine ⟨e', S2, ?_, hJ⟩
    unfold forLoop
    simp only [src_ok hc, if_true, hb]
    rcases hr with hr | hr
    · unfold M.bind; rw [hr]; exact he
    · unfold M.bind; rw [hr]; exact he
theorem lc_inv {test : Env → M Bool} {elt : Env → M PV} {tg : Tg} {env : Env} {src : Src} (hc : src.cell = none) (I : List PV → List PV → Store → Prop)
    (step : ∀ x xs acc S, I (x :: xs) acc S → ∃ e1 y S', bindT tg x env = some e1 ∧ test e1 S = .ok true S ∧ elt e1 S = .ok y S' ∧ I xs (acc ++ [y]) S') :
    ∀ xs acc S, I xs acc S → ∃ ys S', lcLoop test elt tg env src xs acc S = .ok ys S' ∧ I [] ys S'
  | [], acc, S, h => ⟨acc, S, by simp [lcLoop, src_ok hc], h⟩
  | x :: xs, acc, S, h => by
    obtain ⟨e1, y, S', hb, ht, hr, hI⟩ := step x xs acc S h
    obtain ⟨ys, S2, he, hJ⟩ := lc_inv hc I step xs _ S' hI
    refine ⟨ys, S2, ?_, hJ⟩
    unfold lcLoop
    simp only [src_ok hc, if_true, hb]
    have n1 : noX (test e1) S = .ok true S := by unfold noX; rw [ht]
    have n2 : noX (elt e1) S = .ok y S' := by unfold noX; rw [hr]
    show bnd (noX (test e1) S) _ = _
    rw [n1]
    show bnd (noX (elt e1) S) _ = _
    rw [n2]
    exact he
theorem lc_map {test : Env → M Bool} {elt : Env → M PV} {tg : Tg} {env : Env} {src : Src} (hc : src.cell = none) {S : Store} (f : PV → PV) :
    ∀ (xs acc : List PV), (∀ x ∈ xs, ∃ e1, bindT tg x env = some e1 ∧ test e1 S = .ok true S ∧ elt e1 S = .ok (f x) S) → lcLoop test elt tg env src xs acc S = .ok (acc ++ xs.map f) S
  | [], acc, h => by simp [lcLoop, src_ok hc]
  | x :: xs, acc, h => by
    obtain ⟨e1, hb, ht, hr⟩ := h x List.mem_cons_self
    have he := lc_map hc f xs (acc ++ [f x]) fun y hy => h y (List.mem_cons_of_mem _ hy)
    unfold lcLoop
    simp only [src_ok hc, if_true, hb]
    have n1 : noX (test e1) S = .ok true S := by unfold noX; rw [ht]
    have n2 : noX (elt e1) S = .ok (f x) S := by unfold noX; rw [hr]
    show bnd (noX (test e1) S) _ = _
    rw [n1]
    show bnd (noX (elt e1) S) _ = _
    rw [n2]
    show lcLoop test elt tg env src xs (acc ++ [f x]) S = _
    rw [he]
    simp
theorem atI_in {α : Type} {xs : List α} {i : Int} (h0 : 0 ≤ i) (h1 : i < xs.length) : ∃ x, atI xs i = some x ∧ x ∈ xs := by
  obtain ⟨k, rfl⟩ : ∃ k : Nat, i = k := ⟨i.toNat, by omega⟩
  have hk : k < xs.length := by omega
  exact ⟨xs[k], by rw [atI_nat]; simp [hk], List.getElem_mem hk⟩
theorem choose_on {α β : Type} [Inhabited β] {l : List α} {P : α → β → Prop} (h : ∀ x ∈ l, ∃ y, P x y) : ∃ f : α → β, ∀ x ∈ l, P x (f x) := by
  classical
  refine ⟨fun x => if hx : x ∈ l then Classical.choose (h x hx) else default, fun x hx => ?_⟩
  simp only [hx, dif_pos]
  exact Classical.choose_spec (h x hx)
end Mi
set_option Elab.async false
set_option linter.all false
set_option maxRecDepth 100000
namespace K
open Mi
def f_parts_of : Nat := 17
def f_letter_count : Nat := 16
def f_length : Nat := 15
def f_unmarked : Nat := 18
def f_law_draws : Nat := 2
def f_law_draw : Nat := 1
def f_law_pick : Nat := 8
def f_law_great : Nat := 3
def f_law_same : Nat := 10
def f_law_tree : Nat := 12
def f_law_word : Nat := 14
def f_law_parts : Nat := 7
def f_law_count : Nat := 0
def f_law_places : Nat := 9
def f_law_told : Nat := 11
def f_law_marks : Nat := 6
def f_law_wide : Nat := 13
def f_joined : Nat := 19
def f_repeated : Nat := 21
def f_mirror : Nat := 25
def f_is_empty : Nat := 22
def f_law_turned : Nat := 24
def f_depth : Nat := 26
def f_node_count : Nat := 31
def f_law_finite : Nat := 27
def f_law_levels : Nat := 29
def f_law_nodes : Nat := 30
def f_read_name_k05 : Nat := 41
def f_read_atom_k05 : Nat := 39
def f_read_number : Nat := 42
def f_read_suffix : Nat := 43
def f_read_items_k05 : Nat := 40
def f_parse_word_k05 : Nat := 38
def f_law_text : Nat := 37
def f_law_part_text : Nat := 36
def f_law_name : Nat := 34
def f_law_named_tree : Nat := 35
def f_law_bent : Nat := 44
def f_choices : Nat := 50
def f_part_at : Nat := 58
def f_letter_at : Nat := 57
def f_cut : Nat := 51
def f_law_spots : Nat := 56
def f_law_letter : Nat := 54
def f_law_spot : Nat := 55
def f_law_bad_spot : Nat := 52
def f_compare : Nat := 59
def f_law_ahead : Nat := 60
def f_law_order : Nat := 62
def f_law_begin : Nat := 63
def f_first_place : Nat := 67
def f_last_place : Nat := 68
def g_DIGITS : Nat := 1
def g_EMPTY : Nat := 2
def g_LETTERS : Nat := 4
def g_MARKED : Nat := 7
def g_MAX_COPIES : Nat := 9
def g_MAX_DEPTH : Nat := 10
def g_MAX_NAME : Nat := 12
def g_MAX_OPEN : Nat := 16
def g_MAX_TEXT_k05 : Nat := 18
def g_SMALL : Nat := 26
def b_parts_of : S :=
  (.seq (.ifS (.cmp .eq (.idx (.var 0) (.int 0)) (.str [106, 111, 105, 110]))
    (.seq (.ret (.bi .list (.cons (.idx (.var 0) (.int 1)) .nil)))
    .skip)
    .skip)
    (.seq (.ret (.ite (.cmp .isin (.idx (.var 0) (.int 0)) (.tup (.cons (.str [116, 105, 109, 101, 115]) (.cons (.str [114, 105, 103, 104, 116]) (.cons (.str [108, 101, 102, 116]) .nil))))) (.lst false (.cons (.idx (.var 0) (.int 1)) .nil)) (.lst false .nil)))
    .skip))
def d_parts_of : Def := ⟨1, 1, b_parts_of⟩
def b_letter_count : S :=
  (.seq (.asg (.one 2) (.idx (.var 0) (.int 0)))
    (.seq (.ifS (.cmp .eq (.var 2) (.str [108, 101, 116, 116, 101, 114]))
    (.seq (.ret (.ite (.cmp .eq (.idx (.var 0) (.int 1)) (.var 1)) (.int 1) (.int 0)))
    .skip)
    .skip)
    (.seq (.ifS (.and (.cmp .eq (.var 2) (.str [116, 105, 109, 101, 115])) (.cmp .eq (.idx (.var 0) (.int 2)) (.int 0)))
    (.seq (.ret (.int 0))
    .skip)
    .skip)
    (.seq (.asg (.one 3) (.lc false (.call f_letter_count (.cons (.var 4) (.cons (.var 1) .nil))) (.one 4) (.sq (.call f_parts_of (.cons (.var 0) .nil))) .nil [4]))
    (.seq (.ifS (.cmp .isin .non (.var 3))
    (.seq (.ret .non)
    .skip)
    .skip)
    (.seq (.ifS (.cmp .isin (.var 2) (.tup (.cons (.str [114, 105, 103, 104, 116]) (.cons (.str [108, 101, 102, 116]) .nil))))
    (.seq (.ret (.ite (.cmp .eq (.idx (.var 3) (.int 0)) (.int 0)) (.int 0) .non))
    .skip)
    .skip)
    (.seq (.ret (.ite (.cmp .eq (.var 2) (.str [116, 105, 109, 101, 115])) (.bin .mul (.idx (.var 3) (.int 0)) (.idx (.var 0) (.int 2))) (.bi .sum (.cons (.var 3) .nil))))
    .skip)))))))
def d_letter_count : Def := ⟨2, 5, b_letter_count⟩
def b_length : S :=
  (.seq (.asg (.one 1) (.lc false (.call f_letter_count (.cons (.var 0) (.cons (.var 2) .nil))) (.one 2) (.sq (.bin .add (.bi .list (.cons (.glb g_LETTERS) .nil)) (.bi .list (.cons (.glb g_MARKED) .nil)))) .nil [2]))
    (.seq (.ret (.ite (.cmp .isin .non (.var 1)) .non (.bi .sum (.cons (.var 1) .nil))))
    .skip))
def d_length : Def := ⟨1, 3, b_length⟩
def b_unmarked : S :=
  (.seq (.asg (.one 1) (.idx (.var 0) (.int 0)))
    (.seq (.ifS (.cmp .eq (.var 1) (.str [108, 101, 116, 116, 101, 114]))
    (.seq (.ret (.tup (.cons (.str [108, 101, 116, 116, 101, 114]) (.cons (.mth .lower (.idx (.var 0) (.int 1)) .nil) .nil))))
    .skip)
    .skip)
    (.seq (.ifS (.cmp .eq (.var 1) (.str [106, 111, 105, 110]))
    (.seq (.ret (.tup (.cons (.str [106, 111, 105, 110]) (.cons (.bi .tuple (.cons (.lc false (.call f_unmarked (.cons (.var 2) .nil)) (.one 2) (.sq (.idx (.var 0) (.int 1))) .nil [2]) .nil)) .nil))))
    .skip)
    .skip)
    (.seq (.ifS (.cmp .eq (.var 1) (.str [116, 105, 109, 101, 115]))
    (.seq (.ret (.tup (.cons (.str [116, 105, 109, 101, 115]) (.cons (.call f_unmarked (.cons (.idx (.var 0) (.int 1)) .nil)) (.cons (.idx (.var 0) (.int 2)) .nil)))))
    .skip)
    .skip)
    (.seq (.ret (.ite (.cmp .isin (.var 1) (.tup (.cons (.str [114, 105, 103, 104, 116]) (.cons (.str [108, 101, 102, 116]) .nil)))) (.tup (.cons (.var 1) (.cons (.call f_unmarked (.cons (.idx (.var 0) (.int 1)) .nil)) .nil))) (.var 0)))
    .skip)))))
def d_unmarked : Def := ⟨1, 3, b_unmarked⟩
def l_law_draws_1 : S :=
  (.seq (.asg (.one 1) (.bin .mod (.bi .int (.cons (.bin .add (.bin .add (.bin .mul (.var 1) (.int 69621)) (.bin .mod (.bi .int (.cons (.var 2) .nil)) (.int 2147483629))) (.int 7)) .nil)) (.int 2147483647)))
    .skip)
def b_law_draws : S :=
  (.seq (.asg (.one 1) (.int 3821))
    (.seq (.forS (.one 2) (.sq (.slc (.var 0) .nil (.cons (.int 63) .nil))) l_law_draws_1)
    (.seq (.ret (.lst true (.cons (.bi .list (.cons (.slc (.var 0) .nil (.cons (.int 63) .nil)) .nil)) (.cons (.int 0) (.cons (.int 0) (.cons (.var 1) (.cons (.int 0) .nil)))))))
    .skip)))
def d_law_draws : Def := ⟨1, 3, b_law_draws⟩
def b_law_draw : S :=
  (.seq (.put (.var 0) (.int 4) (.bin .add (.idx (.var 0) (.int 4)) (.int 1)))
    (.seq (.ifS (.and (.cmp .eq (.idx (.var 0) (.int 2)) (.int 0)) (.cmp .lt (.idx (.var 0) (.int 1)) (.bi .len (.cons (.idx (.var 0) (.int 0)) .nil))))
    (.seq (.asg (.one 2) (.idx (.idx (.var 0) (.int 0)) (.idx (.var 0) (.int 1))))
    (.seq (.put (.var 0) (.int 1) (.bin .add (.idx (.var 0) (.int 1)) (.int 1)))
    (.seq (.ifS (.cmp .ge (.var 2) (.bin .pow (.int 10) (.int 18)))
    (.seq (.put (.var 0) (.int 2) (.var 2))
    .skip)
    (.seq (.put (.var 0) (.int 3) (.bin .mod (.bi .int (.cons (.bin .add (.bin .add (.bin .mul (.idx (.var 0) (.int 3)) (.int 48271)) (.bin .mul (.bin .mod (.bi .int (.cons (.var 2) .nil)) (.int 2147483629)) (.int 40692))) (.int 19)) .nil)) (.int 2147483647)))
    .skip))
    .skip)))
    .skip)
    (.seq (.ifS (.cmp .gt (.idx (.var 0) (.int 2)) (.int 0))
    (.seq (.asg (.one 3) (.bin .mod (.bi .int (.cons (.idx (.var 0) (.int 2)) .nil)) (.var 1)))
    (.seq (.put (.var 0) (.int 2) (.bin .fdiv (.idx (.var 0) (.int 2)) (.var 1)))
    (.seq (.ret (.var 3))
    .skip)))
    .skip)
    (.seq (.asg (.one 4) (.idx (.var 0) (.int 3)))
    (.seq (.put (.var 0) (.int 3) (.bin .mod (.bi .int (.cons (.bin .add (.bin .add (.bin .add (.bin .mul (.var 4) (.int 16807)) (.bin .mul (.bin .fdiv (.var 4) (.int 127)) (.int 39373))) (.bin .mul (.idx (.var 0) (.int 4)) (.int 2654435))) (.int 12345)) .nil)) (.int 2147483647)))
    (.seq (.ret (.bin .mod (.bi .int (.cons (.bin .add (.bin .fdiv (.idx (.var 0) (.int 3)) (.int 97)) (.bin .mul (.bin .mod (.bi .int (.cons (.idx (.var 0) (.int 3)) .nil)) (.int 7919)) (.int 61))) .nil)) (.var 1)))
    .skip))))))
def d_law_draw : Def := ⟨2, 5, b_law_draw⟩
def b_law_pick : S :=
  (.seq (.ret (.idx (.var 1) (.call f_law_draw (.cons (.var 0) (.cons (.bi .len (.cons (.var 1) .nil)) .nil)))))
    .skip)
def d_law_pick : Def := ⟨2, 2, b_law_pick⟩
def b_law_great : S :=
  (.seq (.ret (.call f_law_pick (.cons (.var 0) (.cons (.lst false (.cons (.bin .pow (.int 10) (.int 30)) (.cons (.bin .sub (.bin .sub (.bin .pow (.int 10) (.int 30)) (.int 1)) (.call f_law_draw (.cons (.var 0) (.cons (.bin .pow (.int 10) (.int 9)) .nil)))) (.cons (.bin .add (.bin .pow (.int 10) (.int 18)) (.call f_law_draw (.cons (.var 0) (.cons (.bin .pow (.int 10) (.int 9)) .nil)))) .nil)))) .nil))))
    .skip)
def d_law_great : Def := ⟨1, 1, b_law_great⟩
def b_law_same : S :=
  (.seq (.ifS (.or (.isi (.var 1) .list) (.isi (.var 1) .tuple))
    (.seq (.ifS (.or (.cmp .ne (.isi (.var 0) .list) (.isi (.var 1) .list)) (.cmp .ne (.isi (.var 0) .tuple) (.isi (.var 1) .tuple)))
    (.seq (.ret (.bl false))
    .skip)
    .skip)
    (.seq (.ret (.and (.cmp .eq (.bi .len (.cons (.var 0) .nil)) (.bi .len (.cons (.var 1) .nil))) (.bi .all (.cons (.lc false (.call f_law_same (.cons (.var 2) (.cons (.var 3) .nil))) (.two 2 3) (.zip (.var 0) (.var 1)) .nil [2, 3]) .nil))))
    .skip))
    .skip)
    (.seq (.ifS (.or (.cmp .is (.var 1) .non) (.cmp .is (.var 0) .non))
    (.seq (.ret (.and (.cmp .is (.var 1) .non) (.cmp .is (.var 0) .non)))
    .skip)
    .skip)
    (.seq (.ifS (.or (.cmp .ne (.isi (.var 1) .bool) (.isi (.var 0) .bool)) (.cmp .ne (.isi (.var 1) .int) (.isi (.var 0) .int)))
    (.seq (.ret (.bl false))
    .skip)
    .skip)
    (.seq (.ret (.and (.cmp .eq (.isi (.var 1) .str) (.isi (.var 0) .str)) (.cmp .eq (.var 0) (.var 1))))
    .skip))))
def d_law_same : Def := ⟨2, 4, b_law_same⟩
def b_law_tree : S :=
  (.seq (.ifS (.cmp .lt (.idx (.var 1) (.int 0)) (.int 1))
    (.seq (.ret (.tup (.cons (.str [101, 109, 112, 116, 121]) .nil)))
    .skip)
    .skip)
    (.seq (.asg (.one 3) (.ite (.cmp .gt (.var 2) (.int 1)) (.call f_law_draw (.cons (.var 0) (.cons (.int 9) .nil))) (.call f_law_draw (.cons (.var 0) (.cons (.int 3) .nil)))))
    (.seq (.ifS (.cmp .lt (.var 3) (.int 3))
    (.seq (.put (.var 1) (.int 0) (.bin .sub (.idx (.var 1) (.int 0)) (.int 1)))
    (.seq (.ret (.tup (.cons (.str [108, 101, 116, 116, 101, 114]) (.cons (.call f_law_pick (.cons (.var 0) (.cons (.lst false (.cons (.str [97]) (.cons (.str [98]) (.cons (.str [99]) .nil)))) .nil))) .nil))))
    .skip))
    .skip)
    (.seq (.ifS (.cmp .eq (.var 3) (.int 3))
    (.seq (.ret (.tup (.cons (.str [101, 109, 112, 116, 121]) .nil)))
    .skip)
    .skip)
    (.seq (.ifS (.cmp .lt (.var 3) (.int 6))
    (.seq (.ret (.tup (.cons (.str [106, 111, 105, 110]) (.cons (.bi .tuple (.cons (.lc false (.call f_law_tree (.cons (.var 0) (.cons (.var 1) (.cons (.bin .sub (.var 2) (.int 1)) .nil)))) (.one 4) (.rng (.cons (.bin .add (.int 2) (.call f_law_draw (.cons (.var 0) (.cons (.int 2) .nil)))) .nil)) .nil [4]) .nil)) .nil))))
    .skip)
    .skip)
    (.seq (.ifS (.cmp .eq (.var 3) (.int 6))
    (.seq (.ret (.tup (.cons (.str [116, 105, 109, 101, 115]) (.cons (.call f_law_tree (.cons (.var 0) (.cons (.var 1) (.cons (.bin .sub (.var 2) (.int 1)) .nil)))) (.cons (.call f_law_draw (.cons (.var 0) (.cons (.int 4) .nil))) .nil)))))
    .skip)
    .skip)
    (.seq (.ifS (.cmp .lt (.idx (.var 1) (.int 1)) (.int 1))
    (.seq (.ret (.call f_law_tree (.cons (.var 0) (.cons (.var 1) (.cons (.bin .sub (.var 2) (.int 1)) .nil)))))
    .skip)
    .skip)
    (.seq (.put (.var 1) (.int 1) (.bin .sub (.idx (.var 1) (.int 1)) (.int 1)))
    (.seq (.ret (.tup (.cons (.idx (.lst false (.cons (.str [114, 105, 103, 104, 116]) (.cons (.str [108, 101, 102, 116]) .nil))) (.bin .sub (.var 3) (.int 7))) (.cons (.call f_law_tree (.cons (.var 0) (.cons (.var 1) (.cons (.bin .sub (.var 2) (.int 1)) .nil)))) .nil))))
    .skip)))))))))
def d_law_tree : Def := ⟨3, 5, b_law_tree⟩
def b_law_word : S :=
  (.seq (.asg (.one 1) (.call f_law_tree (.cons (.var 0) (.cons (.lst true (.cons (.int 3) (.cons (.int 1) .nil))) (.cons (.int 3) .nil)))))
    (.seq (.ifS (.cmp .eq (.call f_law_draw (.cons (.var 0) (.cons (.int 3) .nil))) (.int 0))
    (.seq (.ret (.var 1))
    .skip)
    .skip)
    (.seq (.ret (.tup (.cons (.str [106, 111, 105, 110]) (.cons (.tup (.cons (.var 1) (.cons (.call f_law_tree (.cons (.var 0) (.cons (.lst true (.cons (.int 3) (.cons (.int 1) .nil))) (.cons (.int 3) .nil)))) .nil))) .nil))))
    .skip)))
def d_law_word : Def := ⟨1, 2, b_law_word⟩
def b_law_parts : S :=
  (.seq (.ifS (.cmp .eq (.idx (.var 0) (.int 0)) (.str [106, 111, 105, 110]))
    (.seq (.ret (.bi .list (.cons (.idx (.var 0) (.int 1)) .nil)))
    .skip)
    .skip)
    (.seq (.ret (.ite (.or (.cmp .eq (.idx (.var 0) (.int 0)) (.str [116, 105, 109, 101, 115])) (.or (.cmp .eq (.idx (.var 0) (.int 0)) (.str [114, 105, 103, 104, 116])) (.cmp .eq (.idx (.var 0) (.int 0)) (.str [108, 101, 102, 116])))) (.lst false (.cons (.idx (.var 0) (.int 1)) .nil)) (.lst false .nil)))
    .skip))
def d_law_parts : Def := ⟨1, 1, b_law_parts⟩
def b_law_count : S :=
  (.seq (.ifS (.cmp .eq (.idx (.var 0) (.int 0)) (.str [108, 101, 116, 116, 101, 114]))
    (.seq (.ret (.bi .int (.cons (.cmp .isin (.idx (.var 0) (.int 1)) (.var 1)) .nil)))
    .skip)
    .skip)
    (.seq (.ifS (.and (.cmp .eq (.idx (.var 0) (.int 0)) (.str [116, 105, 109, 101, 115])) (.cmp .eq (.idx (.var 0) (.int 2)) (.int 0)))
    (.seq (.ret (.int 0))
    .skip)
    .skip)
    (.seq (.asg (.one 2) (.lc false (.call f_law_count (.cons (.var 3) (.cons (.var 1) .nil))) (.one 3) (.sq (.call f_law_parts (.cons (.var 0) .nil))) .nil [3]))
    (.seq (.ifS (.cmp .isin (.neg (.int 1)) (.var 2))
    (.seq (.ret (.neg (.int 1)))
    .skip)
    .skip)
    (.seq (.ifS (.or (.cmp .eq (.idx (.var 0) (.int 0)) (.str [114, 105, 103, 104, 116])) (.cmp .eq (.idx (.var 0) (.int 0)) (.str [108, 101, 102, 116])))
    (.seq (.ret (.ite (.cmp .eq (.var 2) (.lst false (.cons (.int 0) .nil))) (.int 0) (.neg (.int 1))))
    .skip)
    .skip)
    (.seq (.ret (.ite (.cmp .eq (.idx (.var 0) (.int 0)) (.str [116, 105, 109, 101, 115])) (.bin .mul (.idx (.var 2) (.int 0)) (.idx (.var 0) (.int 2))) (.bi .sum (.cons (.var 2) .nil))))
    .skip))))))
def d_law_count : Def := ⟨2, 4, b_law_count⟩
def b_law_places : S :=
  (.seq (.ret (.call f_law_count (.cons (.var 0) (.cons (.lst false (.cons (.str [97]) (.cons (.str [98]) (.cons (.str [99]) (.cons (.str [65]) (.cons (.str [66]) (.cons (.str [67]) .nil))))))) .nil))))
    .skip)
def d_law_places : Def := ⟨1, 1, b_law_places⟩
def b_law_told : S :=
  (.seq (.ret (.ite (.cmp .lt (.var 0) (.int 0)) .non (.var 0)))
    .skip)
def d_law_told : Def := ⟨1, 1, b_law_told⟩
def b_law_marks : S :=
  (.seq (.ifS (.cmp .eq (.idx (.var 1) (.int 0)) (.str [108, 101, 116, 116, 101, 114]))
    (.seq (.ret (.tup (.cons (.str [108, 101, 116, 116, 101, 114]) (.cons (.ite (.cmp .eq (.call f_law_draw (.cons (.var 0) (.cons (.int 2) .nil))) (.int 0)) (.mth .upper (.idx (.var 1) (.int 1)) .nil) (.idx (.var 1) (.int 1))) .nil))))
    .skip)
    .skip)
    (.seq (.ifS (.cmp .eq (.idx (.var 1) (.int 0)) (.str [106, 111, 105, 110]))
    (.seq (.ret (.tup (.cons (.str [106, 111, 105, 110]) (.cons (.bi .tuple (.cons (.lc false (.call f_law_marks (.cons (.var 0) (.cons (.var 2) .nil))) (.one 2) (.sq (.idx (.var 1) (.int 1))) .nil [2]) .nil)) .nil))))
    .skip)
    .skip)
    (.seq (.ifS (.cmp .eq (.idx (.var 1) (.int 0)) (.str [116, 105, 109, 101, 115]))
    (.seq (.ret (.tup (.cons (.str [116, 105, 109, 101, 115]) (.cons (.call f_law_marks (.cons (.var 0) (.cons (.idx (.var 1) (.int 1)) .nil))) (.cons (.idx (.var 1) (.int 2)) .nil)))))
    .skip)
    .skip)
    (.seq (.ret (.ite (.cmp .ne (.idx (.var 1) (.int 0)) (.str [101, 109, 112, 116, 121])) (.tup (.cons (.idx (.var 1) (.int 0)) (.cons (.call f_law_marks (.cons (.var 0) (.cons (.idx (.var 1) (.int 1)) .nil))) .nil))) (.var 1)))
    .skip))))
def d_law_marks : Def := ⟨2, 3, b_law_marks⟩
def b_law_wide : S :=
  (.seq (.asg (.one 1) (.call f_law_word (.cons (.var 0) .nil)))
    (.seq (.ifS (.cmp .eq (.call f_law_draw (.cons (.var 0) (.cons (.int 2) .nil))) (.int 0))
    (.seq (.asg (.one 1) (.tup (.cons (.str [116, 105, 109, 101, 115]) (.cons (.var 1) (.cons (.call f_law_great (.cons (.var 0) .nil)) .nil)))))
    .skip)
    .skip)
    (.seq (.ret (.ite (.cmp .eq (.call f_law_draw (.cons (.var 0) (.cons (.int 3) .nil))) (.int 0)) (.tup (.cons (.str [106, 111, 105, 110]) (.cons (.tup (.cons (.var 1) (.cons (.tup (.cons (.str [116, 105, 109, 101, 115]) (.cons (.tup (.cons (.str [108, 101, 116, 116, 101, 114]) (.cons (.str [98]) .nil))) (.cons (.call f_law_great (.cons (.var 0) .nil)) .nil)))) .nil))) .nil))) (.var 1)))
    .skip)))
def d_law_wide : Def := ⟨1, 2, b_law_wide⟩
def b_joined : S :=
  (.seq (.asg (.one 1) (.lc false (.var 2) (.one 2) (.sq (.var 0)) (.cons (.cmp .ne (.var 2) (.glb g_EMPTY)) .nil) [2]))
    (.seq (.ifS (.cmp .lt (.bi .len (.cons (.var 1) .nil)) (.int 2))
    (.seq (.ret (.ite (.cmp .eq (.bi .len (.cons (.var 1) .nil)) (.int 1)) (.idx (.var 1) (.int 0)) (.glb g_EMPTY)))
    .skip)
    .skip)
    (.seq (.ret (.tup (.cons (.str [106, 111, 105, 110]) (.cons (.bi .tuple (.cons (.var 1) .nil)) .nil))))
    .skip)))
def d_joined : Def := ⟨1, 3, b_joined⟩
def b_repeated : S :=
  (.seq (.ifS (.cmp .eq (.var 1) (.int 0))
    (.seq (.ret (.glb g_EMPTY))
    .skip)
    .skip)
    (.seq (.ret (.ite (.cmp .eq (.var 1) (.int 1)) (.var 0) (.tup (.cons (.str [116, 105, 109, 101, 115]) (.cons (.var 0) (.cons (.var 1) .nil))))))
    .skip))
def d_repeated : Def := ⟨2, 2, b_repeated⟩
def b_mirror : S :=
  (.seq (.asg (.one 1) (.idx (.var 0) (.int 0)))
    (.seq (.ifS (.cmp .eq (.var 1) (.str [106, 111, 105, 110]))
    (.seq (.ret (.tup (.cons (.str [106, 111, 105, 110]) (.cons (.bi .tuple (.cons (.lc false (.call f_mirror (.cons (.var 2) .nil)) (.one 2) (.sq (.rev (.idx (.var 0) (.int 1)))) .nil [2]) .nil)) .nil))))
    .skip)
    .skip)
    (.seq (.ifS (.cmp .eq (.var 1) (.str [116, 105, 109, 101, 115]))
    (.seq (.ret (.tup (.cons (.str [116, 105, 109, 101, 115]) (.cons (.call f_mirror (.cons (.idx (.var 0) (.int 1)) .nil)) (.cons (.idx (.var 0) (.int 2)) .nil)))))
    .skip)
    .skip)
    (.seq (.ifS (.cmp .isin (.var 1) (.tup (.cons (.str [114, 105, 103, 104, 116]) (.cons (.str [108, 101, 102, 116]) .nil))))
    (.seq (.ret (.tup (.cons (.ite (.cmp .eq (.var 1) (.str [114, 105, 103, 104, 116])) (.str [108, 101, 102, 116]) (.str [114, 105, 103, 104, 116])) (.cons (.call f_mirror (.cons (.idx (.var 0) (.int 1)) .nil)) .nil))))
    .skip)
    .skip)
    (.seq (.ret (.var 0))
    .skip)))))
def d_mirror : Def := ⟨1, 3, b_mirror⟩
def b_is_empty : S :=
  (.seq (.ifS (.and (.cmp .eq (.idx (.var 0) (.int 0)) (.str [116, 105, 109, 101, 115])) (.cmp .eq (.idx (.var 0) (.int 2)) (.int 0)))
    (.seq (.ret (.bl true))
    .skip)
    .skip)
    (.seq (.ret (.and (.cmp .ne (.idx (.var 0) (.int 0)) (.str [108, 101, 116, 116, 101, 114])) (.bi .all (.cons (.lc false (.call f_is_empty (.cons (.var 1) .nil)) (.one 1) (.sq (.call f_parts_of (.cons (.var 0) .nil))) .nil [1]) .nil))))
    .skip))
def d_is_empty : Def := ⟨1, 2, b_is_empty⟩
def b_law_turned : S :=
  (.seq (.ifS (.cmp .eq (.idx (.var 0) (.int 0)) (.str [106, 111, 105, 110]))
    (.seq (.ret (.tup (.cons (.str [106, 111, 105, 110]) (.cons (.bi .tuple (.cons (.lc false (.call f_law_turned (.cons (.var 1) .nil)) (.one 1) (.sq (.rev (.idx (.var 0) (.int 1)))) .nil [1]) .nil)) .nil))))
    .skip)
    .skip)
    (.seq (.ifS (.cmp .eq (.idx (.var 0) (.int 0)) (.str [116, 105, 109, 101, 115]))
    (.seq (.ret (.tup (.cons (.str [116, 105, 109, 101, 115]) (.cons (.call f_law_turned (.cons (.idx (.var 0) (.int 1)) .nil)) (.cons (.idx (.var 0) (.int 2)) .nil)))))
    .skip)
    .skip)
    (.seq (.ifS (.or (.cmp .eq (.idx (.var 0) (.int 0)) (.str [114, 105, 103, 104, 116])) (.cmp .eq (.idx (.var 0) (.int 0)) (.str [108, 101, 102, 116])))
    (.seq (.ret (.tup (.cons (.opx (.dget [([114, 105, 103, 104, 116], [108, 101, 102, 116]), ([108, 101, 102, 116], [114, 105, 103, 104, 116])]) (.idx (.var 0) (.int 0))) (.cons (.call f_law_turned (.cons (.idx (.var 0) (.int 1)) .nil)) .nil))))
    .skip)
    .skip)
    (.seq (.ret (.var 0))
    .skip))))
def d_law_turned : Def := ⟨1, 2, b_law_turned⟩
def b_depth : S :=
  (.seq (.ret (.bin .add (.int 1) (.bi .max (.cons (.bin .add (.lst false (.cons (.int 0) .nil)) (.lc false (.call f_depth (.cons (.var 1) .nil)) (.one 1) (.sq (.call f_parts_of (.cons (.var 0) .nil))) .nil [1])) .nil))))
    .skip)
def d_depth : Def := ⟨1, 2, b_depth⟩
def b_node_count : S :=
  (.seq (.ret (.bin .add (.int 1) (.bi .sum (.cons (.lc false (.call f_node_count (.cons (.var 1) .nil)) (.one 1) (.sq (.call f_parts_of (.cons (.var 0) .nil))) .nil [1]) .nil))))
    .skip)
def d_node_count : Def := ⟨1, 2, b_node_count⟩
def b_law_finite : S :=
  (.seq (.ifS (.cmp .eq (.bi .len (.cons (.var 1) .nil)) (.int 0))
    (.seq (.ret (.call f_law_pick (.cons (.var 0) (.cons (.lst false (.cons (.tup (.cons (.str [101, 109, 112, 116, 121]) .nil)) (.cons (.tup (.cons (.str [116, 105, 109, 101, 115]) (.cons (.tup (.cons (.str [108, 101, 116, 116, 101, 114]) (.cons (.str [98]) .nil))) (.cons (.int 0) .nil)))) (.cons (.tup (.cons (.str [106, 111, 105, 110]) (.cons (.tup (.cons (.tup (.cons (.str [101, 109, 112, 116, 121]) .nil)) (.cons (.tup (.cons (.str [101, 109, 112, 116, 121]) .nil)) .nil))) .nil))) .nil)))) .nil))))
    .skip)
    .skip)
    (.seq (.ifS (.cmp .eq (.bi .len (.cons (.var 1) .nil)) (.int 1))
    (.seq (.ret (.call f_law_pick (.cons (.var 0) (.cons (.lst false (.cons (.tup (.cons (.str [108, 101, 116, 116, 101, 114]) (.cons (.idx (.var 1) (.int 0)) .nil))) (.cons (.tup (.cons (.str [116, 105, 109, 101, 115]) (.cons (.tup (.cons (.str [108, 101, 116, 116, 101, 114]) (.cons (.idx (.var 1) (.int 0)) .nil))) (.cons (.int 1) .nil)))) .nil))) .nil))))
    .skip)
    .skip)
    (.seq (.ifS (.and (.cmp .eq (.var 1) (.bin .mul (.slc (.var 1) .nil (.cons (.int 1) .nil)) (.bi .len (.cons (.var 1) .nil)))) (.cmp .eq (.call f_law_draw (.cons (.var 0) (.cons (.int 2) .nil))) (.int 0)))
    (.seq (.ret (.tup (.cons (.str [116, 105, 109, 101, 115]) (.cons (.tup (.cons (.str [108, 101, 116, 116, 101, 114]) (.cons (.idx (.var 1) (.int 0)) .nil))) (.cons (.bi .len (.cons (.var 1) .nil)) .nil)))))
    .skip)
    .skip)
    (.seq (.asg (.one 2) (.bin .add (.int 1) (.call f_law_draw (.cons (.var 0) (.cons (.bin .sub (.bi .len (.cons (.var 1) .nil)) (.int 1)) .nil)))))
    (.seq (.asg (.one 3) (.lst false (.cons (.call f_law_finite (.cons (.var 0) (.cons (.slc (.var 1) .nil (.cons (.var 2) .nil)) .nil))) (.cons (.call f_law_finite (.cons (.var 0) (.cons (.slc (.var 1) (.cons (.var 2) .nil) .nil) .nil))) .nil))))
    (.seq (.ifS (.cmp .eq (.call f_law_draw (.cons (.var 0) (.cons (.int 5) .nil))) (.int 0))
    (.seq (.asg (.one 3) (.bin .add (.var 3) (.lst false (.cons (.tup (.cons (.str [101, 109, 112, 116, 121]) .nil)) .nil))))
    .skip)
    .skip)
    (.seq (.ret (.tup (.cons (.str [106, 111, 105, 110]) (.cons (.bi .tuple (.cons (.var 3) .nil)) .nil))))
    .skip)))))))
def d_law_finite : Def := ⟨2, 4, b_law_finite⟩
def b_law_levels : S :=
  (.seq (.ret (.bin .add (.int 1) (.bi .max (.cons (.bin .add (.lst false (.cons (.int 0) .nil)) (.lc false (.call f_law_levels (.cons (.var 1) .nil)) (.one 1) (.sq (.call f_law_parts (.cons (.var 0) .nil))) .nil [1])) .nil))))
    .skip)
def d_law_levels : Def := ⟨1, 2, b_law_levels⟩
def b_law_nodes : S :=
  (.seq (.ret (.bin .add (.int 1) (.bi .sum (.cons (.lc false (.call f_law_nodes (.cons (.var 1) .nil)) (.one 1) (.sq (.call f_law_parts (.cons (.var 0) .nil))) .nil [1]) .nil))))
    .skip)
def d_law_nodes : Def := ⟨1, 2, b_law_nodes⟩
def b_read_name_k05 : S :=
  (.seq (.asg (.one 2) (.bin .add (.var 1) (.int 1)))
    (.seq (.whileS (.and (.cmp .lt (.var 2) (.bi .len (.cons (.var 0) .nil))) (.and (.cmp .isin (.idx (.var 0) (.var 2)) (.glb g_SMALL)) (.cmp .le (.bin .sub (.var 2) (.var 1)) (.glb g_MAX_NAME))))
    (.seq (.aug 2 .add (.int 1))
    .skip))
    (.seq (.ifS (.or (.cmp .eq (.var 2) (.bin .add (.var 1) (.int 1))) (.or (.cmp .eq (.var 2) (.bi .len (.cons (.var 0) .nil))) (.cmp .ne (.idx (.var 0) (.var 2)) (.str [125]))))
    (.seq (.raise 0 (.cons (.var 2) .nil))
    .skip)
    .skip)
    (.seq (.ret (.tup (.cons (.slc (.var 0) (.cons (.bin .add (.var 1) (.int 1)) .nil) (.cons (.var 2) .nil)) (.cons (.bin .add (.var 2) (.int 1)) .nil))))
    .skip))))
def d_read_name_k05 : Def := ⟨2, 3, b_read_name_k05⟩
def b_read_atom_k05 : S :=
  (.seq (.asg (.one 3) (.idx (.var 0) (.var 1)))
    (.seq (.ifS (.cmp .isin (.var 3) (.glb g_LETTERS))
    (.seq (.ret (.tup (.cons (.tup (.cons (.str [108, 101, 116, 116, 101, 114]) (.cons (.var 3) .nil))) (.cons (.bin .add (.var 1) (.int 1)) .nil))))
    .skip)
    .skip)
    (.seq (.ifS (.cmp .eq (.var 3) (.str [123]))
    (.seq (.asg (.two 4 5) (.call f_read_name_k05 (.cons (.var 0) (.cons (.var 1) .nil))))
    (.seq (.ret (.tup (.cons (.tup (.cons (.str [110, 97, 109, 101]) (.cons (.var 4) .nil))) (.cons (.var 5) .nil))))
    .skip))
    .skip)
    (.seq (.ifS (.cmp .ne (.var 3) (.str [40]))
    (.seq (.raise 0 (.cons (.var 1) .nil))
    .skip)
    .skip)
    (.seq (.ifS (.cmp .eq (.var 2) (.glb g_MAX_OPEN))
    (.seq (.raise 1 (.cons (.glb g_MAX_OPEN) .nil))
    .skip)
    .skip)
    (.seq (.asg (.two 6 5) (.call f_read_items_k05 (.cons (.var 0) (.cons (.bin .add (.var 1) (.int 1)) (.cons (.bin .add (.var 2) (.int 1)) .nil)))))
    (.seq (.ifS (.cmp .eq (.var 5) (.bi .len (.cons (.var 0) .nil)))
    (.seq (.raise 0 (.cons (.var 5) .nil))
    .skip)
    .skip)
    (.seq (.ret (.tup (.cons (.var 6) (.cons (.bin .add (.var 5) (.int 1)) .nil))))
    .skip))))))))
def d_read_atom_k05 : Def := ⟨3, 7, b_read_atom_k05⟩
def b_read_number : S :=
  (.seq (.asg (.one 2) (.var 1))
    (.seq (.whileS (.and (.cmp .lt (.var 2) (.bi .len (.cons (.var 0) .nil))) (.cmp .isin (.idx (.var 0) (.var 2)) (.glb g_DIGITS)))
    (.seq (.aug 2 .add (.int 1))
    .skip))
    (.seq (.asg (.one 3) (.slc (.var 0) (.cons (.var 1) .nil) (.cons (.var 2) .nil)))
    (.seq (.ifS (.or (.cmp .eq (.var 3) (.str [])) (.or (.cmp .gt (.bi .len (.cons (.var 3) .nil)) (.int 31)) (.or (.and (.cmp .eq (.idx (.var 3) (.int 0)) (.str [48])) (.cmp .ne (.var 3) (.str [48]))) (.cmp .gt (.bi .int (.cons (.var 3) .nil)) (.glb g_MAX_COPIES)))))
    (.seq (.raise 0 (.cons (.var 1) .nil))
    .skip)
    .skip)
    (.seq (.ret (.tup (.cons (.bi .int (.cons (.var 3) .nil)) (.cons (.var 2) .nil))))
    .skip)))))
def d_read_number : Def := ⟨2, 4, b_read_number⟩
def b_read_suffix : S :=
  (.seq (.ifS (.cmp .eq (.idx (.var 0) (.var 1)) (.str [94]))
    (.seq (.asg (.two 3 4) (.call f_read_number (.cons (.var 0) (.cons (.bin .add (.var 1) (.int 1)) .nil))))
    (.seq (.ret (.tup (.cons (.tup (.cons (.str [116, 105, 109, 101, 115]) (.cons (.var 2) (.cons (.var 3) .nil)))) (.cons (.var 4) .nil))))
    .skip))
    .skip)
    (.seq (.ret (.tup (.cons (.tup (.cons (.ite (.cmp .eq (.idx (.var 0) (.var 1)) (.str [62])) (.str [114, 105, 103, 104, 116]) (.str [108, 101, 102, 116])) (.cons (.var 2) .nil))) (.cons (.bin .add (.var 1) (.int 1)) .nil))))
    .skip))
def d_read_suffix : Def := ⟨3, 5, b_read_suffix⟩
def b_read_items_k05 : S :=
  (.seq (.asg (.one 3) (.lst true .nil))
    (.seq (.whileS (.and (.cmp .lt (.var 1) (.bi .len (.cons (.var 0) .nil))) (.cmp .ne (.idx (.var 0) (.var 1)) (.str [41])))
    (.seq (.asg (.two 4 1) (.call f_read_atom_k05 (.cons (.var 0) (.cons (.var 1) (.cons (.var 2) .nil)))))
    (.seq (.whileS (.and (.cmp .lt (.var 1) (.bi .len (.cons (.var 0) .nil))) (.cmp .isin (.idx (.var 0) (.var 1)) (.str [62, 60, 94])))
    (.seq (.asg (.two 4 1) (.call f_read_suffix (.cons (.var 0) (.cons (.var 1) (.cons (.var 4) .nil)))))
    .skip))
    (.seq (.expr (.mth .append (.var 3) (.cons (.var 4) .nil)))
    .skip))))
    (.seq (.ifS (.cmp .lt (.bi .len (.cons (.var 3) .nil)) (.int 2))
    (.seq (.ret (.tup (.cons (.ite (.cmp .eq (.bi .len (.cons (.var 3) .nil)) (.int 1)) (.idx (.var 3) (.int 0)) (.glb g_EMPTY)) (.cons (.var 1) .nil))))
    .skip)
    .skip)
    (.seq (.ret (.tup (.cons (.tup (.cons (.str [106, 111, 105, 110]) (.cons (.bi .tuple (.cons (.var 3) .nil)) .nil))) (.cons (.var 1) .nil))))
    .skip))))
def d_read_items_k05 : Def := ⟨3, 5, b_read_items_k05⟩
def b_parse_word_k05 : S :=
  (.seq (.ifS (.cmp .gt (.bi .len (.cons (.var 0) .nil)) (.glb g_MAX_TEXT_k05))
    (.seq (.raise 1 (.cons (.glb g_MAX_TEXT_k05) .nil))
    .skip)
    .skip)
    (.seq (.asg (.two 1 2) (.call f_read_items_k05 (.cons (.var 0) (.cons (.int 0) (.cons (.int 0) .nil)))))
    (.seq (.ifS (.cmp .lt (.var 2) (.bi .len (.cons (.var 0) .nil)))
    (.seq (.raise 0 (.cons (.var 2) .nil))
    .skip)
    .skip)
    (.seq (.ifS (.cmp .gt (.call f_depth (.cons (.var 1) .nil)) (.glb g_MAX_DEPTH))
    (.seq (.raise 1 (.cons (.glb g_MAX_DEPTH) .nil))
    .skip)
    .skip)
    (.seq (.ret (.var 1))
    .skip)))))
def d_parse_word_k05 : Def := ⟨1, 3, b_parse_word_k05⟩
def b_law_text : S :=
  (.seq (.ifS (.cmp .eq (.idx (.var 0) (.int 0)) (.str [108, 101, 116, 116, 101, 114]))
    (.seq (.ret (.idx (.var 0) (.int 1)))
    .skip)
    .skip)
    (.seq (.ifS (.cmp .eq (.idx (.var 0) (.int 0)) (.str [110, 97, 109, 101]))
    (.seq (.ret (.bin .add (.bin .add (.str [123]) (.idx (.var 0) (.int 1))) (.str [125])))
    .skip)
    .skip)
    (.seq (.ifS (.cmp .eq (.idx (.var 0) (.int 0)) (.str [101, 109, 112, 116, 121]))
    (.seq (.ret (.str [40, 41]))
    .skip)
    .skip)
    (.seq (.ifS (.cmp .eq (.idx (.var 0) (.int 0)) (.str [106, 111, 105, 110]))
    (.seq (.ret (.mth .join (.str []) (.cons (.lc false (.call f_law_part_text (.cons (.var 2) .nil)) (.one 2) (.sq (.idx (.var 0) (.int 1))) .nil [2]) .nil)))
    .skip)
    .skip)
    (.seq (.asg (.one 1) (.opx (.dget [([116, 105, 109, 101, 115], [94]), ([114, 105, 103, 104, 116], [62]), ([108, 101, 102, 116], [60])]) (.idx (.var 0) (.int 0))))
    (.seq (.ret (.bin .add (.bin .add (.call f_law_part_text (.cons (.idx (.var 0) (.int 1)) .nil)) (.var 1)) (.ite (.cmp .eq (.idx (.var 0) (.int 0)) (.str [116, 105, 109, 101, 115])) (.bi .str (.cons (.idx (.var 0) (.int 2)) .nil)) (.str []))))
    .skip))))))
def d_law_text : Def := ⟨1, 3, b_law_text⟩
def b_law_part_text : S :=
  (.seq (.ret (.ite (.cmp .eq (.idx (.var 0) (.int 0)) (.str [106, 111, 105, 110])) (.bin .add (.bin .add (.str [40]) (.call f_law_text (.cons (.var 0) .nil))) (.str [41])) (.call f_law_text (.cons (.var 0) .nil))))
    .skip)
def d_law_part_text : Def := ⟨1, 1, b_law_part_text⟩
def b_law_name : S :=
  (.seq (.asg (.one 1) (.str [97, 98, 99, 100, 101, 102, 103, 104, 105, 106, 107, 108, 109, 110, 111, 112, 113, 114, 115, 116, 117, 118, 119, 120, 121, 122]))
    (.seq (.ret (.mth .join (.str []) (.cons (.lc false (.idx (.var 1) (.call f_law_draw (.cons (.var 0) (.cons (.int 26) .nil)))) (.one 2) (.rng (.cons (.bin .add (.int 1) (.call f_law_draw (.cons (.var 0) (.cons (.int 8) .nil)))) .nil)) .nil [2]) .nil)))
    .skip))
def d_law_name : Def := ⟨1, 3, b_law_name⟩
def b_law_named_tree : S :=
  (.seq (.asg (.one 2) (.call f_law_word (.cons (.var 0) .nil)))
    (.seq (.ret (.ite (.cmp .eq (.call f_law_draw (.cons (.var 0) (.cons (.int 2) .nil))) (.int 0)) (.tup (.cons (.str [106, 111, 105, 110]) (.cons (.tup (.cons (.var 2) (.cons (.tup (.cons (.str [110, 97, 109, 101]) (.cons (.call f_law_pick (.cons (.var 0) (.cons (.var 1) .nil))) .nil))) .nil))) .nil))) (.var 2)))
    .skip))
def d_law_named_tree : Def := ⟨2, 3, b_law_named_tree⟩
def b_law_bent : S :=
  (.seq (.par 3 4 (.call f_law_draw (.cons (.var 0) (.cons (.bin .add (.bi .len (.cons (.var 1) .nil)) (.int 1)) .nil))) (.call f_law_draw (.cons (.var 0) (.cons (.int 3) .nil))))
    (.seq (.asg (.one 5) (.call f_law_pick (.cons (.var 0) (.cons (.var 2) .nil))))
    (.seq (.ret (.idx (.lst false (.cons (.bin .add (.bin .add (.slc (.var 1) .nil (.cons (.var 3) .nil)) (.var 5)) (.slc (.var 1) (.cons (.var 3) .nil) .nil)) (.cons (.bin .add (.slc (.var 1) .nil (.cons (.var 3) .nil)) (.slc (.var 1) (.cons (.bin .add (.var 3) (.int 1)) .nil) .nil)) (.cons (.bin .add (.bin .add (.slc (.var 1) .nil (.cons (.var 3) .nil)) (.var 5)) (.slc (.var 1) (.cons (.bin .add (.var 3) (.int 1)) .nil) .nil)) .nil)))) (.var 4)))
    .skip)))
def d_law_bent : Def := ⟨3, 6, b_law_bent⟩
def b_choices : S :=
  (.seq (.asg (.one 1) (.idx (.var 0) (.int 0)))
    (.seq (.ifS (.cmp .eq (.var 1) (.str [106, 111, 105, 110]))
    (.seq (.ret (.bi .len (.cons (.idx (.var 0) (.int 1)) .nil)))
    .skip)
    .skip)
    (.seq (.ifS (.cmp .eq (.var 1) (.str [116, 105, 109, 101, 115]))
    (.seq (.ret (.idx (.var 0) (.int 2)))
    .skip)
    .skip)
    (.seq (.ret (.ite (.cmp .isin (.var 1) (.tup (.cons (.str [114, 105, 103, 104, 116]) (.cons (.str [108, 101, 102, 116]) .nil)))) (.bin .add (.glb g_MAX_COPIES) (.int 1)) (.int 0)))
    .skip))))
def d_choices : Def := ⟨1, 2, b_choices⟩
def b_part_at : S :=
  (.seq (.ret (.ite (.cmp .eq (.idx (.var 0) (.int 0)) (.str [106, 111, 105, 110])) (.idx (.idx (.var 0) (.int 1)) (.var 1)) (.idx (.var 0) (.int 1))))
    .skip)
def d_part_at : Def := ⟨2, 2, b_part_at⟩
def l_letter_at_1 : S :=
  (.seq (.ifS (.not (.chain .le .lt (.int 0) (.var 3) (.call f_choices (.cons (.var 2) .nil))))
    (.seq (.raise 2 .nil)
    .skip)
    .skip)
    (.seq (.asg (.one 2) (.call f_part_at (.cons (.var 2) (.cons (.var 3) .nil))))
    .skip))
def b_letter_at : S :=
  (.seq (.asg (.one 2) (.var 0))
    (.seq (.forS (.one 3) (.sq (.var 1)) l_letter_at_1)
    (.seq (.ifS (.cmp .ne (.idx (.var 2) (.int 0)) (.str [108, 101, 116, 116, 101, 114]))
    (.seq (.raise 2 .nil)
    .skip)
    .skip)
    (.seq (.ret (.idx (.var 2) (.int 1)))
    .skip))))
def d_letter_at : Def := ⟨2, 4, b_letter_at⟩
def l_cut_1 : S :=
  (.seq (.asg (.one 6) (.idx (.var 4) (.int 0)))
    (.seq (.ifS (.cmp .eq (.var 6) (.str [106, 111, 105, 110]))
    (.seq (.par 7 8 (.slc (.idx (.var 4) (.int 1)) .nil (.cons (.var 5) .nil)) (.slc (.idx (.var 4) (.int 1)) (.cons (.bin .add (.var 5) (.int 1)) .nil) .nil))
    .skip)
    (.seq (.ifS (.cmp .eq (.var 6) (.str [116, 105, 109, 101, 115]))
    (.seq (.par 7 8 (.lst false (.cons (.call f_repeated (.cons (.idx (.var 4) (.int 1)) (.cons (.var 5) .nil))) .nil)) (.lst false (.cons (.call f_repeated (.cons (.idx (.var 4) (.int 1)) (.cons (.bin .sub (.bin .sub (.idx (.var 4) (.int 2)) (.var 5)) (.int 1)) .nil))) .nil)))
    .skip)
    (.seq (.ifS (.cmp .eq (.var 6) (.str [114, 105, 103, 104, 116]))
    (.seq (.par 7 8 (.lst false (.cons (.call f_repeated (.cons (.idx (.var 4) (.int 1)) (.cons (.var 5) .nil))) .nil)) (.lst false (.cons (.var 4) .nil)))
    .skip)
    (.seq (.par 7 8 (.lst false (.cons (.var 4) .nil)) (.lst false (.cons (.call f_repeated (.cons (.idx (.var 4) (.int 1)) (.cons (.var 5) .nil))) .nil)))
    .skip))
    .skip))
    .skip))
    (.seq (.par 2 3 (.callS f_joined 0 [false, true] (.cons (.var 2) (.cons (.var 7) .nil))) (.callS f_joined 0 [true, false] (.cons (.var 8) (.cons (.var 3) .nil))))
    (.seq (.asg (.one 4) (.call f_part_at (.cons (.var 4) (.cons (.var 5) .nil))))
    .skip))))
def b_cut : S :=
  (.seq (.expr (.call f_letter_at (.cons (.var 0) (.cons (.var 1) .nil))))
    (.seq (.par3 2 3 4 (.glb g_EMPTY) (.glb g_EMPTY) (.var 0))
    (.seq (.forS (.one 5) (.sq (.var 1)) l_cut_1)
    (.seq (.ret (.tup (.cons (.var 2) (.cons (.idx (.var 4) (.int 1)) (.cons (.var 3) .nil)))))
    .skip))))
def d_cut : Def := ⟨2, 9, b_cut⟩
def l_law_spots_1 : S :=
  (.seq (.asg (.one 5) (.lc false (.slc (.var 10) (.cons (.int 1) .nil) .nil) (.one 10) (.sq (.var 1)) (.cons (.cmp .eq (.idx (.var 10) (.int 0)) (.var 9)) .nil) [10]))
    (.seq (.asg (.one 3) (.bin .add (.var 3) (.lc false (.bin .add (.tup (.cons (.var 9) .nil)) (.var 10)) (.one 10) (.sq (.call f_law_spots (.cons (.idx (.var 0) (.int 1)) (.cons (.var 5) (.cons (.var 2) .nil))))) .nil [10])))
    .skip))
def l_law_spots_3 : S :=
  (.seq (.ifS (.and (.cmp .ge (.var 9) (.int 0)) (.and (.cmp .notin (.var 9) (.var 7)) (.or (.cmp .ne (.idx (.var 0) (.int 0)) (.str [116, 105, 109, 101, 115])) (.cmp .lt (.var 9) (.idx (.var 0) (.int 2))))))
    (.seq (.expr (.mth .append (.var 7) (.cons (.var 9) .nil)))
    .skip)
    .skip)
    .skip)
def l_law_spots_2 : S :=
  (.seq (.forS (.one 9) (.rng (.cons (.bin .sub (.var 8) (.var 2)) (.cons (.bin .add (.bin .add (.var 8) (.var 2)) (.int 1)) .nil))) l_law_spots_3)
    .skip)
def l_law_spots_4 : S :=
  (.seq (.asg (.one 5) (.lc false (.slc (.var 10) (.cons (.int 1) .nil) .nil) (.one 10) (.sq (.var 1)) (.cons (.cmp .eq (.idx (.var 10) (.int 0)) (.var 4)) .nil) [10]))
    (.seq (.asg (.one 3) (.bin .add (.var 3) (.lc false (.bin .add (.tup (.cons (.var 4) .nil)) (.var 10)) (.one 10) (.sq (.call f_law_spots (.cons (.idx (.idx (.var 0) (.int 1)) (.var 4)) (.cons (.var 5) (.cons (.var 2) .nil))))) .nil [10])))
    .skip))
def b_law_spots : S :=
  (.seq (.ifS (.cmp .eq (.idx (.var 0) (.int 0)) (.str [108, 101, 116, 116, 101, 114]))
    (.seq (.ret (.lst false (.cons (.tup .nil) .nil)))
    .skip)
    .skip)
    (.seq (.ifS (.cmp .eq (.idx (.var 0) (.int 0)) (.str [101, 109, 112, 116, 121]))
    (.seq (.ret (.lst false .nil))
    .skip)
    .skip)
    (.seq (.asg (.one 3) (.lst false .nil))
    (.seq (.ifS (.cmp .eq (.idx (.var 0) (.int 0)) (.str [106, 111, 105, 110]))
    (.seq (.forS (.one 4) (.rng (.cons (.bi .len (.cons (.idx (.var 0) (.int 1)) .nil)) .nil)) l_law_spots_4)
    (.seq (.ret (.var 3))
    .skip))
    .skip)
    (.seq (.asg (.one 6) (.bin .add (.bin .add (.lst false (.cons (.int 0) .nil)) (.lc false (.idx (.var 10) (.int 0)) (.one 10) (.sq (.var 1)) .nil [10])) (.ite (.cmp .eq (.idx (.var 0) (.int 0)) (.str [116, 105, 109, 101, 115])) (.lst false (.cons (.bin .sub (.idx (.var 0) (.int 2)) (.int 1)) .nil)) (.lst false .nil))))
    (.seq (.asg (.one 7) (.lst true .nil))
    (.seq (.forS (.one 8) (.sq (.var 6)) l_law_spots_2)
    (.seq (.forS (.one 9) (.sq (.bi .sorted (.cons (.var 7) .nil))) l_law_spots_1)
    (.seq (.ret (.var 3))
    .skip)))))))))
def d_law_spots : Def := ⟨3, 11, b_law_spots⟩
def l_law_letter_1 : S :=
  (.seq (.asg (.one 2) (.ite (.cmp .eq (.idx (.var 2) (.int 0)) (.str [106, 111, 105, 110])) (.idx (.idx (.var 2) (.int 1)) (.var 3)) (.idx (.var 2) (.int 1))))
    .skip)
def b_law_letter : S :=
  (.seq (.asg (.one 2) (.var 0))
    (.seq (.forS (.one 3) (.sq (.var 1)) l_law_letter_1)
    (.seq (.ret (.idx (.var 2) (.int 1)))
    .skip)))
def d_law_letter : Def := ⟨2, 4, b_law_letter⟩
def b_law_spot : S :=
  (.seq (.ifS (.cmp .eq (.idx (.var 1) (.int 0)) (.str [108, 101, 116, 116, 101, 114]))
    (.seq (.ret (.tup .nil))
    .skip)
    .skip)
    (.seq (.ifS (.cmp .eq (.call f_law_places (.cons (.var 1) .nil)) (.int 0))
    (.seq (.ret .non)
    .skip)
    .skip)
    (.seq (.ifS (.cmp .eq (.idx (.var 1) (.int 0)) (.str [106, 111, 105, 110]))
    (.seq (.asg (.one 2) (.lc false (.var 3) (.one 3) (.rng (.cons (.bi .len (.cons (.idx (.var 1) (.int 1)) .nil)) .nil)) (.cons (.cmp .ne (.call f_law_places (.cons (.idx (.idx (.var 1) (.int 1)) (.var 3)) .nil)) (.int 0)) .nil) [3]))
    (.seq (.asg (.one 3) (.call f_law_pick (.cons (.var 0) (.cons (.var 2) .nil))))
    (.seq (.ret (.bin .add (.tup (.cons (.var 3) .nil)) (.call f_law_spot (.cons (.var 0) (.cons (.idx (.idx (.var 1) (.int 1)) (.var 3)) .nil)))))
    .skip)))
    .skip)
    (.seq (.asg (.one 4) (.ite (.cmp .eq (.idx (.var 1) (.int 0)) (.str [116, 105, 109, 101, 115])) (.idx (.var 1) (.int 2)) (.bin .add (.bin .pow (.int 10) (.int 30)) (.int 1))))
    (.seq (.asg (.one 5) (.call f_law_pick (.cons (.var 0) (.cons (.lst false (.cons (.int 0) (.cons (.bin .sub (.var 4) (.int 1)) (.cons (.call f_law_draw (.cons (.var 0) (.cons (.bi .min (.cons (.var 4) (.cons (.int 6) .nil))) .nil))) (.cons (.call f_law_draw (.cons (.var 0) (.cons (.var 4) .nil))) .nil))))) .nil))))
    (.seq (.ret (.bin .add (.tup (.cons (.var 5) .nil)) (.call f_law_spot (.cons (.var 0) (.cons (.idx (.var 1) (.int 1)) .nil)))))
    .skip))))))
def d_law_spot : Def := ⟨2, 6, b_law_spot⟩
def l_law_bad_spot_1 : S :=
  (.seq (.asg (.one 4) (.ite (.cmp .eq (.idx (.var 4) (.int 0)) (.str [106, 111, 105, 110])) (.idx (.idx (.var 4) (.int 1)) (.var 5)) (.idx (.var 4) (.int 1))))
    .skip)
def b_law_bad_spot : S :=
  (.seq (.asg (.one 3) (.call f_law_draw (.cons (.var 0) (.cons (.bin .add (.bi .len (.cons (.var 2) .nil)) (.int 1)) .nil))))
    (.seq (.asg (.one 4) (.var 1))
    (.seq (.forS (.one 5) (.sq (.slc (.var 2) .nil (.cons (.var 3) .nil))) l_law_bad_spot_1)
    (.seq (.asg (.one 6) (.ite (.cmp .eq (.idx (.var 4) (.int 0)) (.str [106, 111, 105, 110])) (.bi .len (.cons (.idx (.var 4) (.int 1)) .nil)) (.ite (.cmp .eq (.idx (.var 4) (.int 0)) (.str [116, 105, 109, 101, 115])) (.idx (.var 4) (.int 2)) (.bin .add (.bin .pow (.int 10) (.int 30)) (.int 1)))))
    (.seq (.ifS (.cmp .eq (.idx (.var 4) (.int 0)) (.str [108, 101, 116, 116, 101, 114]))
    (.seq (.ret (.bin .add (.var 2) (.tup (.cons (.call f_law_draw (.cons (.var 0) (.cons (.int 2) .nil))) .nil))))
    .skip)
    .skip)
    (.seq (.ret (.call f_law_pick (.cons (.var 0) (.cons (.lst false (.cons (.slc (.var 2) .nil (.cons (.var 3) .nil)) (.cons (.bin .add (.bin .add (.slc (.var 2) .nil (.cons (.var 3) .nil)) (.tup (.cons (.var 6) .nil))) (.slc (.var 2) (.cons (.bin .add (.var 3) (.int 1)) .nil) .nil)) (.cons (.bin .add (.bin .add (.slc (.var 2) .nil (.cons (.var 3) .nil)) (.tup (.cons (.neg (.int 1)) .nil))) (.slc (.var 2) (.cons (.bin .add (.var 3) (.int 1)) .nil) .nil)) (.cons (.bin .add (.var 2) (.tup (.cons (.int 0) .nil))) .nil))))) .nil))))
    .skip))))))
def d_law_bad_spot : Def := ⟨3, 7, b_law_bad_spot⟩
def l_compare_1 : S :=
  (.seq (.ifS (.cmp .ne (.var 4) (.var 5))
    (.seq (.ret (.ite (.cmp .eq (.cmp .lt (.var 4) (.var 5)) (.cmp .ne (.idx (.var 3) (.int 0)) (.str [108, 101, 102, 116]))) (.neg (.int 1)) (.int 1)))
    .skip)
    .skip)
    (.seq (.asg (.one 3) (.call f_part_at (.cons (.var 3) (.cons (.var 4) .nil))))
    .skip))
def b_compare : S :=
  (.seq (.expr (.call f_letter_at (.cons (.var 0) (.cons (.var 1) .nil))))
    (.seq (.expr (.call f_letter_at (.cons (.var 0) (.cons (.var 2) .nil))))
    (.seq (.asg (.one 3) (.var 0))
    (.seq (.forS (.two 4 5) (.zip (.var 1) (.var 2)) l_compare_1)
    (.seq (.ret (.int 0))
    .skip)))))
def d_compare : Def := ⟨3, 6, b_compare⟩
def l_law_ahead_1 : S :=
  (.seq (.ifS (.cmp .ne (.var 4) (.var 5))
    (.seq (.ret (.cmp .eq (.cmp .lt (.var 4) (.var 5)) (.cmp .ne (.idx (.var 3) (.int 0)) (.str [108, 101, 102, 116]))))
    .skip)
    .skip)
    (.seq (.asg (.one 3) (.ite (.cmp .eq (.idx (.var 3) (.int 0)) (.str [106, 111, 105, 110])) (.idx (.idx (.var 3) (.int 1)) (.var 4)) (.idx (.var 3) (.int 1))))
    .skip))
def b_law_ahead : S :=
  (.seq (.asg (.one 3) (.var 0))
    (.seq (.forS (.two 4 5) (.zip (.var 1) (.var 2)) l_law_ahead_1)
    (.seq (.ret (.bl false))
    .skip)))
def d_law_ahead : Def := ⟨3, 6, b_law_ahead⟩
def b_law_order : S :=
  (.seq (.ret (.ite (.cmp .eq (.var 1) (.var 2)) (.int 0) (.ite (.call f_law_ahead (.cons (.var 0) (.cons (.var 1) (.cons (.var 2) .nil)))) (.neg (.int 1)) (.int 1))))
    .skip)
def d_law_order : Def := ⟨3, 3, b_law_order⟩
def l_law_begin_1 : S :=
  (.seq (.asg (.one 5) (.ite (.cmp .eq (.idx (.var 0) (.int 0)) (.str [106, 111, 105, 110])) (.idx (.idx (.var 0) (.int 1)) (.var 3)) (.idx (.var 0) (.int 1))))
    (.seq (.ifS (.cmp .lt (.bi .len (.cons (.var 2) .nil)) (.var 1))
    (.seq (.asg (.one 2) (.bin .add (.var 2) (.lc false (.bin .add (.tup (.cons (.var 3) .nil)) (.var 6)) (.one 6) (.sq (.call f_law_begin (.cons (.var 5) (.cons (.bin .sub (.var 1) (.bi .len (.cons (.var 2) .nil))) .nil)))) .nil [6])))
    .skip)
    .skip)
    (.seq (.ifS (.cmp .lt (.call f_law_places (.cons (.var 5) .nil)) (.int 0))
    (.seq (.ret (.var 2))
    .skip)
    .skip)
    .skip)))
def b_law_begin : S :=
  (.seq (.ifS (.or (.cmp .lt (.var 1) (.int 1)) (.or (.cmp .eq (.idx (.var 0) (.int 0)) (.str [101, 109, 112, 116, 121])) (.or (.cmp .eq (.idx (.var 0) (.int 0)) (.str [108, 101, 102, 116])) (.cmp .eq (.call f_law_places (.cons (.var 0) .nil)) (.int 0)))))
    (.seq (.ret (.lst false .nil))
    .skip)
    .skip)
    (.seq (.ifS (.cmp .eq (.idx (.var 0) (.int 0)) (.str [108, 101, 116, 116, 101, 114]))
    (.seq (.ret (.lst false (.cons (.tup .nil) .nil)))
    .skip)
    .skip)
    (.seq (.par 2 3 (.lst false .nil) (.int 0))
    (.seq (.asg (.one 4) (.ite (.cmp .eq (.idx (.var 0) (.int 0)) (.str [106, 111, 105, 110])) (.bi .len (.cons (.idx (.var 0) (.int 1)) .nil)) (.ite (.cmp .eq (.idx (.var 0) (.int 0)) (.str [116, 105, 109, 101, 115])) (.idx (.var 0) (.int 2)) (.var 1))))
    (.seq (.forS (.one 3) (.rng (.cons (.bi .min (.cons (.var 4) (.cons (.bin .add (.var 1) (.int 60)) .nil))) .nil)) l_law_begin_1)
    (.seq (.ret (.var 2))
    .skip))))))
def d_law_begin : Def := ⟨2, 7, b_law_begin⟩
def b_first_place : S :=
  (.seq (.asg (.one 1) (.idx (.var 0) (.int 0)))
    (.seq (.ifS (.cmp .eq (.var 1) (.str [108, 101, 116, 116, 101, 114]))
    (.seq (.ret (.tup .nil))
    .skip)
    .skip)
    (.seq (.ifS (.or (.cmp .eq (.var 1) (.str [108, 101, 102, 116])) (.call f_is_empty (.cons (.var 0) .nil)))
    (.seq (.ret .non)
    .skip)
    .skip)
    (.seq (.asg (.one 2) (.int 0))
    (.seq (.ifS (.cmp .eq (.var 1) (.str [106, 111, 105, 110]))
    (.seq (.asg (.one 2) (.idx (.lc false (.var 4) (.two 4 5) (.enum (.idx (.var 0) (.int 1))) (.cons (.not (.call f_is_empty (.cons (.var 5) .nil))) .nil) [4, 5]) (.int 0)))
    .skip)
    .skip)
    (.seq (.asg (.one 3) (.call f_first_place (.cons (.call f_part_at (.cons (.var 0) (.cons (.var 2) .nil))) .nil)))
    (.seq (.ret (.ite (.cmp .is (.var 3) .non) .non (.bin .add (.tup (.cons (.var 2) .nil)) (.var 3))))
    .skip)))))))
def d_first_place : Def := ⟨1, 6, b_first_place⟩
def b_last_place : S :=
  (.seq (.asg (.one 1) (.idx (.var 0) (.int 0)))
    (.seq (.ifS (.cmp .eq (.var 1) (.str [108, 101, 116, 116, 101, 114]))
    (.seq (.ret (.tup .nil))
    .skip)
    .skip)
    (.seq (.ifS (.or (.cmp .eq (.var 1) (.str [114, 105, 103, 104, 116])) (.call f_is_empty (.cons (.var 0) .nil)))
    (.seq (.ret .non)
    .skip)
    .skip)
    (.seq (.asg (.one 2) (.ite (.cmp .eq (.var 1) (.str [116, 105, 109, 101, 115])) (.bin .sub (.idx (.var 0) (.int 2)) (.int 1)) (.int 0)))
    (.seq (.ifS (.cmp .eq (.var 1) (.str [106, 111, 105, 110]))
    (.seq (.asg (.one 2) (.idx (.lc false (.var 4) (.two 4 5) (.enum (.idx (.var 0) (.int 1))) (.cons (.not (.call f_is_empty (.cons (.var 5) .nil))) .nil) [4, 5]) (.neg (.int 1))))
    .skip)
    .skip)
    (.seq (.asg (.one 3) (.call f_last_place (.cons (.call f_part_at (.cons (.var 0) (.cons (.var 2) .nil))) .nil)))
    (.seq (.ret (.ite (.cmp .is (.var 3) .non) .non (.bin .add (.tup (.cons (.var 2) .nil)) (.var 3))))
    .skip)))))))
def d_last_place : Def := ⟨1, 6, b_last_place⟩
end K
set_option Elab.async false
set_option linter.all false
set_option maxRecDepth 100000
namespace K
open Mi
variable {D : Nat → Option Def} {G : Nat → Option PV} {wf : Nat}
def rngC (xs : List Int) (p : Nat) (a s c : Int) : Cell := .lst [.lst (xs.map PV.int), .int p, .int a, .int s, .int c]
/-- the generator's cell -/
def RngAt (B : Nat) (r : Nat) (S : Store) : Prop := ∃ (xs : List Int) (p : Nat) (a s c : Int), S[r]? = some (rngC xs p a s c) ∧ 0 ≤ a ∧ 0 ≤ s ∧ s < 2147483647 ∧ 0 ≤ c ∧ c ≤ B
/-- nothing but the cells named was written -/
structure Keep (rs : List Nat) (S S' : Store) : Prop where
  len : S.length ≤ S'.length
  get : ∀ j, j < S.length → j ∉ rs → S'[j]? = S[j]?
theorem draw_ok [Has D f_law_draw d_law_draw] {n r B : Nat} {S : Store} {m : Int} (h : RngAt B r S) (hB : B ≤ 2 ^ 100) (hm : 0 < m) (hm2 : m < 2 ^ 200) :
    ∃ i S', callN D G wf (n + 1) f_law_draw [.ref r, .int m] S = .ok (.int i) S' ∧ 0 ≤ i ∧ i < m ∧ Keep [r] S S' ∧ S'.length = S.length ∧ RngAt (B + 1) r S' := by
  obtain ⟨xs, p, a, s, c, hS, ha, hs, hs2, hc, hc2⟩ := h
  unfold rngC at hS
  rw [call_eq rfl]
  have hl : m.natAbs.log2 < 9000 := log_ok (by omega) (by omega)
  have hlt : r < S.length := by
    rcases Nat.lt_or_ge r S.length with z | z
    · exact z
    · rw [List.getElem?_eq_none z] at hS; cases hS
  have fin : ∀ (p' : Nat) (a' s' : Int), 0 ≤ a' → 0 ≤ s' → s' < 2147483647 → Keep [r] S (S.set r (rngC xs p' a' s' (c + 1))) ∧ (S.set r (rngC xs p' a' s' (c + 1))).length = S.length ∧ RngAt (B + 1) r (S.set r (rngC xs p' a' s' (c + 1))) := by
    intro p' a' s' h1 h2 h3
    refine ⟨⟨by simp, fun j hj hn => ?_⟩, by simp, xs, p', a', s', c + 1, set_at hS _, h1, h2, h3, by omega, by omega⟩
    rw [List.getElem?_set_ne (by simpa using fun e => hn (by simp [e]))]
  have md : ∀ y : Int, 0 ≤ y % 2147483647 ∧ y % 2147483647 < 2147483647 := fun y => ⟨Int.emod_nonneg _ (by decide), Int.emod_lt_of_pos _ (by decide)⟩
  have m1 : ∀ y : Int, 0 ≤ y → y < 2147483647 → mulOk y 48271 = true ∧ mulOk y 16807 = true ∧ mulOk (y / 127) 39373 = true := fun y h0 h1 =>
    ⟨mul_ok (by omega) (by omega), mul_ok (by omega) (by omega), mul_ok (by omega) (by omega)⟩
  have l1 : Nat.log2 127 < 9000 := by decide +kernel
  have l2 : Nat.log2 97 < 9000 := by decide +kernel
  have m2 : ∀ y : Int, mulOk (y % 2147483629) 40692 = true := fun y => mul_ok (by omega) (by omega)
  have m6 : ∀ y : Int, mulOk (y % 7919) 61 = true := fun y => mul_ok (by omega) (by omega)
  have m5 : mulOk (c + 1) 2654435 = true := mul_ok (by omega) (by omega)
  have em : ∀ y : Int, 0 ≤ y % m ∧ y % m < m := fun y => ⟨Int.emod_nonneg _ (by omega), Int.emod_lt_of_pos _ hm⟩
  suffices h : ∃ (y : Int) (p' : Nat) (a' s' : Int), bnd (denS ⟨callN D G wf n, G, wf⟩ d_law_draw.body (startE d_law_draw [.ref r, .int m]) S) endF = .ok (.int (y % m)) (S.set r (rngC xs p' a' s' (c + 1))) ∧ 0 ≤ a' ∧ 0 ≤ s' ∧ s' < 2147483647 by
    obtain ⟨y, p', a', s', e, h1, h2, h3⟩ := h
    exact ⟨_, _, e, (em y).1, (em y).2, fin p' a' s' h1 h2 h3⟩
  by_cases h1 : a = 0 ∧ p < xs.length
  · obtain ⟨h1, h2⟩ := h1
    subst h1
    have ex : (xs.map PV.int)[p]? = some (.int xs[p]) := by simp [h2]
    have hat : atI (xs.map PV.int) (p : Int) = some (.int xs[p]) := by rw [atI_nat, ex]
    by_cases h3 : 1000000000000000000 ≤ xs[p]
    · have h4 : 0 < xs[p] := by omega
      refine ⟨xs[p], p + 1, xs[p] / m, s, ?_, Int.ediv_nonneg (by omega) (by omega), hs, hs2⟩
      simp [d_law_draw, b_law_draw, startE, hS, set_at hS, h2, hat, h3, h4, hm, hl, rngC]
    · obtain ⟨s1, e1⟩ : ∃ s1, s1 = (s * 48271 + xs[p] % 2147483629 * 40692 + 19) % 2147483647 := ⟨_, rfl⟩
      obtain ⟨s2, e2⟩ : ∃ s2, s2 = (s1 * 16807 + s1 / 127 * 39373 + (c + 1) * 2654435 + 12345) % 2147483647 := ⟨_, rfl⟩
      have q1 := md (s * 48271 + xs[p] % 2147483629 * 40692 + 19)
      rw [← e1] at q1
      have q3 := md (s1 * 16807 + s1 / 127 * 39373 + (c + 1) * 2654435 + 12345)
      rw [← e2] at q3
      have q2 := m1 _ q1.1 q1.2
      refine ⟨s2 / 97 + s2 % 7919 * 61, p + 1, 0, s2, ?_, by omega, q3.1, q3.2⟩
      simp [d_law_draw, b_law_draw, startE, hS, set_at hS, h2, hat, h3, hm, hl, rngC, m1 s hs hs2, m2, l1, l2, m6, m5, ← e1, q2, ← e2]
  · by_cases h2 : 0 < a
    · have h3 : a ≠ 0 := by omega
      refine ⟨a, p, a / m, s, ?_, Int.ediv_nonneg (by omega) (by omega), hs, hs2⟩
      simp [d_law_draw, b_law_draw, startE, hS, set_at hS, h2, h3, hm, hl, rngC]
    · have h3 : a = 0 := by omega
      subst h3
      have h4 : ¬ p < xs.length := by simpa using h1
      obtain ⟨s2, e2⟩ : ∃ s2, s2 = (s * 16807 + s / 127 * 39373 + (c + 1) * 2654435 + 12345) % 2147483647 := ⟨_, rfl⟩
      have q3 := md (s * 16807 + s / 127 * 39373 + (c + 1) * 2654435 + 12345)
      rw [← e2] at q3
      refine ⟨s2 / 97 + s2 % 7919 * 61, p, 0, s2, ?_, by omega, q3.1, q3.2⟩
      simp [d_law_draw, b_law_draw, startE, hS, set_at hS, h4, hm, hl, rngC, m1 s hs hs2, m2, l1, l2, m6, m5, ← e2]
theorem RngAt.mono {B B' r : Nat} {S : Store} (h : RngAt B r S) (hB : B ≤ B') : RngAt B' r S := by
  obtain ⟨xs, p, a, s, c, hS, ha, hs, hs2, hc, hc2⟩ := h
  exact ⟨xs, p, a, s, c, hS, ha, hs, hs2, hc, by omega⟩
theorem RngAt.lt {B r : Nat} {S : Store} (h : RngAt B r S) : r < S.length := by
  obtain ⟨xs, p, a, s, c, hS, _⟩ := h
  rcases Nat.lt_or_ge r S.length with z | z
  · exact z
  · rw [List.getElem?_eq_none z] at hS; cases hS
theorem Keep.refl (rs : List Nat) (S : Store) : Keep rs S S := ⟨Nat.le_refl _, fun _ _ _ => rfl⟩
theorem Keep.trans {rs : List Nat} {S S1 S2 : Store} (a : Keep rs S S1) (b : Keep rs S1 S2) : Keep rs S S2 :=
  ⟨Nat.le_trans a.len b.len, fun j hj hn => (b.get j (Nat.lt_of_lt_of_le hj a.len) hn).trans (a.get j hj hn)⟩
theorem Keep.more {rs rs' : List Nat} {S S1 : Store} (a : Keep rs S S1) (h : ∀ x ∈ rs, x ∈ rs') : Keep rs' S S1 :=
  ⟨a.len, fun j hj hn => a.get j hj fun m => hn (h j m)⟩
theorem Keep.at {rs : List Nat} {S S1 : Store} (a : Keep rs S S1) {j : Nat} {c : Cell} (h : S[j]? = some c) (hn : j ∉ rs) : S1[j]? = some c := by
  have hj : j < S.length := by
    rcases Nat.lt_or_ge j S.length with z | z
    · exact z
    · rw [List.getElem?_eq_none z] at h; cases h
  rw [a.get j hj hn, h]
theorem RngAt.keep {B r : Nat} {rs : List Nat} {S S1 : Store} (h : RngAt B r S) (k : Keep rs S S1) (hn : r ∉ rs) : RngAt B r S1 := by
  obtain ⟨xs, p, a, s, c, hS, z⟩ := h
  exact ⟨xs, p, a, s, c, k.at hS hn, z⟩
/-- the rng's start -/
theorem draws_ok [Has D f_law_draws d_law_draws] {n : Nat} {ns : List Int} (hl : ns.length ≤ 63) : ∃ S, callN D G wf (n + 1) f_law_draws [.frz (ns.map PV.int)] [] = .ok (.ref 0) S ∧ RngAt 0 0 S := by
  rw [call_eq rfl]
  have hcut : cut (ns.map PV.int) none (some 63) = ns.map PV.int := by
    unfold cut
    simp only [sIx, List.length_map]
    rw [if_neg (by decide)]
    have : min (63 : Int).toNat ns.length = ns.length := Nat.min_eq_right hl
    rw [this, List.drop_zero, Nat.sub_zero]
    exact List.take_of_length_le (by simp)
  have hsl : ∀ S : Store, opSl (.frz (ns.map PV.int)) none (some 63) S = .ok (.lst (ns.map PV.int)) S := fun S => by
    show bnd (.ok (ns.map PV.int) S) (fun xs S => R.ok (PV.lst (cut xs none (some 63))) S) = _
    rw [bnd_ok, hcut]
  have loop : ∀ (C : Cfg) (ks : List Int) (src : Src) (s : Int) (c : Option PV) (fr : Option PV), src.cell = none → 0 ≤ s → s < 2147483647 → ∃ (s' : Int) (c' : Option PV),
      forLoop (denS C l_law_draws_1) (.one 2) src (ks.map PV.int) [fr, some (.int s), c] [] = .ok (.nx [fr, some (.int s'), c']) [] ∧ 0 ≤ s' ∧ s' < 2147483647 := by
    intro C ks src s c fr hc h0 h1
    obtain ⟨e', S', h, s', c', z, he, hs⟩ := for_inv (tg := .one 2) (body := denS C l_law_draws_1) hc
      (fun xs env S => ∃ (s' : Int) (c' : Option PV), S = [] ∧ env = [fr, some (.int s'), c'] ∧ 0 ≤ s' ∧ s' < 2147483647 ∧ ∀ x ∈ xs, ∃ i, x = PV.int i)
      (fun x xs env S ⟨s', c', z, he, h2, h3, h4⟩ => by
        subst z; subst he
        obtain ⟨i, rfl⟩ := h4 x List.mem_cons_self
        have m1 : mulOk s' 69621 = true := mul_ok (by omega) (by omega)
        refine ⟨_, _, _, rfl, .inl ?_, (s' * 69621 + i % 2147483629 + 7) % 2147483647, some (.int i), rfl, rfl, Int.emod_nonneg _ (by decide), Int.emod_lt_of_pos _ (by decide), fun y hy => h4 y (List.mem_cons_of_mem _ hy)⟩
        simp [l_law_draws_1, m1])
      (ks.map PV.int) [fr, some (.int s), c] [] ⟨s, c, rfl, rfl, h0, h1, fun x hx => by
        obtain ⟨i, _, rfl⟩ := List.mem_map.mp hx
        exact ⟨i, rfl⟩⟩
    subst z; subst he
    exact ⟨s', c', h, hs.1, hs.2.1⟩
  obtain ⟨s', c', hL, h0, h1⟩ := loop ⟨callN D G wf n, G, wf⟩ ns ⟨ns.map PV.int, none⟩ 3821 none (some (.frz (ns.map PV.int))) rfl (by decide) (by decide)
  refine ⟨[rngC ns 0 0 s' 0], ?_, ns, 0, 0, s', 0, rfl, by omega, h0, h1, by omega, by omega⟩
  simp [d_law_draws, b_law_draws, startE, hsl, hL, rngC]
theorem pick_ok [Has D f_law_draw d_law_draw] [Has D f_law_pick d_law_pick] {n r B : Nat} {S : Store} {xs : List PV} (h : RngAt B r S) (hB : B ≤ 2 ^ 100) (h0 : xs ≠ []) (h1 : xs.length < 2 ^ 200) :
    ∃ x S', callN D G wf (n + 2) f_law_pick [.ref r, .lst xs] S = .ok x S' ∧ x ∈ xs ∧ Keep [r] S S' ∧ S'.length = S.length ∧ RngAt (B + 1) r S' := by
  have hp : 0 < xs.length := List.length_pos_iff.mpr h0
  obtain ⟨i, S', e, hi, hi2, k, l, g⟩ := draw_ok (D := D) (G := G) (wf := wf) (n := n) h hB (m := xs.length) (by omega) (by omega)
  obtain ⟨x, hat, hx⟩ := atI_in hi hi2
  refine ⟨x, S', ?_, hx, k, l, g⟩
  rw [call_eq rfl]
  simp [d_law_pick, b_law_pick, startE, e, hat]
end K
set_option Elab.async false
set_option linter.all false
set_option maxRecDepth 100000
namespace K
open Mi
variable {D : Nat → Option Def} {G : Nat → Option PV} {wf : Nat}
abbrev vEmp : PV := .tup [.str [101, 109, 112, 116, 121]]
abbrev vLet (s : List Nat) : PV := .tup [.str [108, 101, 116, 116, 101, 114], .str s]
abbrev vJoin (ts : List PV) : PV := .tup [.str [106, 111, 105, 110], .tup ts]
abbrev vTimes (t : PV) (n : Int) : PV := .tup [.str [116, 105, 109, 101, 115], t, .int n]
abbrev vRight (t : PV) : PV := .tup [.str [114, 105, 103, 104, 116], t]
abbrev vLeft (t : PV) : PV := .tup [.str [108, 101, 102, 116], t]
/-- a word of at most this depth, its letters of one kind -/
inductive Wt (L : List (List Nat)) : Nat → PV → Prop
  | emp (d : Nat) : Wt L d vEmp
  | letter (d : Nat) (s : List Nat) (h : s ∈ L) : Wt L d (vLet s)
  | join (d : Nat) (ts : List PV) (hl : ts.length ≤ 8) (h : ∀ t ∈ ts, Wt L d t) : Wt L (d + 1) (vJoin ts)
  | times (d : Nat) (t : PV) (n : Int) (h0 : 0 ≤ n) (h1 : n ≤ 1000000000000000000000000000000) (h : Wt L d t) : Wt L (d + 1) (vTimes t n)
  | right (d : Nat) (t : PV) (h : Wt L d t) : Wt L (d + 1) (vRight t)
  | left (d : Nat) (t : PV) (h : Wt L d t) : Wt L (d + 1) (vLeft t)
theorem Wt.up {L : List (List Nat)} {d : Nat} {t : PV} (h : Wt L d t) : Wt L (d + 1) t := by
  induction h with
  | emp d => exact .emp _
  | letter d s h => exact .letter _ _ h
  | join d ts hl h ih => exact .join _ _ hl ih
  | times d t n h0 h1 h ih => exact .times _ _ _ h0 h1 ih
  | right d t h ih => exact .right _ _ ih
  | left d t h ih => exact .left _ _ ih
theorem Wt.mono {L : List (List Nat)} {d d' : Nat} {t : PV} (h : Wt L d t) (hd : d ≤ d') : Wt L d' t := by
  induction hd with
  | refl => exact h
  | step _ ih => exact ih.up
abbrev abc : List (List Nat) := [[97], [98], [99]]
theorem great_ok [Has D f_law_draw d_law_draw] [Has D f_law_pick d_law_pick] [Has D f_law_great d_law_great] {n r B : Nat} {S : Store} (h : RngAt B r S) (hB : B ≤ 2 ^ 90) :
    ∃ g S', callN D G wf (n + 3) f_law_great [.ref r] S = .ok (.int g) S' ∧ 1000000000000000000 ≤ g ∧ g ≤ 1000000000000000000000000000000 ∧ Keep [r] S S' ∧ S'.length = S.length ∧ RngAt (B + 3) r S' := by
  obtain ⟨i, S1, e1, hi, hi2, k1, l1, g1⟩ := draw_ok (D := D) (G := G) (wf := wf) (n := n + 1) h (by omega) (m := 1000000000) (by omega) (by omega)
  obtain ⟨j, S2, e2, hj, hj2, k2, l2, g2⟩ := draw_ok (D := D) (G := G) (wf := wf) (n := n + 1) g1 (by omega) (m := 1000000000) (by omega) (by omega)
  obtain ⟨x, S3, e3, hx, k3, l3, g3⟩ := pick_ok (D := D) (G := G) (wf := wf) (n := n) (xs := [.int 1000000000000000000000000000000, .int (999999999999999999999999999999 - i), .int (1000000000000000000 + j)]) g2 (by omega) (by simp) (by simp)
  have : ∃ g : Int, x = .int g ∧ 1000000000000000000 ≤ g ∧ g ≤ 1000000000000000000000000000000 := by
    simp only [List.mem_cons, List.not_mem_nil, or_false] at hx
    rcases hx with rfl | rfl | rfl
    · exact ⟨_, rfl, by omega, by omega⟩
    · exact ⟨_, rfl, by omega, by omega⟩
    · exact ⟨_, rfl, by omega, by omega⟩
  obtain ⟨g, rfl, hg1, hg2⟩ := this
  refine ⟨g, S3, ?_, hg1, hg2, (k1.trans k2).trans k3, by omega, g3.mono (by omega)⟩
  rw [call_eq rfl]
  simp [d_law_great, b_law_great, startE, e1, e2, e3]
/-- what a drawn word may use up -/
def KitAt (c : Nat) (S : Store) : Prop := ∃ a b : Int, S[c]? = some (.lst [.int a, .int b])
def ndr (d : Nat) : Nat := 4 ^ (d + 1)
theorem ndr_s (d : Nat) : ndr (d + 1) = 4 * ndr d := by unfold ndr; rw [Nat.pow_succ]; omega
theorem ndr_pos (d : Nat) : 4 ≤ ndr d := by
  induction d with
  | zero => decide
  | succ d ih => rw [ndr_s]; omega
theorem keep_set {S : Store} {c : Nat} {o : Cell} (x : Cell) : Keep [c] S (S.set c x) :=
  ⟨by simp, fun j hj hn => by rw [List.getElem?_set_ne (by simpa using fun e => hn (by simp [e]))]⟩
theorem KitAt.keep {c : Nat} {rs : List Nat} {S S1 : Store} (h : KitAt c S) (k : Keep rs S S1) (hn : c ∉ rs) : KitAt c S1 := by
  obtain ⟨a, b, hS⟩ := h
  exact ⟨a, b, k.at hS hn⟩
theorem tree_ok [Has D f_law_draw d_law_draw] [Has D f_law_pick d_law_pick] [Has D f_law_tree d_law_tree] : ∀ (d : Nat) {n r c B : Nat} {S : Store}, d + 3 ≤ n → RngAt B r S → KitAt c S → r ≠ c → B + ndr d ≤ 2 ^ 90 →
    ∃ v S', callN D G wf n f_law_tree [.ref r, .ref c, .int d] S = .ok v S' ∧ Wt abc d v ∧ Keep [r, c] S S' ∧ RngAt (B + ndr d) r S' ∧ KitAt c S'
  | d, n, r, c, B, S, hn, hr, hc, hne, hB => by
    obtain ⟨m, rfl⟩ : ∃ m, n = m + 3 := ⟨n - 3, by omega⟩
    obtain ⟨a, b, hS⟩ := hc
    have hd4 := ndr_pos d
    by_cases ha : a < 1
    · refine ⟨vEmp, S, ?_, .emp _, .refl _ _, hr.mono (by omega), a, b, hS⟩
      rw [call_eq rfl]
      simp [d_law_tree, b_law_tree, startE, hS, ha]
    -- a letter
    have leaf : ∀ (S1 : Store), Keep [r] S S1 → RngAt (B + 1) r S1 → ∃ s S', callN D G wf (m + 2) f_law_pick [.ref r, .lst [.str [97], .str [98], .str [99]]] (S1.set c (.lst [.int (a - 1), .int b])) = .ok (.str s) S' ∧ S1[c]? = some (.lst [.int a, .int b]) ∧ Wt abc d (vLet s) ∧ Keep [r, c] S S' ∧ RngAt (B + ndr d) r S' ∧ KitAt c S' := by
      intro S1 k1 g1
      have hS1 := k1.at hS (by simpa using fun e => hne e.symm)
      have k2 : Keep [c] S1 (S1.set c (.lst [.int (a - 1), .int b])) := keep_set (o := .lst []) _
      have g2 := g1.keep k2 (by simpa using hne)
      obtain ⟨x, S3, e3, hx, k3, l3, g3⟩ := pick_ok (D := D) (G := G) (wf := wf) (n := m) (xs := [.str [97], .str [98], .str [99]]) g2 (by omega) (by simp) (by simp)
      obtain ⟨s, rfl, hs⟩ : ∃ s, x = .str s ∧ s ∈ abc := by
        simp only [List.mem_cons, List.not_mem_nil, or_false] at hx
        rcases hx with rfl | rfl | rfl
        · exact ⟨_, rfl, by simp⟩
        · exact ⟨_, rfl, by simp⟩
        · exact ⟨_, rfl, by simp⟩
      have kk : KitAt c (S1.set c (.lst [.int (a - 1), .int b])) := ⟨a - 1, b, set_at hS1 _⟩
      exact ⟨s, S3, e3, hS1, .letter _ _ hs, ((k1.more (by simp)).trans (k2.more (by simp))).trans (k3.more (by simp)), g3.mono (by omega), kk.keep k3 (by simpa using fun e => hne e.symm)⟩
    by_cases hd : 1 < d
    · obtain ⟨e, rfl⟩ : ∃ e, d = e + 1 := ⟨d - 1, by omega⟩
      have he4 := ndr_pos e
      have hes := ndr_s e
      have hd3 : (1 : Int) < (e : Int) + 1 := by omega
      obtain ⟨i, S1, e1, hi, hi2, k1, l1, g1⟩ := draw_ok (D := D) (G := G) (wf := wf) (n := m + 1) hr (by omega) (m := 9) (by omega) (by omega)
      have hS1 := k1.at hS (by simpa using fun e => hne e.symm)
      have kt1 : KitAt c S1 := ⟨a, b, hS1⟩
      have rec1 : ∀ {B' : Nat} {S' : Store}, RngAt B' r S' → KitAt c S' → B' + ndr e ≤ 2 ^ 90 → ∃ v S2, callN D G wf (m + 2) f_law_tree [.ref r, .ref c, .int e] S' = .ok v S2 ∧ Wt abc e v ∧ Keep [r, c] S' S2 ∧ RngAt (B' + ndr e) r S2 ∧ KitAt c S2 :=
        fun h1 h2 h3 => tree_ok e (by omega) h1 h2 hne h3
      have k1' : Keep [r, c] S S1 := k1.more (by simp)
      by_cases h3 : i < 3
      · obtain ⟨s, S', e3, hS1, w, k, g, kt⟩ := leaf S1 k1 g1
        refine ⟨vLet s, S', ?_, w, k, g, kt⟩
        rw [call_eq rfl]
        simp [d_law_tree, b_law_tree, startE, hS, ha, hd3, e1, h3, hS1, e3]
      by_cases h4 : i = 3
      · subst h4
        refine ⟨vEmp, S1, ?_, .emp _, k1', g1.mono (by omega), kt1⟩
        rw [call_eq rfl]
        simp [d_law_tree, b_law_tree, startE, hS, ha, hd3, e1]
      by_cases h5 : i < 6
      · obtain ⟨j, S2, e2, hj, hj2, k2, l2, g2⟩ := draw_ok (D := D) (G := G) (wf := wf) (n := m + 1) g1 (by omega) (m := 2) (by omega) (by omega)
        have kt2 : KitAt c S2 := kt1.keep k2 (by simpa using fun e => hne e.symm)
        have hlen : (rangeL 0 (2 + j)).length ≤ 3 := by unfold rangeL; simp; omega
        obtain ⟨ys, S3, e3, hI⟩ := lc_inv (tg := .one 4) (env := [some (.ref r), some (.ref c), some (.int (e + 1)), some (.int i), none]) (test := denT ⟨callN D G wf (m + 2), G, wf⟩ .nil) (elt := denE ⟨callN D G wf (m + 2), G, wf⟩ (.call f_law_tree (.cons (.var 0) (.cons (.var 1) (.cons (.bin .sub (.var 2) (.int 1)) .nil)))))
          (src := ⟨rangeL 0 (2 + j), none⟩) rfl (fun xs acc S' => acc.length + xs.length ≤ 3 ∧ (∀ t ∈ acc, Wt abc e t) ∧ Keep [r, c] S S' ∧ RngAt (B + 2 + ndr e * (3 - xs.length)) r S' ∧ KitAt c S')
          (fun x xs acc S' ⟨q1, q2, q3, q4, q5⟩ => by
            simp only [List.length_cons] at q1 q4
            have hx : 3 - xs.length = (3 - (xs.length + 1)) + 1 := by omega
            have hle : ndr e * (3 - (xs.length + 1)) ≤ ndr e * 2 := Nat.mul_le_mul_left _ (by omega)
            obtain ⟨v, S'', ev, w, k, g, kt⟩ := rec1 q4 q5 (by omega)
            refine ⟨_, v, S'', rfl, by simp, by simp [ev], by simp; omega, fun t ht => ?_, q3.trans k, ?_, kt⟩
            · rcases List.mem_append.mp ht with z | z
              · exact q2 t z
              · rw [List.mem_singleton.mp z]; exact w
            · rw [hx, Nat.mul_succ]
              exact g.mono (by omega))
          (rangeL 0 (2 + j)) [] S2 ⟨by simpa using hlen, by simp, k1'.trans (k2.more (by simp)), g2.mono (by omega), kt2⟩
        obtain ⟨q1, q2, q3, q4, q5⟩ := hI
        refine ⟨vJoin ys, S3, ?_, .join _ _ (by simp at q1; omega) q2, q3, q4.mono (by simp; omega), q5⟩
        rw [call_eq rfl]
        have s62 : small62 (2 + j) = true := small62_of (by omega) (by omega)
        have sl : (2 + j).toNat ≤ lineN := by unfold lineN; omega
        simp [d_law_tree, b_law_tree, startE, hS, ha, hd3, e1, h3, h4, h5, e2, s62, sl, e3]
      by_cases h6 : i = 6
      · subst h6
        obtain ⟨v, S2, ev, w, k, g, kt⟩ := rec1 g1 kt1 (by omega)
        obtain ⟨j, S3, e2, hj, hj2, k2, l2, g2⟩ := draw_ok (D := D) (G := G) (wf := wf) (n := m + 1) g (by omega) (m := 4) (by omega) (by omega)
        refine ⟨vTimes v j, S3, ?_, .times _ _ _ hj (by omega) w, (k1'.trans k).trans (k2.more (by simp)), g2.mono (by omega), kt.keep k2 (by simpa using fun e => hne e.symm)⟩
        rw [call_eq rfl]
        simp [d_law_tree, b_law_tree, startE, hS, ha, hd3, e1, ev, e2]
      have hi7 : i = 7 ∨ i = 8 := by omega
      by_cases hb : b < 1
      · obtain ⟨v, S2, ev, w, k, g, kt⟩ := rec1 g1 kt1 (by omega)
        refine ⟨v, S2, ?_, w.up, k1'.trans k, g.mono (by omega), kt⟩
        rw [call_eq rfl]
        simp [d_law_tree, b_law_tree, startE, hS, ha, hd3, e1, h3, h4, h5, h6, hS1, hb, ev]
      · have k2 : Keep [c] S1 (S1.set c (.lst [.int a, .int (b - 1)])) := keep_set (o := .lst []) _
        have g2 := g1.keep k2 (by simpa using hne)
        obtain ⟨v, S3, ev, w, k, g, kt⟩ := rec1 g2 ⟨a, b - 1, set_at hS1 _⟩ (by omega)
        rcases hi7 with rfl | rfl
        · refine ⟨vRight v, S3, ?_, .right _ _ w, (k1'.trans (k2.more (by simp))).trans k, g.mono (by omega), kt⟩
          rw [call_eq rfl]
          simp [d_law_tree, b_law_tree, startE, hS, ha, hd3, e1, hS1, hb, ev]
        · refine ⟨vLeft v, S3, ?_, .left _ _ w, (k1'.trans (k2.more (by simp))).trans k, g.mono (by omega), kt⟩
          rw [call_eq rfl]
          simp [d_law_tree, b_law_tree, startE, hS, ha, hd3, e1, hS1, hb, ev]
    · obtain ⟨i, S1, e1, hi, hi2, k1, l1, g1⟩ := draw_ok (D := D) (G := G) (wf := wf) (n := m + 1) hr (by omega) (m := 3) (by omega) (by omega)
      obtain ⟨s, S', e3, hS1, w, k, g, kt⟩ := leaf S1 k1 g1
      refine ⟨vLet s, S', ?_, w, k, g, kt⟩
      rw [call_eq rfl]
      have hd' : ¬ (1 : Int) < (d : Int) := by omega
      simp [d_law_tree, b_law_tree, startE, hS, ha, hd', e1, hi2, hS1, e3]
theorem KitAt.new (S : Store) (a b : Int) : KitAt S.length (S ++ [.lst [.int a, .int b]]) := ⟨a, b, by simp⟩
theorem keep_new (rs : List Nat) (S : Store) (c : Cell) : Keep rs S (S ++ [c]) := ⟨by simp, fun j hj _ => by rw [List.getElem?_append_left hj]⟩
/-- what stood before a new cell is kept -/
theorem Keep.drop {r : Nat} {S S1 S2 : Store} {l : Nat} (a : Keep [r] S S1) (b : Keep [r, l] S1 S2) (hl : S.length ≤ l) : Keep [r] S S2 :=
  ⟨Nat.le_trans a.len b.len, fun j hj hn => (b.get j (Nat.lt_of_lt_of_le hj a.len) (by simp only [List.mem_cons, List.not_mem_nil, or_false] at hn ⊢; omega)).trans (a.get j hj hn)⟩
theorem word_ok [Has D f_law_draw d_law_draw] [Has D f_law_pick d_law_pick] [Has D f_law_tree d_law_tree] [Has D f_law_word d_law_word] {n r B : Nat} {S : Store} (h : RngAt B r S) (hB : B ≤ 2 ^ 80) :
    ∃ v S', callN D G wf (n + 7) f_law_word [.ref r] S = .ok v S' ∧ Wt abc 4 v ∧ Keep [r] S S' ∧ RngAt (B + 600) r S' := by
  have n3 : ndr 3 = 256 := rfl
  have hlt := h.lt
  have k0 := keep_new [r] S (.lst [.int 3, .int 1])
  have h0 : RngAt B r (S ++ [.lst [.int 3, .int 1]]) := h.keep (keep_new [] S _) (by simp)
  obtain ⟨v, S1, e1, w1, k1, g1, t1⟩ := tree_ok (D := D) (G := G) (wf := wf) 3 (n := n + 6) (by omega) h0 (KitAt.new S 3 1) (by omega) (by omega)
  have k01 : Keep [r] S S1 := k0.drop k1 (Nat.le_refl _)
  obtain ⟨i, S2, e2, hi, hi2, k2, l2, g2⟩ := draw_ok (D := D) (G := G) (wf := wf) (n := n + 5) g1 (by omega) (m := 3) (by omega) (by omega)
  have k02 := k01.trans k2
  by_cases hi0 : i = 0
  · subst hi0
    refine ⟨v, S2, ?_, w1.up, k02, g2.mono (by omega)⟩
    rw [call_eq rfl]
    simp at e1
    simp [d_law_word, b_law_word, startE, e1, e2]
  · have hlt2 := g2.lt
    have k3 := keep_new [r] S2 (.lst [.int 3, .int 1])
    have h3 := g2.keep (keep_new [] S2 (.lst [.int 3, .int 1])) (by simp)
    obtain ⟨v2, S4, e4, w4, k4, g4, t4⟩ := tree_ok (D := D) (G := G) (wf := wf) 3 (n := n + 6) (by omega) h3 (KitAt.new S2 3 1) (by omega) (by omega)
    refine ⟨vJoin [v, v2], S4, ?_, .join _ _ (by simp) (by simp [w1, w4]), k02.trans (k3.drop k4 (Nat.le_refl _)), g4.mono (by omega)⟩
    rw [call_eq rfl]
    simp at e1 e4
    simp [d_law_word, b_law_word, startE, e1, e2, hi0, e4]
theorem wide_ok [Has D f_law_draw d_law_draw] [Has D f_law_pick d_law_pick] [Has D f_law_great d_law_great] [Has D f_law_tree d_law_tree] [Has D f_law_word d_law_word] [Has D f_law_wide d_law_wide] {n r B : Nat} {S : Store} (h : RngAt B r S) (hB : B ≤ 2 ^ 70) :
    ∃ v S', callN D G wf (n + 8) f_law_wide [.ref r] S = .ok v S' ∧ Wt abc 6 v ∧ Keep [r] S S' ∧ RngAt (B + 700) r S' := by
  obtain ⟨v, S1, e1, w1, k1, g1⟩ := word_ok (D := D) (G := G) (wf := wf) (n := n) h (by omega)
  obtain ⟨i, S2, e2, hi, hi2, k2, l2, g2⟩ := draw_ok (D := D) (G := G) (wf := wf) (n := n + 6) g1 (by omega) (m := 2) (by omega) (by omega)
  have step : ∃ v2 S3 B3, Wt abc 5 v2 ∧ Keep [r] S S3 ∧ RngAt B3 r S3 ∧ B3 ≤ B + 605 ∧ ((i = 0 ∧ ∃ g, callN D G wf (n + 7) f_law_great [.ref r] S2 = .ok (.int g) S3 ∧ v2 = vTimes v g) ∨ (i ≠ 0 ∧ S3 = S2 ∧ v2 = v)) := by
    by_cases hi0 : i = 0
    · obtain ⟨g, S3, e3, h1, h2, k3, l3, g3⟩ := great_ok (D := D) (G := G) (wf := wf) (n := n + 4) g2 (by omega)
      exact ⟨vTimes v g, S3, _, .times _ _ _ (by omega) h2 w1, (k1.trans k2).trans k3, g3, by omega, .inl ⟨hi0, g, e3, rfl⟩⟩
    · exact ⟨v, S2, _, w1.up, k1.trans k2, g2, by omega, .inr ⟨hi0, rfl, rfl⟩⟩
  obtain ⟨v2, S3, B3, w2, k3, g3, hB3, hs⟩ := step
  obtain ⟨j, S4, e4, hj, hj2, k4, l4, g4⟩ := draw_ok (D := D) (G := G) (wf := wf) (n := n + 6) g3 (by omega) (m := 3) (by omega) (by omega)
  by_cases hj0 : j = 0
  · subst hj0
    obtain ⟨g, S5, e5, h1, h2, k5, l5, g5⟩ := great_ok (D := D) (G := G) (wf := wf) (n := n + 4) g4 (by omega)
    refine ⟨vJoin [v2, vTimes (vLet [98]) g], S5, ?_, .join _ _ (by simp) ?_, (k3.trans k4).trans k5, g5.mono (by omega)⟩
    · rw [call_eq rfl]
      rcases hs with ⟨rfl, g', e3, rfl⟩ | ⟨hi0, rfl, rfl⟩
      · simp [d_law_wide, b_law_wide, startE, e1, e2, e3, e4, e5]
      · simp [d_law_wide, b_law_wide, startE, e1, e2, hi0, e4, e5]
    · intro t ht
      simp only [List.mem_cons, List.not_mem_nil, or_false] at ht
      rcases ht with rfl | rfl
      · exact w2
      · exact .times _ _ _ (by omega) h2 (.letter _ _ (by simp))
  · refine ⟨v2, S4, ?_, w2.up, k3.trans k4, g4.mono (by omega)⟩
    rw [call_eq rfl]
    rcases hs with ⟨rfl, g', e3, rfl⟩ | ⟨hi0, rfl, rfl⟩
    · simp [d_law_wide, b_law_wide, startE, e1, e2, e3, e4, hj0]
    · simp [d_law_wide, b_law_wide, startE, e1, e2, hi0, e4, hj0]
end K
set_option Elab.async false
set_option linter.all false
set_option maxRecDepth 100000
namespace K
open Mi
variable {D : Nat → Option Def} {G : Nat → Option PV} {wf : Nat}
section
variable [Has D f_parts_of d_parts_of] {n : Nat} {S : Store}
theorem po_emp : callN D G wf (n + 1) f_parts_of [vEmp] S = .ok (.lst []) S := by
  rw [call_eq rfl]; simp [d_parts_of, b_parts_of, startE]
theorem po_let (s : List Nat) : callN D G wf (n + 1) f_parts_of [vLet s] S = .ok (.lst []) S := by
  rw [call_eq rfl]; simp [d_parts_of, b_parts_of, startE]
theorem po_join (ts : List PV) : callN D G wf (n + 1) f_parts_of [vJoin ts] S = .ok (.lst ts) S := by
  rw [call_eq rfl]; simp [d_parts_of, b_parts_of, startE]
theorem po_times (t : PV) (k : Int) : callN D G wf (n + 1) f_parts_of [vTimes t k] S = .ok (.lst [t]) S := by
  rw [call_eq rfl]; simp [d_parts_of, b_parts_of, startE]
theorem po_right (t : PV) : callN D G wf (n + 1) f_parts_of [vRight t] S = .ok (.lst [t]) S := by
  rw [call_eq rfl]; simp [d_parts_of, b_parts_of, startE]
theorem po_left (t : PV) : callN D G wf (n + 1) f_parts_of [vLeft t] S = .ok (.lst [t]) S := by
  rw [call_eq rfl]; simp [d_parts_of, b_parts_of, startE]
end
section
variable [Has D f_law_parts d_law_parts] {n : Nat} {S : Store}
theorem lp_emp : callN D G wf (n + 1) f_law_parts [vEmp] S = .ok (.lst []) S := by
  rw [call_eq rfl]; simp [d_law_parts, b_law_parts, startE]
theorem lp_let (s : List Nat) : callN D G wf (n + 1) f_law_parts [vLet s] S = .ok (.lst []) S := by
  rw [call_eq rfl]; simp [d_law_parts, b_law_parts, startE]
theorem lp_join (ts : List PV) : callN D G wf (n + 1) f_law_parts [vJoin ts] S = .ok (.lst ts) S := by
  rw [call_eq rfl]; simp [d_law_parts, b_law_parts, startE]
theorem lp_times (t : PV) (k : Int) : callN D G wf (n + 1) f_law_parts [vTimes t k] S = .ok (.lst [t]) S := by
  rw [call_eq rfl]; simp [d_law_parts, b_law_parts, startE]
theorem lp_right (t : PV) : callN D G wf (n + 1) f_law_parts [vRight t] S = .ok (.lst [t]) S := by
  rw [call_eq rfl]; simp [d_law_parts, b_law_parts, startE]
theorem lp_left (t : PV) : callN D G wf (n + 1) f_law_parts [vLeft t] S = .ok (.lst [t]) S := by
  rw [call_eq rfl]; simp [d_law_parts, b_law_parts, startE]
end
/-- what the elements of a comprehension over a list give -/
theorem lc_call {C : Cfg} {f : Nat} {tg : Nat} {env : Env} {S : Store} {ts : List PV} {F : PV → PV} {src : Src} {elt : E} (hc : src.cell = none)
    (h : ∀ t ∈ ts, denE C elt (env.set tg (some t)) S = .ok (F t) S) : lcLoop (denT C .nil) (denE C elt) (.one tg) env src ts [] S = .ok (ts.map F) S := by
  have := lc_map (test := denT C .nil) (elt := denE C elt) (tg := .one tg) (env := env) hc (S := S) F ts [] fun x hx => ⟨_, rfl, by simp, h x hx⟩
  simpa using this
/-- the parts of a word, as the program and as the law read them -/
theorem Wt.parts [Has D f_parts_of d_parts_of] [Has D f_law_parts d_law_parts] {L : List (List Nat)} {d : Nat} {t : PV} (h : Wt L d t) : ∃ ts : List PV, ts.length ≤ 8 ∧ (∀ x ∈ ts, ∃ e, d = e + 1 ∧ Wt L e x) ∧
    ∀ n S, callN D G wf (n + 1) f_parts_of [t] S = .ok (.lst ts) S ∧ callN D G wf (n + 1) f_law_parts [t] S = .ok (.lst ts) S := by
  cases h with
  | emp d => exact ⟨[], by simp, by simp, fun n S => ⟨po_emp, lp_emp⟩⟩
  | letter d s h => exact ⟨[], by simp, by simp, fun n S => ⟨po_let s, lp_let s⟩⟩
  | join d ts hl h => exact ⟨ts, hl, fun x hx => ⟨d, rfl, h x hx⟩, fun n S => ⟨po_join ts, lp_join ts⟩⟩
  | times d t k h0 h1 h => exact ⟨[t], by simp, by simpa using h, fun n S => ⟨po_times t k, lp_times t k⟩⟩
  | right d t h => exact ⟨[t], by simp, by simpa using h, fun n S => ⟨po_right t, lp_right t⟩⟩
  | left d t h => exact ⟨[t], by simp, by simpa using h, fun n S => ⟨po_left t, lp_left t⟩⟩
theorem dep_ok [Has D f_parts_of d_parts_of] [Has D f_law_parts d_law_parts] [Has D f_depth d_depth] [Has D f_law_levels d_law_levels] {L : List (List Nat)} : ∀ {d : Nat} {t : PV}, Wt L d t → ∃ k : Int, ∀ (n : Nat) (S : Store), d + 3 ≤ n → callN D G wf n f_depth [t] S = .ok (.int k) S ∧ callN D G wf n f_law_levels [t] S = .ok (.int k) S
  | d, t, h => by
    obtain ⟨ts, hl, hx, hp⟩ := h.parts (D := D) (G := G) (wf := wf)
    have ih : ∀ x ∈ ts, ∃ k : Int, ∀ (n : Nat) (S : Store), d + 2 ≤ n → callN D G wf n f_depth [x] S = .ok (.int k) S ∧ callN D G wf n f_law_levels [x] S = .ok (.int k) S := fun x hm => by
      obtain ⟨e, rfl, he⟩ := hx x hm
      obtain ⟨k, hk⟩ := dep_ok he
      exact ⟨k, fun n S hn => hk n S (by omega)⟩
    obtain ⟨f, hf⟩ := choose_on ih
    refine ⟨1 + maxI (0 :: ts.map f), fun n S hn => ?_⟩
    obtain ⟨m, rfl⟩ : ∃ m, n = m + 2 := ⟨n - 2, by omega⟩
    have hi : intsP (.int 0 :: ts.map fun t => PV.int (f t)) = some (0 :: ts.map f) := by simp [intsP, ints_map f ts]
    have hle : 1 + ts.length ≤ lineN := by unfold lineN; omega
    constructor
    · rw [call_eq rfl]
      have hc : lcLoop (denT ⟨callN D G wf (m + 1), G, wf⟩ .nil) (denE ⟨callN D G wf (m + 1), G, wf⟩ (.call f_depth (.cons (.var 1) .nil))) (.one 1) [some t, none] ⟨ts, none⟩ ts [] S = .ok (ts.map fun t => .int (f t)) S :=
        lc_call (f := 0) rfl fun t ht => by simp [(hf t ht (m + 1) S (by omega)).1]
      simp [d_depth, b_depth, startE, (hp m S).1, hc, hi, hle]
    · rw [call_eq rfl]
      have hc : lcLoop (denT ⟨callN D G wf (m + 1), G, wf⟩ .nil) (denE ⟨callN D G wf (m + 1), G, wf⟩ (.call f_law_levels (.cons (.var 1) .nil))) (.one 1) [some t, none] ⟨ts, none⟩ ts [] S = .ok (ts.map fun t => .int (f t)) S :=
        lc_call (f := 0) rfl fun t ht => by simp [(hf t ht (m + 1) S (by omega)).2]
      simp [d_law_levels, b_law_levels, startE, (hp m S).2, hc, hi, hle]
theorem nod_ok [Has D f_parts_of d_parts_of] [Has D f_law_parts d_law_parts] [Has D f_node_count d_node_count] [Has D f_law_nodes d_law_nodes] {L : List (List Nat)} : ∀ {d : Nat} {t : PV}, Wt L d t → ∃ k : Int, ∀ (n : Nat) (S : Store), d + 3 ≤ n → callN D G wf n f_node_count [t] S = .ok (.int k) S ∧ callN D G wf n f_law_nodes [t] S = .ok (.int k) S
  | d, t, h => by
    obtain ⟨ts, hl, hx, hp⟩ := h.parts (D := D) (G := G) (wf := wf)
    have ih : ∀ x ∈ ts, ∃ k : Int, ∀ (n : Nat) (S : Store), d + 2 ≤ n → callN D G wf n f_node_count [x] S = .ok (.int k) S ∧ callN D G wf n f_law_nodes [x] S = .ok (.int k) S := fun x hm => by
      obtain ⟨e, rfl, he⟩ := hx x hm
      obtain ⟨k, hk⟩ := nod_ok he
      exact ⟨k, fun n S hn => hk n S (by omega)⟩
    obtain ⟨f, hf⟩ := choose_on ih
    refine ⟨1 + (ts.map f).sum, fun n S hn => ?_⟩
    obtain ⟨m, rfl⟩ : ∃ m, n = m + 2 := ⟨n - 2, by omega⟩
    have hi := ints_map f ts
    constructor
    · rw [call_eq rfl]
      have hc : lcLoop (denT ⟨callN D G wf (m + 1), G, wf⟩ .nil) (denE ⟨callN D G wf (m + 1), G, wf⟩ (.call f_node_count (.cons (.var 1) .nil))) (.one 1) [some t, none] ⟨ts, none⟩ ts [] S = .ok (ts.map fun t => .int (f t)) S :=
        lc_call (f := 0) rfl fun t ht => by simp [(hf t ht (m + 1) S (by omega)).1]
      simp [d_node_count, b_node_count, startE, (hp m S).1, hc, hi]
    · rw [call_eq rfl]
      have hc : lcLoop (denT ⟨callN D G wf (m + 1), G, wf⟩ .nil) (denE ⟨callN D G wf (m + 1), G, wf⟩ (.call f_law_nodes (.cons (.var 1) .nil))) (.one 1) [some t, none] ⟨ts, none⟩ ts [] S = .ok (ts.map fun t => .int (f t)) S :=
        lc_call (f := 0) rfl fun t ht => by simp [(hf t ht (m + 1) S (by omega)).2]
      simp [d_law_nodes, b_law_nodes, startE, (hp m S).2, hc, hi]
theorem sum_facts {f : PV → Int} {M : Int} : ∀ {ts : List PV}, (∀ t ∈ ts, 0 ≤ f t ∧ f t ≤ M) → 0 ≤ (ts.map f).sum ∧ (ts.map f).sum ≤ ts.length * M ∧ ((ts.map f).sum = 0 ↔ ∀ t ∈ ts, f t = 0)
  | [], _ => by simp
  | t :: ts, h => by
    obtain ⟨h1, h2, h3⟩ := sum_facts (ts := ts) fun x hx => h x (List.mem_cons_of_mem _ hx)
    obtain ⟨h4, h5⟩ := h t List.mem_cons_self
    have e : ((t :: ts).length : Int) * M = ts.length * M + M := by
      rw [List.length_cons]
      have : ((ts.length + 1 : Nat) : Int) = (ts.length : Int) + 1 := by omega
      rw [this, Int.add_mul]; omega
    rw [List.map_cons, List.sum_cons, e]
    refine ⟨by omega, by omega, ?_⟩
    constructor
    · intro z
      have z1 : f t = 0 := by omega
      have z2 : (ts.map f).sum = 0 := by omega
      intro x hx
      rcases List.mem_cons.mp hx with e | e
      · rw [e]; exact z1
      · exact h3.mp z2 x e
    · intro z
      have z1 := z t List.mem_cons_self
      have z2 := h3.mpr fun x hx => z x (List.mem_cons_of_mem _ hx)
      omega
theorem any_m1 {f : PV → Int} {ts : List PV} : ((ts.map fun t => PV.int (f t)).any fun y => eqP y (.int (-1))) = decide (∃ t ∈ ts, f t = -1) := by
  rw [Bool.eq_iff_iff]
  simp [List.any_eq_true]
theorem two_pow_le {a b : Nat} (h : a ≤ b) : (2 : Int) ^ a ≤ 2 ^ b := by
  have := Nat.pow_le_pow_right (n := 2) (by decide) h
  exact_mod_cast this
/-- bounds of a count -/
def cB (d : Nat) : Int := 2 ^ (110 * (d + 1))
theorem cB_s (d : Nat) : cB (d + 1) = cB d * 1298074214633706907132624082305024 := by
  unfold cB
  rw [show 110 * (d + 1 + 1) = 110 * (d + 1) + 110 by omega, Int.pow_add]
  rfl
theorem cB_pos (d : Nat) : 1 ≤ cB d := by
  induction d with
  | zero => decide
  | succ d ih => rw [cB_s]; omega
theorem mulC {c k : Int} {d : Nat} (hd : d ≤ 60) (h0 : 0 ≤ c) (h1 : c ≤ cB d) (k0 : 0 ≤ k) (k1 : k ≤ 1000000000000000000000000000000) : mulOk c k = true := by
  refine mul_ok2 (a := 110 * (d + 1) + 1) (b := 110) ?_ (by omega) (by omega) (by omega) (by omega)
  have : c.natAbs ≤ 2 ^ (110 * (d + 1)) := by
    have : ((c.natAbs : Nat) : Int) ≤ ((2 ^ (110 * (d + 1)) : Nat) : Int) := by
      rw [Int.natAbs_of_nonneg h0]
      unfold cB at h1
      exact_mod_cast h1
    omega
  rw [Nat.pow_succ]
  have := Nat.two_pow_pos (110 * (d + 1))
  omega
theorem mulB {c k : Int} {d : Nat} (h0 : 0 ≤ c) (h1 : c ≤ cB d) (k0 : 0 ≤ k) (k1 : k ≤ 1000000000000000000000000000000) : 0 ≤ c * k ∧ c * k ≤ cB (d + 1) := by
  refine ⟨Int.mul_nonneg h0 k0, ?_⟩
  rw [cB_s]
  exact Int.mul_le_mul h1 (by omega) k0 (by omega)
theorem cnt_ok [Has D f_parts_of d_parts_of] [Has D f_law_parts d_law_parts] [Has D f_law_count d_law_count] [Has D f_is_empty d_is_empty] {L Ls : List (List Nat)} (hLs : okPs 63 (Ls.map PV.str) = true) (hL : ∀ s ∈ L, okT s = true ∧ s ∈ Ls) :
    ∀ {d : Nat} {t : PV}, Wt L d t → d ≤ 60 → ∃ (c : Int) (e : Bool), -1 ≤ c ∧ c ≤ cB d ∧ (c = 0 ↔ e = true) ∧ ∀ (n : Nat) (S : Store), d + 3 ≤ n →
      callN D G wf n f_law_count [t, .lst (Ls.map PV.str)] S = .ok (.int c) S ∧ callN D G wf n f_is_empty [t] S = .ok (.bl e) S := by
  intro d t h
  induction h with
  | emp d =>
    intro hd
    have := cB_pos d
    refine ⟨0, true, by omega, by omega, by simp, fun n S hn => ?_⟩
    obtain ⟨m, rfl⟩ : ∃ m, n = m + 2 := ⟨n - 2, by omega⟩
    constructor
    · rw [call_eq rfl]; simp [d_law_count, b_law_count, startE, lp_emp, lcLoop, src_ok, intsP]
    · rw [call_eq rfl]; simp [d_is_empty, b_is_empty, startE, po_emp, lcLoop, src_ok, bools]
  | letter d s h =>
    intro hd
    have := cB_pos d
    refine ⟨1, false, by omega, by omega, by simp, fun n S hn => ?_⟩
    obtain ⟨m, rfl⟩ : ∃ m, n = m + 2 := ⟨n - 2, by omega⟩
    have h1 := hL s h
    have h2 : ((Ls.map PV.str).any fun y => eqP y (.str s)) = true := by
      rw [List.any_eq_true]
      exact ⟨.str s, List.mem_map_of_mem h1.2, by simp⟩
    constructor
    · rw [call_eq rfl]; simp [d_law_count, b_law_count, startE, h1, hLs, h2]
    · rw [call_eq rfl]; simp [d_is_empty, b_is_empty, startE, po_let, lcLoop, src_ok, bools]
  | join d ts hl h ih =>
    intro hd
    have ih' : ∀ x ∈ ts, ∃ p : Int × Bool, -1 ≤ p.1 ∧ p.1 ≤ cB d ∧ (p.1 = 0 ↔ p.2 = true) ∧ ∀ (n : Nat) (S : Store), d + 3 ≤ n → callN D G wf n f_law_count [x, .lst (Ls.map PV.str)] S = .ok (.int p.1) S ∧ callN D G wf n f_is_empty [x] S = .ok (.bl p.2) S := fun x hx => by
      obtain ⟨c, e, q⟩ := ih x hx (by omega)
      exact ⟨(c, e), q⟩
    obtain ⟨f, hf⟩ := choose_on ih'
    have run : ∀ (m : Nat) (S : Store), d + 2 ≤ m → lcLoop (denT ⟨callN D G wf (m + 1), G, wf⟩ .nil) (denE ⟨callN D G wf (m + 1), G, wf⟩ (.call f_law_count (.cons (.var 3) (.cons (.var 1) .nil)))) (.one 3) [some (vJoin ts), some (.lst (Ls.map PV.str)), none, none] ⟨ts, none⟩ ts [] S = .ok (ts.map fun t => .int (f t).1) S :=
      fun m S hm => lc_call (f := 0) rfl fun t ht => by simp [((hf t ht).2.2.2 (m + 1) S (by omega)).1]
    have run2 : ∀ (m : Nat) (S : Store), d + 2 ≤ m → lcLoop (denT ⟨callN D G wf (m + 1), G, wf⟩ .nil) (denE ⟨callN D G wf (m + 1), G, wf⟩ (.call f_is_empty (.cons (.var 1) .nil))) (.one 1) [some (vJoin ts), none] ⟨ts, none⟩ ts [] S = .ok (ts.map fun t => .bl (f t).2) S :=
      fun m S hm => lc_call (f := 0) rfl fun t ht => by simp [((hf t ht).2.2.2 (m + 1) S (by omega)).2]
    have emp : ∀ (n : Nat) (S : Store), d + 1 + 3 ≤ n → callN D G wf n f_is_empty [vJoin ts] S = .ok (.bl ((ts.map fun t => (f t).2).all id)) S := fun n S hn => by
      obtain ⟨m, rfl⟩ : ∃ m, n = m + 2 := ⟨n - 2, by omega⟩
      rw [call_eq rfl]
      have hi := bools_map (fun t => (f t).2) ts
      simp [d_is_empty, b_is_empty, startE, po_join, run2 m S (by omega), hi]
    have hin := any_m1 (f := fun t => (f t).1) (ts := ts)
    have hok : okPs 63 (ts.map fun t => PV.int (f t).1) = true := okPs_map _ _ (fun x => by simp) _
    by_cases hm : ∃ t ∈ ts, (f t).1 = -1
    · rw [decide_eq_true hm] at hin
      refine ⟨-1, _, by omega, by have := cB_pos (d + 1); omega, ?_, fun n S hn => ⟨?_, emp n S hn⟩⟩
      · obtain ⟨t, ht, he⟩ := hm
        have q := (hf t ht).2.2.1
        rw [he] at q
        constructor
        · intro z; omega
        · intro z
          rw [List.all_eq_true] at z
          have := z _ (List.mem_map_of_mem (f := fun t => (f t).2) ht)
          have := q.mpr this
          omega
      · obtain ⟨m, rfl⟩ : ∃ m, n = m + 2 := ⟨n - 2, by omega⟩
        rw [call_eq rfl]
        simp [d_law_count, b_law_count, startE, lp_join, run m S (by omega), hm, hok]
    · rw [decide_eq_false hm] at hin
      have hge : ∀ t ∈ ts, 0 ≤ (f t).1 ∧ (f t).1 ≤ cB d := fun t ht => by
        have q := hf t ht
        have : (f t).1 ≠ -1 := fun e => hm ⟨t, ht, e⟩
        exact ⟨by omega, q.2.1⟩
      obtain ⟨s1, s2, s3⟩ := sum_facts (f := fun t => (f t).1) hge
      refine ⟨(ts.map fun t => (f t).1).sum, _, by omega, ?_, ?_, fun n S hn => ⟨?_, emp n S hn⟩⟩
      · rw [cB_s]
        have : (ts.length : Int) * cB d ≤ 8 * cB d := Int.mul_le_mul_of_nonneg_right (by omega) (by have := cB_pos d; omega)
        have := cB_pos d
        omega
      · rw [s3, List.all_eq_true]
        constructor
        · intro z x hx
          obtain ⟨t, ht, rfl⟩ := List.mem_map.mp hx
          exact (hf t ht).2.2.1.mp (z t ht)
        · intro z t ht
          exact (hf t ht).2.2.1.mpr (z _ (List.mem_map_of_mem (f := fun t => (f t).2) ht))
      · obtain ⟨m, rfl⟩ : ∃ m, n = m + 2 := ⟨n - 2, by omega⟩
        rw [call_eq rfl]
        have hi := ints_map (fun t => (f t).1) ts
        simp [d_law_count, b_law_count, startE, lp_join, run m S (by omega), hm, hok, hi]
  | times d t k h0 h1 h ih =>
    intro hd
    obtain ⟨c, e, c1, c2, c3, c4⟩ := ih (by omega)
    have hp := cB_pos d
    have hs := cB_s d
    by_cases hk : k = 0
    · subst hk
      refine ⟨0, true, by omega, by omega, by simp, fun n S hn => ?_⟩
      obtain ⟨m, rfl⟩ : ∃ m, n = m + 2 := ⟨n - 2, by omega⟩
      constructor
      · rw [call_eq rfl]; simp [d_law_count, b_law_count, startE]
      · rw [call_eq rfl]; simp [d_is_empty, b_is_empty, startE]
    have emp : ∀ (n : Nat) (S : Store), d + 1 + 3 ≤ n → callN D G wf n f_is_empty [vTimes t k] S = .ok (.bl e) S := fun n S hn => by
      obtain ⟨m, rfl⟩ : ∃ m, n = m + 2 := ⟨n - 2, by omega⟩
      rw [call_eq rfl]
      have q := lc_call (C := ⟨callN D G wf (m + 1), G, wf⟩) (f := 0) (tg := 1) (env := [some (vTimes t k), none]) (S := S) (ts := [t]) (F := fun _ => .bl e) (src := ⟨[t], none⟩) (elt := .call f_is_empty (.cons (.var 1) .nil)) rfl (by simp [(c4 (m + 1) S (by omega)).2])
      simp at q
      simp [d_is_empty, b_is_empty, startE, po_times, hk, q, bools]
    have run : ∀ (m : Nat) (S : Store), d + 2 ≤ m → lcLoop (denT ⟨callN D G wf (m + 1), G, wf⟩ .nil) (denE ⟨callN D G wf (m + 1), G, wf⟩ (.call f_law_count (.cons (.var 3) (.cons (.var 1) .nil)))) (.one 3) [some (vTimes t k), some (.lst (Ls.map PV.str)), none, none] ⟨[t], none⟩ [t] [] S = .ok [.int c] S := fun m S hm => by
      have q := lc_call (C := ⟨callN D G wf (m + 1), G, wf⟩) (f := 0) (tg := 3) (env := [some (vTimes t k), some (.lst (Ls.map PV.str)), none, none]) (S := S) (ts := [t]) (F := fun _ => .int c) (src := ⟨[t], none⟩) (elt := .call f_law_count (.cons (.var 3) (.cons (.var 1) .nil))) rfl (by simp [(c4 (m + 1) S (by omega)).1])
      simpa using q
    by_cases hc : c = -1
    · subst hc
      refine ⟨-1, e, by omega, by omega, c3, fun n S hn => ⟨?_, emp n S hn⟩⟩
      obtain ⟨m, rfl⟩ : ∃ m, n = m + 2 := ⟨n - 2, by omega⟩
      rw [call_eq rfl]
      simp [d_law_count, b_law_count, startE, lp_times, hk, run m S (by omega)]
    · have hb := mulB (d := d) (c := c) (k := k) (by omega) c2 h0 h1
      have hmul := mulC (d := d) (c := c) (k := k) (by omega) (by omega) c2 h0 h1
      refine ⟨c * k, e, by omega, hb.2, ?_, fun n S hn => ⟨?_, emp n S hn⟩⟩
      · rw [← c3]
        constructor
        · intro z
          rcases Int.mul_eq_zero.mp z with z | z
          · exact z
          · exact absurd z hk
        · intro z; rw [z]; simp
      · obtain ⟨m, rfl⟩ : ∃ m, n = m + 2 := ⟨n - 2, by omega⟩
        rw [call_eq rfl]
        simp [d_law_count, b_law_count, startE, lp_times, hk, run m S (by omega), hc, hmul]
  | right d t h ih =>
    intro hd
    obtain ⟨c, e, c1, c2, c3, c4⟩ := ih (by omega)
    have hp := cB_pos d
    have hs := cB_s d
    have emp : ∀ (n : Nat) (S : Store), d + 1 + 3 ≤ n → callN D G wf n f_is_empty [vRight t] S = .ok (.bl e) S := fun n S hn => by
      obtain ⟨m, rfl⟩ : ∃ m, n = m + 2 := ⟨n - 2, by omega⟩
      rw [call_eq rfl]
      have q := lc_call (C := ⟨callN D G wf (m + 1), G, wf⟩) (f := 0) (tg := 1) (env := [some (vRight t), none]) (S := S) (ts := [t]) (F := fun _ => .bl e) (src := ⟨[t], none⟩) (elt := .call f_is_empty (.cons (.var 1) .nil)) rfl (by simp [(c4 (m + 1) S (by omega)).2])
      simp at q
      simp [d_is_empty, b_is_empty, startE, po_right, q, bools]
    have run : ∀ (m : Nat) (S : Store), d + 2 ≤ m → lcLoop (denT ⟨callN D G wf (m + 1), G, wf⟩ .nil) (denE ⟨callN D G wf (m + 1), G, wf⟩ (.call f_law_count (.cons (.var 3) (.cons (.var 1) .nil)))) (.one 3) [some (vRight t), some (.lst (Ls.map PV.str)), none, none] ⟨[t], none⟩ [t] [] S = .ok [.int c] S := fun m S hm => by
      have q := lc_call (C := ⟨callN D G wf (m + 1), G, wf⟩) (f := 0) (tg := 3) (env := [some (vRight t), some (.lst (Ls.map PV.str)), none, none]) (S := S) (ts := [t]) (F := fun _ => .int c) (src := ⟨[t], none⟩) (elt := .call f_law_count (.cons (.var 3) (.cons (.var 1) .nil))) rfl (by simp [(c4 (m + 1) S (by omega)).1])
      simpa using q
    by_cases hc : c = 0
    · subst hc
      refine ⟨0, e, by omega, by omega, c3, fun n S hn => ⟨?_, emp n S hn⟩⟩
      obtain ⟨m, rfl⟩ : ∃ m, n = m + 2 := ⟨n - 2, by omega⟩
      rw [call_eq rfl]
      simp [d_law_count, b_law_count, startE, lp_right, run m S (by omega)]
    · refine ⟨-1, e, by omega, by omega, ?_, fun n S hn => ⟨?_, emp n S hn⟩⟩
      · rw [← c3]
        constructor
        · intro z; omega
        · intro z; exact absurd z hc
      · obtain ⟨m, rfl⟩ : ∃ m, n = m + 2 := ⟨n - 2, by omega⟩
        rw [call_eq rfl]
        by_cases hc1 : c = -1
        · subst hc1
          simp [d_law_count, b_law_count, startE, lp_right, run m S (by omega)]
        · simp [d_law_count, b_law_count, startE, lp_right, run m S (by omega), hc, hc1]
  | left d t h ih =>
    intro hd
    obtain ⟨c, e, c1, c2, c3, c4⟩ := ih (by omega)
    have hp := cB_pos d
    have hs := cB_s d
    have emp : ∀ (n : Nat) (S : Store), d + 1 + 3 ≤ n → callN D G wf n f_is_empty [vLeft t] S = .ok (.bl e) S := fun n S hn => by
      obtain ⟨m, rfl⟩ : ∃ m, n = m + 2 := ⟨n - 2, by omega⟩
      rw [call_eq rfl]
      have q := lc_call (C := ⟨callN D G wf (m + 1), G, wf⟩) (f := 0) (tg := 1) (env := [some (vLeft t), none]) (S := S) (ts := [t]) (F := fun _ => .bl e) (src := ⟨[t], none⟩) (elt := .call f_is_empty (.cons (.var 1) .nil)) rfl (by simp [(c4 (m + 1) S (by omega)).2])
      simp at q
      simp [d_is_empty, b_is_empty, startE, po_left, q, bools]
    have run : ∀ (m : Nat) (S : Store), d + 2 ≤ m → lcLoop (denT ⟨callN D G wf (m + 1), G, wf⟩ .nil) (denE ⟨callN D G wf (m + 1), G, wf⟩ (.call f_law_count (.cons (.var 3) (.cons (.var 1) .nil)))) (.one 3) [some (vLeft t), some (.lst (Ls.map PV.str)), none, none] ⟨[t], none⟩ [t] [] S = .ok [.int c] S := fun m S hm => by
      have q := lc_call (C := ⟨callN D G wf (m + 1), G, wf⟩) (f := 0) (tg := 3) (env := [some (vLeft t), some (.lst (Ls.map PV.str)), none, none]) (S := S) (ts := [t]) (F := fun _ => .int c) (src := ⟨[t], none⟩) (elt := .call f_law_count (.cons (.var 3) (.cons (.var 1) .nil))) rfl (by simp [(c4 (m + 1) S (by omega)).1])
      simpa using q
    by_cases hc : c = 0
    · subst hc
      refine ⟨0, e, by omega, by omega, c3, fun n S hn => ⟨?_, emp n S hn⟩⟩
      obtain ⟨m, rfl⟩ : ∃ m, n = m + 2 := ⟨n - 2, by omega⟩
      rw [call_eq rfl]
      simp [d_law_count, b_law_count, startE, lp_left, run m S (by omega)]
    · refine ⟨-1, e, by omega, by omega, ?_, fun n S hn => ⟨?_, emp n S hn⟩⟩
      · rw [← c3]
        constructor
        · intro z; omega
        · intro z; exact absurd z hc
      · obtain ⟨m, rfl⟩ : ∃ m, n = m + 2 := ⟨n - 2, by omega⟩
        rw [call_eq rfl]
        by_cases hc1 : c = -1
        · subst hc1
          simp [d_law_count, b_law_count, startE, lp_left, run m S (by omega)]
        · simp [d_law_count, b_law_count, startE, lp_left, run m S (by omega), hc, hc1]
end K
set_option Elab.async false
set_option linter.all false
set_option maxRecDepth 100000
namespace K
open Mi
variable {D : Nat → Option Def} {G : Nat → Option PV} {wf : Nat}
section
variable [Has D f_law_same d_law_same] {n : Nat} {S : Store}
theorem same_bl (a b : Bool) : callN D G wf (n + 1) f_law_same [.bl a, .bl b] S = .ok (.bl (a == b)) S := by
  rw [call_eq rfl]; simp [d_law_same, b_law_same, startE]
theorem same_int (a b : Int) : callN D G wf (n + 1) f_law_same [.int a, .int b] S = .ok (.bl (decide (a = b))) S := by
  rw [call_eq rfl]; simp [d_law_same, b_law_same, startE]
theorem same_str (a b : List Nat) (h : (okT a && okT b) = true) : callN D G wf (n + 1) f_law_same [.str a, .str b] S = .ok (.bl (a == b)) S := by
  rw [call_eq rfl]
  have h1 : okT a = true := (Bool.and_eq_true_iff.mp h).1
  have h2 : okT b = true := (Bool.and_eq_true_iff.mp h).2
  simp [d_law_same, b_law_same, startE, h1, h2]
theorem same_lst {xs ys : List PV} (hl : xs.length = ys.length) (h : ∀ p ∈ zipL xs ys, ∃ a b, p = .tup [a, b] ∧ callN D G wf n f_law_same [a, b] S = .ok (.bl true) S) : callN D G wf (n + 1) f_law_same [.lst xs, .lst ys] S = .ok (.bl true) S := by
  rw [call_eq rfl]
  have q := lc_map (test := denT ⟨callN D G wf n, G, wf⟩ .nil) (elt := denE ⟨callN D G wf n, G, wf⟩ (.call f_law_same (.cons (.var 2) (.cons (.var 3) .nil)))) (tg := .two 2 3) (env := [some (.lst xs), some (.lst ys), none, none]) (src := ⟨zipL xs ys, none⟩) rfl (S := S) (fun _ => .bl true) (zipL xs ys) [] (fun x hx => by
    obtain ⟨a, b, rfl, e⟩ := h x hx
    exact ⟨_, rfl, by simp, by simp [e]⟩)
  have hb : bools ((zipL xs ys).map fun _ => PV.bl true) = some ((zipL xs ys).map fun _ => true) := bools_map (fun _ => true) _
  have ha : ∀ l : List PV, (l.map fun _ => true).all id = true := fun l => by simp
  rw [List.nil_append] at q
  simp [d_law_same, b_law_same, startE, hl, q, hb]
theorem same_ii (a b : Int) : callN D G wf (n + 2) f_law_same [.lst [.int a, .int b], .lst [.int a, .int b]] S = .ok (.bl true) S :=
  same_lst rfl fun p hp => by
    simp only [zipL, List.mem_cons, List.not_mem_nil, or_false] at hp
    rcases hp with rfl | rfl
    · exact ⟨_, _, rfl, by simp [same_int]⟩
    · exact ⟨_, _, rfl, by simp [same_int]⟩
end
end K
set_option Elab.async false
set_option linter.all false
set_option maxRecDepth 100000
namespace K
open Mi
variable {D : Nat → Option Def} {G : Nat → Option PV} {wf : Nat}
inductive T where
  | emp | ltr (s : List Nat) | join (ts : List T) | times (t : T) (n : Nat) | right (t : T) | left (t : T)
mutual
def T.pv : T → PV
  | .emp => vEmp
  | .ltr s => vLet s
  | .join ts => vJoin (T.pvs ts)
  | .times t n => vTimes t.pv n
  | .right t => vRight t.pv
  | .left t => vLeft t.pv
def T.pvs : List T → List PV
  | [] => []
  | t :: ts => t.pv :: T.pvs ts
end
theorem pvs_eq : ∀ ts : List T, T.pvs ts = ts.map T.pv
  | [] => by simp [T.pvs]
  | t :: ts => by simp [T.pvs, pvs_eq ts]
@[simp] theorem pv_emp : T.emp.pv = vEmp := by simp only [T.pv]
@[simp] theorem pv_ltr (s : List Nat) : (T.ltr s).pv = vLet s := by simp only [T.pv]
@[simp] theorem pv_join (ts : List T) : (T.join ts).pv = vJoin (ts.map T.pv) := by simp only [T.pv, pvs_eq]
@[simp] theorem pv_times (t : T) (n : Nat) : (T.times t n).pv = vTimes t.pv n := by simp only [T.pv]
@[simp] theorem pv_right (t : T) : (T.right t).pv = vRight t.pv := by simp only [T.pv]
@[simp] theorem pv_left (t : T) : (T.left t).pv = vLeft t.pv := by simp only [T.pv]
/-- a tree of at most this depth -/
inductive Ok (L : List (List Nat)) : Nat → T → Prop
  | emp (d : Nat) : Ok L d .emp
  | ltr (d : Nat) (s : List Nat) (h : s ∈ L) : Ok L d (.ltr s)
  | join (d : Nat) (ts : List T) (hl : ts.length ≤ 8) (h : ∀ t ∈ ts, Ok L d t) : Ok L (d + 1) (.join ts)
  | times (d : Nat) (t : T) (n : Nat) (h1 : n ≤ 1000000000000000000000000000000) (h : Ok L d t) : Ok L (d + 1) (.times t n)
  | right (d : Nat) (t : T) (h : Ok L d t) : Ok L (d + 1) (.right t)
  | left (d : Nat) (t : T) (h : Ok L d t) : Ok L (d + 1) (.left t)
instance : Inhabited T := ⟨.emp⟩
theorem Wt.tree {L : List (List Nat)} {d : Nat} {v : PV} (h : Wt L d v) : ∃ t : T, v = t.pv ∧ Ok L d t := by
  induction h with
  | emp d => exact ⟨.emp, by simp, .emp _⟩
  | letter d s h => exact ⟨.ltr s, by simp, .ltr _ _ h⟩
  | join d ts hl h ih =>
    obtain ⟨f, hf⟩ := choose_on ih
    refine ⟨.join (ts.map f), ?_, .join _ _ (by simpa using hl) fun t ht => ?_⟩
    · rw [pv_join, List.map_map]
      congr 3
      conv => lhs; rw [← List.map_id ts]
      exact List.map_congr_left fun x hx => (hf x hx).1
    · obtain ⟨x, hx, rfl⟩ := List.mem_map.mp ht
      exact (hf x hx).2
  | times d t n h0 h1 h ih =>
    obtain ⟨u, rfl, hu⟩ := ih
    refine ⟨.times u n.toNat, ?_, .times _ _ _ (by omega) hu⟩
    rw [pv_times]
    have : ((n.toNat : Nat) : Int) = n := by omega
    rw [this]
  | right d t h ih =>
    obtain ⟨u, rfl, hu⟩ := ih
    exact ⟨.right u, by simp, .right _ _ hu⟩
  | left d t h ih =>
    obtain ⟨u, rfl, hu⟩ := ih
    exact ⟨.left u, by simp, .left _ _ hu⟩
theorem Ok.up {L : List (List Nat)} {d : Nat} {t : T} (h : Ok L d t) : Ok L (d + 1) t := by
  induction h with
  | emp d => exact .emp _
  | ltr d s h => exact .ltr _ _ h
  | join d ts hl h ih => exact .join _ _ hl ih
  | times d t n h1 h ih => exact .times _ _ _ h1 ih
  | right d t h ih => exact .right _ _ ih
  | left d t h ih => exact .left _ _ ih
theorem Ok.mono {L : List (List Nat)} {d d' : Nat} {t : T} (h : Ok L d t) (hd : d ≤ d') : Ok L d' t := by
  induction hd with
  | refl => exact h
  | step _ ih => exact ih.up
theorem Ok.more {L L' : List (List Nat)} {d : Nat} {t : T} (h : Ok L d t) (hl : ∀ s ∈ L, s ∈ L') : Ok L' d t := by
  induction h with
  | emp d => exact .emp _
  | ltr d s h => exact .ltr _ _ (hl s h)
  | join d ts hl h ih => exact .join _ _ hl ih
  | times d t n h1 h ih => exact .times _ _ _ h1 ih
  | right d t h ih => exact .right _ _ ih
  | left d t h ih => exact .left _ _ ih
def oadd : Option Nat → Option Nat → Option Nat
  | some a, some b => some (a + b)
  | _, _ => none
def omul (c : Option Nat) (n : Nat) : Option Nat := c.map (· * n)
def oend (c : Option Nat) : Option Nat := if c = some 0 then some 0 else none
mutual
def T.cnt (Ls : List (List Nat)) : T → Option Nat
  | .emp => some 0
  | .ltr s => some (if s ∈ Ls then 1 else 0)
  | .join ts => T.cnts Ls ts
  | .times t n => if n = 0 then some 0 else omul (t.cnt Ls) n
  | .right t => oend (t.cnt Ls)
  | .left t => oend (t.cnt Ls)
def T.cnts (Ls : List (List Nat)) : List T → Option Nat
  | [] => some 0
  | t :: ts => oadd (t.cnt Ls) (T.cnts Ls ts)
end
section
variable (Ls : List (List Nat))
@[simp] theorem cnt_emp : T.emp.cnt Ls = some 0 := by simp only [T.cnt]
@[simp] theorem cnt_ltr (s : List Nat) : (T.ltr s).cnt Ls = some (if s ∈ Ls then 1 else 0) := by simp only [T.cnt]
@[simp] theorem cnt_join (ts : List T) : (T.join ts).cnt Ls = T.cnts Ls ts := by simp only [T.cnt]
@[simp] theorem cnt_times (t : T) (n : Nat) : (T.times t n).cnt Ls = if n = 0 then some 0 else omul (t.cnt Ls) n := by simp only [T.cnt]
@[simp] theorem cnt_right (t : T) : (T.right t).cnt Ls = oend (t.cnt Ls) := by simp only [T.cnt]
@[simp] theorem cnt_left (t : T) : (T.left t).cnt Ls = oend (t.cnt Ls) := by simp only [T.cnt]
@[simp] theorem cnts_nil : T.cnts Ls [] = some 0 := by simp only [T.cnts]
@[simp] theorem cnts_cons (t : T) (ts : List T) : T.cnts Ls (t :: ts) = oadd (t.cnt Ls) (T.cnts Ls ts) := by simp only [T.cnts]
end
def vT : Option Nat → PV
  | none => .non
  | some k => .int k
def vC : Option Nat → PV
  | none => .int (-1)
  | some k => .int k
@[simp] theorem vT_none : vT none = .non := rfl
@[simp] theorem vT_some (k : Nat) : vT (some k) = .int k := rfl
@[simp] theorem vC_none : vC none = .int (-1) := rfl
@[simp] theorem vC_some (k : Nat) : vC (some k) = .int k := rfl
@[simp] theorem eqP_nn : eqP .non .non = true := by unfold eqP; rfl
@[simp] theorem eqP_in (i : Int) : eqP (.int i) .non = false := by unfold eqP; rfl
theorem any_non {α : Type} (f : α → Option Nat) : ∀ l : List α, ((l.map fun x => vT (f x)).any fun y => eqP y .non) = decide (∃ x ∈ l, f x = none)
  | [] => by simp
  | x :: l => by
    rw [List.map_cons, List.any_cons, any_non f l]
    cases h : f x with
    | none => simp [h]
    | some k => simp [h]
theorem any_neg {α : Type} (f : α → Option Nat) : ∀ l : List α, ((l.map fun x => vC (f x)).any fun y => eqP y (.int (-1))) = decide (∃ x ∈ l, f x = none)
  | [] => by simp
  | x :: l => by
    rw [List.map_cons, List.any_cons, any_neg f l]
    cases h : f x with
    | none => simp [h]
    | some k =>
      have : ¬ ((k : Int) = -1) := by omega
      simp [h, this]
def tot {α : Type} (f : α → Option Nat) : List α → Option Nat
  | [] => some 0
  | x :: l => oadd (f x) (tot f l)
theorem tot_none {α : Type} (f : α → Option Nat) : ∀ l : List α, (∃ x ∈ l, f x = none) → tot f l = none
  | [], h => by simp at h
  | x :: l, h => by
    unfold tot
    cases hx : f x with
    | none => rfl
    | some k =>
      have : ∃ x ∈ l, f x = none := by
        obtain ⟨y, hy, e⟩ := h
        rcases List.mem_cons.mp hy with rfl | hy
        · rw [hx] at e; cases e
        · exact ⟨y, hy, e⟩
      rw [tot_none f l this]; rfl
theorem tot_some {α : Type} (f : α → Option Nat) : ∀ l : List α, ¬ (∃ x ∈ l, f x = none) → ∃ ns : List Int, ∃ k : Nat, tot f l = some k ∧ intsP (l.map fun x => vT (f x)) = some ns ∧ intsP (l.map fun x => vC (f x)) = some ns ∧ ns.sum = k
  | [], h => ⟨[], 0, rfl, rfl, rfl, rfl⟩
  | x :: l, h => by
    cases hx : f x with
    | none => exact absurd ⟨x, List.mem_cons_self, hx⟩ h
    | some k =>
      obtain ⟨ns, m, e1, e2, e3, e4⟩ := tot_some f l fun ⟨y, hy, e⟩ => h ⟨y, List.mem_cons_of_mem _ hy, e⟩
      refine ⟨k :: ns, k + m, by unfold tot; rw [hx, e1]; rfl, by simp [intsP, hx, e2], by simp [intsP, hx, e3], ?_⟩
      rw [List.sum_cons, e4]; omega
theorem cnts_tot (Ls : List (List Nat)) : ∀ ts : List T, T.cnts Ls ts = tot (T.cnt Ls) ts
  | [] => by simp [tot]
  | t :: ts => by simp [tot, cnts_tot Ls ts]
/-- bounds -/
def cN (d : Nat) : Nat := 2 ^ (110 * (d + 1))
theorem cN_s (d : Nat) : cN (d + 1) = cN d * 1298074214633706907132624082305024 := by
  unfold cN
  rw [show 110 * (d + 1 + 1) = 110 * (d + 1) + 110 by omega, Nat.pow_add]
theorem cN_pos (d : Nat) : 1 ≤ cN d := Nat.two_pow_pos _
theorem tot_le {α : Type} (f : α → Option Nat) (M : Nat) : ∀ (l : List α) (k : Nat), (∀ x ∈ l, ∀ c, f x = some c → c ≤ M) → tot f l = some k → k ≤ l.length * M
  | [], k, _, h => by cases h; simp
  | x :: l, k, hb, h => by
    unfold tot at h
    cases hx : f x with
    | none => rw [hx] at h; cases h
    | some c =>
      cases hr : tot f l with
      | none => rw [hx, hr] at h; cases h
      | some m =>
        rw [hx, hr] at h
        have h : c + m = k := Option.some.inj h
        have h1 := hb x List.mem_cons_self c hx
        have h2 := tot_le f M l m (fun y hy => hb y (List.mem_cons_of_mem _ hy)) hr
        rw [List.length_cons, Nat.add_mul]
        omega
theorem cnt_le {L : List (List Nat)} (Ls : List (List Nat)) {d : Nat} {t : T} (h : Ok L d t) : ∀ c, t.cnt Ls = some c → c ≤ cN d := by
  induction h with
  | emp d => intro c hc; simp at hc; have := cN_pos d; omega
  | ltr d s h =>
    intro c hc
    have := cN_pos d
    simp at hc
    split at hc <;> omega
  | join d ts hl h ih =>
    intro c hc
    rw [cnt_join, cnts_tot] at hc
    have := tot_le (T.cnt Ls) (cN d) ts c ih hc
    rw [cN_s]
    have h2 : ts.length * cN d ≤ 8 * cN d := Nat.mul_le_mul_right _ hl
    omega
  | times d t n h1 h ih =>
    intro c hc
    rw [cnt_times] at hc
    have := cN_pos (d + 1)
    split at hc
    · cases hc; omega
    · cases q : t.cnt Ls with
      | none => rw [q] at hc; cases hc
      | some k =>
        rw [q] at hc
        have hc : k * n = c := Option.some.inj hc
        have := ih k q
        rw [← hc, cN_s]
        exact Nat.mul_le_mul this (by omega)
  | right d t h ih =>
    intro c hc
    have := cN_pos (d + 1)
    rw [cnt_right] at hc
    unfold oend at hc
    split at hc
    · cases hc; omega
    · cases hc
  | left d t h ih =>
    intro c hc
    have := cN_pos (d + 1)
    rw [cnt_left] at hc
    unfold oend at hc
    split at hc
    · cases hc; omega
    · cases hc
theorem mulN {c n : Nat} {d : Nat} (hd : d ≤ 60) (h1 : c ≤ cN d) (k1 : n ≤ 1000000000000000000000000000000) : mulOk (c : Int) (n : Int) = true := by
  refine mul_ok2 (a := 110 * (d + 1) + 1) (b := 110) ?_ (by omega) (by omega) (by omega) (by omega)
  rw [Int.natAbs_natCast, Nat.pow_succ]
  unfold cN at h1
  have := Nat.two_pow_pos (110 * (d + 1))
  omega
theorem lc_one {test : Env → M Bool} {elt : Env → M PV} {tg : Tg} {env e1 : Env} {src : Src} (hc : src.cell = none) {S S' : Store} {x y : PV} {xs acc : List PV} (hb : bindT tg x env = some e1) (ht : test e1 S = .ok true S) (hr : elt e1 S = .ok y S') :
    lcLoop test elt tg env src (x :: xs) acc S = lcLoop test elt tg env src xs (acc ++ [y]) S' := by
  conv => lhs; unfold lcLoop
  simp only [src_ok hc, if_true, hb]
  have n1 : noX (test e1) S = .ok true S := by unfold noX; rw [ht]
  have n2 : noX (elt e1) S = .ok y S' := by unfold noX; rw [hr]
  show bnd (noX (test e1) S) _ = _
  rw [n1]
  show bnd (noX (elt e1) S) _ = _
  rw [n2]
  rfl
theorem lc_skip {test : Env → M Bool} {elt : Env → M PV} {tg : Tg} {env e1 : Env} {src : Src} (hc : src.cell = none) {S : Store} {x : PV} {xs acc : List PV} (hb : bindT tg x env = some e1) (ht : test e1 S = .ok false S) :
    lcLoop test elt tg env src (x :: xs) acc S = lcLoop test elt tg env src xs acc S := by
  conv => lhs; unfold lcLoop
  simp only [src_ok hc, if_true, hb]
  have n1 : noX (test e1) S = .ok false S := by unfold noX; rw [ht]
  show bnd (noX (test e1) S) _ = _
  rw [n1]
  rfl
theorem lc_end {test : Env → M Bool} {elt : Env → M PV} {tg : Tg} {env : Env} {src : Src} (hc : src.cell = none) {S : Store} {acc : List PV} : lcLoop test elt tg env src [] acc S = .ok acc S := by simp [lcLoop, src_ok hc]
theorem lc_mapA {α : Type} {test : Env → M Bool} {elt : Env → M PV} {tg : Tg} {env : Env} {src : Src} (hc : src.cell = none) {S : Store} (pv F : α → PV) :
    ∀ (xs : List α) (acc : List PV), (∀ x ∈ xs, ∃ e1, bindT tg (pv x) env = some e1 ∧ test e1 S = .ok true S ∧ elt e1 S = .ok (F x) S) → lcLoop test elt tg env src (xs.map pv) acc S = .ok (acc ++ xs.map F) S
  | [], acc, h => by simp [lcLoop, src_ok hc]
  | x :: xs, acc, h => by
    obtain ⟨e1, hb, ht, hr⟩ := h x List.mem_cons_self
    have he := lc_mapA hc pv F xs (acc ++ [F x]) fun y hy => h y (List.mem_cons_of_mem _ hy)
    rw [List.map_cons]
    unfold lcLoop
    simp only [src_ok hc, if_true, hb]
    have n1 : noX (test e1) S = .ok true S := by unfold noX; rw [ht]
    have n2 : noX (elt e1) S = .ok (F x) S := by unfold noX; rw [hr]
    show bnd (noX (test e1) S) _ = _
    rw [n1]
    show bnd (noX (elt e1) S) _ = _
    rw [n2]
    show lcLoop test elt tg env src (xs.map pv) (acc ++ [F x]) S = _
    rw [he]
    simp
/-- a comprehension over the parts of a tree -/
theorem lc_callA {α : Type} {C : Cfg} {tg : Nat} {env : Env} {S : Store} {ts : List α} {pv F : α → PV} {src : Src} {elt : E} (hc : src.cell = none)
    (h : ∀ t ∈ ts, denE C elt (env.set tg (some (pv t))) S = .ok (F t) S) (acc : List PV) : lcLoop (denT C .nil) (denE C elt) (.one tg) env src (ts.map pv) acc S = .ok (acc ++ ts.map F) S :=
  lc_mapA hc pv F ts acc fun x hx => ⟨_, rfl, by simp, h x hx⟩
theorem okPs_vT {α : Type} (f : α → Option Nat) (d : Nat) (l : List α) : okPs d (l.map fun x => vT (f x)) = true := okPs_map _ _ (fun x => by cases f x <;> simp) _
theorem okPs_vC {α : Type} (f : α → Option Nat) (d : Nat) (l : List α) : okPs d (l.map fun x => vC (f x)) = true := okPs_map _ _ (fun x => by cases f x <;> simp) _
theorem lcnt_ok [Has D f_parts_of d_parts_of] [Has D f_letter_count d_letter_count] {L : List (List Nat)} {l : List Nat} (hl : okT l = true) (hL : ∀ s ∈ L, okT s = true) {d : Nat} {t : T} (h : Ok L d t) :
    d ≤ 60 → ∀ (n : Nat) (S : Store), d + 3 ≤ n → callN D G wf n f_letter_count [t.pv, .str l] S = .ok (vT (t.cnt [l])) S := by
  induction h with
  | emp d =>
    intro hd n S hn
    obtain ⟨m, rfl⟩ : ∃ m, n = m + 2 := ⟨n - 2, by omega⟩
    rw [call_eq rfl]; simp [d_letter_count, b_letter_count, startE, po_emp, lcLoop, src_ok, intsP]
  | ltr d s h =>
    intro hd n S hn
    obtain ⟨m, rfl⟩ : ∃ m, n = m + 2 := ⟨n - 2, by omega⟩
    have h1 := hL s h
    rw [call_eq rfl]
    by_cases e : s = l
    · simp [d_letter_count, b_letter_count, startE, h1, hl, e]
    · simp [d_letter_count, b_letter_count, startE, h1, hl, e]
  | join d ts hlen h ih =>
    intro hd n S hn
    obtain ⟨m, rfl⟩ : ∃ m, n = m + 2 := ⟨n - 2, by omega⟩
    have run := lc_callA (C := ⟨callN D G wf (m + 1), G, wf⟩) (tg := 4) (env := [some (vJoin (ts.map T.pv)), some (.str l), some (.str [106, 111, 105, 110]), none, none]) (S := S) (ts := ts) (pv := T.pv) (F := fun t => vT (t.cnt [l])) (src := ⟨ts.map T.pv, none⟩) (elt := .call f_letter_count (.cons (.var 4) (.cons (.var 1) .nil))) rfl
      (fun t ht => by simp [ih t ht (by omega) (m + 1) S (by omega)]) []
    rw [List.nil_append] at run
    have hin := any_non (fun t : T => t.cnt [l]) ts
    have hok := okPs_vT (fun t : T => t.cnt [l]) 63 ts
    rw [call_eq rfl, pv_join, cnt_join, cnts_tot]
    obtain ⟨xs, hxs⟩ : ∃ xs, xs = ts.map fun t => vT (t.cnt [l]) := ⟨_, rfl⟩
    rw [← hxs] at run hin hok
    by_cases hm : ∃ t ∈ ts, t.cnt [l] = none
    · rw [decide_eq_true hm] at hin
      rw [tot_none _ _ hm]
      simp [d_letter_count, b_letter_count, startE, po_join, run, hok, hin]
    · rw [decide_eq_false hm] at hin
      obtain ⟨ns, k, e1, e2, _, e4⟩ := tot_some _ _ hm
      rw [e1]
      rw [← hxs] at e2
      simp [d_letter_count, b_letter_count, startE, po_join, run, hok, hin, e2, e4]
  | times d t k h1 h ih =>
    intro hd n S hn
    obtain ⟨m, rfl⟩ : ∃ m, n = m + 2 := ⟨n - 2, by omega⟩
    rw [call_eq rfl, pv_times, cnt_times]
    by_cases hk : k = 0
    · subst hk
      simp [d_letter_count, b_letter_count, startE]
    · have run := lc_callA (C := ⟨callN D G wf (m + 1), G, wf⟩) (tg := 4) (env := [some (vTimes t.pv k), some (.str l), some (.str [116, 105, 109, 101, 115]), none, none]) (S := S) (ts := [t]) (pv := T.pv) (F := fun t => vT (t.cnt [l])) (src := ⟨[t.pv], none⟩) (elt := .call f_letter_count (.cons (.var 4) (.cons (.var 1) .nil))) rfl
        (fun t' ht => by rw [List.mem_singleton.mp ht]; simp [ih (by omega) (m + 1) S (by omega)]) []
      simp only [List.map_cons, List.map_nil, List.nil_append] at run
      rw [if_neg hk]
      cases q : t.cnt [l] with
      | none =>
        rw [q] at run
        simp [d_letter_count, b_letter_count, startE, po_times, hk, run, omul]
      | some c =>
        rw [q] at run
        have := mulN (n := k) (by omega) (cnt_le _ h c q) h1
        simp [d_letter_count, b_letter_count, startE, po_times, hk, run, omul, this]
  | right d t h ih =>
    intro hd n S hn
    obtain ⟨m, rfl⟩ : ∃ m, n = m + 2 := ⟨n - 2, by omega⟩
    rw [call_eq rfl, pv_right, cnt_right]
    have run := lc_callA (C := ⟨callN D G wf (m + 1), G, wf⟩) (tg := 4) (env := [some (vRight t.pv), some (.str l), some (.str [114, 105, 103, 104, 116]), none, none]) (S := S) (ts := [t]) (pv := T.pv) (F := fun t => vT (t.cnt [l])) (src := ⟨[t.pv], none⟩) (elt := .call f_letter_count (.cons (.var 4) (.cons (.var 1) .nil))) rfl
      (fun t' ht => by rw [List.mem_singleton.mp ht]; simp [ih (by omega) (m + 1) S (by omega)]) []
    simp only [List.map_cons, List.map_nil, List.nil_append] at run
    cases q : t.cnt [l] with
    | none =>
      rw [q] at run
      simp [d_letter_count, b_letter_count, startE, po_right, run, oend]
    | some c =>
      rw [q] at run
      by_cases hc : c = 0
      · subst hc
        simp at run
        simp [d_letter_count, b_letter_count, startE, po_right, run, oend]
      · simp [d_letter_count, b_letter_count, startE, po_right, run, oend, hc]
  | left d t h ih =>
    intro hd n S hn
    obtain ⟨m, rfl⟩ : ∃ m, n = m + 2 := ⟨n - 2, by omega⟩
    rw [call_eq rfl, pv_left, cnt_left]
    have run := lc_callA (C := ⟨callN D G wf (m + 1), G, wf⟩) (tg := 4) (env := [some (vLeft t.pv), some (.str l), some (.str [108, 101, 102, 116]), none, none]) (S := S) (ts := [t]) (pv := T.pv) (F := fun t => vT (t.cnt [l])) (src := ⟨[t.pv], none⟩) (elt := .call f_letter_count (.cons (.var 4) (.cons (.var 1) .nil))) rfl
      (fun t' ht => by rw [List.mem_singleton.mp ht]; simp [ih (by omega) (m + 1) S (by omega)]) []
    simp only [List.map_cons, List.map_nil, List.nil_append] at run
    cases q : t.cnt [l] with
    | none =>
      rw [q] at run
      simp [d_letter_count, b_letter_count, startE, po_left, run, oend]
    | some c =>
      rw [q] at run
      by_cases hc : c = 0
      · subst hc
        simp at run
        simp [d_letter_count, b_letter_count, startE, po_left, run, oend]
      · simp [d_letter_count, b_letter_count, startE, po_left, run, oend, hc]
theorem mem_any {Ls : List (List Nat)} {s : List Nat} : ((Ls.map PV.str).any fun y => eqP y (.str s)) = decide (s ∈ Ls) := by
  rw [Bool.eq_iff_iff]
  simp only [List.any_eq_true, List.mem_map, decide_eq_true_eq]
  constructor
  · rintro ⟨_, ⟨a, ha, rfl⟩, e⟩
    have : a = s := by simpa using e
    exact this ▸ ha
  · intro h
    exact ⟨.str s, ⟨s, h, rfl⟩, by simp⟩
theorem count_ok [Has D f_law_parts d_law_parts] [Has D f_law_count d_law_count] {L Ls : List (List Nat)} (hLs : okPs 63 (Ls.map PV.str) = true) (hL : ∀ s ∈ L, okT s = true) {d : Nat} {t : T} (h : Ok L d t) :
    d ≤ 60 → ∀ (n : Nat) (S : Store), d + 3 ≤ n → callN D G wf n f_law_count [t.pv, .lst (Ls.map PV.str)] S = .ok (vC (t.cnt Ls)) S := by
  induction h with
  | emp d =>
    intro hd n S hn
    obtain ⟨m, rfl⟩ : ∃ m, n = m + 2 := ⟨n - 2, by omega⟩
    rw [call_eq rfl]; simp [d_law_count, b_law_count, startE, lp_emp, lcLoop, src_ok, intsP]
  | ltr d s h =>
    intro hd n S hn
    obtain ⟨m, rfl⟩ : ∃ m, n = m + 2 := ⟨n - 2, by omega⟩
    have h1 := hL s h
    have h2 := mem_any (Ls := Ls) (s := s)
    rw [call_eq rfl]
    by_cases e : s ∈ Ls
    · rw [decide_eq_true e] at h2
      simp [d_law_count, b_law_count, startE, h1, hLs, e, h2]
    · rw [decide_eq_false e] at h2
      simp [d_law_count, b_law_count, startE, h1, hLs, e, h2]
  | join d ts hlen h ih =>
    intro hd n S hn
    obtain ⟨m, rfl⟩ : ∃ m, n = m + 2 := ⟨n - 2, by omega⟩
    have run := lc_callA (C := ⟨callN D G wf (m + 1), G, wf⟩) (tg := 3) (env := [some (vJoin (ts.map T.pv)), some (.lst (Ls.map PV.str)), none, none]) (S := S) (ts := ts) (pv := T.pv) (F := fun t => vC (t.cnt Ls)) (src := ⟨ts.map T.pv, none⟩) (elt := .call f_law_count (.cons (.var 3) (.cons (.var 1) .nil))) rfl
      (fun t ht => by simp [ih t ht (by omega) (m + 1) S (by omega)]) []
    rw [List.nil_append] at run
    have hin := any_neg (fun t : T => t.cnt Ls) ts
    have hok := okPs_vC (fun t : T => t.cnt Ls) 63 ts
    rw [call_eq rfl, pv_join, cnt_join, cnts_tot]
    obtain ⟨xs, hxs⟩ : ∃ xs, xs = ts.map fun t => vC (t.cnt Ls) := ⟨_, rfl⟩
    rw [← hxs] at run hin hok
    by_cases hm : ∃ t ∈ ts, t.cnt Ls = none
    · rw [decide_eq_true hm] at hin
      rw [tot_none _ _ hm]
      simp [d_law_count, b_law_count, startE, lp_join, run, hok, hin]
    · rw [decide_eq_false hm] at hin
      obtain ⟨ns, k, e1, _, e2, e4⟩ := tot_some _ _ hm
      rw [e1]
      rw [← hxs] at e2
      simp [d_law_count, b_law_count, startE, lp_join, run, hok, hin, e2, e4]
  | times d t k h1 h ih =>
    intro hd n S hn
    obtain ⟨m, rfl⟩ : ∃ m, n = m + 2 := ⟨n - 2, by omega⟩
    rw [call_eq rfl, pv_times, cnt_times]
    by_cases hk : k = 0
    · subst hk
      simp [d_law_count, b_law_count, startE]
    · have run := lc_callA (C := ⟨callN D G wf (m + 1), G, wf⟩) (tg := 3) (env := [some (vTimes t.pv k), some (.lst (Ls.map PV.str)), none, none]) (S := S) (ts := [t]) (pv := T.pv) (F := fun t => vC (t.cnt Ls)) (src := ⟨[t.pv], none⟩) (elt := .call f_law_count (.cons (.var 3) (.cons (.var 1) .nil))) rfl
        (fun t' ht => by rw [List.mem_singleton.mp ht]; simp [ih (by omega) (m + 1) S (by omega)]) []
      simp only [List.map_cons, List.map_nil, List.nil_append] at run
      rw [if_neg hk]
      cases q : t.cnt Ls with
      | none =>
        rw [q] at run
        simp at run
        simp [d_law_count, b_law_count, startE, lp_times, hk, run, omul]
      | some c =>
        rw [q] at run
        simp at run
        have := mulN (n := k) (by omega) (cnt_le _ h c q) h1
        have h3 : ¬ ((c : Int) = -1) := by omega
        simp [d_law_count, b_law_count, startE, lp_times, hk, run, omul, this, h3]
  | right d t h ih =>
    intro hd n S hn
    obtain ⟨m, rfl⟩ : ∃ m, n = m + 2 := ⟨n - 2, by omega⟩
    rw [call_eq rfl, pv_right, cnt_right]
    have run := lc_callA (C := ⟨callN D G wf (m + 1), G, wf⟩) (tg := 3) (env := [some (vRight t.pv), some (.lst (Ls.map PV.str)), none, none]) (S := S) (ts := [t]) (pv := T.pv) (F := fun t => vC (t.cnt Ls)) (src := ⟨[t.pv], none⟩) (elt := .call f_law_count (.cons (.var 3) (.cons (.var 1) .nil))) rfl
      (fun t' ht => by rw [List.mem_singleton.mp ht]; simp [ih (by omega) (m + 1) S (by omega)]) []
    simp only [List.map_cons, List.map_nil, List.nil_append] at run
    cases q : t.cnt Ls with
    | none =>
      rw [q] at run
      simp at run
      simp [d_law_count, b_law_count, startE, lp_right, run, oend]
    | some c =>
      rw [q] at run
      have h3 : ¬ ((c : Int) = -1) := by omega
      by_cases hc : c = 0
      · subst hc
        simp at run
        simp [d_law_count, b_law_count, startE, lp_right, run, oend]
      · simp [d_law_count, b_law_count, startE, lp_right, run, oend, hc, h3]
  | left d t h ih =>
    intro hd n S hn
    obtain ⟨m, rfl⟩ : ∃ m, n = m + 2 := ⟨n - 2, by omega⟩
    rw [call_eq rfl, pv_left, cnt_left]
    have run := lc_callA (C := ⟨callN D G wf (m + 1), G, wf⟩) (tg := 3) (env := [some (vLeft t.pv), some (.lst (Ls.map PV.str)), none, none]) (S := S) (ts := [t]) (pv := T.pv) (F := fun t => vC (t.cnt Ls)) (src := ⟨[t.pv], none⟩) (elt := .call f_law_count (.cons (.var 3) (.cons (.var 1) .nil))) rfl
      (fun t' ht => by rw [List.mem_singleton.mp ht]; simp [ih (by omega) (m + 1) S (by omega)]) []
    simp only [List.map_cons, List.map_nil, List.nil_append] at run
    cases q : t.cnt Ls with
    | none =>
      rw [q] at run
      simp at run
      simp [d_law_count, b_law_count, startE, lp_left, run, oend]
    | some c =>
      rw [q] at run
      have h3 : ¬ ((c : Int) = -1) := by omega
      by_cases hc : c = 0
      · subst hc
        simp at run
        simp [d_law_count, b_law_count, startE, lp_left, run, oend]
      · simp [d_law_count, b_law_count, startE, lp_left, run, oend, hc, h3]
end K
set_option Elab.async false
set_option linter.all false
set_option maxRecDepth 100000
namespace K
open Mi
variable {D : Nat → Option Def} {G : Nat → Option PV} {wf : Nat}
abbrev six : List (List Nat) := [[97], [98], [99], [65], [66], [67]]
theorem oadd_assoc (a b c : Option Nat) : oadd (oadd a b) c = oadd a (oadd b c) := by
  cases a <;> cases b <;> cases c <;> simp [oadd, Nat.add_assoc]
theorem oadd_comm (a b : Option Nat) : oadd a b = oadd b a := by
  cases a <;> cases b <;> simp [oadd, Nat.add_comm]
theorem oadd_zero (a : Option Nat) : oadd a (some 0) = a := by cases a <;> simp [oadd]
theorem oadd_four (a b c d : Option Nat) : oadd (oadd a b) (oadd c d) = oadd (oadd a c) (oadd b d) := by
  rw [oadd_assoc, oadd_assoc, ← oadd_assoc b, oadd_comm b c, oadd_assoc]
theorem omul_add (a b : Option Nat) (n : Nat) : omul (oadd a b) n = oadd (omul a n) (omul b n) := by
  cases a <;> cases b <;> simp [oadd, omul, Nat.add_mul]
theorem oend_add (a b : Option Nat) : oend (oadd a b) = oadd (oend a) (oend b) := by
  cases a with
  | none => simp [oadd, oend]
  | some a =>
    cases b with
    | none =>
      by_cases ha : a = 0 <;> simp [oadd, oend, ha]
    | some b =>
      by_cases ha : a = 0
      · by_cases hb : b = 0 <;> simp [oadd, oend, ha, hb]
      · have : ¬ (a + b = 0) := by omega
        simp [oadd, oend, ha, this]
mutual
theorem cnt_more (l : List Nat) (Ls : List (List Nat)) (h : l ∉ Ls) : ∀ t : T, t.cnt (l :: Ls) = oadd (t.cnt [l]) (t.cnt Ls)
  | .emp => by simp [oadd]
  | .ltr s => by
    by_cases e : s = l
    · subst e; simp [oadd, h]
    · simp [oadd, e]
  | .join ts => by simp [cnts_more l Ls h ts]
  | .times t n => by
    by_cases hn : n = 0
    · simp [hn, oadd]
    · simp [hn, cnt_more l Ls h t, omul_add]
  | .right t => by simp [cnt_more l Ls h t, oend_add]
  | .left t => by simp [cnt_more l Ls h t, oend_add]
theorem cnts_more (l : List Nat) (Ls : List (List Nat)) (h : l ∉ Ls) : ∀ ts : List T, T.cnts (l :: Ls) ts = oadd (T.cnts [l] ts) (T.cnts Ls ts)
  | [] => by simp [oadd]
  | t :: ts => by simp [cnt_more l Ls h t, cnts_more l Ls h ts, oadd_four]
end
theorem cnt_six (t : T) : t.cnt six = tot (fun l => t.cnt [l]) six := by
  have e : t.cnt six = oadd (t.cnt [[97]]) (oadd (t.cnt [[98]]) (oadd (t.cnt [[99]]) (oadd (t.cnt [[65]]) (oadd (t.cnt [[66]]) (t.cnt [[67]]))))) := by
    rw [cnt_more [97] _ (by decide), cnt_more [98] _ (by decide), cnt_more [99] _ (by decide), cnt_more [65] _ (by decide), cnt_more [66] _ (by decide)]
  rw [e]
  simp [tot, oadd_zero]
@[simp] theorem opList_str (S : Store) (s : List Nat) : opBi .list [.str s] S = .ok (.lst (s.map fun c => .str [c])) S := rfl
theorem length_ok [Has D f_parts_of d_parts_of] [Has D f_letter_count d_letter_count] [Has D f_length d_length] [HG : HasG G g_LETTERS (.str [97, 98, 99])] [HM : HasG G g_MARKED (.tup [.str [65], .str [66], .str [67]])] {L : List (List Nat)} (hL : ∀ s ∈ L, okT s = true) {d : Nat} {t : T} (h : Ok L d t)
    (hd : d ≤ 60) (n : Nat) (S : Store) (hn : d + 4 ≤ n) : callN D G wf n f_length [t.pv] S = .ok (vT (t.cnt six)) S := by
  obtain ⟨m, rfl⟩ : ∃ m, n = m + 1 := ⟨n - 1, by omega⟩
  have run := lc_callA (C := ⟨callN D G wf m, G, wf⟩) (tg := 2) (env := [some t.pv, none, none]) (S := S) (ts := six) (pv := PV.str) (F := fun l => vT (t.cnt [l])) (src := ⟨[.str [97], .str [98], .str [99], .str [65], .str [66], .str [67]], none⟩) (elt := .call f_letter_count (.cons (.var 0) (.cons (.var 2) .nil))) rfl
    (fun l hl => by
      have : okT l = true := by
        simp only [six, List.mem_cons, List.not_mem_nil, or_false] at hl
        rcases hl with rfl | rfl | rfl | rfl | rfl | rfl <;> decide
      simp [lcnt_ok this hL h hd m S (by omega)]) []
  rw [List.nil_append] at run
  simp only [six, List.map_cons, List.map_nil] at run
  have h1 := HG.h
  have h2 := HM.h
  rw [call_eq rfl, cnt_six]
  have hin := any_non (fun l => t.cnt [l]) six
  have hok := okPs_vT (fun l => t.cnt [l]) 63 six
  simp only [six, List.map_cons, List.map_nil] at hin hok
  have hle : 3 + 3 ≤ lineN := by decide
  by_cases hm : ∃ l ∈ six, t.cnt [l] = none
  · rw [tot_none _ _ hm]
    rw [decide_eq_true hm] at hin
    simp only [d_length, b_length, startE]
    simp [h1, h2, hle, run]
    simp at hin hok
    simp [hin, hok]
  · obtain ⟨ns, k, e1, e2, _, e4⟩ := tot_some _ _ hm
    rw [e1]
    rw [decide_eq_false hm] at hin
    simp only [six, List.map_cons, List.map_nil] at e2
    simp only [d_length, b_length, startE]
    simp [h1, h2, hle, run]
    simp at hin hok
    simp [hin, hok, e2, e4]
theorem told_ok [Has D f_law_told d_law_told] {n : Nat} {S : Store} (c : Option Nat) : callN D G wf (n + 1) f_law_told [vC c] S = .ok (vT c) S := by
  rw [call_eq rfl]
  cases c with
  | none => simp [d_law_told, b_law_told, startE]
  | some k =>
    have : ¬ ((k : Int) < 0) := by omega
    simp [d_law_told, b_law_told, startE, this]
mutual
theorem eqP_refl : ∀ (d : Nat) (x : PV), okP d x = true → eqP x x = true
  | _, .non, _ => by simp
  | _, .bl b, _ => by simp
  | _, .int i, _ => by simp
  | _, .str s, _ => by simp
  | d + 1, .tup xs, h => by
    rw [okP_t] at h
    simp [eqPs_refl d xs h]
  | d + 1, .lst xs, h => by
    rw [okP_l] at h
    simp [eqPs_refl d xs h]
  | 0, .tup xs, h => by unfold okP at h; cases h
  | 0, .lst xs, h => by unfold okP at h; cases h
  | d, .frz xs, h => by cases d <;> (unfold okP at h; cases h)
  | d, .ref i, h => by cases d <;> (unfold okP at h; cases h)
theorem eqPs_refl : ∀ (d : Nat) (xs : List PV), okPs d xs = true → eqPs xs xs = true
  | _, [], _ => by simp
  | d, x :: xs, h => by
    rw [okPs_c, Bool.and_eq_true] at h
    simp [eqP_refl d x h.1, eqPs_refl d xs h.2]
end
theorem okPs_all : ∀ {d : Nat} {xs : List PV}, okPs d xs = true ↔ ∀ x ∈ xs, okP d x = true
  | d, [] => by simp
  | d, x :: xs => by simp [okPs_all (d := d) (xs := xs)]
theorem zipL_self : ∀ (xs : List PV) (p : PV), p ∈ zipL xs xs → ∃ a ∈ xs, p = .tup [a, a]
  | [], p, h => by simp [zipL] at h
  | x :: xs, p, h => by
    rw [zipL] at h
    rcases List.mem_cons.mp h with rfl | h
    · exact ⟨x, List.mem_cons_self, rfl⟩
    · obtain ⟨a, ha, e⟩ := zipL_self xs p h
      exact ⟨a, List.mem_cons_of_mem _ ha, e⟩
section
variable [Has D f_law_same d_law_same] {n : Nat} {S : Store}
theorem same_non : callN D G wf (n + 1) f_law_same [.non, .non] S = .ok (.bl true) S := by
  rw [call_eq rfl]; simp [d_law_same, b_law_same, startE]
theorem same_tup {xs ys : List PV} (hl : xs.length = ys.length) (h : ∀ p ∈ zipL xs ys, ∃ a b, p = .tup [a, b] ∧ callN D G wf n f_law_same [a, b] S = .ok (.bl true) S) : callN D G wf (n + 1) f_law_same [.tup xs, .tup ys] S = .ok (.bl true) S := by
  rw [call_eq rfl]
  have q := lc_map (test := denT ⟨callN D G wf n, G, wf⟩ .nil) (elt := denE ⟨callN D G wf n, G, wf⟩ (.call f_law_same (.cons (.var 2) (.cons (.var 3) .nil)))) (tg := .two 2 3) (env := [some (.tup xs), some (.tup ys), none, none]) (src := ⟨zipL xs ys, none⟩) rfl (S := S) (fun _ => .bl true) (zipL xs ys) [] (fun x hx => by
    obtain ⟨a, b, rfl, e⟩ := h x hx
    exact ⟨_, rfl, by simp, by simp [e]⟩)
  have hb : bools ((zipL xs ys).map fun _ => PV.bl true) = some ((zipL xs ys).map fun _ => true) := bools_map (fun _ => true) _
  have ha : ∀ l : List PV, (l.map fun _ => true).all id = true := fun l => by simp
  rw [List.nil_append] at q
  simp [d_law_same, b_law_same, startE, hl, q, hb]
end
/-- the same value twice -/
theorem same_refl [Has D f_law_same d_law_same] : ∀ (d : Nat) (x : PV), okP d x = true → ∀ (n : Nat) (S : Store), d < n → callN D G wf n f_law_same [x, x] S = .ok (.bl true) S
  | d, x, h, n, S, hn => by
    obtain ⟨m, rfl⟩ : ∃ m, n = m + 1 := ⟨n - 1, by omega⟩
    cases x with
    | non => exact same_non
    | bl b => rw [same_bl]; simp
    | int i => rw [same_int]; simp
    | str s => rw [okP_s] at h; rw [same_str _ _ (by simp [h])]; simp
    | tup xs =>
      cases d with
      | zero => unfold okP at h; cases h
      | succ d =>
        rw [okP_t] at h
        refine same_tup rfl fun p hp => ?_
        obtain ⟨a, ha, rfl⟩ := zipL_self xs p hp
        exact ⟨a, a, rfl, same_refl d a (okPs_all.mp h a ha) m S (by omega)⟩
    | lst xs =>
      cases d with
      | zero => unfold okP at h; cases h
      | succ d =>
        rw [okP_l] at h
        refine same_lst rfl fun p hp => ?_
        obtain ⟨a, ha, rfl⟩ := zipL_self xs p hp
        exact ⟨a, a, rfl, same_refl d a (okPs_all.mp h a ha) m S (by omega)⟩
    | frz xs => cases d <;> (unfold okP at h; cases h)
    | ref i => cases d <;> (unfold okP at h; cases h)
theorem okP_vT (d : Nat) (c : Option Nat) : okP d (vT c) = true := by cases c <;> simp
theorem same_vT [Has D f_law_same d_law_same] {n : Nat} {S : Store} (c : Option Nat) : callN D G wf (n + 1) f_law_same [vT c, vT c] S = .ok (.bl true) S := same_refl 0 _ (okP_vT 0 c) _ _ (by omega)
mutual
theorem okP_up : ∀ (d : Nat) (x : PV), okP d x = true → okP (d + 1) x = true
  | _, .non, _ => by simp
  | _, .bl b, _ => by simp
  | _, .int i, _ => by simp
  | _, .str s, h => by rw [okP_s] at h ⊢; exact h
  | d + 1, .tup xs, h => by rw [okP_t] at h ⊢; exact okPs_up d xs h
  | d + 1, .lst xs, h => by rw [okP_l] at h ⊢; exact okPs_up d xs h
  | 0, .tup xs, h => by unfold okP at h; cases h
  | 0, .lst xs, h => by unfold okP at h; cases h
  | d, .frz xs, h => by cases d <;> (unfold okP at h; cases h)
  | d, .ref i, h => by cases d <;> (unfold okP at h; cases h)
theorem okPs_up : ∀ (d : Nat) (xs : List PV), okPs d xs = true → okPs (d + 1) xs = true
  | _, [], _ => by simp
  | d, x :: xs, h => by
    rw [okPs_c, Bool.and_eq_true] at h ⊢
    exact ⟨okP_up d x h.1, okPs_up d xs h.2⟩
end
theorem okP_mono {d d' : Nat} {x : PV} (h : okP d x = true) (hd : d ≤ d') : okP d' x = true := by
  induction hd with
  | refl => exact h
  | step _ ih => exact okP_up _ _ ih
theorem Ok.okP {L : List (List Nat)} (hL : ∀ s ∈ L, okT s = true) {d : Nat} {t : T} (h : Ok L d t) : okP (2 * d + 1) t.pv = true := by
  induction h with
  | emp d => simp
  | ltr d s h => simp [hL s h]
  | join d ts hl h ih =>
    rw [pv_join, show 2 * (d + 1) + 1 = (2 * d + 1) + 1 + 1 by omega, okP_t, okPs_c, okPs_c, okPs_n, okP_t]
    simp
    rw [okPs_all]
    intro x hx
    obtain ⟨t, ht, rfl⟩ := List.mem_map.mp hx
    exact ih t ht
  | times d t n h1 h ih =>
    rw [pv_times, show 2 * (d + 1) + 1 = (2 * d + 1 + 1) + 1 by omega, okP_t]
    simp [okP_up _ _ ih]
  | right d t h ih =>
    rw [pv_right, show 2 * (d + 1) + 1 = (2 * d + 1 + 1) + 1 by omega, okP_t]
    simp [okP_up _ _ ih]
  | left d t h ih =>
    rw [pv_left, show 2 * (d + 1) + 1 = (2 * d + 1 + 1) + 1 by omega, okP_t]
    simp [okP_up _ _ ih]
theorem same_tree [Has D f_law_same d_law_same] {L : List (List Nat)} (hL : ∀ s ∈ L, okT s = true) {d : Nat} {t : T} (h : Ok L d t) {n : Nat} {S : Store} (hn : 2 * d + 2 ≤ n) : callN D G wf n f_law_same [t.pv, t.pv] S = .ok (.bl true) S :=
  same_refl _ _ (h.okP hL) _ _ (by omega)
mutual
def T.low : T → T
  | .emp => .emp
  | .ltr s => .ltr (s.map loC)
  | .join ts => .join (T.lows ts)
  | .times t n => .times t.low n
  | .right t => .right t.low
  | .left t => .left t.low
def T.lows : List T → List T
  | [] => []
  | t :: ts => t.low :: T.lows ts
end
theorem lows_eq : ∀ ts : List T, T.lows ts = ts.map T.low
  | [] => by simp [T.lows]
  | t :: ts => by simp [T.lows, lows_eq ts]
@[simp] theorem low_emp : T.emp.low = .emp := by simp only [T.low]
@[simp] theorem low_ltr (s : List Nat) : (T.ltr s).low = .ltr (s.map loC) := by simp only [T.low]
@[simp] theorem low_join (ts : List T) : (T.join ts).low = .join (ts.map T.low) := by simp only [T.low, lows_eq]
@[simp] theorem low_times (t : T) (n : Nat) : (T.times t n).low = .times t.low n := by simp only [T.low]
@[simp] theorem low_right (t : T) : (T.right t).low = .right t.low := by simp only [T.low]
@[simp] theorem low_left (t : T) : (T.left t).low = .left t.low := by simp only [T.low]
theorem low_abc {d : Nat} {t : T} (h : Ok abc d t) : t.low = t := by
  induction h with
  | emp d => simp
  | ltr d s h =>
    simp only [List.mem_cons, List.not_mem_nil, or_false] at h
    rcases h with rfl | rfl | rfl <;> simp [loC]
  | join d ts hl h ih =>
    rw [low_join]
    congr 1
    conv => rhs; rw [← List.map_id ts]
    exact List.map_congr_left ih
  | times d t n h1 h ih => simp [ih]
  | right d t h ih => simp [ih]
  | left d t h ih => simp [ih]
theorem low_six {d : Nat} {t : T} (h : Ok six d t) : Ok abc d t.low := by
  induction h with
  | emp d => simp only [low_emp]; exact .emp _
  | ltr d s h =>
    rw [low_ltr]
    refine .ltr _ _ ?_
    simp only [six, List.mem_cons, List.not_mem_nil, or_false] at h
    rcases h with rfl | rfl | rfl | rfl | rfl | rfl <;> simp [loC]
  | join d ts hl h ih =>
    rw [low_join]
    refine .join _ _ (by simpa using hl) fun t ht => ?_
    obtain ⟨x, hx, rfl⟩ := List.mem_map.mp ht
    exact ih x hx
  | times d t n h1 h ih => rw [low_times]; exact .times _ _ _ h1 ih
  | right d t h ih => rw [low_right]; exact .right _ _ ih
  | left d t h ih => rw [low_left]; exact .left _ _ ih
@[simp] theorem opLower (S : Store) (s : List Nat) : opMt .lower (.str s) [] S = if s.all (· < 128) && decide (s.length ≤ 1000) then .ok (.str (s.map loC)) S else .stuck := rfl
@[simp] theorem opUpper (S : Store) (s : List Nat) : opMt .upper (.str s) [] S = if s.all (· < 128) && decide (s.length ≤ 1000) then .ok (.str (s.map upC)) S else .stuck := rfl
@[simp] theorem recv_lower (S : Store) (s : List Nat) : recv .lower (.str s) S = .ok () S := rfl
@[simp] theorem recv_upper (S : Store) (s : List Nat) : recv .upper (.str s) S = .ok () S := rfl
theorem six_ok : ∀ s ∈ six, okT s = true := by decide
theorem six_low {s : List Nat} (h : s ∈ six) : (s.all (· < 128) && decide (s.length ≤ 1000)) = true := by
  simp only [six, List.mem_cons, List.not_mem_nil, or_false] at h
  rcases h with rfl | rfl | rfl | rfl | rfl | rfl <;> decide
theorem abc_six : ∀ s ∈ abc, s ∈ six := by decide
theorem abc_ok : ∀ s ∈ abc, okT s = true := by decide
theorem unm_ok [Has D f_unmarked d_unmarked] {d : Nat} {t : T} (h : Ok six d t) : ∀ (n : Nat) (S : Store), d + 2 ≤ n → callN D G wf n f_unmarked [t.pv] S = .ok t.low.pv S := by
  induction h with
  | emp d =>
    intro n S hn
    obtain ⟨m, rfl⟩ : ∃ m, n = m + 1 := ⟨n - 1, by omega⟩
    rw [call_eq rfl]; simp [d_unmarked, b_unmarked, startE]
  | ltr d s h =>
    intro n S hn
    obtain ⟨m, rfl⟩ : ∃ m, n = m + 1 := ⟨n - 1, by omega⟩
    rw [call_eq rfl]
    simp only [six, List.mem_cons, List.not_mem_nil, or_false] at h
    rcases h with rfl | rfl | rfl | rfl | rfl | rfl <;> simp [d_unmarked, b_unmarked, startE]
  | join d ts hl h ih =>
    intro n S hn
    obtain ⟨m, rfl⟩ : ∃ m, n = m + 1 := ⟨n - 1, by omega⟩
    have run := lc_callA (C := ⟨callN D G wf m, G, wf⟩) (tg := 2) (env := [some (vJoin (ts.map T.pv)), some (.str [106, 111, 105, 110]), none]) (S := S) (ts := ts) (pv := T.pv) (F := fun t => t.low.pv) (src := ⟨ts.map T.pv, none⟩) (elt := .call f_unmarked (.cons (.var 2) .nil)) rfl
      (fun t ht => by simp [ih t ht m S (by omega)]) []
    rw [List.nil_append] at run
    rw [call_eq rfl, pv_join]
    simp [d_unmarked, b_unmarked, startE, run]
  | times d t k h1 h ih =>
    intro n S hn
    obtain ⟨m, rfl⟩ : ∃ m, n = m + 1 := ⟨n - 1, by omega⟩
    rw [call_eq rfl]
    simp [d_unmarked, b_unmarked, startE, ih m S (by omega)]
  | right d t h ih =>
    intro n S hn
    obtain ⟨m, rfl⟩ : ∃ m, n = m + 1 := ⟨n - 1, by omega⟩
    rw [call_eq rfl]
    simp [d_unmarked, b_unmarked, startE, ih m S (by omega)]
  | left d t h ih =>
    intro n S hn
    obtain ⟨m, rfl⟩ : ∃ m, n = m + 1 := ⟨n - 1, by omega⟩
    rw [call_eq rfl]
    simp [d_unmarked, b_unmarked, startE, ih m S (by omega)]
def mk8 (d : Nat) : Nat := 8 ^ d
theorem mk8_s (d : Nat) : mk8 (d + 1) = 8 * mk8 d := by unfold mk8; rw [Nat.pow_succ]; omega
theorem mk8_pos (d : Nat) : 1 ≤ mk8 d := Nat.pow_pos (by decide)
theorem marks_ok [Has D f_law_draw d_law_draw] [Has D f_law_marks d_law_marks] {d : Nat} {t : T} (h : Ok abc d t) : ∀ {n r B : Nat} {S : Store}, d + 2 ≤ n → RngAt B r S → B + mk8 d ≤ 2 ^ 90 →
    ∃ t' S', callN D G wf n f_law_marks [.ref r, t.pv] S = .ok t'.pv S' ∧ Ok six d t' ∧ t'.low = t ∧ Keep [r] S S' ∧ RngAt (B + mk8 d) r S' := by
  induction h with
  | emp d =>
    intro n r B S hn hr hB
    obtain ⟨m, rfl⟩ : ∃ m, n = m + 1 := ⟨n - 1, by omega⟩
    refine ⟨.emp, S, ?_, .emp _, by simp, .refl _ _, hr.mono (by omega)⟩
    rw [call_eq rfl]; simp [d_law_marks, b_law_marks, startE]
  | ltr d s h =>
    intro n r B S hn hr hB
    obtain ⟨m, rfl⟩ : ∃ m, n = m + 2 := ⟨n - 2, by omega⟩
    have hp := mk8_pos d
    obtain ⟨i, S1, e1, hi, hi2, k1, l1, g1⟩ := draw_ok (D := D) (G := G) (wf := wf) (n := m) hr (by omega) (m := 2) (by omega) (by omega)
    have h2 := six_low (abc_six s h)
    by_cases h0 : i = 0
    · subst h0
      refine ⟨.ltr (s.map upC), S1, ?_, .ltr _ _ ?_, ?_, k1, g1.mono (by omega)⟩
      · rw [call_eq rfl]
        simp only [List.mem_cons, List.not_mem_nil, or_false] at h
        rcases h with rfl | rfl | rfl <;> simp [d_law_marks, b_law_marks, startE, e1]
      · simp only [List.mem_cons, List.not_mem_nil, or_false] at h
        rcases h with rfl | rfl | rfl <;> simp [upC]
      · simp only [List.mem_cons, List.not_mem_nil, or_false] at h
        rcases h with rfl | rfl | rfl <;> simp [upC, loC]
    · refine ⟨.ltr s, S1, ?_, .ltr _ _ (abc_six s h), low_abc (d := 0) (.ltr _ _ h), k1, g1.mono (by omega)⟩
      rw [call_eq rfl]
      simp [d_law_marks, b_law_marks, startE, e1, h0]
  | join d ts hl h ih =>
    intro n r B S hn hr hB
    obtain ⟨m, rfl⟩ : ∃ m, n = m + 1 := ⟨n - 1, by omega⟩
    have hs := mk8_s d
    have hp := mk8_pos d
    have loop : ∀ (us : List T) (acc : List PV) (S0 : Store) (B0 : Nat), (∀ u ∈ us, u ∈ ts) → RngAt B0 r S0 → B0 + us.length * mk8 d ≤ 2 ^ 90 → ∃ (us' : List T) (S1 : Store),
        lcLoop (denT ⟨callN D G wf m, G, wf⟩ .nil) (denE ⟨callN D G wf m, G, wf⟩ (.call f_law_marks (.cons (.var 0) (.cons (.var 2) .nil)))) (.one 2) [some (.ref r), some (vJoin (ts.map T.pv)), none] ⟨ts.map T.pv, none⟩ (us.map T.pv) acc S0 = .ok (acc ++ us'.map T.pv) S1 ∧
          us'.length = us.length ∧ (∀ u ∈ us', Ok six d u) ∧ us'.map T.low = us ∧ Keep [r] S0 S1 ∧ RngAt (B0 + us.length * mk8 d) r S1 := by
      intro us
      induction us with
      | nil =>
        intro acc S0 B0 _ g0 _
        exact ⟨[], S0, by simp [lcLoop, src_ok], rfl, by simp, rfl, .refl _ _, by simpa using g0⟩
      | cons u us ihu =>
        intro acc S0 B0 hm g0 hb
        rw [List.length_cons, Nat.add_mul] at hb
        obtain ⟨u', S1, e1, o1, w1, k1, g1⟩ := ih u (hm u List.mem_cons_self) (n := m) (by omega) g0 (by omega)
        obtain ⟨us', S2, e2, l2, o2, w2, k2, g2⟩ := ihu (acc ++ [u'.pv]) S1 (B0 + mk8 d) (fun x hx => hm x (List.mem_cons_of_mem _ hx)) g1 (by omega)
        refine ⟨u' :: us', S2, ?_, by simp [l2], ?_, by simp [w1, w2], k1.trans k2, g2.mono (by rw [List.length_cons, Nat.add_mul]; omega)⟩
        · rw [List.map_cons, lc_one (y := u'.pv) (S' := S1) rfl rfl (by simp) (by simp [e1]), e2]
          simp
        · intro x hx
          rcases List.mem_cons.mp hx with rfl | hx
          · exact o1
          · exact o2 x hx
    have hlm : ts.length * mk8 d ≤ 8 * mk8 d := Nat.mul_le_mul_right _ hl
    obtain ⟨us', S1, e1, l1, o1, w1, k1, g1⟩ := loop ts [] S B (fun _ h => h) hr (by omega)
    rw [List.nil_append] at e1
    refine ⟨.join us', S1, ?_, .join _ _ (by omega) o1, by simp [w1], k1, g1.mono (by omega)⟩
    rw [call_eq rfl, pv_join]
    simp [d_law_marks, b_law_marks, startE, e1]
  | times d t k h1 h ih =>
    intro n r B S hn hr hB
    obtain ⟨m, rfl⟩ : ∃ m, n = m + 1 := ⟨n - 1, by omega⟩
    have hs := mk8_s d
    obtain ⟨u, S1, e1, o1, w1, k1, g1⟩ := ih (n := m) (by omega) hr (by omega)
    refine ⟨.times u k, S1, ?_, .times _ _ _ h1 o1, by simp [w1], k1, g1.mono (by omega)⟩
    rw [call_eq rfl]
    simp [d_law_marks, b_law_marks, startE, e1]
  | right d t h ih =>
    intro n r B S hn hr hB
    obtain ⟨m, rfl⟩ : ∃ m, n = m + 1 := ⟨n - 1, by omega⟩
    have hs := mk8_s d
    obtain ⟨u, S1, e1, o1, w1, k1, g1⟩ := ih (n := m) (by omega) hr (by omega)
    refine ⟨.right u, S1, ?_, .right _ _ o1, by simp [w1], k1, g1.mono (by omega)⟩
    rw [call_eq rfl]
    simp [d_law_marks, b_law_marks, startE, e1]
  | left d t h ih =>
    intro n r B S hn hr hB
    obtain ⟨m, rfl⟩ : ∃ m, n = m + 1 := ⟨n - 1, by omega⟩
    have hs := mk8_s d
    obtain ⟨u, S1, e1, o1, w1, k1, g1⟩ := ih (n := m) (by omega) hr (by omega)
    refine ⟨.left u, S1, ?_, .left _ _ o1, by simp [w1], k1, g1.mono (by omega)⟩
    rw [call_eq rfl]
    simp [d_law_marks, b_law_marks, startE, e1]
end K
set_option Elab.async false
set_option linter.all false
set_option maxRecDepth 100000
namespace K
open Mi
variable {D : Nat → Option Def} {G : Nat → Option PV} {wf : Nat}
mutual
def T.mir : T → T
  | .emp => .emp
  | .ltr s => .ltr s
  | .join ts => .join (T.mirs ts).reverse
  | .times t n => .times t.mir n
  | .right t => .left t.mir
  | .left t => .right t.mir
def T.mirs : List T → List T
  | [] => []
  | t :: ts => t.mir :: T.mirs ts
end
theorem mirs_eq : ∀ ts : List T, T.mirs ts = ts.map T.mir
  | [] => by simp [T.mirs]
  | t :: ts => by simp [T.mirs, mirs_eq ts]
@[simp] theorem mir_emp : T.emp.mir = .emp := by simp only [T.mir]
@[simp] theorem mir_ltr (s : List Nat) : (T.ltr s).mir = .ltr s := by simp only [T.mir]
@[simp] theorem mir_join (ts : List T) : (T.join ts).mir = .join (ts.map T.mir).reverse := by simp only [T.mir, mirs_eq]
@[simp] theorem mir_times (t : T) (n : Nat) : (T.times t n).mir = .times t.mir n := by simp only [T.mir]
@[simp] theorem mir_right (t : T) : (T.right t).mir = .left t.mir := by simp only [T.mir]
@[simp] theorem mir_left (t : T) : (T.left t).mir = .right t.mir := by simp only [T.mir]
theorem mir_ok {L : List (List Nat)} {d : Nat} {t : T} (h : Ok L d t) : Ok L d t.mir := by
  induction h with
  | emp d => simp only [mir_emp]; exact .emp _
  | ltr d s h => simp only [mir_ltr]; exact .ltr _ _ h
  | join d ts hl h ih =>
    rw [mir_join]
    refine .join _ _ (by simpa using hl) fun t ht => ?_
    obtain ⟨x, hx, rfl⟩ := List.mem_map.mp (List.mem_reverse.mp ht)
    exact ih x hx
  | times d t n h1 h ih => rw [mir_times]; exact .times _ _ _ h1 ih
  | right d t h ih => rw [mir_right]; exact .left _ _ ih
  | left d t h ih => rw [mir_left]; exact .right _ _ ih
theorem mir_mir {L : List (List Nat)} {d : Nat} {t : T} (h : Ok L d t) : t.mir.mir = t := by
  induction h with
  | emp d => simp
  | ltr d s h => simp
  | join d ts hl h ih =>
    simp only [mir_join, List.map_reverse, List.reverse_reverse, List.map_map]
    congr 1
    conv => rhs; rw [← List.map_id ts]
    exact List.map_congr_left ih
  | times d t n h1 h ih => simp [ih]
  | right d t h ih => simp [ih]
  | left d t h ih => simp [ih]
theorem tot_app {α : Type} (f : α → Option Nat) : ∀ (l m : List α), tot f (l ++ m) = oadd (tot f l) (tot f m)
  | [], m => by
    show tot f m = oadd (some 0) (tot f m)
    rw [oadd_comm, oadd_zero]
  | x :: l, m => by
    show oadd (f x) (tot f (l ++ m)) = oadd (oadd (f x) (tot f l)) (tot f m)
    rw [tot_app f l m, oadd_assoc]
theorem tot_rev {α : Type} (f : α → Option Nat) : ∀ l : List α, tot f l.reverse = tot f l
  | [] => rfl
  | x :: l => by
    rw [List.reverse_cons, tot_app, tot_rev f l]
    show oadd (tot f l) (oadd (f x) (some 0)) = oadd (f x) (tot f l)
    rw [oadd_zero, oadd_comm]
theorem tot_map {α β : Type} (f : β → Option Nat) (g : α → β) : ∀ l : List α, tot f (l.map g) = tot (fun x => f (g x)) l
  | [] => rfl
  | x :: l => by
    show oadd (f (g x)) (tot f (l.map g)) = _
    rw [tot_map f g l]; rfl
theorem tot_congr {α : Type} {f g : α → Option Nat} : ∀ {l : List α}, (∀ x ∈ l, f x = g x) → tot f l = tot g l
  | [], _ => rfl
  | x :: l, h => by
    show oadd (f x) (tot f l) = oadd (g x) (tot g l)
    rw [h x List.mem_cons_self, tot_congr fun y hy => h y (List.mem_cons_of_mem _ hy)]
theorem cnt_mir {L : List (List Nat)} (Ls : List (List Nat)) {d : Nat} {t : T} (h : Ok L d t) : t.mir.cnt Ls = t.cnt Ls := by
  induction h with
  | emp d => simp
  | ltr d s h => simp
  | join d ts hl h ih =>
    rw [mir_join, cnt_join, cnt_join, cnts_tot, cnts_tot, tot_rev, tot_map]
    exact tot_congr ih
  | times d t n h1 h ih => simp [ih]
  | right d t h ih => simp [ih]
  | left d t h ih => simp [ih]
theorem mirror_ok [Has D f_mirror d_mirror] {L : List (List Nat)} {d : Nat} {t : T} (h : Ok L d t) : ∀ (n : Nat) (S : Store), d + 2 ≤ n → callN D G wf n f_mirror [t.pv] S = .ok t.mir.pv S := by
  induction h with
  | emp d =>
    intro n S hn
    obtain ⟨m, rfl⟩ : ∃ m, n = m + 1 := ⟨n - 1, by omega⟩
    rw [call_eq rfl]; simp [d_mirror, b_mirror, startE]
  | ltr d s h =>
    intro n S hn
    obtain ⟨m, rfl⟩ : ∃ m, n = m + 1 := ⟨n - 1, by omega⟩
    rw [call_eq rfl]; simp [d_mirror, b_mirror, startE]
  | join d ts hl h ih =>
    intro n S hn
    obtain ⟨m, rfl⟩ : ∃ m, n = m + 1 := ⟨n - 1, by omega⟩
    have run := lc_callA (C := ⟨callN D G wf m, G, wf⟩) (tg := 2) (env := [some (vJoin (ts.map T.pv)), some (.str [106, 111, 105, 110]), none]) (S := S) (ts := ts.reverse) (pv := T.pv) (F := fun t => t.mir.pv) (src := ⟨(ts.map T.pv).reverse, none⟩) (elt := .call f_mirror (.cons (.var 2) .nil)) rfl
      (fun t ht => by simp [ih t (List.mem_reverse.mp ht) m S (by omega)]) []
    rw [List.nil_append, List.map_reverse] at run
    rw [call_eq rfl, pv_join, mir_join, pv_join]
    simp [d_mirror, b_mirror, startE, run]
  | times d t k h1 h ih =>
    intro n S hn
    obtain ⟨m, rfl⟩ : ∃ m, n = m + 1 := ⟨n - 1, by omega⟩
    rw [call_eq rfl]
    simp [d_mirror, b_mirror, startE, ih m S (by omega)]
  | right d t h ih =>
    intro n S hn
    obtain ⟨m, rfl⟩ : ∃ m, n = m + 1 := ⟨n - 1, by omega⟩
    rw [call_eq rfl]
    simp [d_mirror, b_mirror, startE, ih m S (by omega)]
  | left d t h ih =>
    intro n S hn
    obtain ⟨m, rfl⟩ : ∃ m, n = m + 1 := ⟨n - 1, by omega⟩
    rw [call_eq rfl]
    simp [d_mirror, b_mirror, startE, ih m S (by omega)]
theorem turned_ok [Has D f_law_turned d_law_turned] {L : List (List Nat)} {d : Nat} {t : T} (h : Ok L d t) : ∀ (n : Nat) (S : Store), d + 2 ≤ n → callN D G wf n f_law_turned [t.pv] S = .ok t.mir.pv S := by
  induction h with
  | emp d =>
    intro n S hn
    obtain ⟨m, rfl⟩ : ∃ m, n = m + 1 := ⟨n - 1, by omega⟩
    rw [call_eq rfl]; simp [d_law_turned, b_law_turned, startE]
  | ltr d s h =>
    intro n S hn
    obtain ⟨m, rfl⟩ : ∃ m, n = m + 1 := ⟨n - 1, by omega⟩
    rw [call_eq rfl]; simp [d_law_turned, b_law_turned, startE]
  | join d ts hl h ih =>
    intro n S hn
    obtain ⟨m, rfl⟩ : ∃ m, n = m + 1 := ⟨n - 1, by omega⟩
    have run := lc_callA (C := ⟨callN D G wf m, G, wf⟩) (tg := 1) (env := [some (vJoin (ts.map T.pv)), none]) (S := S) (ts := ts.reverse) (pv := T.pv) (F := fun t => t.mir.pv) (src := ⟨(ts.map T.pv).reverse, none⟩) (elt := .call f_law_turned (.cons (.var 1) .nil)) rfl
      (fun t ht => by simp [ih t (List.mem_reverse.mp ht) m S (by omega)]) []
    rw [List.nil_append, List.map_reverse] at run
    rw [call_eq rfl, pv_join, mir_join, pv_join]
    simp [d_law_turned, b_law_turned, startE, run]
  | times d t k h1 h ih =>
    intro n S hn
    obtain ⟨m, rfl⟩ : ∃ m, n = m + 1 := ⟨n - 1, by omega⟩
    rw [call_eq rfl]
    simp [d_law_turned, b_law_turned, startE, ih m S (by omega)]
  | right d t h ih =>
    intro n S hn
    obtain ⟨m, rfl⟩ : ∃ m, n = m + 1 := ⟨n - 1, by omega⟩
    rw [call_eq rfl]
    simp [d_law_turned, b_law_turned, startE, ih m S (by omega), dgetL, lineN]
  | left d t h ih =>
    intro n S hn
    obtain ⟨m, rfl⟩ : ∃ m, n = m + 1 := ⟨n - 1, by omega⟩
    rw [call_eq rfl]
    simp [d_law_turned, b_law_turned, startE, ih m S (by omega), dgetL, lineN]
/-- a word without places -/
def T.void (t : T) : Bool := decide (t.cnt six = some 0)
theorem tot_zero {α : Type} (f : α → Option Nat) : ∀ l : List α, tot f l = some 0 ↔ ∀ x ∈ l, f x = some 0
  | [] => by simp [tot]
  | x :: l => by
    show oadd (f x) (tot f l) = some 0 ↔ _
    have ih := tot_zero f l
    constructor
    · intro h
      cases hx : f x with
      | none => rw [hx] at h; simp [oadd] at h
      | some a =>
        cases hl : tot f l with
        | none => rw [hx, hl] at h; simp [oadd] at h
        | some b =>
          rw [hx, hl] at h
          simp [oadd] at h
          intro y hy
          rcases List.mem_cons.mp hy with rfl | hy
          · rw [hx, h.1]
          · exact ih.mp (by rw [hl, h.2]) y hy
    · intro h
      rw [h x List.mem_cons_self, ih.mpr fun y hy => h y (List.mem_cons_of_mem _ hy)]; rfl
theorem void_emp : T.emp.void = true := by simp [T.void]
theorem void_ltr {s : List Nat} (h : s ∈ six) : (T.ltr s).void = false := by
  unfold T.void
  rw [cnt_ltr, if_pos h]; decide
theorem void_join (ts : List T) : (T.join ts).void = ts.all T.void := by
  unfold T.void
  rw [cnt_join, cnts_tot, Bool.eq_iff_iff, List.all_eq_true, decide_eq_true_eq, tot_zero]
  constructor
  · intro h x hx; exact decide_eq_true (h x hx)
  · intro h x hx; exact of_decide_eq_true (h x hx)
theorem void_times (t : T) (n : Nat) : (T.times t n).void = (decide (n = 0) || t.void) := by
  unfold T.void
  rw [cnt_times]
  by_cases hn : n = 0
  · simp [hn]
  · rw [if_neg hn, decide_eq_false hn, Bool.false_or]
    cases q : t.cnt six with
    | none => simp [omul]
    | some c =>
      simp [omul, hn]
      constructor
      · intro z
        rcases Nat.mul_eq_zero.mp z with z | z
        · exact z
        · exact absurd z hn
      · intro z; simp [z]
theorem oend_zero (c : Option Nat) : oend c = some 0 ↔ c = some 0 := by
  unfold oend
  by_cases h : c = some 0
  · rw [if_pos h]; simp [h]
  · rw [if_neg h]; simp [h]
theorem void_right (t : T) : (T.right t).void = t.void := by
  unfold T.void; rw [cnt_right, decide_eq_decide]; exact oend_zero _
theorem void_left (t : T) : (T.left t).void = t.void := by
  unfold T.void; rw [cnt_left, decide_eq_decide]; exact oend_zero _
theorem void_ok [Has D f_parts_of d_parts_of] [Has D f_is_empty d_is_empty] {d : Nat} {t : T} (h : Ok six d t) : ∀ (n : Nat) (S : Store), d + 2 ≤ n → callN D G wf n f_is_empty [t.pv] S = .ok (.bl t.void) S := by
  induction h with
  | emp d =>
    intro n S hn
    obtain ⟨m, rfl⟩ : ∃ m, n = m + 2 := ⟨n - 2, by omega⟩
    rw [call_eq rfl, void_emp]; simp [d_is_empty, b_is_empty, startE, po_emp, lcLoop, src_ok, bools]
  | ltr d s h =>
    intro n S hn
    obtain ⟨m, rfl⟩ : ∃ m, n = m + 2 := ⟨n - 2, by omega⟩
    rw [call_eq rfl, void_ltr h]; simp [d_is_empty, b_is_empty, startE]
  | join d ts hl h ih =>
    intro n S hn
    obtain ⟨m, rfl⟩ : ∃ m, n = m + 2 := ⟨n - 2, by omega⟩
    have run := lc_callA (C := ⟨callN D G wf (m + 1), G, wf⟩) (tg := 1) (env := [some (vJoin (ts.map T.pv)), none]) (S := S) (ts := ts) (pv := T.pv) (F := fun t => .bl t.void) (src := ⟨ts.map T.pv, none⟩) (elt := .call f_is_empty (.cons (.var 1) .nil)) rfl
      (fun t ht => by simp [ih t ht (m + 1) S (by omega)]) []
    rw [List.nil_append] at run
    have hb := bools_map T.void ts
    obtain ⟨xs, hxs⟩ : ∃ xs, xs = ts.map fun t => PV.bl t.void := ⟨_, rfl⟩
    rw [← hxs] at run hb
    rw [call_eq rfl, void_join, pv_join]
    simp [d_is_empty, b_is_empty, startE, po_join, run, hb]
  | times d t k h1 h ih =>
    intro n S hn
    obtain ⟨m, rfl⟩ : ∃ m, n = m + 2 := ⟨n - 2, by omega⟩
    rw [call_eq rfl, void_times]
    by_cases hk : k = 0
    · subst hk
      simp [d_is_empty, b_is_empty, startE]
    · have q := lc_callA (C := ⟨callN D G wf (m + 1), G, wf⟩) (tg := 1) (env := [some (vTimes t.pv k), none]) (S := S) (ts := [t]) (pv := T.pv) (F := fun t => .bl t.void) (src := ⟨[t.pv], none⟩) (elt := .call f_is_empty (.cons (.var 1) .nil)) rfl (fun t' ht => by rw [List.mem_singleton.mp ht]; simp [ih (m + 1) S (by omega)]) []
      simp only [List.map_cons, List.map_nil, List.nil_append] at q
      simp [d_is_empty, b_is_empty, startE, po_times, hk, q, bools]
  | right d t h ih =>
    intro n S hn
    obtain ⟨m, rfl⟩ : ∃ m, n = m + 2 := ⟨n - 2, by omega⟩
    rw [call_eq rfl, void_right]
    have q := lc_callA (C := ⟨callN D G wf (m + 1), G, wf⟩) (tg := 1) (env := [some (vRight t.pv), none]) (S := S) (ts := [t]) (pv := T.pv) (F := fun t => .bl t.void) (src := ⟨[t.pv], none⟩) (elt := .call f_is_empty (.cons (.var 1) .nil)) rfl (fun t' ht => by rw [List.mem_singleton.mp ht]; simp [ih (m + 1) S (by omega)]) []
    simp only [List.map_cons, List.map_nil, List.nil_append] at q
    simp [d_is_empty, b_is_empty, startE, po_right, q, bools]
  | left d t h ih =>
    intro n S hn
    obtain ⟨m, rfl⟩ : ∃ m, n = m + 2 := ⟨n - 2, by omega⟩
    rw [call_eq rfl, void_left]
    have q := lc_callA (C := ⟨callN D G wf (m + 1), G, wf⟩) (tg := 1) (env := [some (vLeft t.pv), none]) (S := S) (ts := [t]) (pv := T.pv) (F := fun t => .bl t.void) (src := ⟨[t.pv], none⟩) (elt := .call f_is_empty (.cons (.var 1) .nil)) rfl (fun t' ht => by rw [List.mem_singleton.mp ht]; simp [ih (m + 1) S (by omega)]) []
    simp only [List.map_cons, List.map_nil, List.nil_append] at q
    simp [d_is_empty, b_is_empty, startE, po_left, q, bools]
theorem void_mir {d : Nat} {t : T} (h : Ok six d t) : t.mir.void = t.void := by
  unfold T.void; rw [cnt_mir six h]
theorem ne_self {x : PV} {S : Store} (h : okP 64 x = true) : opC .ne x x S = .ok false S := by
  rw [opNe_eq]
  have : opC .eq x x S = .ok true S := by
    show opEq x x S = _
    rw [opEq_data h]
    show guardM (okP 64 x && okP 64 x) (eqP x x) S = _
    rw [h, eqP_refl 64 x h]; rfl
  rw [this]; rfl
end K
set_option Elab.async false
set_option linter.all false
set_option maxRecDepth 100000
namespace K
open Mi
variable {D : Nat → Option Def} {G : Nat → Option PV} {wf : Nat}
theorem lc_filterA {α : Type} {test : Env → M Bool} {elt : Env → M PV} {tg : Tg} {env : Env} {src : Src} (hc : src.cell = none) {S : Store} (pv F : α → PV) (p : α → Bool) :
    ∀ (xs : List α) (acc : List PV), (∀ x ∈ xs, ∃ e1, bindT tg (pv x) env = some e1 ∧ test e1 S = .ok (p x) S ∧ (p x = true → elt e1 S = .ok (F x) S)) → lcLoop test elt tg env src (xs.map pv) acc S = .ok (acc ++ (xs.filter p).map F) S
  | [], acc, h => by simp [lcLoop, src_ok hc]
  | x :: xs, acc, h => by
    obtain ⟨e1, hb, ht, hr⟩ := h x List.mem_cons_self
    rw [List.map_cons]
    cases hp : p x with
    | true =>
      rw [hp] at ht
      rw [lc_one hc hb ht (hr hp), lc_filterA hc pv F p xs _ fun y hy => h y (List.mem_cons_of_mem _ hy)]
      simp [hp]
    | false =>
      rw [hp] at ht
      rw [lc_skip hc hb ht, lc_filterA hc pv F p xs _ fun y hy => h y (List.mem_cons_of_mem _ hy)]
      simp [hp]
section
variable {body : Env → M Fl} {tg : Tg} {src : Src} {x : PV} {xs : List PV} {env e1 e2 : Env} {S S' : Store}
theorem for_nil (hc : src.cell = none) : forLoop body tg src [] env S = .ok (.nx env) S := by simp [forLoop, src_ok hc]
theorem for_nx (hc : src.cell = none) (hb : bindT tg x env = some e1) (hr : body e1 S = .ok (.nx e2) S') : forLoop body tg src (x :: xs) env S = forLoop body tg src xs e2 S' := by
  conv => lhs; unfold forLoop
  simp only [src_ok hc, if_true, hb]
  unfold M.bind; rw [hr]
theorem for_rt (hc : src.cell = none) {v : PV} (hb : bindT tg x env = some e1) (hr : body e1 S = .ok (.rt v) S') : forLoop body tg src (x :: xs) env S = .ok (.rt v) S' := by
  conv => lhs; unfold forLoop
  simp only [src_ok hc, if_true, hb]
  unfold M.bind; rw [hr]; rfl
end
def isE : T → Bool
  | .emp => true
  | _ => false
theorem eqP_emp (t : T) : eqP t.pv vEmp = isE t := by cases t <;> simp [isE]
def jn (us : List T) : T := match us.filter (fun t => !isE t) with
  | [] => .emp
  | [t] => t
  | ps => .join ps
theorem jn_ok {L : List (List Nat)} {d : Nat} {us : List T} (h : ∀ t ∈ us, Ok L d t) (hl : us.length ≤ 8) : Ok L (d + 1) (jn us) := by
  unfold jn
  have hm : ∀ t ∈ us.filter (fun t => !isE t), Ok L d t := fun t ht => h t (List.mem_filter.mp ht).1
  have hl2 : (us.filter (fun t => !isE t)).length ≤ 8 := Nat.le_trans (List.length_filter_le _ _) hl
  split
  · exact .emp _
  · rename_i t e
    exact (hm t (by rw [e]; simp)).up
  · rename_i ps e1 e2
    exact .join _ _ hl2 hm
@[simp] theorem opNe_tupE (S : Store) (t : T) (h : okP 64 t.pv = true) : opC .ne t.pv vEmp S = .ok (!isE t) S := by
  rw [opNe_eq]
  have : opC .eq t.pv vEmp S = .ok (isE t) S := by
    show opEq t.pv vEmp S = _
    rw [opEq_data h]
    show guardM (okP 64 t.pv && okP 64 vEmp) (eqP t.pv vEmp) S = _
    rw [h, eqP_emp]
    have : okP 64 vEmp = true := by decide
    rw [this]; rfl
  rw [this]; rfl
theorem joined_ok [Has D f_joined d_joined] [HE : HasG G g_EMPTY vEmp] {us : List T} {n : Nat} {S : Store} (h : ∀ t ∈ us, okP 64 t.pv = true) : callN D G wf (n + 1) f_joined [.tup (us.map T.pv)] S = .ok (jn us).pv S := by
  have hE := HE.h
  have run := lc_filterA (test := denT ⟨callN D G wf n, G, wf⟩ (.cons (.cmp .ne (.var 2) (.glb g_EMPTY)) .nil)) (elt := denE ⟨callN D G wf n, G, wf⟩ (.var 2)) (tg := .one 2) (env := [some (.tup (us.map T.pv)), none, none]) (src := ⟨us.map T.pv, none⟩) rfl (S := S) T.pv T.pv (fun t => !isE t) us []
    (fun t ht => ⟨_, rfl, by simp [hE, -opNe_eq, opNe_tupE S t (h t ht)], fun _ => by simp⟩)
  rw [List.nil_append] at run
  rw [call_eq rfl]
  unfold jn
  cases q : us.filter (fun t => !isE t) with
  | nil =>
    rw [q] at run
    simp at run
    simp [d_joined, b_joined, startE, hE, run]
  | cons t r =>
    cases r with
    | nil =>
      rw [q] at run
      simp at run
      simp [d_joined, b_joined, startE, hE, run]
    | cons u r =>
      rw [q] at run
      simp at run
      have : ¬ ((r.length : Int) + 1 + 1 < 2) := by omega
      simp [d_joined, b_joined, startE, hE, run, this]
def rp (t : T) (n : Nat) : T := if n = 0 then .emp else if n = 1 then t else .times t n
theorem rep_ok [Has D f_repeated d_repeated] [HE : HasG G g_EMPTY vEmp] {t : T} {k n : Nat} {S : Store} : callN D G wf (n + 1) f_repeated [t.pv, .int k] S = .ok (rp t k).pv S := by
  have hE := HE.h
  rw [call_eq rfl]
  unfold rp
  by_cases h0 : k = 0
  · simp [d_repeated, b_repeated, startE, hE, h0]
  · by_cases h1 : k = 1
    · simp [d_repeated, b_repeated, startE, hE, h1]
    · have h1' : ¬ ((k : Int) = 1) := by omega
      simp [d_repeated, b_repeated, startE, hE, h0, h1, h1']
@[simp] theorem recv_app (S : Store) (r : Nat) : recv .append (.ref r) S = (match S[r]? with
    | some (.lst _) => .ok () S
    | _ => .stuck) := rfl
@[simp] theorem opMt_app (S : Store) (r : Nat) (v : PV) : opMt .append (.ref r) [v] S = (match S[r]? with
    | some (.lst xs) => if xs.length < lineN then .ok .non (S.set r (.lst (xs ++ [v]))) else .stuck
    | _ => .stuck) := rfl
@[simp] theorem opSl_ref (S : Store) (r : Nat) (lo hi : Option Int) : opSl (.ref r) lo hi S = (match S[r]? with
    | some (.lst xs) => .ok (.lst (cut xs lo hi)) S
    | _ => .stuck) := by
  show bnd (viewL (.ref r) S) (fun xs S => R.ok (PV.lst (cut xs lo hi)) S) = _
  rw [viewL_at]
  cases S[r]? with
  | none => rfl
  | some c => cases c <;> rfl
@[simp] theorem opSl_lst (S : Store) (xs : List PV) (lo hi : Option Int) : opSl (.lst xs) lo hi S = .ok (.lst (cut xs lo hi)) S := rfl
@[simp] theorem opSl_tup (S : Store) (xs : List PV) (lo hi : Option Int) : opSl (.tup xs) lo hi S = .ok (.tup (cut xs lo hi)) S := rfl
theorem cut_take {α : Type} (xs : List α) (m : Nat) : cut xs none (some (m : Int)) = xs.take m := by
  unfold cut
  simp only [sIx]
  rw [if_neg (by omega), List.drop_zero, Nat.sub_zero, Int.toNat_natCast]
  rcases Nat.le_total m xs.length with h | h
  · rw [Nat.min_eq_left h]
  · rw [Nat.min_eq_right h, List.take_of_length_le h, List.take_of_length_le (Nat.le_refl _)]
theorem draws_at [Has D f_law_draws d_law_draws] {n : Nat} {ns : List Int} (S0 : Store) (hl : ns.length ≤ 63) : ∃ S, callN D G wf (n + 1) f_law_draws [.frz (ns.map PV.int)] S0 = .ok (.ref S0.length) S ∧ RngAt 0 S0.length S ∧ S.length = S0.length + 1 ∧ Keep [] S0 S := by
  rw [call_eq rfl]
  have hcut : cut (ns.map PV.int) none (some 63) = ns.map PV.int := by
    unfold cut
    simp only [sIx, List.length_map]
    rw [if_neg (by decide)]
    have : min (63 : Int).toNat ns.length = ns.length := Nat.min_eq_right hl
    rw [this, List.drop_zero, Nat.sub_zero]
    exact List.take_of_length_le (by simp)
  have hsl : ∀ S : Store, opSl (.frz (ns.map PV.int)) none (some 63) S = .ok (.lst (ns.map PV.int)) S := fun S => by
    show bnd (.ok (ns.map PV.int) S) (fun xs S => R.ok (PV.lst (cut xs none (some 63))) S) = _
    rw [bnd_ok, hcut]
  have loop : ∀ (C : Cfg) (ks : List Int) (src : Src) (s : Int) (c : Option PV) (fr : Option PV), src.cell = none → 0 ≤ s → s < 2147483647 → ∃ (s' : Int) (c' : Option PV),
      forLoop (denS C l_law_draws_1) (.one 2) src (ks.map PV.int) [fr, some (.int s), c] S0 = .ok (.nx [fr, some (.int s'), c']) S0 ∧ 0 ≤ s' ∧ s' < 2147483647 := by
    intro C ks src s c fr hc h0 h1
    obtain ⟨e', S', h, s', c', z, he, hs⟩ := for_inv (tg := .one 2) (body := denS C l_law_draws_1) hc
      (fun xs env S => ∃ (s' : Int) (c' : Option PV), S = S0 ∧ env = [fr, some (.int s'), c'] ∧ 0 ≤ s' ∧ s' < 2147483647 ∧ ∀ x ∈ xs, ∃ i, x = PV.int i)
      (fun x xs env S ⟨s', c', z, he, h2, h3, h4⟩ => by
        subst z; subst he
        obtain ⟨i, rfl⟩ := h4 x List.mem_cons_self
        have m1 : mulOk s' 69621 = true := mul_ok (by omega) (by omega)
        refine ⟨_, _, _, rfl, .inl ?_, (s' * 69621 + i % 2147483629 + 7) % 2147483647, some (.int i), rfl, rfl, Int.emod_nonneg _ (by decide), Int.emod_lt_of_pos _ (by decide), fun y hy => h4 y (List.mem_cons_of_mem _ hy)⟩
        simp [l_law_draws_1, m1])
      (ks.map PV.int) [fr, some (.int s), c] S0 ⟨s, c, rfl, rfl, h0, h1, fun x hx => by
        obtain ⟨i, _, rfl⟩ := List.mem_map.mp hx
        exact ⟨i, rfl⟩⟩
    subst z; subst he
    exact ⟨s', c', h, hs.1, hs.2.1⟩
  obtain ⟨s', c', hL, h0, h1⟩ := loop ⟨callN D G wf n, G, wf⟩ ns ⟨ns.map PV.int, none⟩ 3821 none (some (.frz (ns.map PV.int))) rfl (by decide) (by decide)
  refine ⟨S0 ++ [rngC ns 0 0 s' 0], ?_, ⟨ns, 0, 0, s', 0, by simp, by omega, h0, h1, by omega, by omega⟩, by simp, ⟨by simp, fun j hj _ => by rw [List.getElem?_append_left hj]⟩⟩
  simp [d_law_draws, b_law_draws, startE, hsl, hL, rngC]
end K
set_option Elab.async false
set_option linter.all false
set_option maxRecDepth 100000
namespace K
open Mi
variable {D : Nat → Option Def} {G : Nat → Option PV} {wf : Nat}
def T.step : T → Nat → Option T
  | .join ts, n => ts[n]?
  | .times t k, n => if n < k then some t else none
  | .right t, n => if n ≤ 1000000000000000000000000000000 then some t else none
  | .left t, n => if n ≤ 1000000000000000000000000000000 then some t else none
  | _, _ => none
def T.go : T → List Nat → Option T
  | t, [] => some t
  | t, n :: a => match t.step n with
    | some u => u.go a
    | none => none
/-- the address of a place -/
def Val (t : T) (a : List Nat) : Prop := ∃ s, t.go a = some (.ltr s)
def isL : T → Bool
  | .left _ => true
  | _ => false
def T.ahead : T → List Nat → List Nat → Bool
  | t, x :: a, y :: b => if x = y then (match t.step x with
    | some u => u.ahead a b
    | none => false) else (decide (x < y) == !isL t)
  | _, _, _ => false
abbrev addr (a : List Nat) : PV := .tup (a.map fun n : Nat => PV.int (n : Int))
def oaddr : Option (List Nat) → PV
  | none => .non
  | some a => addr a
@[simp] theorem oaddr_none : oaddr none = .non := rfl
@[simp] theorem oaddr_some (a : List Nat) : oaddr (some a) = addr a := rfl
@[simp] theorem step_join (ts : List T) (n : Nat) : (T.join ts).step n = ts[n]? := rfl
@[simp] theorem step_emp (n : Nat) : T.emp.step n = none := rfl
@[simp] theorem step_ltr (s : List Nat) (n : Nat) : (T.ltr s).step n = none := rfl
theorem step_times (t : T) (k n : Nat) : (T.times t k).step n = if n < k then some t else none := rfl
theorem step_right (t : T) (n : Nat) : (T.right t).step n = if n ≤ 1000000000000000000000000000000 then some t else none := rfl
theorem step_left (t : T) (n : Nat) : (T.left t).step n = if n ≤ 1000000000000000000000000000000 then some t else none := rfl
theorem Val.cons {t : T} {n : Nat} {a : List Nat} (h : Val t (n :: a)) : ∃ u, t.step n = some u ∧ Val u a := by
  obtain ⟨s, h⟩ := h
  unfold T.go at h
  cases q : t.step n with
  | none => rw [q] at h; cases h
  | some u => rw [q] at h; exact ⟨u, rfl, s, h⟩
theorem Val.mk {t u : T} {n : Nat} {a : List Nat} (h : t.step n = some u) (g : Val u a) : Val t (n :: a) := by
  obtain ⟨s, g⟩ := g
  exact ⟨s, by unfold T.go; rw [h]; exact g⟩
theorem step_ok {L : List (List Nat)} {d : Nat} {t u : T} {n : Nat} (h : Ok L d t) (e : t.step n = some u) : ∃ c, d = c + 1 ∧ Ok L c u := by
  cases h with
  | emp d => cases e
  | ltr d s h => cases e
  | join d ts hl h => exact ⟨d, rfl, h u (List.mem_of_getElem? e)⟩
  | times d t k h1 h =>
    rw [step_times] at e
    split at e
    · cases e; exact ⟨d, rfl, h⟩
    · cases e
  | right d t h =>
    rw [step_right] at e
    split at e
    · cases e; exact ⟨d, rfl, h⟩
    · cases e
  | left d t h =>
    rw [step_left] at e
    split at e
    · cases e; exact ⟨d, rfl, h⟩
    · cases e
/-- a word with a place is not void -/
theorem step_void {d : Nat} {t u : T} {n : Nat} (h : Ok six d t) (e : t.step n = some u) (hu : u.void = false) : t.void = false := by
  cases h with
  | emp d => cases e
  | ltr d s h => cases e
  | join d ts hl h =>
    rw [void_join]
    have hm := List.mem_of_getElem? e
    cases q : ts.all T.void with
    | false => rfl
    | true => rw [List.all_eq_true] at q; rw [q u hm] at hu; cases hu
  | times d t k h1 h =>
    rw [step_times] at e
    split at e
    · cases e
      rw [void_times, hu]
      have : ¬ k = 0 := by omega
      simp [this]
    · cases e
  | right d t h =>
    rw [step_right] at e
    split at e
    · cases e; rw [void_right]; exact hu
    · cases e
  | left d t h =>
    rw [step_left] at e
    split at e
    · cases e; rw [void_left]; exact hu
    · cases e
theorem val_void : ∀ {a : List Nat} {d : Nat} {t : T}, Ok six d t → Val t a → t.void = false
  | [], d, t, h, ⟨s, e⟩ => by
    have e : t = .ltr s := Option.some.inj e
    subst e
    cases h with
    | ltr d s h => exact void_ltr h
  | n :: a, d, t, h, v => by
    obtain ⟨u, e, v'⟩ := v.cons
    obtain ⟨c, rfl, hu⟩ := step_ok h e
    exact step_void h e (val_void hu v')
/-- one step of the walk, as an expression over slots -/
theorem at_join (ts : List PV) (n : Nat) : atI ts (n : Int) = ts[n]? := atI_nat ts n
theorem map_get {ts : List T} {n : Nat} {u : T} (h : ts[n]? = some u) : (ts.map T.pv)[n]? = some u.pv := by simp [h]
theorem ahead_run {C : Cfg} {src : Src} (hc : src.cell = none) {S : Store} {e0 e1 e2 : Option PV} : ∀ (a b : List Nat) (u : T) (e4 e5 : Option PV), Val u a → ∃ fl, forLoop (denS C l_law_ahead_1) (.two 4 5) src (zipL (a.map fun n : Nat => PV.int (n : Int)) (b.map fun n : Nat => PV.int (n : Int))) [e0, e1, e2, some u.pv, e4, e5] S = .ok fl S ∧
    (fl = .rt (.bl (u.ahead a b)) ∨ (u.ahead a b = false ∧ ∃ env, fl = .nx env))
  | [], b, u, e4, e5, v => ⟨_, by rw [List.map_nil]; exact for_nil hc, .inr ⟨by cases b <;> rfl, _, rfl⟩⟩
  | x :: a, [], u, e4, e5, v => ⟨_, by rw [List.map_cons, List.map_nil]; exact for_nil hc, .inr ⟨rfl, _, rfl⟩⟩
  | x :: a, y :: b, u, e4, e5, v => by
    obtain ⟨w, e, v'⟩ := v.cons
    rw [List.map_cons, List.map_cons]
    show ∃ fl, forLoop (denS C l_law_ahead_1) (.two 4 5) src (.tup [.int x, .int y] :: zipL (a.map fun n : Nat => PV.int (n : Int)) (b.map fun n : Nat => PV.int (n : Int))) [e0, e1, e2, some u.pv, e4, e5] S = .ok fl S ∧ _
    by_cases hxy : x = y
    · subst hxy
      have ha : u.ahead (x :: a) (x :: b) = w.ahead a b := by
        rw [T.ahead, if_pos rfl, e]
      rw [ha]
      have hb : denS C l_law_ahead_1 [e0, e1, e2, some u.pv, some (.int x), some (.int x)] S = .ok (.nx [e0, e1, e2, some w.pv, some (.int x), some (.int x)]) S := by
        cases u with
        | emp => cases e
        | ltr s => cases e
        | join ts => simp [l_law_ahead_1, at_join, map_get e]
        | times t k =>
          rw [step_times] at e
          split at e
          · cases e; simp [l_law_ahead_1]
          · cases e
        | right t =>
          rw [step_right] at e
          split at e
          · cases e; simp [l_law_ahead_1]
          · cases e
        | left t =>
          rw [step_left] at e
          split at e
          · cases e; simp [l_law_ahead_1]
          · cases e
      rw [for_nx hc rfl hb]
      exact ahead_run hc a b w _ _ v'
    · have hne : ¬ ((x : Int) = (y : Int)) := by omega
      refine ⟨.rt (.bl (u.ahead (x :: a) (y :: b))), for_rt hc rfl ?_, .inl rfl⟩
      have ha : u.ahead (x :: a) (y :: b) = (decide (x < y) == !isL u) := by rw [T.ahead, if_neg hxy]
      rw [ha]
      have hlt : decide ((x : Int) < (y : Int)) = decide (x < y) := by rw [decide_eq_decide]; omega
      cases u with
      | emp => cases e
      | ltr s => cases e
      | join ts => simp [l_law_ahead_1, hne, isL]
      | times t k => simp [l_law_ahead_1, hne, isL]
      | right t => simp [l_law_ahead_1, hne, isL]
      | left t => simp [l_law_ahead_1, hne, isL]
theorem ahead_ok [Has D f_law_ahead d_law_ahead] {t : T} {a b : List Nat} (v : Val t a) (n : Nat) (S : Store) : callN D G wf (n + 1) f_law_ahead [t.pv, addr a, addr b] S = .ok (.bl (t.ahead a b)) S := by
  obtain ⟨fl, e, h⟩ := ahead_run (C := ⟨callN D G wf n, G, wf⟩) (src := ⟨zipL (a.map fun n : Nat => PV.int (n : Int)) (b.map fun n : Nat => PV.int (n : Int)), none⟩) rfl (S := S) (e0 := some t.pv) (e1 := some (addr a)) (e2 := some (addr b)) a b t none none v
  rw [call_eq rfl]
  rcases h with rfl | ⟨h, env, rfl⟩
  · simp [d_law_ahead, b_law_ahead, startE, e]
  · simp [d_law_ahead, b_law_ahead, startE, e, h]
def pw10 (d : Nat) : Nat := 10 ^ d
theorem pw10_s (d : Nat) : pw10 (d + 1) = 10 * pw10 d := by unfold pw10; rw [Nat.pow_succ]; omega
theorem pw10_pos (d : Nat) : 1 ≤ pw10 d := Nat.pow_pos (by decide)
theorem pw10_le {d : Nat} (h : d ≤ 6) : pw10 d ≤ 1000000 := by
  have := Nat.pow_le_pow_right (n := 10) (by decide) h
  exact this
/-- what one more part adds -/
theorem add_run {C : Cfg} {S : Store} {as : List (List Nat)} {n : Nat} {env : Env} {k : Nat} (hk : env[k]? = some (some (.int n))) (h10 : env.length = 11) (hk10 : k ≠ 10) {src : Src} (hc : src.cell = none) (hlen : ∀ a ∈ as, a.length ≤ 100) :
    lcLoop (denT C .nil) (denE C (.bin .add (.tup (.cons (.var k) .nil)) (.var 10))) (.one 10) env src (as.map addr) [] S = .ok ((as.map fun a => n :: a).map addr) S := by
  have := lc_callA (C := C) (tg := 10) (env := env) (S := S) (ts := as) (pv := addr) (F := fun a => addr (n :: a)) (src := src) (elt := .bin .add (.tup (.cons (.var k) .nil)) (.var 10)) hc
    (fun a ha => by
      have e1 : (env.set 10 (some (addr a)))[k]? = some (some (.int n)) := by rw [List.getElem?_set_ne (Ne.symm hk10)]; exact hk
      have e2 : (env.set 10 (some (addr a)))[10]? = some (some (addr a)) := by rw [List.getElem?_set_self (by omega)]
      have hl : 1 + a.length ≤ lineN := by have := hlen a ha; unfold lineN; omega
      simp [e1, e2, opB, opAdd, hl]) []
  rw [List.nil_append] at this
  rw [this]
  simp
@[simp] theorem opIn_ref (S : Store) (a : PV) (r : Nat) : opC .isin a (.ref r) S = (match S[r]? with
    | some (.lst ys) => if okP 64 a && okPs 63 ys then .ok (ys.any fun y => eqP y a) S else .stuck
    | _ => .stuck) := by
  show bnd (viewL (.ref r) S) (fun ys => guardM (okP 64 a && okPs 63 ys) (ys.any fun y => eqP y a)) = _
  rw [viewL_at]
  cases S[r]? with
  | none => rfl
  | some c => cases c <;> rfl
abbrev nums (ns : List Nat) : List PV := ns.map fun n : Nat => PV.int (n : Int)
theorem okPs_nums (d : Nat) (ns : List Nat) : okPs d (nums ns) = true := okPs_map _ _ (fun x => by simp) _
def copyOf (w : T) : Prop := (∃ t k, w = .times t k) ∨ (∃ t, w = .right t) ∨ ∃ t, w = .left t
theorem spot3_ok {C : Cfg} {w : T} (hw : copyOf w) {ns : List Nat} {i : Int} {r : Nat} {S : Store} (hS : S[r]? = some (.lst (nums ns))) (hlen : ns.length ≤ 50) {e1 e2 e3 e4 e5 e6 e8 e10 : Option PV} :
    ∃ (ns' : List Nat) (S' : Store), denS C l_law_spots_3 [some w.pv, e1, e2, e3, e4, e5, e6, some (.ref r), e8, some (.int i), e10] S = .ok (.nx [some w.pv, e1, e2, e3, e4, e5, e6, some (.ref r), e8, some (.int i), e10]) S' ∧ S'[r]? = some (.lst (nums ns')) ∧ ns'.length ≤ ns.length + 1 ∧
      (∀ n ∈ ns', n ∈ ns ∨ ((n : Int) = i ∧ ∀ t k, w = .times t k → n < k)) ∧ Keep [r] S S' := by
  have stay : (∀ n ∈ ns, n ∈ ns ∨ ((n : Int) = i ∧ ∀ t k, w = .times t k → n < k)) := fun n hn => .inl hn
  by_cases h0 : 0 ≤ i
  · obtain ⟨j, rfl⟩ : ∃ j : Nat, i = j := ⟨i.toNat, by omega⟩
    have hok := okPs_nums 63 ns
    obtain ⟨b, hb⟩ : ∃ b, b = ((nums ns).any fun y => eqP y (.int j)) := ⟨_, rfl⟩
    have hlt : ns.length < lineN := by unfold lineN; omega
    obtain ⟨xs, hxs⟩ : ∃ xs, xs = nums ns := ⟨_, rfl⟩
    have hxl : xs.length < lineN := by rw [hxs]; simpa using hlt
    rw [← hxs] at hb hok
    rw [← hxs] at hS
    have addOk : (∀ t k, w = .times t k → j < k) → (∃ (ns' : List Nat) (S' : Store), R.ok (Fl.nx [some w.pv, e1, e2, e3, e4, e5, e6, some (.ref r), e8, some (.int j), e10]) (S.set r (.lst (xs ++ [.int j]))) = .ok (.nx [some w.pv, e1, e2, e3, e4, e5, e6, some (.ref r), e8, some (.int j), e10]) S' ∧ S'[r]? = some (.lst (nums ns')) ∧ ns'.length ≤ ns.length + 1 ∧
      (∀ n ∈ ns', n ∈ ns ∨ ((n : Int) = j ∧ ∀ t k, w = .times t k → n < k)) ∧ Keep [r] S S') := fun hk => by
      refine ⟨ns ++ [j], _, rfl, ?_, by simp, fun n hn => ?_, keep_set (o := .lst []) _⟩
      · rw [set_at hS, hxs]; simp
      · rcases List.mem_append.mp hn with z | z
        · exact .inl z
        · rw [List.mem_singleton.mp z]; exact .inr ⟨rfl, hk⟩
    have stayOk : ∃ (ns' : List Nat) (S' : Store), R.ok (Fl.nx [some w.pv, e1, e2, e3, e4, e5, e6, some (.ref r), e8, some (.int j), e10]) S = .ok (.nx [some w.pv, e1, e2, e3, e4, e5, e6, some (.ref r), e8, some (.int j), e10]) S' ∧ S'[r]? = some (.lst (nums ns')) ∧ ns'.length ≤ ns.length + 1 ∧
      (∀ n ∈ ns', n ∈ ns ∨ ((n : Int) = j ∧ ∀ t k, w = .times t k → n < k)) ∧ Keep [r] S S' := ⟨ns, S, rfl, by rw [hS, hxs], by omega, stay, .refl _ _⟩
    cases b with
    | true =>
      have hb := hb.symm
      have e : denS C l_law_spots_3 [some w.pv, e1, e2, e3, e4, e5, e6, some (.ref r), e8, some (.int j), e10] S = .ok (.nx [some w.pv, e1, e2, e3, e4, e5, e6, some (.ref r), e8, some (.int j), e10]) S := by
        simp [l_law_spots_3, hS, hok, hb]
      rw [e]; exact stayOk
    | false =>
      have hb := hb.symm
      rcases hw with ⟨t, k, rfl⟩ | ⟨t, rfl⟩ | ⟨t, rfl⟩
      · by_cases hk : j < k
        · have hk' : (j : Int) < k := by omega
          have e : denS C l_law_spots_3 [some (T.times t k).pv, e1, e2, e3, e4, e5, e6, some (.ref r), e8, some (.int j), e10] S = .ok (.nx [some (T.times t k).pv, e1, e2, e3, e4, e5, e6, some (.ref r), e8, some (.int j), e10]) (S.set r (.lst (xs ++ [.int j]))) := by
            simp [l_law_spots_3, hS, hok, hb, hk, hxl]
          rw [e]
          exact addOk fun t' k' z => by cases z; exact hk
        · have hk' : ¬ (j : Int) < k := by omega
          have e : denS C l_law_spots_3 [some (T.times t k).pv, e1, e2, e3, e4, e5, e6, some (.ref r), e8, some (.int j), e10] S = .ok (.nx [some (T.times t k).pv, e1, e2, e3, e4, e5, e6, some (.ref r), e8, some (.int j), e10]) S := by
            simp [l_law_spots_3, hS, hok, hb, hk]
          rw [e]; exact stayOk
      · have e : denS C l_law_spots_3 [some (T.right t).pv, e1, e2, e3, e4, e5, e6, some (.ref r), e8, some (.int j), e10] S = .ok (.nx [some (T.right t).pv, e1, e2, e3, e4, e5, e6, some (.ref r), e8, some (.int j), e10]) (S.set r (.lst (xs ++ [.int j]))) := by
          simp [l_law_spots_3, hS, hok, hb, hxl]
        rw [e]
        exact addOk fun t' k' z => by cases z
      · have e : denS C l_law_spots_3 [some (T.left t).pv, e1, e2, e3, e4, e5, e6, some (.ref r), e8, some (.int j), e10] S = .ok (.nx [some (T.left t).pv, e1, e2, e3, e4, e5, e6, some (.ref r), e8, some (.int j), e10]) (S.set r (.lst (xs ++ [.int j]))) := by
          simp [l_law_spots_3, hS, hok, hb, hxl]
        rw [e]
        exact addOk fun t' k' z => by cases z
  · refine ⟨ns, S, ?_, hS, by omega, stay, .refl _ _⟩
    simp [l_law_spots_3, h0]
/-- the numbers near one end -/
theorem spot2_ok {C : Cfg} {w : T} (hw : copyOf w) {ns : List Nat} {e : Int} {r : Nat} {S : Store} (hS : S[r]? = some (.lst (nums ns))) (hlen : ns.length ≤ 20) {e1 e3 e4 e5 e6 e9 e10 : Option PV} :
    ∃ (ns' : List Nat) (S' : Store) (e9' : Option PV), denS C l_law_spots_2 [some w.pv, e1, some (.int 2), e3, e4, e5, e6, some (.ref r), some (.int e), e9, e10] S = .ok (.nx [some w.pv, e1, some (.int 2), e3, e4, e5, e6, some (.ref r), some (.int e), e9', e10]) S' ∧ S'[r]? = some (.lst (nums ns')) ∧ ns'.length ≤ ns.length + 5 ∧
      (∀ n ∈ ns', n ∈ ns ∨ ((n : Int) ≤ e + 2 ∧ ∀ t k, w = .times t k → n < k)) ∧ Keep [r] S S' := by
  have hr5 : (rangeL (e - 2) (e + 2 + 1)).length = 5 := by unfold rangeL; simp; omega
  obtain ⟨e', S1, q, c9, ns', he, hc, hS1, hl1, hm1, hk1⟩ := for_inv (body := denS C l_law_spots_3) (tg := .one 9) (src := ⟨rangeL (e - 2) (e + 2 + 1), none⟩) rfl
    (fun xs env S' => ∃ c9 ns', env = [some w.pv, e1, some (.int 2), e3, e4, e5, e6, some (.ref r), some (.int e), c9, e10] ∧ (xs.length ≤ 5 ∧ ∀ x ∈ xs, ∃ i : Int, x = .int i ∧ i ≤ e + 2) ∧ S'[r]? = some (.lst (nums ns')) ∧ ns'.length ≤ ns.length + (5 - xs.length) ∧ (∀ n ∈ ns', n ∈ ns ∨ ((n : Int) ≤ e + 2 ∧ ∀ t k, w = .times t k → n < k)) ∧ Keep [r] S S')
    (fun x xs env S' ⟨c9, ns', he, ⟨hx1, hx2⟩, hS', hl', hm', hk'⟩ => by
      subst he
      simp only [List.length_cons] at hx1 hl'
      obtain ⟨i, rfl, hi⟩ := hx2 x List.mem_cons_self
      obtain ⟨ns2, S2, q2, h2, l2, m2, k2⟩ := spot3_ok (C := C) hw (i := i) hS' (by omega) (e1 := e1) (e2 := some (.int 2)) (e3 := e3) (e4 := e4) (e5 := e5) (e6 := e6) (e8 := some (.int e)) (e10 := e10)
      refine ⟨_, _, S2, rfl, .inl q2, _, ns2, rfl, ⟨by omega, fun y hy => hx2 y (List.mem_cons_of_mem _ hy)⟩, h2, by omega, fun n hn => ?_, hk'.trans k2⟩
      rcases m2 n hn with z | ⟨z1, z2⟩
      · exact hm' n z
      · exact .inr ⟨by omega, z2⟩)
    (rangeL (e - 2) (e + 2 + 1)) [some w.pv, e1, some (.int 2), e3, e4, e5, e6, some (.ref r), some (.int e), e9, e10] S
    ⟨e9, ns, rfl, ⟨by omega, fun x hx => by
      unfold rangeL at hx
      obtain ⟨k, hk, rfl⟩ := List.mem_map.mp hx
      have := List.mem_range.mp hk
      exact ⟨_, rfl, by omega⟩⟩, hS, by omega, fun n hn => .inl hn, .refl _ _⟩
  subst he
  refine ⟨ns', S1, c9, ?_, hS1, by simpa using hl1, hm1, hk1⟩
  have hle : (e + 2 + 1 - (e - 2)).toNat ≤ lineN := by unfold lineN; omega
  simp [l_law_spots_2, hle, q]
theorem insI_in {x y : Int} : ∀ {l : List Int}, y ∈ insI x l → y = x ∨ y ∈ l
  | [], h => by simpa [insI] using h
  | z :: l, h => by
    unfold insI at h
    split at h
    · simpa using h
    · rcases List.mem_cons.mp h with rfl | h
      · simp
      · rcases insI_in h with h | h
        · exact .inl h
        · exact .inr (List.mem_cons_of_mem _ h)
theorem insI_len (x : Int) : ∀ l : List Int, (insI x l).length = l.length + 1
  | [] => rfl
  | z :: l => by
    unfold insI
    split
    · rfl
    · simp [insI_len x l]
theorem isort_in {y : Int} : ∀ {l : List Int}, y ∈ isort l → y ∈ l
  | [], h => h
  | x :: l, h => by
    rcases insI_in h with h | h
    · simp [h]
    · exact List.mem_cons_of_mem _ (isort_in h)
theorem isort_len : ∀ l : List Int, (isort l).length = l.length
  | [] => rfl
  | x :: l => by
    show (insI x (isort l)).length = _
    rw [insI_len, isort_len l]; rfl
theorem isort_nat (ns : List Nat) : ∃ ms : List Nat, isort (ns.map fun n : Nat => (n : Int)) = ms.map (fun n : Nat => (n : Int)) ∧ ms.length = ns.length ∧ ∀ m ∈ ms, m ∈ ns := by
  have hm : ∀ y ∈ isort (ns.map fun n : Nat => (n : Int)), ∃ n ∈ ns, (n : Int) = y := fun y hy => by
    obtain ⟨n, hn, e⟩ := List.mem_map.mp (isort_in hy)
    exact ⟨n, hn, e⟩
  refine ⟨(isort (ns.map fun n : Nat => (n : Int))).map Int.toNat, ?_, by rw [List.length_map, isort_len, List.length_map], fun m h => ?_⟩
  · rw [List.map_map]
    conv => lhs; rw [← List.map_id (isort _)]
    refine List.map_congr_left fun y hy => ?_
    obtain ⟨n, _, e⟩ := hm y hy
    simp [← e]
  · obtain ⟨y, hy, rfl⟩ := List.mem_map.mp h
    obtain ⟨n, hn, e⟩ := hm y hy
    rw [← e]; simpa using hn
/-- the last loop: each number with the places within -/
theorem copies_run {m : Nat} {d : Nat} {w t : T} (hd : d ≤ 6) (hw : copyOf w) (hpart : ∃ rest : List Nat × List PV, w.pv = .tup (.str rest.1 :: t.pv :: rest.2)) (ih : ∀ S : Store, ∃ (as : List (List Nat)) (S' : Store), callN D G wf m f_law_spots [t.pv, .lst [], .int 2] S = .ok (.lst (as.map addr)) S' ∧ (∀ a ∈ as, Val t a ∧ a.length ≤ d) ∧ as.length ≤ pw10 d ∧ Keep [] S S')
    {ms : List Nat} (hms : ms.length ≤ 10) (hst : ∀ n ∈ ms, w.step n = some t) {S : Store} {e4 e5 e6 e7 e8 e9 e10 : Option PV} {src : Src} (hc : src.cell = none) :
    ∃ (as : List (List Nat)) (S' : Store) (f5 f9 : Option PV), forLoop (denS ⟨callN D G wf m, G, wf⟩ l_law_spots_1) (.one 9) src (nums ms) [some w.pv, some (.lst []), some (.int 2), some (.lst []), e4, e5, e6, e7, e8, e9, e10] S = .ok (.nx [some w.pv, some (.lst []), some (.int 2), some (.lst (as.map addr)), e4, f5, e6, e7, e8, f9, e10]) S' ∧
      (∀ a ∈ as, Val w a ∧ a.length ≤ d + 1) ∧ as.length ≤ 10 * pw10 d ∧ Keep [] S S' := by
  obtain ⟨rest, hp⟩ := hpart
  have hp6 := pw10_le (d := d) (by omega)
  obtain ⟨e', S1, q, as, c5, c9, k, he, ⟨hk1, hk2⟩, hv, hal, hK⟩ := for_inv (body := denS ⟨callN D G wf m, G, wf⟩ l_law_spots_1) (tg := .one 9) (src := src) hc
    (fun xs env S' => ∃ (as : List (List Nat)) (c5 c9 : Option PV) (k : Nat), env = [some w.pv, some (.lst []), some (.int 2), some (.lst (as.map addr)), e4, c5, e6, e7, e8, c9, e10] ∧ (k + xs.length ≤ 10 ∧ ∀ x ∈ xs, ∃ n ∈ ms, x = PV.int ((n : Nat) : Int)) ∧ (∀ a ∈ as, Val w a ∧ a.length ≤ d + 1) ∧ as.length ≤ k * pw10 d ∧ Keep [] S S')
    (fun x xs env S' ⟨as, c5, c9, k, he, ⟨hk1, hk2⟩, hv, hal, hK⟩ => by
      subst he
      simp only [List.length_cons] at hk1
      obtain ⟨n, hn, rfl⟩ := hk2 x List.mem_cons_self
      obtain ⟨bs, S2, e2, hv2, hl2, k2⟩ := ih S'
      have run := add_run (C := ⟨callN D G wf m, G, wf⟩) (S := S2) (as := bs) (n := n) (env := [some w.pv, some (.lst []), some (.int 2), some (.lst (as.map addr)), e4, some (.lst []), e6, e7, e8, some (.int n), none]) (k := 9) rfl rfl (by decide) (src := ⟨bs.map addr, none⟩) rfl (fun a ha => by have := (hv2 a ha).2; omega)
      rw [hp] at run ⊢
      have hsum : as.length + bs.length ≤ lineN := by
        have : k * pw10 d ≤ 10 * pw10 d := Nat.mul_le_mul_right _ (by omega)
        unfold lineN; omega
      refine ⟨_, _, S2, rfl, .inl ?_, as ++ bs.map (n :: ·), some (.lst []), some (.int n), k + 1, rfl, ⟨by omega, fun y hy => hk2 y (List.mem_cons_of_mem _ hy)⟩, ?_, ?_, hK.trans k2⟩
      · simp [l_law_spots_1, lcLoop, src_ok, e2, run, hsum]
      · intro a ha
        rcases List.mem_append.mp ha with z | z
        · exact hv a z
        · obtain ⟨b, hb, rfl⟩ := List.mem_map.mp z
          have := hv2 b hb
          exact ⟨Val.mk (hst n hn) this.1, by simp; omega⟩
      · rw [List.length_append, List.length_map, Nat.add_mul]; omega)
    (nums ms) [some w.pv, some (.lst []), some (.int 2), some (.lst []), e4, e5, e6, e7, e8, e9, e10] S
    ⟨[], e5, e9, 0, by simp, ⟨by simpa using hms, fun x hx => by
      obtain ⟨n, hn, rfl⟩ := List.mem_map.mp hx
      exact ⟨n, hn, rfl⟩⟩, by simp, by simp, .refl _ _⟩
  subst he
  have : k * pw10 d ≤ 10 * pw10 d := Nat.mul_le_mul_right _ (by simp at hk1; exact hk1)
  exact ⟨as, S1, c5, c9, q, hv, by omega, hK⟩
theorem keep_cell {r : Nat} {S S1 : Store} (hr : r = S.length) {c : Cell} (k : Keep [r] (S ++ [c]) S1) : Keep [] S S1 :=
  ⟨Nat.le_trans (by simp) k.len, fun j hj _ => by
    rw [k.get j (by simp; omega) (by simp; omega), List.getElem?_append_left hj]⟩
theorem rng_len {n : Nat} {S : Store} (h : n ≤ 10000) : rngM [.int (n : Int)] S = .ok ⟨rangeL 0 (n : Int), none⟩ S := by
  have s62 : small62 (n : Int) = true := small62_of (by omega) (by omega)
  have sl : (n : Int).toNat ≤ lineN := by rw [Int.toNat_natCast]; unfold lineN; omega
  rw [rngM_one, s62, decide_eq_true sl]; rfl
theorem sp_rng {C : Cfg} {ts : List T} {rl : List PV} {S : Store} (hr : rngM [.int (ts.length : Int)] S = .ok ⟨rl, none⟩ S) :
    denI C (.rng (.cons (.bi .len (.cons (.idx (.var 0) (.int 1)) .nil)) .nil)) [some (vJoin (ts.map T.pv)), some (.lst []), some (.int 2), some (.lst []), none, none, none, none, none, none, none] S = .ok ⟨rl, none⟩ S := by
  have h : denA C (.cons (.bi .len (.cons (.idx (.var 0) (.int 1)) .nil)) .nil) [some (vJoin (ts.map T.pv)), some (.lst []), some (.int 2), some (.lst []), none, none, none, none, none, none, none] S = .ok [.int (ts.length : Int)] S := by simp
  rw [ev_rng, h, bnd_ok]
  exact hr
theorem sp_for {C : Cfg} {ts : List T} {X rl : List PV} {S S1 : Store} {c4 c5 c10 : Option PV} (hr : rngM [.int (ts.length : Int)] S = .ok ⟨rl, none⟩ S)
    (q : forLoop (denS C l_law_spots_4) (.one 4) ⟨rl, none⟩ rl [some (vJoin (ts.map T.pv)), some (.lst []), some (.int 2), some (.lst []), none, none, none, none, none, none, none] S = .ok (.nx [some (vJoin (ts.map T.pv)), some (.lst []), some (.int 2), some (.lst X), c4, c5, none, none, none, none, c10]) S1) :
    denS C (.forS (.one 4) (.rng (.cons (.bi .len (.cons (.idx (.var 0) (.int 1)) .nil)) .nil)) l_law_spots_4) [some (vJoin (ts.map T.pv)), some (.lst []), some (.int 2), some (.lst []), none, none, none, none, none, none, none] S = .ok (.nx [some (vJoin (ts.map T.pv)), some (.lst []), some (.int 2), some (.lst X), c4, c5, none, none, none, none, c10]) S1 := by
  rw [ev_for, sp_rng hr, bnd_ok]
  exact q
theorem sp_if {C : Cfg} {F : Mi.S} {ts : List T} {X : List PV} {S S1 : Store} {c4 c5 c10 : Option PV}
    (h : denS C F [some (vJoin (ts.map T.pv)), some (.lst []), some (.int 2), some (.lst []), none, none, none, none, none, none, none] S = .ok (.nx [some (vJoin (ts.map T.pv)), some (.lst []), some (.int 2), some (.lst X), c4, c5, none, none, none, none, c10]) S1) :
    denS C (.ifS (.cmp .eq (.idx (.var 0) (.int 0)) (.str [106, 111, 105, 110])) (.seq F (.seq (.ret (.var 3)) .skip)) .skip) [some (vJoin (ts.map T.pv)), some (.lst []), some (.int 2), some (.lst []), none, none, none, none, none, none, none] S = .ok (.rt (.lst X)) S1 := by
  simp [h]
theorem sp_all {C : Cfg} {I R : Mi.S} {ts : List T} {X : List PV} {S S1 : Store}
    (h : denS C I [some (vJoin (ts.map T.pv)), some (.lst []), some (.int 2), some (.lst []), none, none, none, none, none, none, none] S = .ok (.rt (.lst X)) S1) :
    bnd (denS C (.seq (.ifS (.cmp .eq (.idx (.var 0) (.int 0)) (.str [108, 101, 116, 116, 101, 114])) (.seq (.ret (.lst false (.cons (.tup .nil) .nil))) .skip) .skip)
      (.seq (.ifS (.cmp .eq (.idx (.var 0) (.int 0)) (.str [101, 109, 112, 116, 121])) (.seq (.ret (.lst false .nil)) .skip) .skip)
      (.seq (.asg (.one 3) (.lst false .nil)) (.seq I R)))) [some (vJoin (ts.map T.pv)), some (.lst []), some (.int 2), none, none, none, none, none, none, none, none] S) endF = .ok (.lst X) S1 := by
  simp [h]
theorem spots_ok [Has D f_law_spots d_law_spots] {L : List (List Nat)} {d : Nat} {t : T} (h : Ok L d t) : d ≤ 7 → ∀ (n : Nat) (S : Store), d + 1 ≤ n →
    ∃ (as : List (List Nat)) (S' : Store), callN D G wf n f_law_spots [t.pv, .lst [], .int 2] S = .ok (.lst (as.map addr)) S' ∧ (∀ a ∈ as, Val t a ∧ a.length ≤ d) ∧ as.length ≤ pw10 d ∧ Keep [] S S' := by
  induction h with
  | emp d =>
    intro hd n S hn
    obtain ⟨m, rfl⟩ : ∃ m, n = m + 1 := ⟨n - 1, by omega⟩
    refine ⟨[], S, ?_, by simp, by simp, .refl _ _⟩
    rw [call_eq rfl]; simp [d_law_spots, b_law_spots, startE]
  | ltr d s h =>
    intro hd n S hn
    obtain ⟨m, rfl⟩ : ∃ m, n = m + 1 := ⟨n - 1, by omega⟩
    refine ⟨[[]], S, ?_, ?_, pw10_pos d, .refl _ _⟩
    · rw [call_eq rfl]; simp [d_law_spots, b_law_spots, startE]
    · intro a ha
      rw [List.mem_singleton.mp ha]
      exact ⟨⟨s, rfl⟩, by simp⟩
  | join d ts hl h ih =>
    intro hd n S hn
    obtain ⟨m, rfl⟩ : ∃ m, n = m + 1 := ⟨n - 1, by omega⟩
    have hp := pw10_pos d
    have hp7 := pw10_le (d := d) (by omega)
    have hs := pw10_s d
    obtain ⟨e', S1, q, as, c4, c5, c10, k, he, hk, hv, hal, hK⟩ := for_inv (body := denS ⟨callN D G wf m, G, wf⟩ l_law_spots_4) (tg := .one 4) (src := ⟨rangeL 0 ts.length, none⟩) rfl
      (fun xs env S' => ∃ (as : List (List Nat)) (c4 c5 c10 : Option PV) (k : Nat), env = [some (vJoin (ts.map T.pv)), some (.lst []), some (.int 2), some (.lst (as.map addr)), c4, c5, none, none, none, none, c10] ∧ (k + xs.length = ts.length ∧ xs = (List.range xs.length).map fun j => PV.int ((k + j : Nat) : Int)) ∧ (∀ a ∈ as, Val (.join ts) a ∧ a.length ≤ d + 1) ∧ as.length ≤ k * pw10 d ∧ Keep [] S S')
      (fun x xs env S' ⟨as, c4, c5, c10, k, he, ⟨hk1, hk2⟩, hv, hal, hK⟩ => by
        subst he
        simp only [List.length_cons] at hk1 hk2
        rw [List.range_succ_eq_map, List.map_cons, List.map_map] at hk2
        have hk2' := List.cons.inj hk2
        have hx : x = .int k := by simpa using hk2'.1
        subst hx
        have hkl : k < ts.length := by omega
        obtain ⟨bs, S2, e2, hv2, hl2, k2⟩ := ih ts[k] (List.getElem_mem hkl) (by omega) m S' (by omega)
        have hin : (ts.map T.pv)[k]? = some ts[k].pv := map_get (by simp [hkl])
        have run := add_run (C := ⟨callN D G wf m, G, wf⟩) (S := S2) (as := bs) (n := k) (env := [some (vJoin (ts.map T.pv)), some (.lst []), some (.int 2), some (.lst (as.map addr)), some (.int k), some (.lst []), none, none, none, none, none]) (k := 4) rfl rfl (by decide) (src := ⟨bs.map addr, none⟩) rfl (fun a ha => by have := (hv2 a ha).2; omega)
        have hsum : as.length + bs.length ≤ lineN := by
          have : k * pw10 d ≤ 8 * pw10 d := Nat.mul_le_mul_right _ (by omega)
          unfold lineN; omega
        refine ⟨_, _, S2, rfl, .inl ?_, as ++ bs.map (k :: ·), some (.int k), some (.lst []), c10, k + 1, rfl, ⟨by omega, ?_⟩, ?_, ?_, hK.trans k2⟩
        · simp [l_law_spots_4, lcLoop, src_ok, at_join, hin, e2, run, hsum]
        · rw [hk2'.2]
          simp only [List.length_map, List.length_range]
          refine List.map_congr_left fun j _ => ?_
          show PV.int ((k + (j + 1) : Nat) : Int) = _
          congr 2; omega
        · intro a ha
          rcases List.mem_append.mp ha with z | z
          · exact hv a z
          · obtain ⟨b, hb, rfl⟩ := List.mem_map.mp z
            have := hv2 b hb
            exact ⟨Val.mk (u := ts[k]) (by simp [hkl]) this.1, by simp; omega⟩
        · rw [List.length_append, List.length_map, Nat.add_mul]; omega)
      (rangeL 0 ts.length) [some (vJoin (ts.map T.pv)), some (.lst []), some (.int 2), some (.lst []), none, none, none, none, none, none, none] S
      ⟨[], none, none, none, 0, by simp, ⟨by simp [rangeL], by simp [rangeL]⟩, by simp, by simp, .refl _ _⟩
    subst he
    simp only [List.length_nil, Nat.add_zero] at hk
    refine ⟨as, S1, ?_, hv, ?_, hK⟩
    · rw [call_eq rfl, pv_join]
      have hr := rng_len (S := S) (n := ts.length) (by omega)
      exact sp_all (sp_if (sp_for hr q))
    · rw [hs]
      have : k * pw10 d ≤ 8 * pw10 d := Nat.mul_le_mul_right _ (by omega)
      omega
  | times d t k h1 h ih =>
    intro hd n S hn
    obtain ⟨m, rfl⟩ : ∃ m, n = m + 1 := ⟨n - 1, by omega⟩
    have hw : copyOf (T.times t k) := .inl ⟨_, _, rfl⟩
    have c0 : (S ++ [Cell.lst []])[S.length]? = some (.lst (nums [])) := by simp
    obtain ⟨n1, S1, f1, q1, c1, l1, m1, k1⟩ := spot2_ok (C := ⟨callN D G wf m, G, wf⟩) hw (e := 0) c0 (by simp) (e1 := some (.lst [])) (e3 := some (.lst [])) (e4 := none) (e5 := none) (e6 := some (.lst [.int 0, .int ((k : Int) - 1)])) (e9 := none) (e10 := none)
    obtain ⟨n2, S2, f2, q2, c2, l2, m2, k2⟩ := spot2_ok (C := ⟨callN D G wf m, G, wf⟩) hw (e := (k : Int) - 1) c1 (by simp at l1; omega) (e1 := some (.lst [])) (e3 := some (.lst [])) (e4 := none) (e5 := none) (e6 := some (.lst [.int 0, .int ((k : Int) - 1)])) (e9 := f1) (e10 := none)
    have hfor : forLoop (denS ⟨callN D G wf m, G, wf⟩ l_law_spots_2) (.one 8) ⟨[.int 0, .int ((k : Int) - 1)], none⟩ [.int 0, .int ((k : Int) - 1)] [some (T.times t k).pv, some (.lst []), some (.int 2), some (.lst []), none, none, some (.lst [.int 0, .int ((k : Int) - 1)]), some (.ref S.length), none, none, none] (S ++ [.lst []]) = .ok (.nx [some (T.times t k).pv, some (.lst []), some (.int 2), some (.lst []), none, none, some (.lst [.int 0, .int ((k : Int) - 1)]), some (.ref S.length), some (.int ((k : Int) - 1)), f2, none]) S2 := by
      rw [for_nx rfl rfl q1, for_nx rfl rfl q2, for_nil rfl]
    obtain ⟨ms, hms, hml, hmm⟩ := isort_nat n2
    have hst : ∀ j ∈ ms, (T.times t k).step j = some t := fun j hj => by
      rw [step_times]
      have : j < k := by
        rcases m2 j (hmm j hj) with z | ⟨_, z⟩
        · rcases m1 j z with z | ⟨_, z⟩
          · simp at z
          · exact z t k rfl
        · exact z t k rfl
      rw [if_pos this]
    obtain ⟨as, S3, f5, f9, q3, hv, hl, hK⟩ := copies_run (D := D) (G := G) (wf := wf) (m := m) (by omega) hw ⟨([116, 105, 109, 101, 115], [.int k]), by simp⟩ (fun S => ih (by omega) m S (by omega)) (ms := ms) (by simp at l1; omega) hst (S := S2) (e4 := none) (e5 := none) (e6 := some (.lst [.int 0, .int ((k : Int) - 1)])) (e7 := some (.ref S.length)) (e8 := some (.int ((k : Int) - 1))) (e9 := f2) (e10 := none) (src := ⟨nums ms, none⟩) rfl
    refine ⟨as, S3, ?_, hv, by rw [pw10_s]; exact hl, ((keep_cell rfl (k1.trans k2)).trans hK)⟩
    have hi : intsP (nums n2) = some (n2.map fun n : Nat => (n : Int)) := ints_map (fun n : Nat => (n : Int)) n2
    have hms' : (isort (n2.map fun n : Nat => (n : Int))).map PV.int = nums ms := by rw [hms]; simp
    have hle : 1 + 1 ≤ lineN := by decide
    obtain ⟨xs, hxs⟩ : ∃ xs, xs = nums n2 := ⟨_, rfl⟩
    rw [← hxs] at hi c2
    obtain ⟨ys, hys⟩ : ∃ ys, ys = nums ms := ⟨_, rfl⟩
    rw [← hys] at hms' q3
    rw [call_eq rfl]
    simp only [d_law_spots, b_law_spots, startE, pv_times] at hfor q3 ⊢
    simp [lcLoop, src_ok, lineN, hfor, c2, hi, hms', q3]
  | right d t h ih =>
    intro hd n S hn
    obtain ⟨m, rfl⟩ : ∃ m, n = m + 1 := ⟨n - 1, by omega⟩
    have hw : copyOf (T.right t) := .inr (.inl ⟨_, rfl⟩)
    have c0 : (S ++ [Cell.lst []])[S.length]? = some (.lst (nums [])) := by simp
    obtain ⟨n1, S1, f1, q1, c1, l1, m1, k1⟩ := spot2_ok (C := ⟨callN D G wf m, G, wf⟩) hw (e := 0) c0 (by simp) (e1 := some (.lst [])) (e3 := some (.lst [])) (e4 := none) (e5 := none) (e6 := some (.lst [.int 0])) (e9 := none) (e10 := none)
    have hfor : forLoop (denS ⟨callN D G wf m, G, wf⟩ l_law_spots_2) (.one 8) ⟨[.int 0], none⟩ [.int 0] [some (T.right t).pv, some (.lst []), some (.int 2), some (.lst []), none, none, some (.lst [.int 0]), some (.ref S.length), none, none, none] (S ++ [.lst []]) = .ok (.nx [some (T.right t).pv, some (.lst []), some (.int 2), some (.lst []), none, none, some (.lst [.int 0]), some (.ref S.length), some (.int 0), f1, none]) S1 := by
      rw [for_nx rfl rfl q1, for_nil rfl]
    obtain ⟨ms, hms, hml, hmm⟩ := isort_nat n1
    have hst : ∀ j ∈ ms, (T.right t).step j = some t := fun j hj => by
      rw [step_right]
      have : j ≤ 1000000000000000000000000000000 := by
        rcases m1 j (hmm j hj) with z | ⟨z, _⟩
        · simp at z
        · omega
      rw [if_pos this]
    obtain ⟨as, S3, f5, f9, q3, hv, hl, hK⟩ := copies_run (D := D) (G := G) (wf := wf) (m := m) (by omega) hw ⟨([114, 105, 103, 104, 116], []), by simp⟩ (fun S => ih (by omega) m S (by omega)) (ms := ms) (by simp at l1; omega) hst (S := S1) (e4 := none) (e5 := none) (e6 := some (.lst [.int 0])) (e7 := some (.ref S.length)) (e8 := some (.int 0)) (e9 := f1) (e10 := none) (src := ⟨nums ms, none⟩) rfl
    refine ⟨as, S3, ?_, hv, by rw [pw10_s]; exact hl, ((keep_cell rfl k1).trans hK)⟩
    have hi : intsP (nums n1) = some (n1.map fun n : Nat => (n : Int)) := ints_map (fun n : Nat => (n : Int)) n1
    have hms' : (isort (n1.map fun n : Nat => (n : Int))).map PV.int = nums ms := by rw [hms]; simp
    obtain ⟨xs, hxs⟩ : ∃ xs, xs = nums n1 := ⟨_, rfl⟩
    rw [← hxs] at hi c1
    obtain ⟨ys, hys⟩ : ∃ ys, ys = nums ms := ⟨_, rfl⟩
    rw [← hys] at hms' q3
    rw [call_eq rfl]
    simp only [d_law_spots, b_law_spots, startE, pv_right] at hfor q3 ⊢
    simp [lcLoop, src_ok, lineN, hfor, c1, hi, hms', q3]
  | left d t h ih =>
    intro hd n S hn
    obtain ⟨m, rfl⟩ : ∃ m, n = m + 1 := ⟨n - 1, by omega⟩
    have hw : copyOf (T.left t) := .inr (.inr ⟨_, rfl⟩)
    have c0 : (S ++ [Cell.lst []])[S.length]? = some (.lst (nums [])) := by simp
    obtain ⟨n1, S1, f1, q1, c1, l1, m1, k1⟩ := spot2_ok (C := ⟨callN D G wf m, G, wf⟩) hw (e := 0) c0 (by simp) (e1 := some (.lst [])) (e3 := some (.lst [])) (e4 := none) (e5 := none) (e6 := some (.lst [.int 0])) (e9 := none) (e10 := none)
    have hfor : forLoop (denS ⟨callN D G wf m, G, wf⟩ l_law_spots_2) (.one 8) ⟨[.int 0], none⟩ [.int 0] [some (T.left t).pv, some (.lst []), some (.int 2), some (.lst []), none, none, some (.lst [.int 0]), some (.ref S.length), none, none, none] (S ++ [.lst []]) = .ok (.nx [some (T.left t).pv, some (.lst []), some (.int 2), some (.lst []), none, none, some (.lst [.int 0]), some (.ref S.length), some (.int 0), f1, none]) S1 := by
      rw [for_nx rfl rfl q1, for_nil rfl]
    obtain ⟨ms, hms, hml, hmm⟩ := isort_nat n1
    have hst : ∀ j ∈ ms, (T.left t).step j = some t := fun j hj => by
      rw [step_left]
      have : j ≤ 1000000000000000000000000000000 := by
        rcases m1 j (hmm j hj) with z | ⟨z, _⟩
        · simp at z
        · omega
      rw [if_pos this]
    obtain ⟨as, S3, f5, f9, q3, hv, hl, hK⟩ := copies_run (D := D) (G := G) (wf := wf) (m := m) (by omega) hw ⟨([108, 101, 102, 116], []), by simp⟩ (fun S => ih (by omega) m S (by omega)) (ms := ms) (by simp at l1; omega) hst (S := S1) (e4 := none) (e5 := none) (e6 := some (.lst [.int 0])) (e7 := some (.ref S.length)) (e8 := some (.int 0)) (e9 := f1) (e10 := none) (src := ⟨nums ms, none⟩) rfl
    refine ⟨as, S3, ?_, hv, by rw [pw10_s]; exact hl, ((keep_cell rfl k1).trans hK)⟩
    have hi : intsP (nums n1) = some (n1.map fun n : Nat => (n : Int)) := ints_map (fun n : Nat => (n : Int)) n1
    have hms' : (isort (n1.map fun n : Nat => (n : Int))).map PV.int = nums ms := by rw [hms]; simp
    obtain ⟨xs, hxs⟩ : ∃ xs, xs = nums n1 := ⟨_, rfl⟩
    rw [← hxs] at hi c1
    obtain ⟨ys, hys⟩ : ∃ ys, ys = nums ms := ⟨_, rfl⟩
    rw [← hys] at hms' q3
    rw [call_eq rfl]
    simp only [d_law_spots, b_law_spots, startE, pv_left] at hfor q3 ⊢
    simp [lcLoop, src_ok, lineN, hfor, c1, hi, hms', q3]
end K
set_option Elab.async false
set_option linter.all false
set_option maxRecDepth 100000
namespace K
open Mi
variable {D : Nat → Option Def} {G : Nat → Option PV} {wf : Nat}
theorem pl_ok [Has D f_law_parts d_law_parts] [Has D f_law_count d_law_count] [Has D f_law_places d_law_places] {d : Nat} {t : T} (h : Ok six d t) (hd : d ≤ 60) (n : Nat) (S : Store) (hn : d + 4 ≤ n) : callN D G wf n f_law_places [t.pv] S = .ok (vC (t.cnt six)) S := by
  obtain ⟨m, rfl⟩ : ∃ m, n = m + 1 := ⟨n - 1, by omega⟩
  have h2 := count_ok (D := D) (G := G) (wf := wf) (Ls := six) (by decide) six_ok h hd m S (by omega)
  simp only [six, List.map_cons, List.map_nil] at h2
  rw [call_eq rfl]
  simp [d_law_places, b_law_places, startE, h2]
theorem pl_zero (t : T) (S : Store) : opC .eq (vC (t.cnt six)) (.int 0) S = .ok t.void S := by
  unfold T.void
  cases t.cnt six with
  | none => simp
  | some k => simp
theorem pl_nz (t : T) (S : Store) : opC .ne (vC (t.cnt six)) (.int 0) S = .ok (!t.void) S := by
  rw [opNe_eq, pl_zero]; rfl
/-- the letter at an address, as the law walks -/
theorem let_run {C : Cfg} {src : Src} (hc : src.cell = none) {S : Store} {e0 e1 : Option PV} : ∀ (a : List Nat) (w : T) (e3 : Option PV) (s : List Nat), w.go a = some (.ltr s) → ∃ f3, forLoop (denS C l_law_letter_1) (.one 3) src (nums a) [e0, e1, some w.pv, e3] S = .ok (.nx [e0, e1, some (vLet s), f3]) S
  | [], w, e3, s, h => ⟨e3, by
      have h : w = .ltr s := Option.some.inj h
      subst h
      rw [show nums [] = [] from rfl, for_nil hc]; simp⟩
  | n :: a, w, e3, s, h => by
    unfold T.go at h
    cases q : w.step n with
    | none => rw [q] at h; cases h
    | some u =>
      rw [q] at h
      have hb : denS C l_law_letter_1 [e0, e1, some w.pv, some (.int n)] S = .ok (.nx [e0, e1, some u.pv, some (.int n)]) S := by
        cases w with
        | emp => cases q
        | ltr s => cases q
        | join ts => simp [l_law_letter_1, at_join, map_get q]
        | times t k =>
          rw [step_times] at q
          split at q
          · cases q; simp [l_law_letter_1]
          · cases q
        | right t =>
          rw [step_right] at q
          split at q
          · cases q; simp [l_law_letter_1]
          · cases q
        | left t =>
          rw [step_left] at q
          split at q
          · cases q; simp [l_law_letter_1]
          · cases q
      rw [show nums (n :: a) = .int n :: nums a from rfl, for_nx hc rfl hb]
      exact let_run hc a u _ s h
theorem letter_ok [Has D f_law_letter d_law_letter] {t : T} {a : List Nat} {s : List Nat} (h : t.go a = some (.ltr s)) (n : Nat) (S : Store) : callN D G wf (n + 1) f_law_letter [t.pv, addr a] S = .ok (.str s) S := by
  obtain ⟨f3, e⟩ := let_run (C := ⟨callN D G wf n, G, wf⟩) (src := ⟨nums a, none⟩) rfl (S := S) (e0 := some t.pv) (e1 := some (addr a)) a t none s h
  have hA : addr a = PV.tup (nums a) := rfl
  rw [hA] at e ⊢
  obtain ⟨NN, hNN⟩ : ∃ NN, NN = nums a := ⟨_, rfl⟩
  rw [← hNN] at e ⊢
  rw [call_eq rfl]
  simp [d_law_letter, b_law_letter, startE, e]
theorem pt_ok [Has D f_part_at d_part_at] {w u : T} {i : Nat} (h : w.step i = some u) (n : Nat) (S : Store) : callN D G wf (n + 1) f_part_at [w.pv, .int i] S = .ok u.pv S := by
  rw [call_eq rfl]
  cases w with
  | emp => cases h
  | ltr s => cases h
  | join ts =>
    have hg := map_get h
    simp [d_part_at, b_part_at, startE, at_join, hg]
  | times t k =>
    rw [step_times] at h
    split at h
    · cases h; simp [d_part_at, b_part_at, startE]
    · cases h
  | right t =>
    rw [step_right] at h
    split at h
    · cases h; simp [d_part_at, b_part_at, startE]
    · cases h
  | left t =>
    rw [step_left] at h
    split at h
    · cases h; simp [d_part_at, b_part_at, startE]
    · cases h
/-- how many parts can be named -/
def chN : T → Nat
  | .join ts => ts.length
  | .times _ k => k
  | .right _ => 1000000000000000000000000000001
  | .left _ => 1000000000000000000000000000001
  | _ => 0
theorem step_lt {w u : T} {i : Nat} (h : w.step i = some u) : i < chN w := by
  cases w with
  | emp => cases h
  | ltr s => cases h
  | join ts => exact (List.getElem?_eq_some_iff.mp h).1
  | times t k =>
    rw [step_times] at h
    split at h
    · assumption
    · cases h
  | right t =>
    rw [step_right] at h
    split at h
    · show i < 1000000000000000000000000000001; omega
    · cases h
  | left t =>
    rw [step_left] at h
    split at h
    · show i < 1000000000000000000000000000001; omega
    · cases h
theorem ch_ok [Has D f_choices d_choices] [HM : HasG G g_MAX_COPIES (.int 1000000000000000000000000000000)] (w : T) (n : Nat) (S : Store) : callN D G wf (n + 1) f_choices [w.pv] S = .ok (.int (chN w)) S := by
  have hM := HM.h
  rw [call_eq rfl]
  cases w with
  | emp => simp [d_choices, b_choices, startE, chN]
  | ltr s => simp [d_choices, b_choices, startE, chN]
  | join ts => simp [d_choices, b_choices, startE, chN]
  | times t k => simp [d_choices, b_choices, startE, chN]
  | right t => simp [d_choices, b_choices, startE, chN, hM]
  | left t => simp [d_choices, b_choices, startE, chN, hM]
theorem lat_run [Has D f_choices d_choices] [Has D f_part_at d_part_at] [HM : HasG G g_MAX_COPIES (.int 1000000000000000000000000000000)] {m : Nat} {src : Src} (hc : src.cell = none) {S : Store} {e0 e1 : Option PV} : ∀ (a : List Nat) (w : T) (e3 : Option PV) (s : List Nat), w.go a = some (.ltr s) →
    ∃ f3, forLoop (denS ⟨callN D G wf (m + 1), G, wf⟩ l_letter_at_1) (.one 3) src (nums a) [e0, e1, some w.pv, e3] S = .ok (.nx [e0, e1, some (vLet s), f3]) S
  | [], w, e3, s, h => ⟨e3, by
      have h : w = .ltr s := Option.some.inj h
      subst h
      rw [show nums [] = [] from rfl, for_nil hc]; simp⟩
  | n :: a, w, e3, s, h => by
    unfold T.go at h
    cases q : w.step n with
    | none => rw [q] at h; cases h
    | some u =>
      rw [q] at h
      have hlt := step_lt q
      have hlt' : (n : Int) < (chN w : Int) := by omega
      have h0 : (0 : Int) ≤ (n : Int) := by omega
      have hb : denS ⟨callN D G wf (m + 1), G, wf⟩ l_letter_at_1 [e0, e1, some w.pv, some (.int n)] S = .ok (.nx [e0, e1, some u.pv, some (.int n)]) S := by
        have c1 := ch_ok (D := D) (G := G) (wf := wf) w m S
        have c2 := pt_ok (D := D) (G := G) (wf := wf) q m S
        obtain ⟨W, hW⟩ : ∃ W, W = w.pv := ⟨_, rfl⟩
        rw [← hW] at c1 c2 ⊢
        simp [l_letter_at_1, c1, c2, hlt]
      rw [show nums (n :: a) = .int n :: nums a from rfl, for_nx hc rfl hb]
      exact lat_run hc a u _ s h
theorem lat_ok [Has D f_choices d_choices] [Has D f_part_at d_part_at] [Has D f_letter_at d_letter_at] [HM : HasG G g_MAX_COPIES (.int 1000000000000000000000000000000)] {t : T} {a : List Nat} {s : List Nat} (h : t.go a = some (.ltr s)) (n : Nat) (S : Store) : callN D G wf (n + 2) f_letter_at [t.pv, addr a] S = .ok (.str s) S := by
  obtain ⟨f3, e⟩ := lat_run (D := D) (G := G) (wf := wf) (m := n) (src := ⟨nums a, none⟩) rfl (S := S) (e0 := some t.pv) (e1 := some (addr a)) a t none s h
  have hA : addr a = PV.tup (nums a) := rfl
  rw [hA] at e ⊢
  obtain ⟨NN, hNN⟩ : ∃ NN, NN = nums a := ⟨_, rfl⟩
  rw [← hNN] at e ⊢
  rw [call_eq rfl]
  simp [d_letter_at, b_letter_at, startE, e]
def fullAt (ts : List T) (k : Nat) : Bool := match ts[k]? with
  | some t => !t.void
  | none => false
def fulls (ts : List T) : List Nat := (List.range ts.length).filter (fullAt ts)
theorem fulls_ne {ts : List T} (h : (T.join ts).void = false) : fulls ts ≠ [] := by
  intro z
  rw [void_join] at h
  have : ts.all T.void = true := by
    rw [List.all_eq_true]
    intro t ht
    obtain ⟨k, hk, rfl⟩ := List.getElem_of_mem ht
    cases q : ts[k].void with
    | true => rfl
    | false =>
      have : k ∈ fulls ts := List.mem_filter.mpr ⟨List.mem_range.mpr hk, by unfold fullAt; simp [hk, q]⟩
      rw [z] at this; simp at this
  rw [this] at h; cases h
theorem fulls_in {ts : List T} {k : Nat} (h : k ∈ fulls ts) : ∃ t, ts[k]? = some t ∧ t.void = false := by
  have h := (List.mem_filter.mp h).2
  unfold fullAt at h
  cases q : ts[k]? with
  | none => rw [q] at h; cases h
  | some t => rw [q] at h; exact ⟨t, rfl, by simpa using h⟩
theorem fulls_len (ts : List T) : (fulls ts).length ≤ ts.length := by
  have := List.length_filter_le (fullAt ts) (List.range ts.length)
  rw [List.length_range] at this
  exact this
theorem full_run {C : Cfg} {S : Store} {ts : List T} {e0 e2 e4 e5 : Option PV} {src : Src} (hc : src.cell = none) (hv : ∀ t ∈ ts, C.call f_law_places [t.pv] S = .ok (vC (t.cnt six)) S) :
    lcLoop (denT C (.cons (.cmp .ne (.call f_law_places (.cons (.idx (.idx (.var 1) (.int 1)) (.var 3)) .nil)) (.int 0)) .nil)) (denE C (.var 3)) (.one 3) [e0, some (vJoin (ts.map T.pv)), e2, none, e4, e5] src (rangeL 0 (ts.length : Int)) [] S = .ok (nums (fulls ts)) S := by
  have hr : rangeL 0 (ts.length : Int) = (List.range ts.length).map fun k : Nat => PV.int (k : Int) := by unfold rangeL; simp
  rw [hr]
  have := lc_filterA (test := denT C (.cons (.cmp .ne (.call f_law_places (.cons (.idx (.idx (.var 1) (.int 1)) (.var 3)) .nil)) (.int 0)) .nil)) (elt := denE C (.var 3)) (tg := .one 3) (env := [e0, some (vJoin (ts.map T.pv)), e2, none, e4, e5]) (src := src) hc (S := S) (fun k : Nat => PV.int (k : Int)) (fun k : Nat => PV.int (k : Int)) (fullAt ts) (List.range ts.length) []
    (fun k hk => by
      have hk' := List.mem_range.mp hk
      have hg : (ts.map T.pv)[k]? = some ts[k].pv := by simp [hk']
      have hn : fullAt ts k = !ts[k].void := by unfold fullAt; simp [hk']
      refine ⟨_, rfl, ?_, fun _ => by simp⟩
      rw [hn]
      have hc := hv _ (List.getElem_mem hk')
      simp [at_join, hg, hc, -opNe_eq, pl_nz])
  rw [List.nil_append] at this
  exact this
theorem full_lc {C : Cfg} {S : Store} {ts : List T} (hl : ts.length ≤ 8) {e0 e2 e3 e4 e5 : Option PV} (hv : ∀ t ∈ ts, C.call f_law_places [t.pv] S = .ok (vC (t.cnt six)) S) :
    denE C (.lc false (.var 3) (.one 3) (.rng (.cons (.bi .len (.cons (.idx (.var 1) (.int 1)) .nil)) .nil)) (.cons (.cmp .ne (.call f_law_places (.cons (.idx (.idx (.var 1) (.int 1)) (.var 3)) .nil)) (.int 0)) .nil) [3]) [e0, some (vJoin (ts.map T.pv)), e2, e3, e4, e5] S = .ok (.lst (nums (fulls ts))) S := by
  have hA : denA C (.cons (.bi .len (.cons (.idx (.var 1) (.int 1)) .nil)) .nil) [e0, some (vJoin (ts.map T.pv)), e2, e3, e4, e5] S = .ok [.int (ts.length : Int)] S := by simp
  have hI : denI C (.rng (.cons (.bi .len (.cons (.idx (.var 1) (.int 1)) .nil)) .nil)) [e0, some (vJoin (ts.map T.pv)), e2, e3, e4, e5] S = .ok ⟨rangeL 0 (ts.length : Int), none⟩ S := by
    rw [ev_rng, hA, bnd_ok]; exact rng_len (by omega)
  have hw : wipeE [e0, some (vJoin (ts.map T.pv)), e2, e3, e4, e5] [3] = [e0, some (vJoin (ts.map T.pv)), e2, none, e4, e5] := rfl
  rw [ev_lc, hI, bnd_ok, hw, full_run rfl hv, bnd_ok, newL_f]
@[simp] theorem opAdd_tt (S : Store) (xs ys : List PV) : opB .add (.tup xs) (.tup ys) S = if xs.length + ys.length ≤ lineN then .ok (.tup (xs ++ ys)) S else .stuck := by simp [opB, opAdd]
@[simp] theorem opMin2 (S : Store) (i j : Int) : opBi .min [.int i, .int j] S = .ok (.int (if j < i then j else i)) S := rfl
/-- the number of a copy, drawn -/
theorem num_dr [Has D f_law_draw d_law_draw] [Has D f_law_pick d_law_pick] {n r B : Nat} {S : Store} {K : Nat} (hK : 0 < K) (hK2 : K ≤ 1000000000000000000000000000001) (hr : RngAt B r S) (hB : B ≤ 2 ^ 90) :
    ∃ (i j x : Nat) (S1 S2 S3 : Store), callN D G wf (n + 2) f_law_draw [.ref r, .int (if (6 : Int) < (K : Int) then 6 else (K : Int))] S = .ok (.int i) S1 ∧ callN D G wf (n + 2) f_law_draw [.ref r, .int K] S1 = .ok (.int j) S2 ∧
      callN D G wf (n + 2) f_law_pick [.ref r, .lst [.int 0, .int ((K : Int) - 1), .int i, .int j]] S2 = .ok (.int x) S3 ∧ x < K ∧ Keep [r] S S3 ∧ RngAt (B + 3) r S3 := by
  obtain ⟨i, S1, e1, hi, hi2, k1, l1, g1⟩ := draw_ok (D := D) (G := G) (wf := wf) (n := n + 1) hr (by omega) (m := if (6 : Int) < (K : Int) then 6 else (K : Int)) (by split <;> omega) (by split <;> omega)
  obtain ⟨j, S2, e2, hj, hj2, k2, l2, g2⟩ := draw_ok (D := D) (G := G) (wf := wf) (n := n + 1) g1 (by omega) (m := (K : Int)) (by omega) (by omega)
  obtain ⟨x, S3, e3, hx, k3, l3, g3⟩ := pick_ok (D := D) (G := G) (wf := wf) (n := n) (xs := [.int 0, .int ((K : Int) - 1), .int i, .int j]) g2 (by omega) (by simp) (by simp)
  have hi3 : i < K := by split at hi2 <;> omega
  obtain ⟨ni, rfl⟩ : ∃ ni : Nat, i = ni := ⟨i.toNat, by omega⟩
  obtain ⟨nj, rfl⟩ : ∃ nj : Nat, j = nj := ⟨j.toNat, by omega⟩
  have : ∃ y : Nat, x = .int y ∧ y < K := by
    simp only [List.mem_cons, List.not_mem_nil, or_false] at hx
    rcases hx with rfl | rfl | rfl | rfl
    · exact ⟨0, rfl, hK⟩
    · exact ⟨K - 1, by congr 1; omega, by omega⟩
    · exact ⟨ni, rfl, by omega⟩
    · exact ⟨nj, rfl, by omega⟩
  obtain ⟨y, rfl, hy⟩ := this
  exact ⟨ni, nj, y, S1, S2, S3, e1, e2, e3, hy, (k1.trans k2).trans k3, g3⟩
theorem spot_dr [Has D f_law_draw d_law_draw] [Has D f_law_pick d_law_pick] [Has D f_law_parts d_law_parts] [Has D f_law_count d_law_count] [Has D f_law_places d_law_places] [Has D f_law_spot d_law_spot] {d : Nat} {t : T} (h : Ok six d t) : d ≤ 20 → ∀ {n r B : Nat} {S : Store}, d + 6 ≤ n → RngAt B r S → B + 5 * d ≤ 2 ^ 90 →
    ∃ (o : Option (List Nat)) (S' : Store), callN D G wf n f_law_spot [.ref r, t.pv] S = .ok (oaddr o) S' ∧ (t.void = true → o = none) ∧ (t.void = false → ∃ a, o = some a ∧ Val t a ∧ a.length ≤ d) ∧ Keep [r] S S' ∧ RngAt (B + 5 * d) r S' := by
  induction h with
  | emp d =>
    intro hd n r B S hn hr hB
    obtain ⟨m, rfl⟩ : ∃ m, n = m + 1 := ⟨n - 1, by omega⟩
    have h1 := pl_ok (D := D) (G := G) (wf := wf) (Ok.emp (L := six) d) (by omega) m S (by omega)
    simp only [pv_emp, cnt_emp, vC_some] at h1
    refine ⟨none, S, ?_, fun _ => rfl, (fun z => by rw [void_emp] at z; cases z), .refl _ _, hr.mono (by omega)⟩
    rw [call_eq rfl]; simp [d_law_spot, b_law_spot, startE, h1]
  | ltr d s h =>
    intro hd n r B S hn hr hB
    obtain ⟨m, rfl⟩ : ∃ m, n = m + 1 := ⟨n - 1, by omega⟩
    refine ⟨some [], S, ?_, (fun z => by rw [void_ltr h] at z; cases z), fun _ => ⟨[], rfl, ⟨s, rfl⟩, by simp⟩, .refl _ _, hr.mono (by omega)⟩
    rw [call_eq rfl]; simp [d_law_spot, b_law_spot, startE]
  | join d ts hl h ih =>
    intro hd n r B S hn hr hB
    obtain ⟨m, rfl⟩ : ∃ m, n = m + 3 := ⟨n - 3, by omega⟩
    have hO : Ok six (d + 1) (.join ts) := .join _ _ hl h
    have h1 := pl_ok (D := D) (G := G) (wf := wf) hO (by omega) (m + 2) S (by omega)
    have h2 := pl_zero (.join ts) S
    obtain ⟨c, hc⟩ : ∃ c, c = (T.join ts).cnt six := ⟨_, rfl⟩
    rw [← hc] at h1 h2
    rw [pv_join] at h1 ⊢
    cases hvd : (T.join ts).void with
    | true =>
      rw [hvd] at h2
      refine ⟨none, S, ?_, fun _ => rfl, (fun z => by cases z), .refl _ _, hr.mono (by omega)⟩
      rw [call_eq rfl]; simp [d_law_spot, b_law_spot, startE, h1, h2]
    | false =>
      rw [hvd] at h2
      have hfl := full_lc (C := ⟨callN D G wf (m + 2), G, wf⟩) (S := S) (ts := ts) hl (e0 := some (.ref r)) (e2 := none) (e3 := none) (e4 := none) (e5 := none) (fun t ht => pl_ok (h t ht) (by omega) _ _ (by omega))
      have hlen := fulls_len ts
      obtain ⟨x, S1, q1, hx, k1, l1, g1⟩ := pick_ok (D := D) (G := G) (wf := wf) (n := m) (xs := nums (fulls ts)) hr (by omega) (by
        intro z
        have := List.map_eq_nil_iff.mp z
        exact fulls_ne hvd this) (by rw [List.length_map]; omega)
      obtain ⟨k, hk, rfl⟩ := List.mem_map.mp hx
      obtain ⟨u, hu, huv⟩ := fulls_in hk
      obtain ⟨o, S2, q2, _, ho, k2, g2⟩ := ih u (List.mem_of_getElem? hu) (by omega) (n := m + 2) (by omega) g1 (by omega)
      obtain ⟨a, rfl, hva, hal⟩ := ho huv
      have hz : 1 + a.length ≤ lineN := by unfold lineN; omega
      have hg := map_get hu
      refine ⟨some (k :: a), S2, ?_, (fun z => by cases z), fun _ => ⟨_, rfl, Val.mk (u := u) hu hva, by simp; omega⟩, k1.trans k2, g2.mono (by omega)⟩
      obtain ⟨NN, hNN⟩ : ∃ NN, NN = nums (fulls ts) := ⟨_, rfl⟩
      rw [← hNN] at hfl q1
      simp only [oaddr_some] at q2
      rw [call_eq rfl]
      simp [d_law_spot, b_law_spot, startE, h1, h2, -ev_lc, hfl, q1, at_join, hg, q2, hz]
  | times d t k h1 h ih =>
    intro hd n r B S hn hr hB
    obtain ⟨m, rfl⟩ : ∃ m, n = m + 3 := ⟨n - 3, by omega⟩
    have hO : Ok six (d + 1) (T.times t k) := .times _ _ _ h1 h
    have g1 := pl_ok (D := D) (G := G) (wf := wf) hO (by omega) (m + 2) S (by omega)
    have g2 := pl_zero (T.times t k) S
    obtain ⟨c, hc⟩ : ∃ c, c = (T.times t k).cnt six := ⟨_, rfl⟩
    rw [← hc] at g1 g2
    rw [pv_times] at g1 ⊢
    cases hvd : (T.times t k).void with
    | true =>
      rw [hvd] at g2
      refine ⟨none, S, ?_, fun _ => rfl, (fun z => by cases z), .refl _ _, hr.mono (by omega)⟩
      rw [call_eq rfl]; simp [d_law_spot, b_law_spot, startE, g1, g2]
    | false =>
      rw [hvd] at g2
      have hk0 : 0 < k := by
        rcases Nat.eq_zero_or_pos k with e | e
        · rw [void_times, e] at hvd; simp at hvd
        · exact e
      have htv : t.void = false := by
        rw [void_times] at hvd
        simp at hvd
        exact hvd.2
      obtain ⟨i, j, x, S1, S2, S3, e1, e2, e3, hx, k3, r3⟩ := num_dr (D := D) (G := G) (wf := wf) (n := m) (K := k) hk0 (by omega) hr (by omega)
      obtain ⟨o, S4, q4, _, ho, k4, r4⟩ := ih (by omega) (n := m + 2) (by omega) r3 (by omega)
      obtain ⟨a, rfl, hva, hal⟩ := ho htv
      have hz : 1 + a.length ≤ lineN := by unfold lineN; omega
      refine ⟨some (x :: a), S4, ?_, (fun z => by cases z), fun _ => ⟨_, rfl, Val.mk (u := t) (by rw [step_times, if_pos hx]) hva, by simp; omega⟩, k3.trans k4, r4.mono (by omega)⟩
      simp only [oaddr_some] at q4
      try simp at e1
      try simp at e2
      try simp at e3
      rw [call_eq rfl]
      simp [d_law_spot, b_law_spot, startE, g1, g2, e1, e2, e3, q4, hz]
  | right d t h ih =>
    intro hd n r B S hn hr hB
    obtain ⟨m, rfl⟩ : ∃ m, n = m + 3 := ⟨n - 3, by omega⟩
    have hO : Ok six (d + 1) (T.right t) := .right _ _ h
    have g1 := pl_ok (D := D) (G := G) (wf := wf) hO (by omega) (m + 2) S (by omega)
    have g2 := pl_zero (T.right t) S
    obtain ⟨c, hc⟩ : ∃ c, c = (T.right t).cnt six := ⟨_, rfl⟩
    rw [← hc] at g1 g2
    rw [pv_right] at g1 ⊢
    cases hvd : (T.right t).void with
    | true =>
      rw [hvd] at g2
      refine ⟨none, S, ?_, fun _ => rfl, (fun z => by cases z), .refl _ _, hr.mono (by omega)⟩
      rw [call_eq rfl]; simp [d_law_spot, b_law_spot, startE, g1, g2]
    | false =>
      rw [hvd] at g2
      have htv : t.void = false := by rw [void_right] at hvd; exact hvd
      obtain ⟨i, j, x, S1, S2, S3, e1, e2, e3, hx, k3, r3⟩ := num_dr (D := D) (G := G) (wf := wf) (n := m) (K := 1000000000000000000000000000001) (by omega) (by omega) hr (by omega)
      obtain ⟨o, S4, q4, _, ho, k4, r4⟩ := ih (by omega) (n := m + 2) (by omega) r3 (by omega)
      obtain ⟨a, rfl, hva, hal⟩ := ho htv
      have hz : 1 + a.length ≤ lineN := by unfold lineN; omega
      refine ⟨some (x :: a), S4, ?_, (fun z => by cases z), fun _ => ⟨_, rfl, Val.mk (u := t) (by rw [step_right, if_pos (by omega)]) hva, by simp; omega⟩, k3.trans k4, r4.mono (by omega)⟩
      simp only [oaddr_some] at q4
      try simp at e1
      try simp at e2
      try simp at e3
      rw [call_eq rfl]
      simp [d_law_spot, b_law_spot, startE, g1, g2, e1, e2, e3, q4, hz]
  | left d t h ih =>
    intro hd n r B S hn hr hB
    obtain ⟨m, rfl⟩ : ∃ m, n = m + 3 := ⟨n - 3, by omega⟩
    have hO : Ok six (d + 1) (T.left t) := .left _ _ h
    have g1 := pl_ok (D := D) (G := G) (wf := wf) hO (by omega) (m + 2) S (by omega)
    have g2 := pl_zero (T.left t) S
    obtain ⟨c, hc⟩ : ∃ c, c = (T.left t).cnt six := ⟨_, rfl⟩
    rw [← hc] at g1 g2
    rw [pv_left] at g1 ⊢
    cases hvd : (T.left t).void with
    | true =>
      rw [hvd] at g2
      refine ⟨none, S, ?_, fun _ => rfl, (fun z => by cases z), .refl _ _, hr.mono (by omega)⟩
      rw [call_eq rfl]; simp [d_law_spot, b_law_spot, startE, g1, g2]
    | false =>
      rw [hvd] at g2
      have htv : t.void = false := by rw [void_left] at hvd; exact hvd
      obtain ⟨i, j, x, S1, S2, S3, e1, e2, e3, hx, k3, r3⟩ := num_dr (D := D) (G := G) (wf := wf) (n := m) (K := 1000000000000000000000000000001) (by omega) (by omega) hr (by omega)
      obtain ⟨o, S4, q4, _, ho, k4, r4⟩ := ih (by omega) (n := m + 2) (by omega) r3 (by omega)
      obtain ⟨a, rfl, hva, hal⟩ := ho htv
      have hz : 1 + a.length ≤ lineN := by unfold lineN; omega
      refine ⟨some (x :: a), S4, ?_, (fun z => by cases z), fun _ => ⟨_, rfl, Val.mk (u := t) (by rw [step_left, if_pos (by omega)]) hva, by simp; omega⟩, k3.trans k4, r4.mono (by omega)⟩
      simp only [oaddr_some] at q4
      try simp at e1
      try simp at e2
      try simp at e3
      rw [call_eq rfl]
      simp [d_law_spot, b_law_spot, startE, g1, g2, e1, e2, e3, q4, hz]
end K
set_option Elab.async false
set_option linter.all false
set_option maxRecDepth 100000
namespace K
open Mi
variable {D : Nat → Option Def} {G : Nat → Option PV} {wf : Nat}
def xAddr : List Nat := [73, 110, 118, 97, 108, 105, 100, 65, 100, 100, 114, 101, 115, 115]
def TabAt (p : Nat) (S : Store) : Prop := S[0]? = some (.tab p lamQ)
theorem tabB_ok {p : Nat} {S : Store} (h : TabAt p S) : tabB (some (.int p)) S[0]? = true := by
  unfold TabAt at h
  rw [h]; simp [tabB]
theorem try_ok {p : Nat} {S S' : Store} {m : M PV} {v : PV} (h : TabAt p S) (hm : m S = .ok v S') : tryM (some (.int p)) m S = .ok (.tup [.str [118, 97, 108, 117, 101], v]) S' := by
  unfold tryM
  rw [tabB_ok h, hm]; rfl
theorem try_exc {p : Nat} {S S' : Store} {m : M PV} {x : Exc} {v : PV} (h : TabAt p S) (hm : m S = .exc x S') (hv : excOut x = some v) : tryM (some (.int p)) m S = .ok v S' := by
  unfold tryM
  rw [tabB_ok h, hm]
  show ofO (excOut x) S' = _
  rw [hv]; rfl
theorem out_addr : excOut ⟨2, []⟩ = some (.tup [.str xAddr, .non]) := rfl
theorem TabAt.keep {p r : Nat} {S S' : Store} (h : TabAt p S) (k : Keep [r] S S') (hr : r ≠ 0) : TabAt p S' := k.at h (by simpa using fun e => hr e.symm)
theorem TabAt.keep0 {p : Nat} {S S' : Store} (h : TabAt p S) (k : Keep [] S S') : TabAt p S' := k.at h (by simp)
theorem for_exc {body : Env → M Fl} {tg : Tg} {src : Src} (hc : src.cell = none) {x : PV} {xs : List PV} {env e1 : Env} {S S' : Store} {z : Exc} (hb : bindT tg x env = some e1) (hr : body e1 S = .exc z S') : forLoop body tg src (x :: xs) env S = .exc z S' := by
  unfold forLoop
  simp only [src_ok hc, if_true, hb]
  show bnd (body e1 S) _ = _
  rw [hr]; rfl
def intsA (b : List Int) : List PV := b.map PV.int
def T.stepI (t : T) (i : Int) : Option T := if 0 ≤ i then t.step i.toNat else none
def T.goI : T → List Int → Option T
  | t, [] => some t
  | t, i :: b => (t.stepI i).bind fun u => u.goI b
def Bad (t : T) (b : List Int) : Prop := ∀ s, t.goI b ≠ some (.ltr s)
theorem lt_step {w : T} {i : Nat} (h : i < chN w) : ∃ u, w.step i = some u := by
  cases w with
  | emp => exact absurd h (Nat.not_lt_zero _)
  | ltr s => exact absurd h (Nat.not_lt_zero _)
  | join ts => exact ⟨ts[i]'h, List.getElem?_eq_getElem h⟩
  | times t k => exact ⟨t, by rw [step_times]; exact if_pos h⟩
  | right t => exact ⟨t, by rw [step_right]; exact if_pos (by have : i < 1000000000000000000000000000001 := h; omega)⟩
  | left t => exact ⟨t, by rw [step_left]; exact if_pos (by have : i < 1000000000000000000000000000001 := h; omega)⟩
theorem stepI_none {w : T} {i : Int} (h : w.stepI i = none) : ¬ (0 ≤ i ∧ i < (chN w : Int)) := by
  intro ⟨h0, h1⟩
  unfold T.stepI at h
  rw [if_pos h0] at h
  obtain ⟨u, hu⟩ := lt_step (w := w) (i := i.toNat) (by omega)
  rw [hu] at h; cases h
theorem stepI_some {w u : T} {i : Int} (h : w.stepI i = some u) : 0 ≤ i ∧ i < (chN w : Int) ∧ w.step i.toNat = some u := by
  unfold T.stepI at h
  split at h
  · rename_i h0
    have := step_lt h
    exact ⟨h0, by omega, h⟩
  · cases h
theorem lat_bad [Has D f_choices d_choices] [Has D f_part_at d_part_at] [HM : HasG G g_MAX_COPIES (.int 1000000000000000000000000000000)] {m : Nat} {src : Src} (hc : src.cell = none) {S : Store} {e0 e1 : Option PV} : ∀ (b : List Int) (w : T) (e3 : Option PV), Bad w b →
    forLoop (denS ⟨callN D G wf (m + 1), G, wf⟩ l_letter_at_1) (.one 3) src (intsA b) [e0, e1, some w.pv, e3] S = .exc ⟨2, []⟩ S ∨
      ∃ (u : T) (f3 : Option PV), forLoop (denS ⟨callN D G wf (m + 1), G, wf⟩ l_letter_at_1) (.one 3) src (intsA b) [e0, e1, some w.pv, e3] S = .ok (.nx [e0, e1, some u.pv, f3]) S ∧ ∀ s, u ≠ .ltr s
  | [], w, e3, h => .inr ⟨w, e3, by rw [show intsA [] = [] from rfl, for_nil hc], fun s e => h s (by rw [e]; rfl)⟩
  | i :: b, w, e3, h => by
    have c1 := ch_ok (D := D) (G := G) (wf := wf) w m S
    cases q : w.stepI i with
    | none =>
      have hn := stepI_none q
      refine .inl ?_
      rw [show intsA (i :: b) = .int i :: intsA b from rfl]
      refine for_exc hc rfl ?_
      obtain ⟨W, hW⟩ : ∃ W, W = w.pv := ⟨_, rfl⟩
      rw [← hW] at c1 ⊢
      by_cases h0 : 0 ≤ i
      · have h1 : ¬ i < (chN w : Int) := fun z => hn ⟨h0, z⟩
        simp [l_letter_at_1, c1, h0, h1]
      · simp [l_letter_at_1, c1, h0]
    | some u =>
      obtain ⟨h0, h1, h2⟩ := stepI_some q
      have hb : denS ⟨callN D G wf (m + 1), G, wf⟩ l_letter_at_1 [e0, e1, some w.pv, some (.int i)] S = .ok (.nx [e0, e1, some u.pv, some (.int i)]) S := by
        have c2 := pt_ok (D := D) (G := G) (wf := wf) h2 m S
        have hi : ((i.toNat : Nat) : Int) = i := by omega
        rw [hi] at c2
        obtain ⟨W, hW⟩ : ∃ W, W = w.pv := ⟨_, rfl⟩
        rw [← hW] at c1 c2 ⊢
        simp [l_letter_at_1, c1, c2, h0, h1]
      rw [show intsA (i :: b) = .int i :: intsA b from rfl, for_nx hc rfl hb]
      exact lat_bad hc b u _ fun s e => h s (by rw [T.goI, q]; exact e)
/-- the first sign of a tree -/
theorem not_let {u : T} (h : ∀ s, u ≠ .ltr s) (S : Store) : ∃ k xs, u.pv = .tup (.str k :: xs) ∧ opC .ne (.str k) (.str [108, 101, 116, 116, 101, 114]) S = .ok true S := by
  cases u with
  | emp => exact ⟨_, _, pv_emp, by simp⟩
  | ltr s => exact absurd rfl (h s)
  | join ts => exact ⟨_, _, pv_join ts, by simp⟩
  | times t k => exact ⟨_, _, pv_times t k, by simp⟩
  | right t => exact ⟨_, _, pv_right t, by simp⟩
  | left t => exact ⟨_, _, pv_left t, by simp⟩
theorem lat_no [Has D f_choices d_choices] [Has D f_part_at d_part_at] [Has D f_letter_at d_letter_at] [HM : HasG G g_MAX_COPIES (.int 1000000000000000000000000000000)] {t : T} {b : List Int} (h : Bad t b) (n : Nat) (S : Store) : callN D G wf (n + 2) f_letter_at [t.pv, .tup (intsA b)] S = .exc ⟨2, []⟩ S := by
  rw [call_eq rfl]
  have := lat_bad (D := D) (G := G) (wf := wf) (m := n) (src := ⟨intsA b, none⟩) rfl (S := S) (e0 := some t.pv) (e1 := some (.tup (intsA b))) b t none h
  obtain ⟨NN, hNN⟩ : ∃ NN, NN = intsA b := ⟨_, rfl⟩
  rw [← hNN] at this ⊢
  rcases this with e | ⟨u, f3, e, hu⟩
  · simp [d_letter_at, b_letter_at, startE, e]
  · obtain ⟨k, xs, hk, hn⟩ := not_let hu S
    rw [hk] at e
    rw [opNe_eq] at hn
    simp only [d_letter_at, b_letter_at, startE]
    simp [e, -opEq_str, hn]
theorem cut_no [Has D f_choices d_choices] [Has D f_part_at d_part_at] [Has D f_letter_at d_letter_at] [Has D f_cut d_cut] [HM : HasG G g_MAX_COPIES (.int 1000000000000000000000000000000)] {t : T} {b : List Int} (h : Bad t b) (n : Nat) (S : Store) : callN D G wf (n + 3) f_cut [t.pv, .tup (intsA b)] S = .exc ⟨2, []⟩ S := by
  have h1 := lat_no (D := D) (G := G) (wf := wf) h n S
  rw [call_eq rfl]
  simp [d_cut, b_cut, startE, h1]
end K
set_option Elab.async false
set_option linter.all false
set_option maxRecDepth 100000
namespace K
open Mi
variable {D : Nat → Option Def} {G : Nat → Option PV} {wf : Nat}
section
variable {test : Env → M Bool} {body : Env → M Fl} {k : Nat} {env e' : Env} {S S' S'' : Store}
theorem wh_stop (h : test env S = .ok false S') : whileLoop test body (k + 1) env S = .ok (.nx env) S' := by
  simp only [whileLoop, M.bind, h]
  rfl
theorem wh_go (h : test env S = .ok true S') (hb : body env S' = .ok (.nx e') S'') : whileLoop test body (k + 1) env S = whileLoop test body k e' S'' := by
  simp only [whileLoop, M.bind, h, if_true, hb]
theorem wh_exc {x : Exc} (h : test env S = .ok true S') (hb : body env S' = .exc x S'') : whileLoop test body (k + 1) env S = .exc x S'' := by
  simp only [whileLoop, M.bind, h, if_true, hb]
end
inductive W where
  | emp | ltr (c : Nat) | name (s : List Nat) | join (ts : List W) | times (t : W) (n : Nat) | right (t : W) | left (t : W)
mutual
def W.pv : W → PV
  | .emp => vEmp
  | .ltr c => vLet [c]
  | .name s => .tup [.str [110, 97, 109, 101], .str s]
  | .join ts => vJoin (W.pvs ts)
  | .times t n => vTimes t.pv n
  | .right t => vRight t.pv
  | .left t => vLeft t.pv
def W.pvs : List W → List PV
  | [] => []
  | t :: ts => t.pv :: W.pvs ts
end
theorem W.pvs_map : ∀ ts : List W, W.pvs ts = ts.map W.pv
  | [] => by simp [W.pvs]
  | t :: ts => by simp [W.pvs, W.pvs_map ts]
mutual
def W.depth : W → Nat
  | .emp => 1
  | .ltr _ => 1
  | .name _ => 1
  | .join ts => 1 + W.deps ts
  | .times t _ => 1 + t.depth
  | .right t => 1 + t.depth
  | .left t => 1 + t.depth
def W.deps : List W → Nat
  | [] => 0
  | t :: ts => max t.depth (W.deps ts)
end
/-- read, or the error: InvalidText with a position, TooLarge with a limit -/
inductive Rs (α : Type) where
  | ok (a : α) | bad (p : Nat) | big (n : Nat)
def Rs.bind {α β : Type} : Rs α → (α → Rs β) → Rs β
  | .ok a, f => f a
  | .bad p, _ => .bad p
  | .big n, _ => .big n
def isSm (c : Nat) : Bool := decide (97 ≤ c) && decide (c ≤ 122)
def isLtr (c : Nat) : Bool := decide (97 ≤ c) && decide (c ≤ 99)
def isSuf (c : Nat) : Bool := c == 62 || (c == 60 || c == 94)
def nmEnd (x : List Nat) (at0 : Nat) : Nat → Nat → Nat
  | 0, e => e
  | k + 1, e => match x[e]? with
    | some c => if isSm c && decide (e ≤ at0 + 8) then nmEnd x at0 k (e + 1) else e
    | none => e
def readName (x : List Nat) (at0 : Nat) : Rs (W × Nat) :=
  let e := nmEnd x at0 20 (at0 + 1)
  if e = at0 + 1 then .bad e else if x[e]? = some 125 then .ok (.name ((x.drop (at0 + 1)).take (e - (at0 + 1))), e + 1) else .bad e
def dgEnd (x : List Nat) : Nat → Nat → Nat
  | 0, e => e
  | k + 1, e => match x[e]? with
    | some c => if isDg c then dgEnd x k (e + 1) else e
    | none => e
def numOk (s : List Nat) : Bool := !(s.isEmpty || (decide (31 < s.length) || ((s.head? == some 48 && !(s == [48])) || decide (1000000000000000000000000000000 < dgV s))))
def digs (x : List Nat) (at0 : Nat) : List Nat := (x.drop at0).take (dgEnd x x.length at0 - at0)
def readNum (x : List Nat) (at0 : Nat) : Rs (Nat × Nat) := if numOk (digs x at0) then .ok (dgV (digs x at0), dgEnd x x.length at0) else .bad at0
def readSuf (x : List Nat) (at0 : Nat) (w : W) : Rs (W × Nat) := if x[at0]? = some 94 then (readNum x (at0 + 1)).bind fun r => .ok (.times w r.1, r.2) else .ok (if x[at0]? = some 62 then .right w else .left w, at0 + 1)
def sufs (x : List Nat) : Nat → Nat → W → Rs (W × Nat)
  | 0, at0, w => .ok (w, at0)
  | k + 1, at0, w => match x[at0]? with
    | some c => if isSuf c then (readSuf x at0 w).bind fun r => sufs x k r.2 r.1 else .ok (w, at0)
    | none => .ok (w, at0)
def items (atomF : Nat → Rs (W × Nat)) (x : List Nat) : Nat → Nat → List W → Rs (List W × Nat)
  | 0, at0, acc => .ok (acc, at0)
  | k + 1, at0, acc => match x[at0]? with
    | some c => if c = 41 then .ok (acc, at0) else (atomF at0).bind fun r => (sufs x (x.length + 1) r.2 r.1).bind fun q => items atomF x k q.2 (acc ++ [q.1])
    | none => .ok (acc, at0)
def mkW : List W → W
  | [] => .emp
  | [w] => w
  | w :: v :: r => .join (w :: v :: r)
def atomD (x : List Nat) : Nat → Nat → Nat → Rs (W × Nat)
  | 0, at0, _ => .bad at0
  | d + 1, at0, o => match x[at0]? with
    | some c => if isLtr c then .ok (.ltr c, at0 + 1) else if c = 123 then readName x at0 else if c = 40 then (if o = 8 then .big 8 else
        (items (fun a => atomD x d a (o + 1)) x (x.length + 1) (at0 + 1) []).bind fun r => if r.2 = x.length then .bad r.2 else .ok (mkW r.1, r.2 + 1)) else .bad at0
    | none => .bad at0
def itemsD (x : List Nat) (d at0 o : Nat) : Rs (List W × Nat) := items (fun a => atomD x d a o) x (x.length + 1) at0 []
def parseW (x : List Nat) : Rs W := if 200 < x.length then .big 200 else (itemsD x 9 0 0).bind fun r => if r.2 < x.length then .bad r.2 else if 12 < (mkW r.1).depth then .big 12 else .ok (mkW r.1)
def smL : List Nat := [97, 98, 99, 100, 101, 102, 103, 104, 105, 106, 107, 108, 109, 110, 111, 112, 113, 114, 115, 116, 117, 118, 119, 120, 121, 122]
def dgL : List Nat := [48, 49, 50, 51, 52, 53, 54, 55, 56, 57]
def ltL : List Nat := [97, 98, 99]
theorem in_small (c : Nat) : decide (c ∈ smL) = isSm c := by
  unfold isSm smL
  rw [Bool.eq_iff_iff]
  simp
  omega
theorem in_digits (c : Nat) : decide (c ∈ dgL) = isDg c := by
  unfold isDg dgL
  rw [Bool.eq_iff_iff]
  simp
  omega
theorem in_abc (c : Nat) : decide (c ∈ ltL) = isLtr c := by
  unfold isLtr ltL
  rw [Bool.eq_iff_iff]
  simp
  omega
theorem in_suf (c : Nat) : decide (c ∈ [62, 60, 94]) = isSuf c := by
  unfold isSuf
  rw [Bool.eq_iff_iff]
  simp
theorem ix_str {x : List Nat} {n c : Nat} (h : x[n]? = some c) (S : Store) : opIx (.str x) (.int (n : Int)) S = .ok (.str [c]) S := by
  show bnd (ofO (atI x (n : Int)) S) (fun c S => R.ok (PV.str [c]) S) = _
  rw [atI_nat, h]; rfl
@[simp] theorem opIn_ss (S : Store) (c : Nat) (y : List Nat) : opC .isin (.str [c]) (.str y) S = .ok (decide (c ∈ y)) S := rfl
@[simp] theorem opLen_str (S : Store) (x : List Nat) : opBi .len [.str x] S = .ok (.int x.length) S := rfl
@[simp] theorem opSl_str (S : Store) (x : List Nat) (lo hi : Option Int) : opSl (.str x) lo hi S = .ok (.str (Mi.cut x lo hi)) S := rfl
theorem cut_mid {α : Type} (xs : List α) (i j : Nat) (hi : i ≤ j) : Mi.cut xs (some (i : Int)) (some (j : Int)) = (xs.drop i).take (j - i) := by
  have hj : ¬ ((j : Int) < 0) := by omega
  have hi' : ¬ ((i : Int) < 0) := by omega
  simp only [Mi.cut, sIx, if_neg hj, if_neg hi', Int.toNat_natCast]
  rcases Nat.le_total j xs.length with h | h
  · rw [Nat.min_eq_left h, Nat.min_eq_left (by omega)]
  · rw [Nat.min_eq_right h]
    rcases Nat.le_total i xs.length with g | g
    · rw [Nat.min_eq_left g]
      rw [List.take_of_length_le (by simp), List.take_of_length_le (by simp; omega)]
    · rw [Nat.min_eq_right g, List.drop_of_length_le (Nat.le_refl _), List.drop_of_length_le g]
      simp
/-- the constants that reading leans on -/
class RdG (G : Nat → Option PV) : Prop where
  sm : G g_SMALL = some (.str smL)
  dg : G g_DIGITS = some (.str dgL)
  lt : G g_LETTERS = some (.str ltL)
  mn : G g_MAX_NAME = some (.int 8)
  mo : G g_MAX_OPEN = some (.int 8)
  md : G g_MAX_DEPTH = some (.int 12)
  mt : G g_MAX_TEXT_k05 = some (.int 200)
  mc : G g_MAX_COPIES = some (.int 1000000000000000000000000000000)
  em : G g_EMPTY = some vEmp
theorem nm_run {C : Cfg} (h1 : C.glb g_SMALL = some (.str smL)) (h2 : C.glb g_MAX_NAME = some (.int 8)) {x : List Nat} {at0 : Nat} {S : Store} :
    ∀ (k kw e : Nat), at0 + 10 ≤ e + k → at0 + 10 ≤ e + kw → e ≤ at0 + 9 →
    whileLoop (fun env => M.bind (denE C (.and (.cmp .lt (.var 2) (.bi .len (.cons (.var 0) .nil))) (.and (.cmp .isin (.idx (.var 0) (.var 2)) (.glb g_SMALL)) (.cmp .le (.bin .sub (.var 2) (.var 1)) (.glb g_MAX_NAME)))) env) ofBl) (denS C (.seq (.aug 2 .add (.int 1)) .skip)) kw [some (.str x), some (.int at0), some (.int e)] S = .ok (.nx [some (.str x), some (.int at0), some (.int (nmEnd x at0 k e))]) S
  | 0, kw, e, hk, hw, he => by omega
  | k + 1, 0, e, hk, hw, he => by omega
  | k + 1, kw + 1, e, hk, hw, he => by
    cases q : x[e]? with
    | none =>
      have hl : ¬ e < x.length := fun z => by rw [List.getElem?_eq_getElem z] at q; cases q
      have hl' : ¬ (e : Int) < x.length := by omega
      rw [wh_stop (S' := S) (by simp [hl])]
      simp [nmEnd, q]
    | some c =>
      have hl : e < x.length := (List.getElem?_eq_some_iff.mp q).1
      have ix := ix_str q S
      cases hs : isSm c with
      | false =>
        rw [wh_stop (S' := S) (by simp [hl, ix, h1, in_small, hs])]
        simp [nmEnd, q, hs]
      | true =>
        by_cases h8 : e ≤ at0 + 8
        · have h8' : (e : Int) - at0 ≤ 8 := by omega
          rw [wh_go (S' := S) (e' := [some (.str x), some (.int at0), some (.int ((e + 1 : Nat) : Int))]) (S'' := S) (by simp [hl, ix, h1, h2, in_small, hs, h8']) (by simp [opAug])]
          rw [nm_run h1 h2 k kw (e + 1) (by omega) (by omega) (by omega)]
          simp [nmEnd, q, hs, h8]
        · have h8' : ¬ (e : Int) - at0 ≤ 8 := by omega
          rw [wh_stop (S' := S) (by simp [hl, ix, h1, h2, in_small, hs, h8'])]
          simp [nmEnd, q, hs, h8]
end K
set_option Elab.async false
set_option linter.all false
set_option maxRecDepth 100000
namespace K
open Mi
variable {D : Nat → Option Def} {G : Nat → Option PV} {wf : Nat}
theorem nmEnd_ge (x : List Nat) (at0 : Nat) : ∀ (k e : Nat), e ≤ nmEnd x at0 k e
  | 0, e => Nat.le_refl _
  | k + 1, e => by
    unfold nmEnd
    split
    · split
      · exact Nat.le_trans (Nat.le_succ _) (nmEnd_ge x at0 k (e + 1))
      · exact Nat.le_refl _
    · exact Nat.le_refl _
theorem dgEnd_ge (x : List Nat) : ∀ (k e : Nat), e ≤ dgEnd x k e
  | 0, e => Nat.le_refl _
  | k + 1, e => by
    unfold dgEnd
    split
    · split
      · exact Nat.le_trans (Nat.le_succ _) (dgEnd_ge x k (e + 1))
      · exact Nat.le_refl _
    · exact Nat.le_refl _
theorem nmEnd_le (x : List Nat) (at0 : Nat) : ∀ (k e : Nat), e ≤ x.length → nmEnd x at0 k e ≤ x.length
  | 0, e, h => h
  | k + 1, e, h => by
    unfold nmEnd
    split
    · rename_i c q
      have hl : e < x.length := (List.getElem?_eq_some_iff.mp q).1
      split
      · exact nmEnd_le x at0 k (e + 1) hl
      · exact h
    · exact h
theorem dgEnd_le (x : List Nat) : ∀ (k e : Nat), e ≤ x.length → dgEnd x k e ≤ x.length
  | 0, e, h => h
  | k + 1, e, h => by
    unfold dgEnd
    split
    · rename_i c q
      have hl : e < x.length := (List.getElem?_eq_some_iff.mp q).1
      split
      · exact dgEnd_le x k (e + 1) hl
      · exact h
    · exact h
theorem okT_at {x : List Nat} (h : okT x = true) {n c : Nat} (hc : x[n]? = some c) : c < 1114112 := by
  have := List.all_eq_true.mp h c (List.mem_of_getElem? hc)
  simpa using this
theorem okT_sub {x y : List Nat} (h : okT x = true) (hs : ∀ c ∈ y, c ∈ x) : okT y = true := List.all_eq_true.mpr fun c hc => List.all_eq_true.mp h c (hs c hc)
def resN (x : List Nat) (at0 : Nat) (S : Store) : R PV := match readName x at0 with
  | .ok (.name s, e) => .ok (.tup [.str s, .int (e : Nat)]) S
  | .bad p => .exc ⟨0, [.int (p : Nat)]⟩ S
  | _ => .stuck
theorem name_ok [Has D f_read_name_k05 d_read_name_k05] [RG : RdG G] (hw : 20 ≤ wf) {x : List Nat} (hx : okT x = true) {at0 : Nat} (hat : at0 < x.length) (n : Nat) (S : Store) : callN D G wf (n + 1) f_read_name_k05 [.str x, .int at0] S = resN x at0 S := by
  have run := nm_run (C := ⟨callN D G wf n, G, wf⟩) RG.sm RG.mn (x := x) (at0 := at0) (S := S) 20 wf (at0 + 1) (by omega) (by omega) (by omega)
  have hge := nmEnd_ge x at0 20 (at0 + 1)
  unfold resN readName
  obtain ⟨e, he⟩ : ∃ e, e = nmEnd x at0 20 (at0 + 1) := ⟨_, rfl⟩
  rw [← he] at run hge
  simp only [← he]
  have run' : whileLoop (fun env => M.bind (denE ⟨callN D G wf n, G, wf⟩ (.and (.cmp .lt (.var 2) (.bi .len (.cons (.var 0) .nil))) (.and (.cmp .isin (.idx (.var 0) (.var 2)) (.glb g_SMALL)) (.cmp .le (.bin .sub (.var 2) (.var 1)) (.glb g_MAX_NAME)))) env) ofBl) (denS ⟨callN D G wf n, G, wf⟩ (.seq (.aug 2 .add (.int 1)) .skip)) wf [some (.str x), some (.int at0), some (.int ((at0 : Int) + 1))] S = .ok (.nx [some (.str x), some (.int at0), some (.int e)]) S := by
    have : ((at0 + 1 : Nat) : Int) = (at0 : Int) + 1 := by omega
    rw [this] at run; exact run
  rw [call_eq rfl]
  simp only [d_read_name_k05, b_read_name_k05, startE]
  by_cases h1 : e = at0 + 1
  · have h1' : (e : Int) = (at0 : Int) + 1 := by omega
    rw [if_pos h1]
    simp [run', h1']
  · have h1' : ¬ (e : Int) = (at0 : Int) + 1 := by omega
    rw [if_neg h1]
    cases q : x[e]? with
    | none =>
      have hl : ¬ e < x.length := fun z => by rw [List.getElem?_eq_getElem z] at q; cases q
      rw [if_neg (by simp)]
      by_cases h2 : e = x.length
      · have h2' : (e : Int) = (x.length : Int) := by omega
        simp [run', h1', h2']
      · have := nmEnd_le x at0 20 (at0 + 1) (by omega)
        omega
    | some c =>
      have hl : e < x.length := (List.getElem?_eq_some_iff.mp q).1
      have h2' : ¬ (e : Int) = (x.length : Int) := by omega
      have ix := ix_str q S
      have hc := okT_at hx q
      by_cases h3 : c = 125
      · subst h3
        rw [if_pos rfl]
        have cm := cut_mid x (at0 + 1) e hge
        have : ((at0 + 1 : Nat) : Int) = (at0 : Int) + 1 := by omega
        rw [this] at cm
        simp [run', h1', h2', ix, cm]
      · have h3' : ¬ [c] = [125] := by simpa using h3
        rw [if_neg (by simpa using h3)]
        simp [run', h1', h2', ix, hc, h3]
theorem dg_run {C : Cfg} (h1 : C.glb g_DIGITS = some (.str dgL)) {x : List Nat} {e1 e3 : Option PV} {S : Store} :
    ∀ (k kw e : Nat), x.length ≤ e + k → x.length < e + kw → e ≤ x.length →
    whileLoop (fun env => M.bind (denE C (.and (.cmp .lt (.var 2) (.bi .len (.cons (.var 0) .nil))) (.cmp .isin (.idx (.var 0) (.var 2)) (.glb g_DIGITS))) env) ofBl) (denS C (.seq (.aug 2 .add (.int 1)) .skip)) kw [some (.str x), e1, some (.int e), e3] S = .ok (.nx [some (.str x), e1, some (.int (dgEnd x k e)), e3]) S
  | k, 0, e, hk, hw, he => by omega
  | 0, kw + 1, e, hk, hw, he => by
    have hl : ¬ e < x.length := by omega
    rw [wh_stop (S' := S) (by simp [hl])]
    simp [dgEnd]
  | k + 1, kw + 1, e, hk, hw, he => by
    cases q : x[e]? with
    | none =>
      have hl : ¬ e < x.length := fun z => by rw [List.getElem?_eq_getElem z] at q; cases q
      rw [wh_stop (S' := S) (by simp [hl])]
      simp [dgEnd, q]
    | some c =>
      have hl : e < x.length := (List.getElem?_eq_some_iff.mp q).1
      have ix := ix_str q S
      cases hs : isDg c with
      | false =>
        rw [wh_stop (S' := S) (by simp [hl, ix, h1, in_digits, hs])]
        simp [dgEnd, q, hs]
      | true =>
        rw [wh_go (S' := S) (e' := [some (.str x), e1, some (.int ((e + 1 : Nat) : Int)), e3]) (S'' := S) (by simp [hl, ix, h1, in_digits, hs]) (by simp [opAug])]
        rw [dg_run h1 k kw (e + 1) (by omega) (by omega) (by omega)]
        simp [dgEnd, q, hs]
theorem dgEnd_all (x : List Nat) : ∀ (k e i : Nat), e ≤ i → i < dgEnd x k e → ∃ c, x[i]? = some c ∧ isDg c = true
  | 0, e, i, h1, h2 => by unfold dgEnd at h2; omega
  | k + 1, e, i, h1, h2 => by
    unfold dgEnd at h2
    split at h2
    · rename_i c q
      split at h2
      · rename_i hd
        rcases Nat.eq_or_lt_of_le h1 with rfl | h
        · exact ⟨c, q, hd⟩
        · exact dgEnd_all x k (e + 1) i h h2
      · omega
    · omega
theorem digs_all (x : List Nat) (at0 : Nat) : (digs x at0).all isDg = true := by
  refine List.all_eq_true.mpr fun c hc => ?_
  unfold digs at hc
  obtain ⟨i, hi⟩ := List.getElem?_of_mem hc
  rw [List.getElem?_take] at hi
  split at hi
  · rename_i h
    rw [List.getElem?_drop] at hi
    obtain ⟨c', hc', hd⟩ := dgEnd_all x x.length at0 (at0 + i) (by omega) (by omega)
    rw [hi] at hc'; cases hc'
    exact hd
  · cases hi
def resD (x : List Nat) (at0 : Nat) (S : Store) : R PV := match readNum x at0 with
  | .ok (v, e) => .ok (.tup [.int (v : Nat), .int (e : Nat)]) S
  | .bad p => .exc ⟨0, [.int (p : Nat)]⟩ S
  | _ => .stuck
theorem atI_0 {s : List Nat} {c : Nat} (h : s.head? = some c) (S : Store) : opIx (.str s) (.int 0) S = .ok (.str [c]) S := by
  cases s with
  | nil => cases h
  | cons a s =>
    have : a = c := by simpa using h
    subst this
    exact ix_str (n := 0) rfl S
@[simp] theorem opInt_str (S : Store) (s : List Nat) : opBi .int [.str s] S = if s.all isDg && (!s.isEmpty && decide (s.length ≤ 600)) then .ok (.int (dgV s)) S else .stuck := rfl
theorem num_ok [Has D f_read_number d_read_number] [RG : RdG G] {x : List Nat} (hw : x.length < wf) (hx : okT x = true) {at0 : Nat} (hat : at0 ≤ x.length) (n : Nat) (S : Store) : callN D G wf (n + 1) f_read_number [.str x, .int at0] S = resD x at0 S := by
  have run := dg_run (C := ⟨callN D G wf n, G, wf⟩) RG.dg (x := x) (e1 := some (.int at0)) (e3 := none) (S := S) x.length wf at0 (by omega) (by omega) hat
  have hge := dgEnd_ge x x.length at0
  have hall := digs_all x at0
  have cm := cut_mid x at0 _ hge
  have hmc := RG.mc
  have hds : digs x at0 = (x.drop at0).take (dgEnd x x.length at0 - at0) := rfl
  rw [← hds] at cm
  have hokd : okT (digs x at0) = true := okT_sub hx fun c hc => by
    unfold digs at hc
    exact List.mem_of_mem_drop (List.mem_of_mem_take hc)
  unfold resD readNum
  obtain ⟨e, he⟩ : ∃ e, e = dgEnd x x.length at0 := ⟨_, rfl⟩
  rw [← he] at run hge cm
  simp only [← he]
  obtain ⟨s, hs⟩ : ∃ s, s = digs x at0 := ⟨_, rfl⟩
  rw [← hs] at cm hall hokd
  simp only [← hs]
  rw [call_eq rfl]
  simp only [d_read_number, b_read_number, startE]
  cases s with
  | nil =>
    have hn : numOk [] = false := by decide
    rw [hn]
    simp [run, cm]
  | cons c r =>
    have hne : ¬ (c :: r) = ([] : List Nat) := by simp
    by_cases h31 : 31 < (c :: r).length
    · have h31' : (31 : Int) < ((c :: r).length : Int) := by omega
      have hn : numOk (c :: r) = false := by unfold numOk; simp [h31]; simp at h31; omega
      rw [hn]
      generalize hcr : c :: r = s at *
      simp [run, cm, hokd, hne, h31']
    · have h31' : ¬ (31 : Int) < ((c :: r).length : Int) := by omega
      have h600 : (c :: r).length ≤ 600 := by omega
      have ix0 := atI_0 (s := c :: r) rfl S
      have hc : c < 1114112 := by simp at hokd; exact hokd.1
      by_cases h48 : c = 48 ∧ ¬ (c :: r) = [48]
      · obtain ⟨rfl, h48b⟩ := h48
        have hn : numOk (48 :: r) = false := by
          have : ¬ r = [] := fun z => h48b (by rw [z])
          unfold numOk; simp [this]
        rw [hn]
        have hb : ((48 :: r) == ([48] : List Nat)) = false := by simpa using h48b
        generalize hcr : 48 :: r = s at *
        simp [run, cm, hokd, hne, h31', ix0, h48b]
      · have hcond : (c == 48 && !((c :: r) == [48])) = false := by
          cases hq : (c == 48 && !((c :: r) == [48])) with
          | false => rfl
          | true =>
            exfalso
            simp only [Bool.and_eq_true, beq_iff_eq, Bool.not_eq_true', beq_eq_false_iff_ne] at hq
            exact h48 ⟨hq.1, hq.2⟩
        by_cases hv : 1000000000000000000000000000000 < dgV (c :: r)
        · have hv' : (1000000000000000000000000000000 : Int) < (dgV (c :: r) : Int) := by omega
          have hn : numOk (c :: r) = false := by unfold numOk; simp [hv]
          rw [hn]
          have hne2 : (c :: r).isEmpty = false := rfl
          generalize hcr : c :: r = s at *
          by_cases hc48 : c = 48
          · subst hc48
            have h1 : s = [48] := by simpa using hcond
            simp [run, cm, hokd, hne, h31', ix0, h1] at hv ⊢
            exact absurd hv (by decide)
          · simp [run, cm, hokd, hne, h31', ix0, hc, hc48, hall, hne2, h600, hmc, hv']
        · have hv' : ¬ (1000000000000000000000000000000 : Int) < (dgV (c :: r) : Int) := by omega
          have hn : numOk (c :: r) = true := by
            unfold numOk
            rw [show (c :: r).head? = some c from rfl]
            have : (some c == some 48 && !((c :: r) == [48])) = false := by simpa using hcond
            rw [this]
            have a1 : decide (31 < (c :: r).length) = false := by simpa using h31
            have a2 : decide (1000000000000000000000000000000 < dgV (c :: r)) = false := by simpa using hv
            rw [a1, a2]
            rfl
          rw [hn, if_pos rfl]
          have hne2 : (c :: r).isEmpty = false := rfl
          generalize hcr : c :: r = s at *
          by_cases hc48 : c = 48
          · subst hc48
            have h1 : s = [48] := by simpa using hcond
            subst h1
            have h0 : dgV [48] = 0 := rfl
            have ha : isDg 48 = true := rfl
            simp [run, cm, ix0, hmc, ha, h0]
          · simp [run, cm, hokd, hne, h31', ix0, hc, hc48, hall, hne2, h600, hmc, hv']
end K
set_option Elab.async false
set_option linter.all false
set_option maxRecDepth 100000
namespace K
open Mi
variable {D : Nat → Option Def} {G : Nat → Option PV} {wf : Nat}
def resW (r : Rs (W × Nat)) (S : Store) : R PV := match r with
  | .ok (w, e) => .ok (.tup [w.pv, .int (e : Nat)]) S
  | .bad p => .exc ⟨0, [.int (p : Nat)]⟩ S
  | .big k => .exc ⟨1, [.int (k : Nat)]⟩ S
theorem pv_times' (w : W) (n : Nat) : (W.times w n).pv = vTimes w.pv n := by rw [W.pv]
theorem pv_right' (w : W) : (W.right w).pv = vRight w.pv := by rw [W.pv]
theorem pv_left' (w : W) : (W.left w).pv = vLeft w.pv := by rw [W.pv]
theorem pv_emp' : W.emp.pv = vEmp := by rw [W.pv]
theorem pv_ltr' (c : Nat) : (W.ltr c).pv = vLet [c] := by rw [W.pv]
theorem pv_name' (s : List Nat) : (W.name s).pv = .tup [.str [110, 97, 109, 101], .str s] := by rw [W.pv]
theorem pv_join' (ts : List W) : (W.join ts).pv = vJoin (ts.map W.pv) := by rw [W.pv, W.pvs_map]
theorem suf_ok [Has D f_read_number d_read_number] [Has D f_read_suffix d_read_suffix] [RG : RdG G] {x : List Nat} (hw : x.length < wf) (hx : okT x = true) {at0 c : Nat} (hc : x[at0]? = some c) (w : W) (n : Nat) (S : Store) : callN D G wf (n + 2) f_read_suffix [.str x, .int at0, w.pv] S = resW (readSuf x at0 w) S := by
  have hl : at0 < x.length := (List.getElem?_eq_some_iff.mp hc).1
  have ix := ix_str hc S
  have hcc := okT_at hx hc
  unfold readSuf
  rw [hc]
  rw [call_eq rfl]
  simp only [d_read_suffix, b_read_suffix, startE]
  by_cases h94 : c = 94
  · subst h94
    rw [if_pos rfl]
    have nk := num_ok (D := D) (G := G) (wf := wf) hw hx (at0 := at0 + 1) (by omega) n S
    have e1 : ((at0 + 1 : Nat) : Int) = (at0 : Int) + 1 := by omega
    rw [e1] at nk
    unfold resD at nk
    obtain ⟨W0, hW⟩ : ∃ W0, W0 = w.pv := ⟨_, rfl⟩
    cases q : readNum x (at0 + 1) with
    | ok r =>
      obtain ⟨v, e⟩ := r
      rw [q] at nk
      simp only [Rs.bind, resW, pv_times']
      rw [← hW]
      simp [ix, nk]
    | bad p =>
      rw [q] at nk
      simp only [Rs.bind, resW]
      rw [← hW]
      simp [ix, nk]
    | big k =>
      exfalso
      unfold readNum at q
      split at q <;> cases q
  · rw [if_neg (by simpa using h94)]
    have hn : ¬ [c] = [94] := by simpa using h94
    simp only [resW]
    by_cases h62 : c = 62
    · subst h62
      rw [if_pos rfl, pv_right']
      simp [ix]
    · rw [if_neg (by simpa using h62), pv_left']
      simp [ix, hcc, h94, h62]
theorem readSuf_gt {x : List Nat} {at0 : Nat} {w w' : W} {e : Nat} (hl : at0 < x.length) (h : readSuf x at0 w = .ok (w', e)) : at0 < e ∧ e ≤ x.length := by
  unfold readSuf at h
  split at h
  · unfold readNum at h
    split at h
    · simp only [Rs.bind] at h
      cases h
      have := dgEnd_ge x x.length (at0 + 1)
      have := dgEnd_le x x.length (at0 + 1) (by omega)
      omega
    · cases h
  · cases h; omega
theorem sufs_ge {x : List Nat} : ∀ {k at0 : Nat} {w w' : W} {e : Nat}, at0 ≤ x.length → sufs x k at0 w = .ok (w', e) → at0 ≤ e ∧ e ≤ x.length
  | 0, at0, w, w', e, hl, h => by
    unfold sufs at h; cases h; exact ⟨Nat.le_refl _, hl⟩
  | k + 1, at0, w, w', e, hl, h => by
    unfold sufs at h
    split at h
    · rename_i c q
      have hl' : at0 < x.length := (List.getElem?_eq_some_iff.mp q).1
      split at h
      · cases q2 : readSuf x at0 w with
        | ok r =>
          obtain ⟨w1, e1⟩ := r
          rw [q2] at h
          have h1 := readSuf_gt hl' q2
          have h2 := sufs_ge h1.2 h
          omega
        | bad p => rw [q2] at h; cases h
        | big k => rw [q2] at h; cases h
      · cases h; exact ⟨Nat.le_refl _, hl⟩
    · cases h; exact ⟨Nat.le_refl _, hl⟩
def sTest : E := (.and (.cmp .lt (.var 1) (.bi .len (.cons (.var 0) .nil))) (.cmp .isin (.idx (.var 0) (.var 1)) (.str [62, 60, 94])))
def sBody : S := (.seq (.asg (.two 4 1) (.call f_read_suffix (.cons (.var 0) (.cons (.var 1) (.cons (.var 4) .nil))))) .skip)
def resL (r : Rs (W × Nat)) (f : W → Nat → Env) (S : Store) : R Fl := match r with
  | .ok (w, e) => .ok (.nx (f w e)) S
  | .bad p => .exc ⟨0, [.int (p : Nat)]⟩ S
  | .big k => .exc ⟨1, [.int (k : Nat)]⟩ S
theorem sufs_run [Has D f_read_number d_read_number] [Has D f_read_suffix d_read_suffix] [RG : RdG G] {x : List Nat} (hw : x.length < wf) (hx : okT x = true) {m : Nat} {e2 e3 : Option PV} {S : Store} : ∀ (k kw at0 : Nat) (w : W), x.length ≤ at0 + k → x.length < at0 + kw → at0 ≤ x.length →
    whileLoop (fun env => M.bind (denE ⟨callN D G wf (m + 2), G, wf⟩ sTest env) ofBl) (denS ⟨callN D G wf (m + 2), G, wf⟩ sBody) kw [some (.str x), some (.int at0), e2, e3, some w.pv] S = resL (sufs x k at0 w) (fun w e => [some (.str x), some (.int (e : Nat)), e2, e3, some w.pv]) S
  | k, 0, at0, w, hk, hkw, hl => by omega
  | 0, kw + 1, at0, w, hk, hkw, hl => by
    have hl' : ¬ at0 < x.length := by omega
    rw [wh_stop (S' := S) (by simp [sTest, hl'])]
    rfl
  | k + 1, kw + 1, at0, w, hk, hkw, hl => by
    cases q : x[at0]? with
    | none =>
      have hl' : ¬ at0 < x.length := fun z => by rw [List.getElem?_eq_getElem z] at q; cases q
      rw [wh_stop (S' := S) (by simp [sTest, hl'])]
      unfold sufs; rw [q]; rfl
    | some c =>
      have hl' : at0 < x.length := (List.getElem?_eq_some_iff.mp q).1
      have ix := ix_str q S
      have sk := suf_ok (D := D) (G := G) (wf := wf) hw hx q w m S
      unfold sufs
      rw [q]
      dsimp only
      obtain ⟨W0, hW⟩ : ∃ W0, W0 = w.pv := ⟨_, rfl⟩
      cases hs : isSuf c with
      | false =>
        have hs' : ¬ (c = 62 ∨ c = 60 ∨ c = 94) := by
          intro z
          unfold isSuf at hs
          simp at hs
          omega
        rw [← hW]
        rw [wh_stop (S' := S) (by simp [sTest, hl', ix, hs'])]
        simp only [Bool.false_eq_true, if_false]
        rw [hW]; rfl
      | true =>
        have hs' : c = 62 ∨ c = 60 ∨ c = 94 := by
          unfold isSuf at hs
          simp at hs
          omega
        have ht : (fun env => M.bind (denE ⟨callN D G wf (m + 2), G, wf⟩ sTest env) ofBl) [some (.str x), some (.int at0), e2, e3, some W0] S = .ok true S := by simp [sTest, hl', ix, hs']
        simp only [if_true]
        rw [← hW] at sk
        rw [← hW]
        cases q2 : readSuf x at0 w with
        | ok r =>
          obtain ⟨w1, e1⟩ := r
          rw [q2] at sk
          have h1 := readSuf_gt hl' q2
          have sk : callN D G wf (m + 2) f_read_suffix [.str x, .int at0, W0] S = .ok (.tup [w1.pv, .int (e1 : Nat)]) S := sk
          rw [wh_go (e' := [some (.str x), some (.int (e1 : Nat)), e2, e3, some w1.pv]) (S'' := S) ht (by
            generalize w1.pv = W1 at sk ⊢
            simp [sBody, sk])]
          exact sufs_run hw hx k kw e1 w1 (by omega) (by omega) h1.2
        | bad p =>
          rw [q2] at sk
          have sk : callN D G wf (m + 2) f_read_suffix [.str x, .int at0, W0] S = .exc ⟨0, [.int (p : Nat)]⟩ S := sk
          rw [wh_exc (x := ⟨0, [.int (p : Nat)]⟩) (S'' := S) ht (by simp [sBody, sk])]
          rfl
        | big p =>
          rw [q2] at sk
          have sk : callN D G wf (m + 2) f_read_suffix [.str x, .int at0, W0] S = .exc ⟨1, [.int (p : Nat)]⟩ S := sk
          rw [wh_exc (x := ⟨1, [.int (p : Nat)]⟩) (S'' := S) ht (by simp [sBody, sk])]
          rfl
end K
set_option Elab.async false
set_option linter.all false
set_option maxRecDepth 100000
namespace K
open Mi
variable {D : Nat → Option Def} {G : Nat → Option PV} {wf : Nat}
def iTest : E := (.and (.cmp .lt (.var 1) (.bi .len (.cons (.var 0) .nil))) (.cmp .ne (.idx (.var 0) (.var 1)) (.str [41])))
def iBody : S := (.seq (.asg (.two 4 1) (.call f_read_atom_k05 (.cons (.var 0) (.cons (.var 1) (.cons (.var 2) .nil))))) (.seq (.whileS sTest sBody) (.seq (.expr (.mth .append (.var 3) (.cons (.var 4) .nil))) .skip)))
def iTail : S := (.seq (.ifS (.cmp .lt (.bi .len (.cons (.var 3) .nil)) (.int 2)) (.seq (.ret (.tup (.cons (.ite (.cmp .eq (.bi .len (.cons (.var 3) .nil)) (.int 1)) (.idx (.var 3) (.int 0)) (.glb g_EMPTY)) (.cons (.var 1) .nil)))) .skip) .skip) (.seq (.ret (.tup (.cons (.tup (.cons (.str [106, 111, 105, 110]) (.cons (.bi .tuple (.cons (.var 3) .nil)) .nil))) (.cons (.var 1) .nil)))) .skip))
theorem items_body : b_read_items_k05 = (.seq (.asg (.one 3) (.lst true .nil)) (.seq (.whileS iTest iBody) iTail)) := rfl
/-- what is promised of atoms -/
def AtomAt (D : Nat → Option Def) (G : Nat → Option PV) (wf m : Nat) (x : List Nat) (o : Nat) (aF : Nat → Rs (W × Nat)) : Prop := ∀ (at0 : Nat) (S : Store), at0 < x.length → ∃ S', callN D G wf m f_read_atom_k05 [.str x, .int at0, .int o] S = resW (aF at0) S' ∧ Keep [] S S' ∧ ∀ w e, aF at0 = .ok (w, e) → at0 < e ∧ e ≤ x.length
theorem append_at (S : Store) (r : Nat) (v : PV) : opMt .append (.ref r) [v] S = (match S[r]? with
    | some (.lst xs) => if xs.length < lineN then .ok .non (S.set r (.lst (xs ++ [v]))) else .stuck
    | _ => .stuck) := rfl
theorem recv_at (S : Store) (r : Nat) : recv .append (.ref r) S = (match S[r]? with
    | some (.lst _) => .ok () S
    | _ => .stuck) := rfl
theorem keep_set1 {S : Store} {r : Nat} (x : Cell) : Keep [r] S (S.set r x) :=
  ⟨by simp, fun j hj hn => by rw [List.getElem?_set_ne (by simpa using fun e => hn (by simp [e]))]⟩
def resI (r : Rs (List W × Nat)) (f : Nat → Env) (S : Store) : R Fl := match r with
  | .ok (_, e) => .ok (.nx (f e)) S
  | .bad p => .exc ⟨0, [.int (p : Nat)]⟩ S
  | .big k => .exc ⟨1, [.int (k : Nat)]⟩ S
theorem items_run [Has D f_read_number d_read_number] [Has D f_read_suffix d_read_suffix] [RG : RdG G] {x : List Nat} (hw : x.length < wf) (hlen : x.length ≤ 100000) (hx : okT x = true) {m o r : Nat} {aF : Nat → Rs (W × Nat)} (hA : AtomAt D G wf (m + 2) x o aF) :
    ∀ (k kw at0 : Nat) (acc : List W) (e4 : Option PV) (S : Store), x.length ≤ at0 + k → x.length < at0 + kw → at0 ≤ x.length → acc.length ≤ at0 → S[r]? = some (.lst (acc.map W.pv)) →
    ∃ (f4 : Option PV) (S' : Store), whileLoop (fun env => M.bind (denE ⟨callN D G wf (m + 2), G, wf⟩ iTest env) ofBl) (denS ⟨callN D G wf (m + 2), G, wf⟩ iBody) kw [some (.str x), some (.int at0), some (.int o), some (.ref r), e4] S = resI (items aF x k at0 acc) (fun e => [some (.str x), some (.int (e : Nat)), some (.int o), some (.ref r), f4]) S' ∧
      (∀ ws e, items aF x k at0 acc = .ok (ws, e) → S'[r]? = some (.lst (ws.map W.pv)) ∧ at0 ≤ e ∧ e ≤ x.length ∧ ws.length ≤ e) ∧ Keep [r] S S'
  | k, 0, at0, acc, e4, S, hk, hkw, hl, ha, hS => by omega
  | 0, kw + 1, at0, acc, e4, S, hk, hkw, hl, ha, hS => by
    have hl' : ¬ at0 < x.length := by omega
    refine ⟨e4, S, ?_, fun ws e h => ?_, .refl _ _⟩
    · rw [wh_stop (S' := S) (by simp [iTest, hl'])]; rfl
    · unfold items at h; cases h; exact ⟨hS, Nat.le_refl _, hl, ha⟩
  | k + 1, kw + 1, at0, acc, e4, S, hk, hkw, hl, ha, hS => by
    cases q : x[at0]? with
    | none =>
      have hl' : ¬ at0 < x.length := fun z => by rw [List.getElem?_eq_getElem z] at q; cases q
      refine ⟨e4, S, ?_, fun ws e h => ?_, .refl _ _⟩
      · rw [wh_stop (S' := S) (by simp [iTest, hl'])]
        unfold items; rw [q]; rfl
      · unfold items at h; rw [q] at h; cases h; exact ⟨hS, Nat.le_refl _, hl, ha⟩
    | some c =>
      have hl' : at0 < x.length := (List.getElem?_eq_some_iff.mp q).1
      have ix := ix_str q S
      have hcc := okT_at hx q
      unfold items
      rw [q]
      dsimp only
      by_cases h41 : c = 41
      · subst h41
        refine ⟨e4, S, ?_, fun ws e h => ?_, .refl _ _⟩
        · rw [wh_stop (S' := S) (by simp [iTest, hl', ix])]; rfl
        · rw [if_pos rfl] at h; cases h; exact ⟨hS, Nat.le_refl _, hl, ha⟩
      · rw [if_neg h41]
        have ht : (fun env => M.bind (denE ⟨callN D G wf (m + 2), G, wf⟩ iTest env) ofBl) [some (.str x), some (.int at0), some (.int o), some (.ref r), e4] S = .ok true S := by simp [iTest, hl', ix, hcc, h41]
        obtain ⟨S1, ea, k1, he⟩ := hA at0 S hl'
        have hr : r < S.length := by
          rcases Nat.lt_or_ge r S.length with z | z
          · exact z
          · rw [List.getElem?_eq_none z] at hS; cases hS
        cases q1 : aF at0 with
        | bad p =>
          rw [q1] at ea
          have ea : callN D G wf (m + 2) f_read_atom_k05 [.str x, .int at0, .int o] S = .exc ⟨0, [.int (p : Nat)]⟩ S1 := ea
          refine ⟨e4, S1, ?_, fun ws e h => ?_, k1.more (by simp)⟩
          · rw [wh_exc (x := ⟨0, [.int (p : Nat)]⟩) (S'' := S1) ht (by simp [iBody, ea])]; rfl
          · cases h
        | big p =>
          rw [q1] at ea
          have ea : callN D G wf (m + 2) f_read_atom_k05 [.str x, .int at0, .int o] S = .exc ⟨1, [.int (p : Nat)]⟩ S1 := ea
          refine ⟨e4, S1, ?_, fun ws e h => ?_, k1.more (by simp)⟩
          · rw [wh_exc (x := ⟨1, [.int (p : Nat)]⟩) (S'' := S1) ht (by simp [iBody, ea])]; rfl
          · cases h
        | ok y =>
          obtain ⟨w, e⟩ := y
          rw [q1] at ea
          obtain ⟨hge, hle⟩ := he w e q1
          have ea : callN D G wf (m + 2) f_read_atom_k05 [.str x, .int at0, .int o] S = .ok (.tup [w.pv, .int (e : Nat)]) S1 := ea
          have hS1 : S1[r]? = some (.lst (acc.map W.pv)) := k1.at hS (by simp)
          have hs := sufs_run (D := D) (G := G) (wf := wf) hw hx (m := m) (e2 := some (.int o)) (e3 := some (.ref r)) (S := S1) (x.length + 1) wf e w (by omega) (by omega) hle
          show ∃ f4 S', _ = resI ((sufs x (x.length + 1) e w).bind fun q => items aF x k q.2 (acc ++ [q.1])) _ S' ∧ (∀ ws e', (sufs x (x.length + 1) e w).bind (fun q => items aF x k q.2 (acc ++ [q.1])) = .ok (ws, e') → _) ∧ _
          cases q2 : sufs x (x.length + 1) e w with
          | bad p =>
            rw [q2] at hs
            refine ⟨e4, S1, ?_, fun ws e h => ?_, k1.more (by simp)⟩
            · have hs : whileLoop (fun env => M.bind (denE ⟨callN D G wf (m + 2), G, wf⟩ sTest env) ofBl) (denS ⟨callN D G wf (m + 2), G, wf⟩ sBody) wf [some (.str x), some (.int (e : Nat)), some (.int o), some (.ref r), some w.pv] S1 = .exc ⟨0, [.int (p : Nat)]⟩ S1 := hs
              rw [wh_exc (x := ⟨0, [.int (p : Nat)]⟩) (S'' := S1) ht (by
                generalize w.pv = W1 at ea hs ⊢
                simp [iBody, ea, hs])]
              rfl
            · cases h
          | big p =>
            rw [q2] at hs
            refine ⟨e4, S1, ?_, fun ws e h => ?_, k1.more (by simp)⟩
            · have hs : whileLoop (fun env => M.bind (denE ⟨callN D G wf (m + 2), G, wf⟩ sTest env) ofBl) (denS ⟨callN D G wf (m + 2), G, wf⟩ sBody) wf [some (.str x), some (.int (e : Nat)), some (.int o), some (.ref r), some w.pv] S1 = .exc ⟨1, [.int (p : Nat)]⟩ S1 := hs
              rw [wh_exc (x := ⟨1, [.int (p : Nat)]⟩) (S'' := S1) ht (by
                generalize w.pv = W1 at ea hs ⊢
                simp [iBody, ea, hs])]
              rfl
            · cases h
          | ok z =>
            obtain ⟨w2, e2⟩ := z
            rw [q2] at hs
            have hs : whileLoop (fun env => M.bind (denE ⟨callN D G wf (m + 2), G, wf⟩ sTest env) ofBl) (denS ⟨callN D G wf (m + 2), G, wf⟩ sBody) wf [some (.str x), some (.int (e : Nat)), some (.int o), some (.ref r), some w.pv] S1 = .ok (.nx [some (.str x), some (.int (e2 : Nat)), some (.int o), some (.ref r), some w2.pv]) S1 := hs
            obtain ⟨g1, g2⟩ := sufs_ge hle q2
            have hS2 : (S1.set r (.lst ((acc ++ [w2]).map W.pv)))[r]? = some (.lst ((acc ++ [w2]).map W.pv)) := set_at hS1 _
            obtain ⟨f4, S', ih, ihok, ihk⟩ := items_run hw hlen hx hA k kw e2 (acc ++ [w2]) (some w2.pv) (S1.set r (.lst ((acc ++ [w2]).map W.pv))) (by omega) (by omega) g2 (by simp; omega) hS2
            refine ⟨f4, S', ?_, fun ws e' h => ?_, ?_⟩
            · have hll : (acc.map W.pv).length < lineN := by rw [List.length_map]; unfold lineN; omega
              rw [wh_go (e' := [some (.str x), some (.int (e2 : Nat)), some (.int o), some (.ref r), some w2.pv]) (S'' := S1.set r (.lst ((acc ++ [w2]).map W.pv))) ht (by
                rw [List.map_append, List.map_cons, List.map_nil]
                generalize acc.map W.pv = AA at hS1 hll ⊢
                generalize w.pv = W1 at ea hs ⊢
                generalize w2.pv = W2 at hs ⊢
                simp [iBody, ea, hs, recv_at, append_at, hS1, hll])]
              exact ih
            · have := ihok ws e' h
              exact ⟨this.1, by omega, this.2.2.1, this.2.2.2⟩
            · exact ((k1.more (by simp)).trans (keep_set1 _)).trans ihk
end K
set_option Elab.async false
set_option linter.all false
set_option maxRecDepth 100000
namespace K
open Mi
variable {D : Nat → Option Def} {G : Nat → Option PV} {wf : Nat}
theorem opLen_at (S : Store) (r : Nat) {xs : List PV} (h : S[r]? = some (.lst xs)) : opBi .len [.ref r] S = .ok (.int xs.length) S := by
  show bnd (viewL (.ref r) S) (fun xs S => R.ok (PV.int xs.length) S) = _
  rw [viewL_at, h]; rfl
theorem opTup_at (S : Store) (r : Nat) {xs : List PV} (h : S[r]? = some (.lst xs)) : opBi .tuple [.ref r] S = .ok (.tup xs) S := by
  show bnd (viewL (.ref r) S) (fun xs S => R.ok (PV.tup xs) S) = _
  rw [viewL_at, h]; rfl
def resJ (r : Rs (List W × Nat)) (S : Store) : R PV := match r with
  | .ok (ws, e) => .ok (.tup [(mkW ws).pv, .int (e : Nat)]) S
  | .bad p => .exc ⟨0, [.int (p : Nat)]⟩ S
  | .big k => .exc ⟨1, [.int (k : Nat)]⟩ S
theorem tail_ok [RG : RdG G] {C : Cfg} (hC : C.glb = G) {x : List Nat} {e o r : Nat} {f4 : Option PV} {ws : List W} {S : Store} (hS : S[r]? = some (.lst (ws.map W.pv))) :
    denS C iTail [some (.str x), some (.int e), some (.int o), some (.ref r), f4] S = .ok (.rt (.tup [(mkW ws).pv, .int e])) S := by
  have hE : C.glb g_EMPTY = some vEmp := by rw [hC]; exact RG.em
  have l1 := opLen_at S r hS
  have t1 := opTup_at S r hS
  cases ws with
  | nil =>
    simp only [List.map_nil] at hS l1 t1
    simp [iTail, l1, hE, mkW, pv_emp']
  | cons w ws =>
    cases ws with
    | nil =>
      simp only [List.map_cons, List.map_nil] at hS l1 t1
      simp [iTail, l1, hS, mkW]
    | cons v ws =>
      have hm : mkW (w :: v :: ws) = .join (w :: v :: ws) := rfl
      rw [hm, pv_join']
      have h2 : ¬ (((w :: v :: ws).map W.pv).length : Int) < 2 := by simp; omega
      generalize (w :: v :: ws).map W.pv = AA at *
      simp [iTail, l1, h2, t1]
theorem ritems_ok [Has D f_read_number d_read_number] [Has D f_read_suffix d_read_suffix] [Has D f_read_items_k05 d_read_items_k05] [RG : RdG G] {x : List Nat} (hw : x.length < wf) (hlen : x.length ≤ 100000) (hx : okT x = true) {m o : Nat} {aF : Nat → Rs (W × Nat)} (hA : AtomAt D G wf (m + 2) x o aF) {at0 : Nat} (hl : at0 ≤ x.length) (S : Store) :
    ∃ S', callN D G wf (m + 3) f_read_items_k05 [.str x, .int at0, .int o] S = resJ (items aF x (x.length + 1) at0 []) S' ∧ Keep [] S S' ∧ ∀ ws e, items aF x (x.length + 1) at0 [] = .ok (ws, e) → at0 ≤ e ∧ e ≤ x.length := by
  obtain ⟨f4, S', run, hok, hk⟩ := items_run (D := D) (G := G) (wf := wf) hw hlen hx hA (r := S.length) (x.length + 1) wf at0 [] none (S ++ [.lst []]) (by omega) (by omega) hl (by simp) (by simp)
  have hk' : Keep [] S S' := ⟨Nat.le_trans (by simp) hk.len, fun j hj _ => by rw [hk.get j (by simp; omega) (by simp; omega), List.getElem?_append_left hj]⟩
  refine ⟨S', ?_, hk', fun ws e h => ⟨(hok ws e h).2.1, (hok ws e h).2.2.1⟩⟩
  rw [call_eq rfl]
  simp only [d_read_items_k05, items_body, startE]
  cases q : items aF x (x.length + 1) at0 [] with
  | ok y =>
    obtain ⟨ws, e⟩ := y
    rw [q] at run
    have run : whileLoop (fun env => M.bind (denE ⟨callN D G wf (m + 2), G, wf⟩ iTest env) ofBl) (denS ⟨callN D G wf (m + 2), G, wf⟩ iBody) wf [some (.str x), some (.int at0), some (.int o), some (.ref S.length), none] (S ++ [.lst []]) = .ok (.nx [some (.str x), some (.int (e : Nat)), some (.int o), some (.ref S.length), f4]) S' := run
    have tl := tail_ok (C := ⟨callN D G wf (m + 2), G, wf⟩) rfl (x := x) (e := e) (o := o) (f4 := f4) (hok ws e q).1
    simp only [resJ]
    generalize (mkW ws).pv = MM at tl ⊢
    simp [run, tl]
  | bad p =>
    rw [q] at run
    have run : whileLoop (fun env => M.bind (denE ⟨callN D G wf (m + 2), G, wf⟩ iTest env) ofBl) (denS ⟨callN D G wf (m + 2), G, wf⟩ iBody) wf [some (.str x), some (.int at0), some (.int o), some (.ref S.length), none] (S ++ [.lst []]) = .exc ⟨0, [.int (p : Nat)]⟩ S' := run
    simp only [resJ]
    simp [run]
  | big p =>
    rw [q] at run
    have run : whileLoop (fun env => M.bind (denE ⟨callN D G wf (m + 2), G, wf⟩ iTest env) ofBl) (denS ⟨callN D G wf (m + 2), G, wf⟩ iBody) wf [some (.str x), some (.int at0), some (.int o), some (.ref S.length), none] (S ++ [.lst []]) = .exc ⟨1, [.int (p : Nat)]⟩ S' := run
    simp only [resJ]
    simp [run]
theorem readName_gt {x : List Nat} {at0 : Nat} {w : W} {e : Nat} (hl : at0 < x.length) (h : readName x at0 = .ok (w, e)) : at0 < e ∧ e ≤ x.length ∧ ∃ s, w = .name s := by
  unfold readName at h
  dsimp only at h
  split at h
  · cases h
  · split at h
    · rename_i q
      have hq := (List.getElem?_eq_some_iff.mp q).1
      have := nmEnd_ge x at0 20 (at0 + 1)
      cases h
      exact ⟨by omega, by omega, _, rfl⟩
    · cases h
theorem atom_ok [Has D f_read_name_k05 d_read_name_k05] [Has D f_read_number d_read_number] [Has D f_read_suffix d_read_suffix] [Has D f_read_items_k05 d_read_items_k05] [Has D f_read_atom_k05 d_read_atom_k05] [RG : RdG G] {x : List Nat} (hw20 : 20 ≤ wf) (hw : x.length < wf) (hlen : x.length ≤ 100000) (hx : okT x = true) :
    ∀ (d o m : Nat), o + d = 8 → 2 * d ≤ m → AtomAt D G wf (m + 4) x o (fun a => atomD x (d + 1) a o) := by
  have hlt := RG.lt
  have hmo := RG.mo
  intro d
  induction d with
  | zero =>
    intro o m ho hm at0 S hl
    obtain rfl : o = 8 := by omega
    have q : x[at0]? = some x[at0] := List.getElem?_eq_getElem hl
    generalize x[at0] = c at q
    have ix := ix_str q S
    have hcc := okT_at hx q
    have nk := name_ok (D := D) (G := G) (wf := wf) hw20 hx hl (m + 2) S
    unfold atomD
    dsimp only
    rw [q]
    dsimp only
    cases hL : isLtr c with
    | true =>
      refine ⟨S, ?_, .refl _ _, fun w e h => ?_⟩
      · rw [call_eq rfl]
        simp only [resW, if_true, pv_ltr']
        simp [d_read_atom_k05, b_read_atom_k05, startE, ix, hlt, in_abc, hL]
      · simp only [if_true] at h; cases h; omega
    | false =>
      simp only [Bool.false_eq_true, if_false]
      by_cases h123 : c = 123
      · subst h123
        rw [if_pos rfl]
        unfold resN at nk
        refine ⟨S, ?_, .refl _ _, fun w e h => ⟨(readName_gt hl h).1, (readName_gt hl h).2.1⟩⟩
        rw [call_eq rfl]
        cases qn : readName x at0 with
        | ok y =>
          obtain ⟨w, e⟩ := y
          obtain ⟨_, _, s, rfl⟩ := readName_gt hl qn
          rw [qn] at nk
          simp only [resW, pv_name']
          simp [d_read_atom_k05, b_read_atom_k05, startE, ix, hlt, in_abc, hL, nk]
        | bad p =>
          rw [qn] at nk
          simp only [resW]
          simp [d_read_atom_k05, b_read_atom_k05, startE, ix, hlt, in_abc, hL, nk]
        | big p =>
          exfalso
          unfold readName at qn
          dsimp only at qn
          split at qn
          · cases qn
          · split at qn <;> cases qn
      · rw [if_neg h123]
        by_cases h40 : c = 40
        · subst h40
          rw [if_pos rfl]
          simp only [if_true]
          refine ⟨S, ?_, .refl _ _, fun w e h => by cases h⟩
          rw [call_eq rfl]
          simp only [resW]
          simp [d_read_atom_k05, b_read_atom_k05, startE, ix, hlt, in_abc, hL, hmo]
        · rw [if_neg h40]
          refine ⟨S, ?_, .refl _ _, fun w e h => by cases h⟩
          rw [call_eq rfl]
          simp only [resW]
          simp [d_read_atom_k05, b_read_atom_k05, startE, ix, hlt, in_abc, hL, hcc, h123, h40]
  | succ d ih =>
    intro o m ho hm at0 S hl
    have ho8 : ¬ o = 8 := by omega
    have ho8' : ¬ (o : Int) = 8 := by omega
    have q : x[at0]? = some x[at0] := List.getElem?_eq_getElem hl
    generalize x[at0] = c at q
    have ix := ix_str q S
    have hcc := okT_at hx q
    have nk := name_ok (D := D) (G := G) (wf := wf) hw20 hx hl (m + 2) S
    unfold atomD
    dsimp only
    rw [q]
    dsimp only
    cases hL : isLtr c with
    | true =>
      refine ⟨S, ?_, .refl _ _, fun w e h => ?_⟩
      · rw [call_eq rfl]
        simp only [resW, if_true, pv_ltr']
        simp [d_read_atom_k05, b_read_atom_k05, startE, ix, hlt, in_abc, hL]
      · simp only [if_true] at h; cases h; omega
    | false =>
      simp only [Bool.false_eq_true, if_false]
      by_cases h123 : c = 123
      · subst h123
        rw [if_pos rfl]
        unfold resN at nk
        refine ⟨S, ?_, .refl _ _, fun w e h => ⟨(readName_gt hl h).1, (readName_gt hl h).2.1⟩⟩
        rw [call_eq rfl]
        cases qn : readName x at0 with
        | ok y =>
          obtain ⟨w, e⟩ := y
          obtain ⟨_, _, s, rfl⟩ := readName_gt hl qn
          rw [qn] at nk
          simp only [resW, pv_name']
          simp [d_read_atom_k05, b_read_atom_k05, startE, ix, hlt, in_abc, hL, nk]
        | bad p =>
          rw [qn] at nk
          simp only [resW]
          simp [d_read_atom_k05, b_read_atom_k05, startE, ix, hlt, in_abc, hL, nk]
        | big p =>
          exfalso
          unfold readName at qn
          dsimp only at qn
          split at qn
          · cases qn
          · split at qn <;> cases qn
      · rw [if_neg h123]
        by_cases h40 : c = 40
        · subst h40
          rw [if_pos rfl, if_neg ho8]
          obtain ⟨m', rfl⟩ : ∃ m', m = m' + 2 := ⟨m - 2, by omega⟩
          obtain ⟨S', ei, hk, hge⟩ := ritems_ok (D := D) (G := G) (wf := wf) hw hlen hx (m := m' + 2) (o := o + 1) (ih (o + 1) m' (by omega) (by omega)) (at0 := at0 + 1) (by omega) S
          have e1 : ((at0 + 1 : Nat) : Int) = (at0 : Int) + 1 := by omega
          have e2 : ((o + 1 : Nat) : Int) = (o : Int) + 1 := by omega
          rw [e1, e2] at ei
          cases qi : items (fun a => atomD x (d + 1) a (o + 1)) x (x.length + 1) (at0 + 1) [] with
          | ok y =>
            obtain ⟨ws, e⟩ := y
            obtain ⟨g1, g2⟩ := hge ws e qi
            rw [qi] at ei
            have ei : callN D G wf (m' + 5) f_read_items_k05 [.str x, .int ((at0 : Int) + 1), .int ((o : Int) + 1)] S = .ok (.tup [(mkW ws).pv, .int (e : Nat)]) S' := ei
            simp only [Rs.bind]
            by_cases he : e = x.length
            · rw [if_pos he]
              have he' : (e : Int) = (x.length : Int) := by omega
              refine ⟨S', ?_, hk, fun w e' h => by cases h⟩
              rw [call_eq rfl]
              simp only [resW]
              generalize (mkW ws).pv = MM at ei
              simp [d_read_atom_k05, b_read_atom_k05, startE, ix, hlt, in_abc, hL, hmo, ho8', ei, he']
            · rw [if_neg he]
              have he' : ¬ (e : Int) = (x.length : Int) := by omega
              refine ⟨S', ?_, hk, fun w e' h => by cases h; omega⟩
              rw [call_eq rfl]
              simp only [resW]
              generalize (mkW ws).pv = MM at ei ⊢
              simp [d_read_atom_k05, b_read_atom_k05, startE, ix, hlt, in_abc, hL, hmo, ho8', ei, he']
          | bad p =>
            rw [qi] at ei
            have ei : callN D G wf (m' + 5) f_read_items_k05 [.str x, .int ((at0 : Int) + 1), .int ((o : Int) + 1)] S = .exc ⟨0, [.int (p : Nat)]⟩ S' := ei
            refine ⟨S', ?_, hk, fun w e' h => by cases h⟩
            rw [call_eq rfl]
            simp only [resW, Rs.bind]
            simp [d_read_atom_k05, b_read_atom_k05, startE, ix, hlt, in_abc, hL, hmo, ho8', ei]
          | big p =>
            rw [qi] at ei
            have ei : callN D G wf (m' + 5) f_read_items_k05 [.str x, .int ((at0 : Int) + 1), .int ((o : Int) + 1)] S = .exc ⟨1, [.int (p : Nat)]⟩ S' := ei
            refine ⟨S', ?_, hk, fun w e' h => by cases h⟩
            rw [call_eq rfl]
            simp only [resW, Rs.bind]
            simp [d_read_atom_k05, b_read_atom_k05, startE, ix, hlt, in_abc, hL, hmo, ho8', ei]
        · rw [if_neg h40]
          refine ⟨S, ?_, .refl _ _, fun w e h => by cases h⟩
          rw [call_eq rfl]
          simp only [resW]
          simp [d_read_atom_k05, b_read_atom_k05, startE, ix, hlt, in_abc, hL, hcc, h123, h40]
end K
set_option Elab.async false
set_option linter.all false
set_option maxRecDepth 100000
namespace K
open Mi
variable {D : Nat → Option Def} {G : Nat → Option PV} {wf : Nat}
def W.parts : W → List W
  | .join ts => ts
  | .times t _ => [t]
  | .right t => [t]
  | .left t => [t]
  | _ => []
theorem W.depth_eq (w : W) : w.depth = 1 + W.deps w.parts := by
  cases w <;> simp [W.depth, W.parts, W.deps]
theorem deps_mem : ∀ {ts : List W} {t : W}, t ∈ ts → t.depth ≤ W.deps ts
  | u :: ts, t, h => by
    rw [W.deps]
    rcases List.mem_cons.mp h with rfl | h
    · omega
    · have := deps_mem h; omega
theorem deps_max : ∀ ts : List W, maxI (0 :: ts.map fun t => (t.depth : Int)) = (W.deps ts : Int)
  | [] => by simp [maxI, W.deps]
  | [t] => by
    simp only [List.map_cons, List.map_nil, maxI, W.deps]
    omega
  | t :: u :: ts => by
    have ih := deps_max (u :: ts)
    rw [W.deps]
    simp only [List.map_cons, maxI] at ih ⊢
    omega
theorem wparts_ok [Has D f_parts_of d_parts_of] (w : W) (n : Nat) (S : Store) : callN D G wf (n + 1) f_parts_of [w.pv] S = .ok (.lst (w.parts.map W.pv)) S := by
  rw [call_eq rfl]
  cases w with
  | emp => simp [d_parts_of, b_parts_of, startE, W.parts, pv_emp']
  | ltr c => simp [d_parts_of, b_parts_of, startE, W.parts, pv_ltr']
  | name s => simp [d_parts_of, b_parts_of, startE, W.parts, pv_name']
  | join ts => simp [d_parts_of, b_parts_of, startE, W.parts, pv_join']
  | times t k => simp [d_parts_of, b_parts_of, startE, W.parts, pv_times']
  | right t => simp [d_parts_of, b_parts_of, startE, W.parts, pv_right']
  | left t => simp [d_parts_of, b_parts_of, startE, W.parts, pv_left']
theorem wdepth_ok [Has D f_parts_of d_parts_of] [Has D f_depth d_depth] : ∀ (d : Nat) (w : W), w.depth ≤ d → w.parts.length ≤ 100000 → (∀ t ∈ w.parts, ∀ n S, d + 1 ≤ n → callN D G wf n f_depth [t.pv] S = .ok (.int t.depth) S) → ∀ (n : Nat) (S : Store), d + 2 ≤ n → callN D G wf n f_depth [w.pv] S = .ok (.int w.depth) S := by
  intro d w hd hl hp n S hn
  obtain ⟨m, rfl⟩ : ∃ m, n = m + 2 := ⟨n - 2, by omega⟩
  have h1 := wparts_ok (D := D) (G := G) (wf := wf) w m S
  have hlc := lc_callA (C := ⟨callN D G wf (m + 1), G, wf⟩) (tg := 1) (env := [some w.pv, none]) (S := S) (ts := w.parts) (pv := W.pv) (F := fun t => .int t.depth) (src := ⟨w.parts.map W.pv, none⟩) (elt := .call f_depth (.cons (.var 1) .nil)) rfl
    (fun t ht => by
      have := hp t ht (m + 1) S (by omega)
      generalize t.pv = TT at this ⊢
      simp [this]) []
  rw [List.nil_append] at hlc
  have hi : intsP (w.parts.map fun t => PV.int t.depth) = some (w.parts.map fun t => (t.depth : Int)) := ints_map (fun t : W => (t.depth : Int)) w.parts
  have hm := deps_max w.parts
  have hz : 1 + w.parts.length ≤ lineN := by unfold lineN; omega
  have hz' : w.parts.length + 1 ≤ lineN := by omega
  have he := W.depth_eq w
  have hi0 : intsP (.int 0 :: w.parts.map fun t => PV.int t.depth) = some (0 :: w.parts.map fun t => (t.depth : Int)) := by
    show (intsP _).map (0 :: ·) = _
    rw [hi]; rfl
  have e1 : ((w.depth : Nat) : Int) = 1 + (W.deps w.parts : Int) := by omega
  rw [e1, ← hm]
  have hll : (w.parts.map fun t => PV.int t.depth).length = w.parts.length := by simp
  rw [call_eq rfl]
  generalize (w.parts.map fun t => PV.int t.depth) = DD at hlc hi0 hll
  generalize w.parts.map W.pv = PP at h1 hlc
  generalize w.pv = WW at h1 hlc ⊢
  simp [d_depth, b_depth, startE, h1, hlc, hll, hz, hi0]
end K
set_option Elab.async false
set_option linter.all false
set_option maxRecDepth 100000
namespace K
open Mi
variable {D : Nat → Option Def} {G : Nat → Option PV} {wf : Nat}
inductive Wd : W → Prop
  | mk (w : W) (h : w.parts.length ≤ 100000) (g : ∀ t ∈ w.parts, Wd t) : Wd w
theorem wd_depth [Has D f_parts_of d_parts_of] [Has D f_depth d_depth] {w : W} (h : Wd w) : ∀ (n : Nat) (S : Store), w.depth + 2 ≤ n → callN D G wf n f_depth [w.pv] S = .ok (.int w.depth) S := by
  induction h with
  | mk w hl g ih =>
    refine wdepth_ok w.depth w (Nat.le_refl _) hl fun t ht n S hn => ih t ht n S ?_
    have := deps_mem ht
    have := W.depth_eq w
    omega
structure Gd (w : W) (c : Nat) : Prop where
  wd : Wd w
  dp : w.depth ≤ c
theorem Gd.mono {w : W} {c c' : Nat} (h : Gd w c) (hc : c ≤ c') : Gd w c' := ⟨h.wd, Nat.le_trans h.dp hc⟩
theorem gd_one {w v : W} {c : Nat} (h : Gd w c) (hp : v.parts = [w]) : Gd v (c + 1) := ⟨.mk v (by rw [hp]; simp) (by rw [hp]; intro t ht; rw [List.mem_singleton.mp ht]; exact h.wd), by
  rw [W.depth_eq, hp]
  have := h.dp
  simp [W.deps]; omega⟩
theorem gd_leaf {v : W} {c : Nat} (hp : v.parts = []) (hc : 1 ≤ c) : Gd v c := ⟨.mk v (by rw [hp]; simp) (by rw [hp]; intro t ht; cases ht), by
  rw [W.depth_eq, hp]; simpa [W.deps] using hc⟩
theorem deps_le {c : Nat} : ∀ {ws : List W}, (∀ w ∈ ws, w.depth ≤ c) → W.deps ws ≤ c
  | [], _ => by simp [W.deps]
  | w :: ws, h => by
    have := deps_le (ws := ws) fun v hv => h v (List.mem_cons_of_mem _ hv)
    have := h w List.mem_cons_self
    rw [W.deps]; omega
theorem gd_mk {ws : List W} {c : Nat} (h : ∀ w ∈ ws, Gd w c) (hl : ws.length ≤ 100000) : Gd (mkW ws) (c + 1) := by
  cases ws with
  | nil => exact gd_leaf rfl (by omega)
  | cons w ws =>
    cases ws with
    | nil => exact (h w List.mem_cons_self).mono (by omega)
    | cons v ws =>
      refine ⟨.mk _ hl fun t ht => (h t ht).wd, ?_⟩
      rw [W.depth_eq]
      have := deps_le (c := c) (ws := w :: v :: ws) fun t ht => (h t ht).dp
      show 1 + W.deps (w :: v :: ws) ≤ _
      omega
theorem gd_suf {x : List Nat} {at0 c : Nat} {w w' : W} {e : Nat} (h : Gd w c) (q : readSuf x at0 w = .ok (w', e)) : Gd w' (c + 1) := by
  unfold readSuf at q
  split at q
  · cases q2 : readNum x (at0 + 1) with
    | ok r => rw [q2] at q; cases q; exact gd_one h rfl
    | bad p => rw [q2] at q; cases q
    | big p => rw [q2] at q; cases q
  · cases q
    split
    · exact gd_one h rfl
    · exact gd_one h rfl
theorem gd_sufs {x : List Nat} : ∀ {k at0 c : Nat} {w w' : W} {e : Nat}, at0 ≤ x.length → Gd w c → sufs x k at0 w = .ok (w', e) → Gd w' (c + (e - at0))
  | 0, at0, c, w, w', e, hl, h, q => by
    unfold sufs at q; cases q; simpa using h
  | k + 1, at0, c, w, w', e, hl, h, q => by
    unfold sufs at q
    split at q
    · rename_i cc qq
      have hl' : at0 < x.length := (List.getElem?_eq_some_iff.mp qq).1
      split at q
      · cases q2 : readSuf x at0 w with
        | ok r =>
          obtain ⟨w1, e1⟩ := r
          rw [q2] at q
          have h1 := readSuf_gt hl' q2
          have h2 := sufs_ge h1.2 q
          exact (gd_sufs h1.2 (gd_suf h q2) q).mono (by omega)
        | bad p => rw [q2] at q; cases q
        | big p => rw [q2] at q; cases q
      · cases q; exact h.mono (by omega)
    · cases q; exact h.mono (by omega)
theorem gd_items {x : List Nat} {aF : Nat → Rs (W × Nat)} {b : Nat} (hA : ∀ at0 w e, at0 < x.length → aF at0 = .ok (w, e) → at0 < e ∧ e ≤ x.length ∧ Gd w (e - at0)) : ∀ {k at0 : Nat} {acc ws : List W} {e : Nat}, b ≤ at0 → at0 ≤ x.length → (∀ w ∈ acc, Gd w (at0 - b)) → acc.length + b ≤ at0 → items aF x k at0 acc = .ok (ws, e) → at0 ≤ e ∧ e ≤ x.length ∧ (∀ w ∈ ws, Gd w (e - b)) ∧ ws.length + b ≤ e
  | 0, at0, acc, ws, e, hb, hl, ha, hal, q => by
    unfold items at q; cases q; exact ⟨Nat.le_refl _, hl, ha, hal⟩
  | k + 1, at0, acc, ws, e, hb, hl, ha, hal, q => by
    unfold items at q
    split at q
    · rename_i cc qq
      have hl' : at0 < x.length := (List.getElem?_eq_some_iff.mp qq).1
      split at q
      · cases q; exact ⟨Nat.le_refl _, hl, ha, hal⟩
      · cases q1 : aF at0 with
        | bad p => rw [q1] at q; cases q
        | big p => rw [q1] at q; cases q
        | ok r =>
          obtain ⟨w, e1⟩ := r
          rw [q1] at q
          obtain ⟨g1, g2, g3⟩ := hA at0 w e1 hl' q1
          have q : ((sufs x (x.length + 1) e1 w).bind fun q => items aF x k q.2 (acc ++ [q.1])) = .ok (ws, e) := q
          cases q2 : sufs x (x.length + 1) e1 w with
          | bad p => rw [q2] at q; cases q
          | big p => rw [q2] at q; cases q
          | ok r2 =>
            obtain ⟨w2, e2⟩ := r2
            rw [q2] at q
            obtain ⟨s1, s2⟩ := sufs_ge g2 q2
            have g4 := gd_sufs g2 g3 q2
            have q : items aF x k e2 (acc ++ [w2]) = .ok (ws, e) := q
            have := gd_items (b := b) hA (by omega) s2 (fun v hv => by
              rcases List.mem_append.mp hv with z | z
              · exact (ha v z).mono (by omega)
              · rw [List.mem_singleton.mp z]; exact g4.mono (by omega)) (by simp; omega) q
            exact ⟨by omega, this.2.1, this.2.2.1, this.2.2.2⟩
    · cases q; exact ⟨Nat.le_refl _, hl, ha, hal⟩
theorem gd_atom {x : List Nat} (hlen : x.length ≤ 100000) : ∀ (d o at0 : Nat) (w : W) (e : Nat), at0 < x.length → atomD x d at0 o = .ok (w, e) → at0 < e ∧ e ≤ x.length ∧ Gd w (e - at0)
  | 0, o, at0, w, e, hl, q => by unfold atomD at q; cases q
  | d + 1, o, at0, w, e, hl, q => by
    unfold atomD at q
    split at q
    · split at q
      · cases q; exact ⟨by omega, by omega, gd_leaf rfl (by omega)⟩
      · split at q
        · obtain ⟨h1, h2, s, rfl⟩ := readName_gt hl q
          exact ⟨h1, h2, gd_leaf rfl (by omega)⟩
        · split at q
          · split at q
            · cases q
            · cases q1 : items (fun a => atomD x d a (o + 1)) x (x.length + 1) (at0 + 1) [] with
              | bad p => rw [q1] at q; cases q
              | big p => rw [q1] at q; cases q
              | ok r =>
                obtain ⟨ws, e1⟩ := r
                rw [q1] at q
                obtain ⟨g1, g2, g3, g4⟩ := gd_items (b := at0 + 1) (fun a w e hl h => gd_atom hlen d (o + 1) a w e hl h) (Nat.le_refl _) (by omega) (by simp) (by simp) q1
                have q : (if e1 = x.length then Rs.bad e1 else .ok (mkW ws, e1 + 1)) = .ok (w, e) := q
                split at q
                · cases q
                · cases q
                  exact ⟨by omega, by omega, (gd_mk g3 (by omega)).mono (by omega)⟩
          · cases q
    · cases q
theorem gd_word {x : List Nat} (hlen : x.length ≤ 100000) {ws : List W} {e : Nat} (q : itemsD x 9 0 0 = .ok (ws, e)) : e ≤ x.length ∧ Gd (mkW ws) (x.length + 1) := by
  obtain ⟨g1, g2, g3, g4⟩ := gd_items (b := 0) (fun a w e hl h => gd_atom hlen 9 0 a w e hl h) (Nat.le_refl _) (Nat.zero_le _) (by simp) (by simp) q
  exact ⟨g2, (gd_mk g3 (by omega)).mono (by omega)⟩
def resP (r : Rs W) (S : Store) : R PV := match r with
  | .ok w => .ok w.pv S
  | .bad p => .exc ⟨0, [.int (p : Nat)]⟩ S
  | .big k => .exc ⟨1, [.int (k : Nat)]⟩ S
theorem parse_ok [Has D f_parts_of d_parts_of] [Has D f_depth d_depth] [Has D f_read_name_k05 d_read_name_k05] [Has D f_read_number d_read_number] [Has D f_read_suffix d_read_suffix] [Has D f_read_items_k05 d_read_items_k05] [Has D f_read_atom_k05 d_read_atom_k05] [Has D f_parse_word_k05 d_parse_word_k05] [RG : RdG G] {x : List Nat} (hw20 : 20 ≤ wf) (hw : x.length < wf) (hlen : x.length ≤ 100000) (hx : okT x = true)
    {n : Nat} (hn : 30 ≤ n) (hd : ∀ ws e, itemsD x 9 0 0 = .ok (ws, e) → (mkW ws).depth + 3 ≤ n) (S : Store) : ∃ S', callN D G wf n f_parse_word_k05 [.str x] S = resP (parseW x) S' ∧ Keep [] S S' := by
  obtain ⟨m, rfl⟩ : ∃ m, n = m + 24 := ⟨n - 24, by omega⟩
  have hmt := RG.mt
  have hmd := RG.md
  unfold parseW
  by_cases h200 : 200 < x.length
  · have h200' : (200 : Int) < x.length := by omega
    rw [if_pos h200]
    refine ⟨S, ?_, .refl _ _⟩
    rw [call_eq rfl]
    simp only [resP]
    simp [d_parse_word_k05, b_parse_word_k05, startE, hmt, h200']
  · have h200' : ¬ (200 : Int) < x.length := by omega
    rw [if_neg h200]
    have hA := atom_ok (D := D) (G := G) (wf := wf) hw20 hw hlen hx 8 0 (m + 18) (by omega) (by omega)
    obtain ⟨S', ei, hk, hge⟩ := ritems_ok (D := D) (G := G) (wf := wf) hw hlen hx (m := m + 20) (o := 0) hA (at0 := 0) (Nat.zero_le _) S
    refine ⟨S', ?_, hk⟩
    have e0 : items (fun a => atomD x (8 + 1) a 0) x (x.length + 1) 0 [] = itemsD x 9 0 0 := rfl
    rw [e0] at ei
    rw [call_eq rfl]
    cases q : itemsD x 9 0 0 with
    | bad p =>
      rw [q] at ei
      have ei : callN D G wf (m + 23) f_read_items_k05 [.str x, .int 0, .int 0] S = .exc ⟨0, [.int (p : Nat)]⟩ S' := ei
      simp only [Rs.bind, resP]
      simp [d_parse_word_k05, b_parse_word_k05, startE, hmt, h200', ei]
    | big p =>
      rw [q] at ei
      have ei : callN D G wf (m + 23) f_read_items_k05 [.str x, .int 0, .int 0] S = .exc ⟨1, [.int (p : Nat)]⟩ S' := ei
      simp only [Rs.bind, resP]
      simp [d_parse_word_k05, b_parse_word_k05, startE, hmt, h200', ei]
    | ok r =>
      obtain ⟨ws, e⟩ := r
      rw [q] at ei
      have ei : callN D G wf (m + 23) f_read_items_k05 [.str x, .int 0, .int 0] S = .ok (.tup [(mkW ws).pv, .int (e : Nat)]) S' := ei
      obtain ⟨he, gd⟩ := gd_word hlen q
      have hdep := hd ws e q
      have dk := wd_depth (D := D) (G := G) (wf := wf) gd.wd (m + 23) S' (by omega)
      simp only [Rs.bind]
      generalize (mkW ws).depth = dd at dk hdep
      by_cases hlt : e < x.length
      · have hlt' : (e : Int) < x.length := by omega
        rw [if_pos hlt]
        simp only [resP]
        generalize (mkW ws).pv = MM at ei dk
        simp [d_parse_word_k05, b_parse_word_k05, startE, hmt, h200', ei, hlt']
      · have hlt' : ¬ (e : Int) < x.length := by omega
        rw [if_neg hlt]
        by_cases h12 : 12 < dd
        · have h12' : (12 : Int) < dd := by omega
          rw [if_pos h12]
          simp only [resP]
          generalize (mkW ws).pv = MM at ei dk
          simp [d_parse_word_k05, b_parse_word_k05, startE, hmt, hmd, h200', ei, hlt', dk, h12']
        · have h12' : ¬ (12 : Int) < dd := by omega
          rw [if_neg h12]
          simp only [resP]
          generalize (mkW ws).pv = MM at ei dk ⊢
          simp [d_parse_word_k05, b_parse_word_k05, startE, hmt, hmd, h200', ei, hlt', dk, h12']
end K
set_option Elab.async false
set_option linter.all false
set_option maxRecDepth 100000
namespace K
open Mi
variable {D : Nat → Option Def} {G : Nat → Option PV} {wf : Nat}
def xText : List Nat := [73, 110, 118, 97, 108, 105, 100, 84, 101, 120, 116]
def xLarge : List Nat := [84, 111, 111, 76, 97, 114, 103, 101]
def toldV : Rs W → PV
  | .ok w => .tup [.str valN, w.pv]
  | .bad q => .tup [.str xText, .int (q : Nat)]
  | .big k => .tup [.str xLarge, .int (k : Nat)]
def refV : Rs W → PV
  | .ok _ => .str valN
  | .bad q => .tup [.str xText, .int (q : Nat)]
  | .big k => .tup [.str xLarge, .int (k : Nat)]
theorem tell_ok {p : Nat} {S S' : Store} {m : M PV} {r : Rs W} (h : TabAt p S) (hm : m S = resP r S') : tryM (some (.int p)) m S = .ok (toldV r) S' := by
  cases r with
  | ok w => exact try_ok h hm
  | bad q => exact try_exc h hm rfl
  | big k => exact try_exc h hm rfl
theorem ref_ok {p : Nat} {S S' : Store} {m : M PV} {r : Rs W} (h : TabAt p S) (hm : m S = resP r S') : bnd (tryM (some (.int p)) m S) (fun x S1 => opX .refu x S1) = .ok (refV r) S' := by
  rw [tell_ok h hm, bnd_ok]
  cases r with
  | ok w =>
    show refM (.tup [.str valN, w.pv]) S' = _
    show (if valN.all (· < 1114112) then R.ok (if valN = valN then PV.str valN else .tup [.str valN, w.pv]) S' else .stuck) = _
    rw [if_pos (by decide), if_pos rfl]; rfl
  | bad q =>
    show (if xText.all (· < 1114112) then R.ok (if xText = valN then PV.str valN else .tup [.str xText, .int (q : Nat)]) S' else .stuck) = _
    rw [if_pos (by decide), if_neg (by decide)]; rfl
  | big q =>
    show (if xLarge.all (· < 1114112) then R.ok (if xLarge = valN then PV.str valN else .tup [.str xLarge, .int (q : Nat)]) S' else .stuck) = _
    rw [if_pos (by decide), if_neg (by decide)]; rfl
@[simp] theorem opEq_ref (S : Store) (r : Nat) (b : PV) : opC .eq (.ref r) b S = (match S[r]? with
    | some (.lst xs) => opC .eq (.lst xs) b S
    | _ => .stuck) := by
  show (match S[r]? with
    | some (.lst xs) => guardM (okP 64 (.lst xs) && okP 64 b) (eqP (.lst xs) b) S
    | _ => R.stuck) = _
  cases S[r]? with
  | none => rfl
  | some c => cases c <;> rfl
theorem items_ltrs {x : List Nat} (hx : ∀ c ∈ x, isLtr c = true) {d o : Nat} : ∀ (k at0 : Nat) (acc : List W), x.length ≤ at0 + k → at0 ≤ x.length → items (fun a => atomD x (d + 1) a o) x k at0 acc = .ok (acc ++ (x.drop at0).map W.ltr, x.length)
  | 0, at0, acc, h, hl => by
    have : at0 = x.length := by omega
    subst this
    simp [items]
  | k + 1, at0, acc, h, hl => by
    unfold items
    cases q : x[at0]? with
    | none =>
      have hl' : ¬ at0 < x.length := fun z => by rw [List.getElem?_eq_getElem z] at q; cases q
      have : at0 = x.length := by omega
      subst this
      simp
    | some c =>
      obtain ⟨hl', hc⟩ := List.getElem?_eq_some_iff.mp q
      have hL := hx c (List.mem_of_getElem? q)
      have h41 : ¬ c = 41 := fun e => by subst e; cases hL
      dsimp only
      rw [if_neg h41]
      have ea : atomD x (d + 1) at0 o = .ok (.ltr c, at0 + 1) := by
        unfold atomD; rw [q]; dsimp only; rw [if_pos hL]
      have es : sufs x (x.length + 1) (at0 + 1) (.ltr c) = .ok (.ltr c, at0 + 1) := by
        unfold sufs
        cases q2 : x[at0 + 1]? with
        | none => rfl
        | some c2 =>
          have hL2 := hx c2 (List.mem_of_getElem? q2)
          have : isSuf c2 = false := by
            unfold isLtr at hL2; unfold isSuf
            simp at hL2 ⊢; omega
          dsimp only
          rw [this]; rfl
      rw [ea]
      simp only [Rs.bind]
      rw [es]
      simp only
      have ih := items_ltrs hx (d := d) (o := o) k (at0 + 1) (acc ++ [W.ltr c]) (by omega) (by omega)
      rw [ih]
      rw [List.drop_eq_getElem_cons hl', hc]
      simp
theorem deps_ltrs : ∀ l : List Nat, W.deps (l.map W.ltr) ≤ 1
  | [] => by simp [W.deps]
  | c :: l => by
    have := deps_ltrs l
    simp only [List.map_cons, W.deps, W.depth]
    omega
theorem parse_ltrs {x : List Nat} (hx : ∀ c ∈ x, isLtr c = true) (hl : x.length ≤ 200) : ∃ w, parseW x = .ok w ∧ ∀ ws e, itemsD x 9 0 0 = .ok (ws, e) → (mkW ws).depth ≤ 2 := by
  have h := items_ltrs hx (d := 8) (o := 0) (x.length + 1) 0 [] (by omega) (by omega)
  have h : itemsD x 9 0 0 = .ok (x.map W.ltr, x.length) := by
    rw [List.nil_append, List.drop_zero] at h; exact h
  have hd : (mkW (x.map W.ltr)).depth ≤ 2 := by
    cases x with
    | nil => simp [mkW, W.depth]
    | cons a x =>
      cases x with
      | nil => simp [mkW, W.depth]
      | cons b x =>
        have := deps_ltrs (a :: b :: x)
        simp only [List.map_cons] at this ⊢
        rw [mkW, W.depth]; omega
  refine ⟨mkW (x.map W.ltr), ?_, fun ws e q => ?_⟩
  · unfold parseW
    rw [if_neg (by omega), h]
    simp only [Rs.bind]
    rw [if_neg (by omega), if_neg (by omega)]
  · rw [h] at q; cases q; exact hd
end K
set_option Elab.async false
set_option linter.all false
set_option maxRecDepth 100000
namespace K
open Mi
def sSet : List (List Nat) := [[62], [60], [94, 50]]
theorem head_suf : ∀ (ss : List (List Nat)), (∀ s ∈ ss, s ∈ sSet) → ∀ c, ss.flatten[0]? = some c → isDg c = false
  | [], h, c, hc => by simp at hc
  | s :: ss, h, c, hc => by
    have hs := h s List.mem_cons_self
    simp only [sSet, List.mem_cons, List.not_mem_nil, or_false] at hs
    rcases hs with rfl | rfl | rfl <;> (simp at hc; subst hc; rfl)
theorem get_app (pre l : List Nat) (i : Nat) : (pre ++ l)[pre.length + i]? = l[i]? := by
  rw [List.getElem?_append_right (by omega)]
  congr 1; omega
theorem num_two {x pre l : List Nat} (hx : x = pre ++ 50 :: l) (hl : ∀ c, l[0]? = some c → isDg c = false) : readNum x pre.length = .ok (2, pre.length + 1) := by
  have g0 : x[pre.length]? = some 50 := by rw [hx]; simpa using get_app pre (50 :: l) 0
  have g1 : x[pre.length + 1]? = l[0]? := by rw [hx]; simpa using get_app pre (50 :: l) 1
  have hlen : x.length = pre.length + l.length + 1 := by rw [hx]; simp; omega
  have he : dgEnd x x.length pre.length = pre.length + 1 := by
    obtain ⟨k, hk⟩ : ∃ k, x.length = k + 1 := ⟨x.length - 1, by omega⟩
    rw [hk]
    unfold dgEnd
    rw [g0]
    dsimp only
    rw [if_pos (show isDg 50 = true from rfl)]
    cases k with
    | zero => rfl
    | succ k =>
      unfold dgEnd
      rw [g1]
      cases q : l[0]? with
      | none => rfl
      | some c => dsimp only; rw [if_neg (by rw [hl c q]; exact Bool.false_ne_true)]
  have hd : digs x pre.length = [50] := by
    unfold digs
    rw [he, hx]
    simp
  unfold readNum
  rw [hd, he]
  rfl
theorem sufs_all {x : List Nat} : ∀ (ss : List (List Nat)) (pre : List Nat) (k : Nat) (w : W), (∀ s ∈ ss, s ∈ sSet) → x = pre ++ ss.flatten → ss.length ≤ k → ∃ w', sufs x k pre.length w = .ok (w', x.length) ∧ w'.depth = w.depth + ss.length
  | [], pre, k, w, h, hx, hk => by
    have hl : x.length = pre.length := by rw [hx]; simp
    refine ⟨w, ?_, by simp⟩
    cases k with
    | zero => unfold sufs; rw [hl]
    | succ k =>
      unfold sufs
      have : x[pre.length]? = none := List.getElem?_eq_none (by omega)
      rw [this, hl]
  | s :: ss, pre, k, w, h, hx, hk => by
    cases k with
    | zero => simp at hk
    | succ k =>
      have hs := h s List.mem_cons_self
      have hr : ∀ z ∈ ss, z ∈ sSet := fun z hz => h z (List.mem_cons_of_mem _ hz)
      simp only [List.length_cons] at hk
      simp only [sSet, List.mem_cons, List.not_mem_nil, or_false] at hs
      rcases hs with rfl | rfl | rfl
      · have g0 : x[pre.length]? = some 62 := by rw [hx]; simpa using get_app pre (62 :: ss.flatten) 0
        have hx' : x = (pre ++ [62]) ++ ss.flatten := by rw [hx]; simp
        obtain ⟨w', e, hd⟩ := sufs_all ss (pre ++ [62]) k (.right w) hr hx' (by omega)
        refine ⟨w', ?_, by rw [hd]; simp [W.depth]; omega⟩
        unfold sufs
        rw [g0]
        dsimp only
        rw [if_pos (show isSuf 62 = true from rfl)]
        have er : readSuf x pre.length w = .ok (.right w, pre.length + 1) := by
          unfold readSuf; rw [g0]; simp
        rw [er]
        simp only [Rs.bind]
        simpa using e
      · have g0 : x[pre.length]? = some 60 := by rw [hx]; simpa using get_app pre (60 :: ss.flatten) 0
        have hx' : x = (pre ++ [60]) ++ ss.flatten := by rw [hx]; simp
        obtain ⟨w', e, hd⟩ := sufs_all ss (pre ++ [60]) k (.left w) hr hx' (by omega)
        refine ⟨w', ?_, by rw [hd]; simp [W.depth]; omega⟩
        unfold sufs
        rw [g0]
        dsimp only
        rw [if_pos (show isSuf 60 = true from rfl)]
        have er : readSuf x pre.length w = .ok (.left w, pre.length + 1) := by
          unfold readSuf; rw [g0]; simp
        rw [er]
        simp only [Rs.bind]
        simpa using e
      · have g0 : x[pre.length]? = some 94 := by rw [hx]; simpa using get_app pre (94 :: 50 :: ss.flatten) 0
        have hx' : x = (pre ++ [94, 50]) ++ ss.flatten := by rw [hx]; simp
        have hx2 : x = (pre ++ [94]) ++ 50 :: ss.flatten := by rw [hx]; simp
        obtain ⟨w', e, hd⟩ := sufs_all ss (pre ++ [94, 50]) k (.times w 2) hr hx' (by omega)
        refine ⟨w', ?_, by rw [hd]; simp [W.depth]; omega⟩
        unfold sufs
        rw [g0]
        dsimp only
        rw [if_pos (show isSuf 94 = true from rfl)]
        have en := num_two hx2 (head_suf ss hr)
        have er : readSuf x pre.length w = .ok (.times w 2, pre.length + 2) := by
          unfold readSuf; rw [g0, if_pos rfl]
          have : (pre ++ [94]).length = pre.length + 1 := by simp
          rw [this] at en
          rw [en]; rfl
        rw [er]
        simp only [Rs.bind]
        simpa using e
theorem parse_sufs {ss : List (List Nat)} (h : ∀ s ∈ ss, s ∈ sSet) (hl : (98 :: ss.flatten).length ≤ 200) : ∃ w, itemsD (98 :: ss.flatten) 9 0 0 = .ok ([w], (98 :: ss.flatten).length) ∧ w.depth = ss.length + 1 := by
  have hfl : ∀ l : List (List Nat), (∀ s ∈ l, s ∈ sSet) → l.length ≤ l.flatten.length := by
    intro l
    induction l with
    | nil => intro _; simp
    | cons s l ih =>
      intro hh
      have h1 := ih fun z hz => hh z (List.mem_cons_of_mem _ hz)
      have hs := hh s List.mem_cons_self
      simp only [sSet, List.mem_cons, List.not_mem_nil, or_false] at hs
      rcases hs with rfl | rfl | rfl <;> (simp at h1 ⊢; omega)
  obtain ⟨w, e, hd⟩ := sufs_all (x := 98 :: ss.flatten) ss [98] ((98 :: ss.flatten).length + 1) (.ltr 98) h rfl (by have := hfl ss h; show ss.length ≤ ss.flatten.length + 1 + 1; omega)
  refine ⟨w, ?_, by rw [hd]; simp [W.depth]; omega⟩
  unfold itemsD
  obtain ⟨x, hx⟩ : ∃ x, x = 98 :: ss.flatten := ⟨_, rfl⟩
  rw [← hx] at e ⊢
  have h0 : x[0]? = some 98 := by rw [hx]; rfl
  have hpos : 0 < x.length := by rw [hx]; simp
  obtain ⟨k, hk⟩ : ∃ k, x.length = k + 1 := ⟨x.length - 1, by omega⟩
  have ea : atomD x 9 0 0 = .ok (.ltr 98, 1) := by
    unfold atomD; rw [h0]; dsimp only; rw [if_pos (show isLtr 98 = true from rfl)]
  have hn : x[x.length]? = none := List.getElem?_eq_none (Nat.le_refl _)
  have e : sufs x (x.length + 1) 1 (.ltr 98) = .ok (w, x.length) := e
  unfold items
  rw [h0]
  dsimp only
  rw [if_neg (by decide), ea]
  simp only [Rs.bind]
  rw [e]
  simp only
  rw [hk]
  unfold items
  rw [← hk, hn]
  rfl
end K
set_option Elab.async false
set_option linter.all false
set_option maxRecDepth 100000
namespace K
open Mi
def scan (x : List Nat) : Nat → Nat → Nat → Bool → Rs Unit
  | 0, at0, o, _ => if 0 < o then .bad at0 else .ok ()
  | k + 1, at0, o, fr => match x[at0]? with
    | none => if 0 < o then .bad at0 else .ok ()
    | some c => if isLtr c then scan x k (at0 + 1) o false
      else if c = 123 then (readName x at0).bind fun r => scan x k r.2 o false
      else if c = 40 then (if o = 8 then .big 8 else scan x k (at0 + 1) (o + 1) true)
      else if c = 41 ∧ 0 < o then scan x k (at0 + 1) (o - 1) false
      else if (c = 62 ∨ c = 60) ∧ fr = false then scan x k (at0 + 1) o false
      else if c = 94 ∧ fr = false then (readNum x (at0 + 1)).bind fun r => scan x k r.2 o false
      else .bad at0
theorem readNum_gt {x : List Nat} {at0 v e : Nat} (hl : at0 ≤ x.length) (h : readNum x at0 = .ok (v, e)) : at0 ≤ e ∧ e ≤ x.length := by
  unfold readNum at h
  split at h
  · cases h
    exact ⟨dgEnd_ge x x.length at0, dgEnd_le x x.length at0 hl⟩
  · cases h
theorem scan_end {x : List Nat} {k at0 o : Nat} {fr : Bool} (h : x.length ≤ at0) : scan x k at0 o fr = if 0 < o then .bad at0 else .ok () := by
  cases k with
  | zero => rfl
  | succ k => unfold scan; rw [List.getElem?_eq_none h]
theorem scan_fuel {x : List Nat} : ∀ (k k' at0 o : Nat) (fr : Bool), x.length ≤ at0 + k → x.length ≤ at0 + k' → scan x k at0 o fr = scan x k' at0 o fr
  | 0, k', at0, o, fr, h, h' => by rw [scan_end (by omega), scan_end (by omega)]
  | k + 1, 0, at0, o, fr, h, h' => by rw [scan_end (by omega), scan_end (by omega)]
  | k + 1, k' + 1, at0, o, fr, h, h' => by
    unfold scan
    cases q : x[at0]? with
    | none => rfl
    | some c =>
      have hl : at0 < x.length := (List.getElem?_eq_some_iff.mp q).1
      dsimp only
      split
      · exact scan_fuel k k' _ _ _ (by omega) (by omega)
      · split
        · cases q1 : readName x at0 with
          | ok r =>
            obtain ⟨w, e⟩ := r
            have := readName_gt hl q1
            exact scan_fuel k k' _ _ _ (by simp only; omega) (by simp only; omega)
          | bad p => rfl
          | big p => rfl
        · split
          · split
            · rfl
            · exact scan_fuel k k' _ _ _ (by omega) (by omega)
          · split
            · exact scan_fuel k k' _ _ _ (by omega) (by omega)
            · split
              · exact scan_fuel k k' _ _ _ (by omega) (by omega)
              · split
                · cases q1 : readNum x (at0 + 1) with
                  | ok r =>
                    obtain ⟨v, e⟩ := r
                    have := readNum_gt (by omega) q1
                    exact scan_fuel k k' _ _ _ (by simp only; omega) (by simp only; omega)
                  | bad p => rfl
                  | big p => rfl
                · rfl
def sc (x : List Nat) (at0 o : Nat) (fr : Bool) : Rs Unit := scan x (x.length + 1) at0 o fr
theorem sc_end {x : List Nat} {at0 o : Nat} {fr : Bool} (h : x.length ≤ at0) : sc x at0 o fr = if 0 < o then .bad at0 else .ok () := scan_end h
theorem sc_at {x : List Nat} {at0 o c : Nat} {fr : Bool} (h : x[at0]? = some c) : sc x at0 o fr = (if isLtr c then sc x (at0 + 1) o false
      else if c = 123 then (readName x at0).bind fun r => sc x r.2 o false
      else if c = 40 then (if o = 8 then .big 8 else sc x (at0 + 1) (o + 1) true)
      else if c = 41 ∧ 0 < o then sc x (at0 + 1) (o - 1) false
      else if (c = 62 ∨ c = 60) ∧ fr = false then sc x (at0 + 1) o false
      else if c = 94 ∧ fr = false then (readNum x (at0 + 1)).bind fun r => sc x r.2 o false
      else .bad at0) := by
  have hl : at0 < x.length := (List.getElem?_eq_some_iff.mp h).1
  have f : ∀ at1 o fr, at0 < at1 → scan x x.length at1 o fr = sc x at1 o fr := fun at1 o fr hh => scan_fuel _ _ _ _ _ (by omega) (by omega)
  show scan x (x.length + 1) at0 o fr = _
  unfold scan
  rw [h]
  dsimp only
  rw [f (at0 + 1) o false (by omega), f (at0 + 1) (o + 1) true (by omega), f (at0 + 1) (o - 1) false (by omega)]
  split
  · rfl
  · split
    · cases q1 : readName x at0 with
      | ok r =>
        obtain ⟨w, e⟩ := r
        have := readName_gt hl q1
        exact f e o false (by omega)
      | bad p => rfl
      | big p => rfl
    · split
      · rfl
      · split
        · rfl
        · split
          · rfl
          · split
            · cases q1 : readNum x (at0 + 1) with
              | ok r =>
                obtain ⟨v, e⟩ := r
                have := readNum_gt (by omega) q1
                exact f e o false (by omega)
              | bad p => rfl
              | big p => rfl
            · rfl
theorem suf_cases {c : Nat} (h : isSuf c = true) : isLtr c = false ∧ ¬ c = 123 ∧ ¬ c = 40 ∧ ¬ c = 41 ∧ (c = 62 ∨ c = 60 ∨ c = 94) := by
  unfold isSuf at h
  simp at h
  unfold isLtr
  simp
  omega
/-- suffixes: both go on alike -/
theorem sc_sufs {x : List Nat} {o : Nat} : ∀ (k at0 : Nat) (w : W), at0 ≤ x.length → x.length ≤ at0 + k → (match sufs x k at0 w with
    | .ok (_, e) => sc x at0 o false = sc x e o false ∧ ∀ c, x[e]? = some c → isSuf c = false
    | .bad p => sc x at0 o false = .bad p
    | .big p => sc x at0 o false = .big p)
  | 0, at0, w, hl, hk => by
    unfold sufs
    refine ⟨rfl, fun c hc => ?_⟩
    rw [List.getElem?_eq_none (by omega)] at hc; cases hc
  | k + 1, at0, w, hl, hk => by
    unfold sufs
    cases q : x[at0]? with
    | none =>
      dsimp only
      exact ⟨rfl, fun c hc => by rw [q] at hc; cases hc⟩
    | some c =>
      have hl' : at0 < x.length := (List.getElem?_eq_some_iff.mp q).1
      dsimp only
      cases hs : isSuf c with
      | false =>
        simp only [Bool.false_eq_true, if_false]
        exact ⟨trivial, fun c' hc => by rw [q] at hc; cases hc; exact hs⟩
      | true =>
        obtain ⟨h1, h2, h3, h4, h5⟩ := suf_cases hs
        have hsc := sc_at (o := o) (fr := false) q
        rw [if_neg (by rw [h1]; exact Bool.false_ne_true), if_neg h2, if_neg h3, if_neg (fun z => h4 z.1)] at hsc
        simp only [if_true]
        unfold readSuf
        rw [q]
        by_cases h94 : c = 94
        · subst h94
          rw [if_pos rfl]
          rw [if_neg (by rintro ⟨z | z, _⟩ <;> cases z), if_pos ⟨rfl, rfl⟩] at hsc
          cases qn : readNum x (at0 + 1) with
          | ok r =>
            obtain ⟨v, e⟩ := r
            obtain ⟨g1, g2⟩ := readNum_gt (by omega) qn
            rw [qn] at hsc
            have hsc : sc x at0 o false = sc x e o false := hsc
            have ih := sc_sufs (o := o) k e (.times w v) g2 (by omega)
            simp only [Rs.bind]
            rw [hsc]
            exact ih
          | bad p => rw [qn] at hsc; exact hsc
          | big p => rw [qn] at hsc; exact hsc
        · rw [if_neg (by simpa using h94)]
          rw [if_pos ⟨by omega, rfl⟩] at hsc
          simp only [Rs.bind]
          rw [hsc]
          exact sc_sufs k (at0 + 1) _ (by omega) (by omega)
/-- what an atom, a row of items tells of the law's reading -/
def AtomSc (x : List Nat) (o : Nat) (aF : Nat → Rs (W × Nat)) : Prop := ∀ (at0 c : Nat) (fr : Bool), x[at0]? = some c → ¬ c = 41 → (fr = true ∨ isSuf c = false) → (match aF at0 with
    | .ok (_, e) => sc x at0 o fr = sc x e o false ∧ at0 < e ∧ e ≤ x.length
    | .bad p => sc x at0 o fr = .bad p
    | .big p => sc x at0 o fr = .big p)
theorem sc_items {x : List Nat} {o : Nat} {aF : Nat → Rs (W × Nat)} (hA : AtomSc x o aF) : ∀ (k at0 : Nat) (acc : List W) (fr : Bool), at0 ≤ x.length → x.length ≤ at0 + k → (fr = true ∨ ∀ c, x[at0]? = some c → isSuf c = false) → (match items aF x k at0 acc with
    | .ok (_, e) => (∃ fr', sc x at0 o fr = sc x e o fr') ∧ (x.length ≤ e ∨ x[e]? = some 41) ∧ e ≤ x.length ∧ at0 ≤ e
    | .bad p => sc x at0 o fr = .bad p
    | .big p => sc x at0 o fr = .big p)
  | 0, at0, acc, fr, hl, hk, hf => by
    unfold items
    exact ⟨⟨fr, rfl⟩, .inl (by omega), hl, Nat.le_refl _⟩
  | k + 1, at0, acc, fr, hl, hk, hf => by
    unfold items
    cases q : x[at0]? with
    | none =>
      dsimp only
      refine ⟨⟨fr, rfl⟩, .inl ?_, hl, Nat.le_refl _⟩
      rcases Nat.lt_or_ge at0 x.length with z | z
      · rw [List.getElem?_eq_getElem z] at q; cases q
      · exact z
    | some c =>
      dsimp only
      by_cases h41 : c = 41
      · subst h41
        simp only [if_true]
        exact ⟨⟨fr, rfl⟩, .inr q, hl, Nat.le_refl _⟩
      · rw [if_neg h41]
        have ha := hA at0 c fr q h41 (hf.imp id fun z => z c q)
        cases q1 : aF at0 with
        | bad p => rw [q1] at ha; exact ha
        | big p => rw [q1] at ha; exact ha
        | ok r =>
          obtain ⟨w, e⟩ := r
          rw [q1] at ha
          obtain ⟨h1, h2, h3⟩ := ha
          have hs := sc_sufs (o := o) (x.length + 1) e w h3 (by omega)
          simp only [Rs.bind]
          cases q2 : sufs x (x.length + 1) e w with
          | bad p => rw [q2] at hs; rw [h1]; exact hs
          | big p => rw [q2] at hs; rw [h1]; exact hs
          | ok r2 =>
            obtain ⟨w2, e2⟩ := r2
            rw [q2] at hs
            obtain ⟨g1, g2⟩ := sufs_ge h3 q2
            have ih := sc_items hA k e2 (acc ++ [w2]) false g2 (by omega) (.inr hs.2)
            rw [h1, hs.1]
            dsimp only
            cases q3 : items aF x k e2 (acc ++ [w2]) with
            | bad p => rw [q3] at ih; exact ih
            | big p => rw [q3] at ih; exact ih
            | ok r3 =>
              obtain ⟨ws, e3⟩ := r3
              rw [q3] at ih
              exact ⟨ih.1, ih.2.1, ih.2.2.1, by have := ih.2.2.2; omega⟩
theorem sc_atom {x : List Nat} : ∀ (d o : Nat), o + d = 8 → AtomSc x o (fun a => atomD x (d + 1) a o) := by
  intro d
  induction d with
  | zero =>
    intro o ho at0 c fr q h41 hf
    have hl : at0 < x.length := (List.getElem?_eq_some_iff.mp q).1
    obtain rfl : o = 8 := by omega
    have hsc := sc_at (o := 8) (fr := fr) q
    unfold atomD
    dsimp only
    rw [q]
    dsimp only
    cases hL : isLtr c with
    | true =>
      rw [hL] at hsc
      simp only [if_true] at hsc ⊢
      exact ⟨hsc, by omega, by omega⟩
    | false =>
      rw [hL] at hsc
      simp only [Bool.false_eq_true, if_false] at hsc ⊢
      by_cases h123 : c = 123
      · subst h123
        simp only [if_true] at hsc ⊢
        cases qn : readName x at0 with
        | ok r =>
          obtain ⟨w, e⟩ := r
          rw [qn] at hsc
          have := readName_gt hl qn
          exact ⟨hsc, this.1, this.2.1⟩
        | bad p => rw [qn] at hsc; exact hsc
        | big p => rw [qn] at hsc; exact hsc
      · rw [if_neg h123] at hsc ⊢
        by_cases h40 : c = 40
        · subst h40
          simp only [if_true] at hsc ⊢
          exact hsc
        · rw [if_neg h40] at hsc ⊢
          rw [if_neg (fun z => h41 z.1)] at hsc
          rcases hf with hf | hf
          · subst hf
            rw [if_neg (fun z => by cases z.2), if_neg (fun z => by cases z.2)] at hsc
            exact hsc
          · have hn : ¬ (c = 62 ∨ c = 60 ∨ c = 94) := fun z => by
              unfold isSuf at hf; simp at hf; omega
            rw [if_neg (fun z => hn (by omega)), if_neg (fun z => hn (by omega))] at hsc
            exact hsc
  | succ d ih =>
    intro o ho at0 c fr q h41 hf
    have hl : at0 < x.length := (List.getElem?_eq_some_iff.mp q).1
    have ho8 : ¬ o = 8 := by omega
    have hsc := sc_at (o := o) (fr := fr) q
    unfold atomD
    dsimp only
    rw [q]
    dsimp only
    cases hL : isLtr c with
    | true =>
      rw [hL] at hsc
      simp only [if_true] at hsc ⊢
      exact ⟨hsc, by omega, by omega⟩
    | false =>
      rw [hL] at hsc
      simp only [Bool.false_eq_true, if_false] at hsc ⊢
      by_cases h123 : c = 123
      · subst h123
        simp only [if_true] at hsc ⊢
        cases qn : readName x at0 with
        | ok r =>
          obtain ⟨w, e⟩ := r
          rw [qn] at hsc
          have := readName_gt hl qn
          exact ⟨hsc, this.1, this.2.1⟩
        | bad p => rw [qn] at hsc; exact hsc
        | big p => rw [qn] at hsc; exact hsc
      · rw [if_neg h123] at hsc ⊢
        by_cases h40 : c = 40
        · subst h40
          simp only [if_true] at hsc ⊢
          rw [if_neg ho8] at hsc ⊢
          have hi := sc_items (ih (o + 1) (by omega)) (x.length + 1) (at0 + 1) [] true (by omega) (by omega) (.inl rfl)
          rw [hsc]
          cases qi : items (fun a => atomD x (d + 1) a (o + 1)) x (x.length + 1) (at0 + 1) [] with
          | bad p => rw [qi] at hi; exact hi
          | big p => rw [qi] at hi; exact hi
          | ok r =>
            obtain ⟨ws, e⟩ := r
            rw [qi] at hi
            obtain ⟨⟨fr', h1⟩, h2, h3, h4⟩ := hi
            simp only [Rs.bind]
            rw [h1]
            by_cases he : e = x.length
            · rw [if_pos he]
              show sc x e (o + 1) fr' = .bad e
              rw [sc_end (by omega), if_pos (by omega)]
            · rw [if_neg he]
              have h41 : x[e]? = some 41 := h2.resolve_left (by omega)
              have hel : e < x.length := by omega
              have hs2 := sc_at (o := o + 1) (fr := fr') h41
              rw [if_neg (by decide), if_neg (by decide), if_neg (by decide), if_pos ⟨rfl, by omega⟩] at hs2
              exact ⟨hs2, by omega, by omega⟩
        · rw [if_neg h40] at hsc ⊢
          rw [if_neg (fun z => h41 z.1)] at hsc
          rcases hf with hf | hf
          · subst hf
            rw [if_neg (fun z => by cases z.2), if_neg (fun z => by cases z.2)] at hsc
            exact hsc
          · have hn : ¬ (c = 62 ∨ c = 60 ∨ c = 94) := fun z => by
              unfold isSuf at hf; simp at hf; omega
            rw [if_neg (fun z => hn (by omega)), if_neg (fun z => hn (by omega))] at hsc
            exact hsc
/-- both readings agree -/
theorem due_parse {x : List Nat} (hl : x.length ≤ 200) : (match parseW x with
    | .ok _ => sc x 0 0 true = .ok ()
    | .bad p => sc x 0 0 true = .bad p
    | .big k => (k = 12 ∧ sc x 0 0 true = .ok ()) ∨ sc x 0 0 true = .big k) := by
  have hi := sc_items (sc_atom (x := x) 8 0 rfl) (x.length + 1) 0 [] true (Nat.zero_le _) (by omega) (.inl rfl)
  have e0 : items (fun a => atomD x (8 + 1) a 0) x (x.length + 1) 0 [] = itemsD x 9 0 0 := rfl
  rw [e0] at hi
  unfold parseW
  rw [if_neg (by omega)]
  cases q : itemsD x 9 0 0 with
  | bad p => rw [q] at hi; exact hi
  | big p => rw [q] at hi; exact .inr hi
  | ok r =>
    obtain ⟨ws, e⟩ := r
    rw [q] at hi
    obtain ⟨⟨fr', h1⟩, h2, h3, h4⟩ := hi
    simp only [Rs.bind]
    by_cases he : e < x.length
    · rw [if_pos he]
      have h41 : x[e]? = some 41 := h2.resolve_left (by omega)
      have hs2 := sc_at (o := 0) (fr := fr') h41
      rw [if_neg (by decide), if_neg (by decide), if_neg (by decide), if_neg (fun z => by omega), if_neg (by rintro ⟨z | z, _⟩ <;> cases z), if_neg (by rintro ⟨z, _⟩; cases z)] at hs2
      show sc x 0 0 true = .bad e
      rw [h1, hs2]
    · rw [if_neg he]
      have hg : sc x 0 0 true = .ok () := by rw [h1, sc_end (by omega), if_neg (by omega)]
      split
      · rename_i q2
        split at q2
        · cases q2
        · exact hg
      · rename_i q2
        split at q2 <;> cases q2
      · rename_i q2
        split at q2
        · cases q2; exact .inl ⟨rfl, hg⟩
        · cases q2
end K
set_option Elab.async false
set_option linter.all false
set_option maxRecDepth 100000
namespace K
open Mi
def f_law_digits : Nat := 46
def f_law_braces : Nat := 45
def f_law_word_due : Nat := 48
def f_law_k06 : Nat := 47
def b_law_digits : S :=
  (.seq (.asg (.one 2) (.var 1))
    (.seq (.whileS (.and (.cmp .lt (.var 2) (.bi .len (.cons (.var 0) .nil))) (.cmp .isin (.idx (.var 0) (.var 2)) (.str [48, 49, 50, 51, 52, 53, 54, 55, 56, 57])))
    (.seq (.asg (.one 2) (.bin .add (.var 2) (.int 1)))
    .skip))
    (.seq (.asg (.one 3) (.slc (.var 0) (.cons (.var 1) .nil) (.cons (.var 2) .nil)))
    (.seq (.ifS (.or (.cmp .eq (.var 3) (.str [])) (.or (.cmp .gt (.bi .len (.cons (.var 3) .nil)) (.int 31)) (.or (.and (.cmp .eq (.idx (.var 3) (.int 0)) (.str [48])) (.cmp .ne (.var 3) (.str [48]))) (.cmp .gt (.bi .int (.cons (.var 3) .nil)) (.bin .pow (.int 10) (.int 30))))))
    (.seq (.ret .non)
    .skip)
    .skip)
    (.seq (.ret (.var 2))
    .skip)))))
def d_law_digits : Def := ⟨2, 4, b_law_digits⟩
def l_law_braces_1 : S :=
  (.seq (.ifS (.cmp .eq (.var 2) (.bi .len (.cons (.var 0) .nil)))
    (.seq (.ret (.tup (.cons (.str [102, 97, 117, 108, 116]) (.cons (.var 2) .nil))))
    .skip)
    .skip)
    (.seq (.ifS (.and (.cmp .eq (.idx (.var 0) (.var 2)) (.str [125])) (.cmp .gt (.var 2) (.bin .add (.var 1) (.int 1))))
    (.seq (.ret (.tup (.cons (.str [101, 110, 100]) (.cons (.bin .add (.var 2) (.int 1)) .nil))))
    .skip)
    .skip)
    (.seq (.ifS (.or (.cmp .notin (.idx (.var 0) (.var 2)) (.str [97, 98, 99, 100, 101, 102, 103, 104, 105, 106, 107, 108, 109, 110, 111, 112, 113, 114, 115, 116, 117, 118, 119, 120, 121, 122])) (.cmp .gt (.var 2) (.bin .add (.var 1) (.int 8))))
    (.seq (.ret (.tup (.cons (.str [102, 97, 117, 108, 116]) (.cons (.var 2) .nil))))
    .skip)
    .skip)
    .skip)))
def b_law_braces : S :=
  (.seq (.forS (.one 2) (.rng (.cons (.bin .add (.var 1) (.int 1)) (.cons (.bin .add (.var 1) (.int 11)) .nil))) l_law_braces_1)
    (.seq (.ret (.tup (.cons (.str [102, 97, 117, 108, 116]) (.cons (.var 1) .nil))))
    .skip))
def d_law_braces : Def := ⟨2, 3, b_law_braces⟩
def b_law_word_due : S :=
  (.seq (.asg (.thr 1 2 3) (.tup (.cons (.int 0) (.cons (.int 0) (.cons (.bl true) .nil)))))
    (.seq (.whileS (.cmp .lt (.var 1) (.bi .len (.cons (.var 0) .nil)))
    (.seq (.asg (.one 4) (.idx (.var 0) (.var 1)))
    (.seq (.ifS (.cmp .isin (.var 4) (.str [97, 98, 99]))
    (.seq (.par 1 3 (.bin .add (.var 1) (.int 1)) (.bl false))
    .skip)
    (.seq (.ifS (.cmp .eq (.var 4) (.str [123]))
    (.seq (.asg (.one 5) (.call f_law_braces (.cons (.var 0) (.cons (.var 1) .nil))))
    (.seq (.ifS (.cmp .eq (.idx (.var 5) (.int 0)) (.str [102, 97, 117, 108, 116]))
    (.seq (.ret (.tup (.cons (.str [73, 110, 118, 97, 108, 105, 100, 84, 101, 120, 116]) (.cons (.idx (.var 5) (.int 1)) .nil))))
    .skip)
    .skip)
    (.seq (.par 1 3 (.idx (.var 5) (.int 1)) (.bl false))
    .skip)))
    (.seq (.ifS (.and (.cmp .eq (.var 4) (.str [40])) (.cmp .eq (.var 2) (.int 8)))
    (.seq (.ret (.tup (.cons (.str [84, 111, 111, 76, 97, 114, 103, 101]) (.cons (.int 8) .nil))))
    .skip)
    (.seq (.ifS (.cmp .eq (.var 4) (.str [40]))
    (.seq (.par3 1 2 3 (.bin .add (.var 1) (.int 1)) (.bin .add (.var 2) (.int 1)) (.bl true))
    .skip)
    (.seq (.ifS (.and (.cmp .eq (.var 4) (.str [41])) (.cmp .gt (.var 2) (.int 0)))
    (.seq (.par3 1 2 3 (.bin .add (.var 1) (.int 1)) (.bin .sub (.var 2) (.int 1)) (.bl false))
    .skip)
    (.seq (.ifS (.and (.cmp .isin (.var 4) (.str [62, 60])) (.not (.var 3)))
    (.seq (.asg (.one 1) (.bin .add (.var 1) (.int 1)))
    .skip)
    (.seq (.ifS (.and (.cmp .eq (.var 4) (.str [94])) (.not (.var 3)))
    (.seq (.asg (.one 1) (.bin .add (.var 1) (.int 1)))
    (.seq (.ifS (.cmp .is (.call f_law_digits (.cons (.var 0) (.cons (.var 1) .nil))) .non)
    (.seq (.ret (.tup (.cons (.str [73, 110, 118, 97, 108, 105, 100, 84, 101, 120, 116]) (.cons (.var 1) .nil))))
    .skip)
    .skip)
    (.seq (.asg (.one 1) (.call f_law_digits (.cons (.var 0) (.cons (.var 1) .nil))))
    .skip)))
    (.seq (.ret (.tup (.cons (.str [73, 110, 118, 97, 108, 105, 100, 84, 101, 120, 116]) (.cons (.var 1) .nil))))
    .skip))
    .skip))
    .skip))
    .skip))
    .skip))
    .skip))
    .skip))
    .skip)))
    (.seq (.ret (.ite (.cmp .gt (.var 2) (.int 0)) (.tup (.cons (.str [73, 110, 118, 97, 108, 105, 100, 84, 101, 120, 116]) (.cons (.var 1) .nil))) .non))
    .skip)))
def d_law_word_due : Def := ⟨1, 6, b_law_word_due⟩
def l_law_k06_1 : S :=
  (.seq (.par 5 6 (.call f_law_word_due (.cons (.var 3) .nil)) (.tryL (.call f_parse_word_k05 (.cons (.var 3) .nil))))
    (.seq (.ifS (.or (.and (.cmp .isnot (.var 5) .non) (.not (.call f_law_same (.cons (.var 6) (.cons (.var 5) .nil))))) (.and (.cmp .is (.var 5) .non) (.cmp .ne (.idx (.var 6) (.int 0)) (.str [118, 97, 108, 117, 101]))))
    (.seq (.ret (.bl false))
    .skip)
    .skip)
    .skip))
def l_law_k06_3 : S :=
  (.seq (.asg (.one 3) (.call f_law_bent (.cons (.var 1) (.cons (.var 3) (.cons (.lst false (.cons (.str [97]) (.cons (.str [40]) (.cons (.str [41]) (.cons (.str [62]) (.cons (.str [60]) (.cons (.str [94]) (.cons (.str [48]) (.cons (.str [55]) (.cons (.str [123]) (.cons (.str [125]) (.cons (.str [122]) (.cons (.str [32]) (.cons (.str [65]) (.cons (.str [10]) .nil))))))))))))))) .nil)))))
    .skip)
def l_law_k06_2 : S :=
  (.seq (.asg (.one 3) (.call f_law_text (.cons (.call f_law_named_tree (.cons (.var 1) (.cons (.lst false (.cons (.str [111, 97, 107]) (.cons (.str [101, 108, 109]) (.cons (.call f_law_name (.cons (.var 1) .nil)) .nil)))) .nil))) .nil)))
    (.seq (.forS (.one 4) (.rng (.cons (.bin .add (.int 1) (.call f_law_draw (.cons (.var 1) (.cons (.int 2) .nil)))) .nil)) l_law_k06_3)
    (.seq (.asg (.one 5) (.call f_law_word_due (.cons (.var 3) .nil)))
    (.seq (.asg (.one 6) (.tryL (.call f_parse_word_k05 (.cons (.var 3) .nil))))
    (.seq (.ifS (.or (.cmp .gt (.bi .len (.cons (.var 3) .nil)) (.int 200)) (.and (.cmp .is (.var 5) .non) (.cmp .eq (.var 6) (.tup (.cons (.str [84, 111, 111, 76, 97, 114, 103, 101]) (.cons (.int 12) .nil))))))
    (.seq .cont
    .skip)
    .skip)
    (.seq (.ifS (.or (.and (.cmp .isnot (.var 5) .non) (.not (.call f_law_same (.cons (.var 6) (.cons (.var 5) .nil))))) (.and (.cmp .is (.var 5) .non) (.cmp .ne (.idx (.var 6) (.int 0)) (.str [118, 97, 108, 117, 101]))))
    (.seq (.ret (.bl false))
    .skip)
    .skip)
    .skip))))))
def b_law_k06 : S :=
  (.seq (.asg (.one 1) (.call f_law_draws (.cons (.var 0) .nil)))
    (.seq (.forS (.one 2) (.rng (.cons (.int 8) .nil)) l_law_k06_2)
    (.seq (.asg (.one 7) (.lst false (.cons (.str [94]) (.cons (.str [97, 94]) (.cons (.str [97, 94, 48, 49]) (.cons (.str [97, 94, 49, 48, 48, 48, 48, 48, 48, 48, 48, 48, 48, 48, 48, 48, 48, 48, 48, 48, 48, 48, 48, 48, 48, 48, 48, 48, 48, 48, 48, 48, 49]) (.cons (.str [123]) (.cons (.str [123, 125]) (.cons (.str [123, 97, 98, 99, 100, 101, 102, 103, 104, 105, 125]) (.cons (.str [123, 97, 98, 99, 100, 101, 102, 103, 104]) (.cons (.str [40]) (.cons (.str [40, 41, 41]) (.cons (.str [62]) (.cons (.str [40, 41, 62]) (.cons (.str [97, 40, 41, 94, 48]) (.cons (.bin .add (.bin .mul (.str [40]) (.int 8)) (.bin .mul (.str [41]) (.int 8))) (.cons (.bin .mul (.str [40]) (.int 9)) (.cons (.bin .add (.str [97, 94]) (.bin .mul (.str [49]) (.int 60))) (.cons (.str [123, 65, 98, 125]) (.cons (.str [97, 32, 98]) .nil))))))))))))))))))))
    (.seq (.forS (.one 3) (.sq (.var 7)) l_law_k06_1)
    (.seq (.asg (.one 8) (.bin .mul (.str [97, 98]) (.int 100)))
    (.seq (.ifS (.cmp .ne (.opx .refu (.tryL (.call f_parse_word_k05 (.cons (.var 8) .nil)))) (.str [118, 97, 108, 117, 101]))
    (.seq (.ret (.bl false))
    .skip)
    .skip)
    (.seq (.ret (.and (.cmp .eq (.opx .refu (.tryL (.callK f_parse_word_k05 .nil (.cons (.bin .add (.var 8) (.str [40])) .nil) [0]))) (.tup (.cons (.str [84, 111, 111, 76, 97, 114, 103, 101]) (.cons (.int 200) .nil)))) (.cmp .eq (.call f_parse_word_k05 (.cons (.str [40, 40, 97, 41, 41]) .nil)) (.tup (.cons (.str [108, 101, 116, 116, 101, 114]) (.cons (.str [97]) .nil))))))
    .skip)))))))
def d_law_k06 : Def := ⟨1, 9, b_law_k06⟩
def defsL : List (Nat × Def) := [(f_law_k06, d_law_k06), (f_parts_of, d_parts_of), (f_depth, d_depth), (f_read_name_k05, d_read_name_k05), (f_read_atom_k05, d_read_atom_k05), (f_read_number, d_read_number), (f_read_suffix, d_read_suffix), (f_read_items_k05, d_read_items_k05), (f_parse_word_k05, d_parse_word_k05), (f_law_draws, d_law_draws), (f_law_draw, d_law_draw), (f_law_pick, d_law_pick), (f_law_same, d_law_same), (f_law_tree, d_law_tree), (f_law_word, d_law_word), (f_law_text, d_law_text), (f_law_part_text, d_law_part_text), (f_law_name, d_law_name), (f_law_named_tree, d_law_named_tree), (f_law_digits, d_law_digits), (f_law_braces, d_law_braces), (f_law_word_due, d_law_word_due), (f_law_bent, d_law_bent)]
def globsL : List (Nat × PV) := [(g_LETTERS, (.str [97, 98, 99])), (g_MAX_COPIES, (.int 1000000000000000000000000000000)), (g_EMPTY, (.tup [(.str [101, 109, 112, 116, 121])])), (g_SMALL, (.str [97, 98, 99, 100, 101, 102, 103, 104, 105, 106, 107, 108, 109, 110, 111, 112, 113, 114, 115, 116, 117, 118, 119, 120, 121, 122])), (g_DIGITS, (.str [48, 49, 50, 51, 52, 53, 54, 55, 56, 57])), (g_MAX_TEXT_k05, (.int 200)), (g_MAX_OPEN, (.int 8)), (g_MAX_DEPTH, (.int 12)), (g_MAX_NAME, (.int 8))]
def Dm : Nat → Option Def := fun i => (defsL.find? fun p => p.1 == i).map (·.2)
def Gm (p : Nat) : Nat → Option PV := fun i => if i = tabG then some (.int p) else (globsL.find? fun p => p.1 == i).map (·.2)
instance {p : Nat} : HasG (Gm p) tabG (.int p) := ⟨rfl⟩
abbrev wf : Nat := 1000000
instance : Has Dm f_parts_of d_parts_of := ⟨rfl⟩
instance : Has Dm f_depth d_depth := ⟨rfl⟩
instance : Has Dm f_read_name_k05 d_read_name_k05 := ⟨rfl⟩
instance : Has Dm f_read_atom_k05 d_read_atom_k05 := ⟨rfl⟩
instance : Has Dm f_read_number d_read_number := ⟨rfl⟩
instance : Has Dm f_read_suffix d_read_suffix := ⟨rfl⟩
instance : Has Dm f_read_items_k05 d_read_items_k05 := ⟨rfl⟩
instance : Has Dm f_parse_word_k05 d_parse_word_k05 := ⟨rfl⟩
instance : Has Dm f_law_draws d_law_draws := ⟨rfl⟩
instance : Has Dm f_law_draw d_law_draw := ⟨rfl⟩
instance : Has Dm f_law_pick d_law_pick := ⟨rfl⟩
instance : Has Dm f_law_same d_law_same := ⟨rfl⟩
instance : Has Dm f_law_tree d_law_tree := ⟨rfl⟩
instance : Has Dm f_law_word d_law_word := ⟨rfl⟩
instance : Has Dm f_law_text d_law_text := ⟨rfl⟩
instance : Has Dm f_law_part_text d_law_part_text := ⟨rfl⟩
instance : Has Dm f_law_name d_law_name := ⟨rfl⟩
instance : Has Dm f_law_named_tree d_law_named_tree := ⟨rfl⟩
instance : Has Dm f_law_digits d_law_digits := ⟨rfl⟩
instance : Has Dm f_law_braces d_law_braces := ⟨rfl⟩
instance : Has Dm f_law_word_due d_law_word_due := ⟨rfl⟩
instance : Has Dm f_law_bent d_law_bent := ⟨rfl⟩
instance : Has Dm f_law_k06 d_law_k06 := ⟨rfl⟩
instance {p : Nat} : HasG (Gm p) g_LETTERS (.str [97, 98, 99]) := ⟨rfl⟩
instance {p : Nat} : HasG (Gm p) g_MAX_COPIES (.int 1000000000000000000000000000000) := ⟨rfl⟩
instance {p : Nat} : HasG (Gm p) g_EMPTY (.tup [(.str [101, 109, 112, 116, 121])]) := ⟨rfl⟩
instance {p : Nat} : HasG (Gm p) g_SMALL (.str [97, 98, 99, 100, 101, 102, 103, 104, 105, 106, 107, 108, 109, 110, 111, 112, 113, 114, 115, 116, 117, 118, 119, 120, 121, 122]) := ⟨rfl⟩
instance {p : Nat} : HasG (Gm p) g_DIGITS (.str [48, 49, 50, 51, 52, 53, 54, 55, 56, 57]) := ⟨rfl⟩
instance {p : Nat} : HasG (Gm p) g_MAX_TEXT_k05 (.int 200) := ⟨rfl⟩
instance {p : Nat} : HasG (Gm p) g_MAX_OPEN (.int 8) := ⟨rfl⟩
instance {p : Nat} : HasG (Gm p) g_MAX_DEPTH (.int 12) := ⟨rfl⟩
instance {p : Nat} : HasG (Gm p) g_MAX_NAME (.int 8) := ⟨rfl⟩
end K
set_option Elab.async false
set_option linter.all false
set_option maxRecDepth 100000
namespace K
open Mi
variable {D : Nat → Option Def} {G : Nat → Option PV} {wf : Nat}
theorem lit_dg (c : Nat) : decide (c ∈ [48, 49, 50, 51, 52, 53, 54, 55, 56, 57]) = isDg c := in_digits c
theorem lit_sm (c : Nat) : decide (c ∈ [97, 98, 99, 100, 101, 102, 103, 104, 105, 106, 107, 108, 109, 110, 111, 112, 113, 114, 115, 116, 117, 118, 119, 120, 121, 122]) = isSm c := in_small c
theorem lit_lt (c : Nat) : decide (c ∈ [97, 98, 99]) = isLtr c := in_abc c
def dTest : E := (.and (.cmp .lt (.var 2) (.bi .len (.cons (.var 0) .nil))) (.cmp .isin (.idx (.var 0) (.var 2)) (.str [48, 49, 50, 51, 52, 53, 54, 55, 56, 57])))
def dBody : S := (.seq (.asg (.one 2) (.bin .add (.var 2) (.int 1))) .skip)
def dCond : E := (.or (.cmp .eq (.var 3) (.str [])) (.or (.cmp .gt (.bi .len (.cons (.var 3) .nil)) (.int 31)) (.or (.and (.cmp .eq (.idx (.var 3) (.int 0)) (.str [48])) (.cmp .ne (.var 3) (.str [48]))) (.cmp .gt (.bi .int (.cons (.var 3) .nil)) (.bin .pow (.int 10) (.int 30))))))
theorem dig_body : b_law_digits = (.seq (.asg (.one 2) (.var 1)) (.seq (.whileS dTest dBody) (.seq (.asg (.one 3) (.slc (.var 0) (.cons (.var 1) .nil) (.cons (.var 2) .nil))) (.seq (.ifS dCond (.seq (.ret .non) .skip) .skip) (.seq (.ret (.var 2)) .skip))))) := rfl
theorem dt_run {C : Cfg} {x : List Nat} {e : Nat} {e1 e3 : Option PV} {S : Store} : (fun env => M.bind (denE C dTest env) ofBl) [some (.str x), e1, some (.int e), e3] S = .ok (match x[e]? with | some c => isDg c | none => false) S := by
  cases q : x[e]? with
  | none =>
    have hl : ¬ e < x.length := fun z => by rw [List.getElem?_eq_getElem z] at q; cases q
    simp [dTest, hl]
  | some c =>
    have hl : e < x.length := (List.getElem?_eq_some_iff.mp q).1
    have ix := ix_str q S
    have hd := lit_dg c
    have hin : opC .isin (.str [c]) (.str [48, 49, 50, 51, 52, 53, 54, 55, 56, 57]) S = .ok (isDg c) S := by rw [opIn_ss, hd]
    simp [dTest, hl, ix, -opIn_ss, hin]
theorem dg_run2 {C : Cfg} {x : List Nat} {e1 e3 : Option PV} {S : Store} :
    ∀ (k kw e : Nat), x.length ≤ e + k → x.length < e + kw → e ≤ x.length →
    whileLoop (fun env => M.bind (denE C dTest env) ofBl) (denS C dBody) kw [some (.str x), e1, some (.int e), e3] S = .ok (.nx [some (.str x), e1, some (.int (dgEnd x k e)), e3]) S
  | k, 0, e, hk, hw, he => by omega
  | 0, kw + 1, e, hk, hw, he => by
    have hn : x[e]? = none := List.getElem?_eq_none (by omega)
    have ht := dt_run (C := C) (x := x) (e := e) (e1 := e1) (e3 := e3) (S := S)
    rw [hn] at ht
    rw [wh_stop ht]; rfl
  | k + 1, kw + 1, e, hk, hw, he => by
    have ht := dt_run (C := C) (x := x) (e := e) (e1 := e1) (e3 := e3) (S := S)
    cases q : x[e]? with
    | none =>
      rw [q] at ht
      rw [wh_stop ht]
      simp [dgEnd, q]
    | some c =>
      have hl : e < x.length := (List.getElem?_eq_some_iff.mp q).1
      rw [q] at ht
      dsimp only at ht
      cases hs : isDg c with
      | false =>
        rw [hs] at ht
        rw [wh_stop ht]
        simp [dgEnd, q, hs]
      | true =>
        rw [hs] at ht
        rw [wh_go (e' := [some (.str x), e1, some (.int ((e + 1 : Nat) : Int)), e3]) (S'' := S) ht (by simp [dBody])]
        rw [dg_run2 k kw (e + 1) (by omega) (by omega) (by omega)]
        simp [dgEnd, q, hs]
theorem cond_run {C : Cfg} {s : List Nat} (hall : s.all isDg = true) (hok : okT s = true) {e0 e1 e2 : Option PV} {S : Store} : denE C dCond [e0, e1, e2, some (.str s)] S = .ok (.bl (!numOk s)) S := by
  cases s with
  | nil => simp [dCond, numOk]
  | cons c r =>
    have hne : ¬ (c :: r) = ([] : List Nat) := by simp
    have ix0 := atI_0 (s := c :: r) rfl S
    have hc : c < 1114112 := by simp at hok; exact hok.1
    have hne2 : (c :: r).isEmpty = false := rfl
    have hnum : numOk (c :: r) = !(decide (31 < (c :: r).length) || ((c == 48 && !((c :: r) == [48])) || decide (1000000000000000000000000000000 < dgV (c :: r)))) := by
      unfold numOk
      rw [hne2]
      simp
    rw [hnum]
    by_cases h31 : 31 < (c :: r).length
    · have h31' : (31 : Int) < ((c :: r).length : Int) := by omega
      have a1 : decide (31 < (c :: r).length) = true := by simpa using h31
      rw [a1]
      generalize hcr : c :: r = s at *
      simp [dCond, hok, hne, h31']
    · have h31' : ¬ (31 : Int) < ((c :: r).length : Int) := by omega
      have a1 : decide (31 < (c :: r).length) = false := by simpa using h31
      have h600 : (c :: r).length ≤ 600 := by omega
      have hv : ((1000000000000000000000000000000 : Int) < (dgV (c :: r) : Int)) ↔ 1000000000000000000000000000000 < dgV (c :: r) := by omega
      rw [a1]
      by_cases hc48 : c = 48
      · subst hc48
        by_cases hr : (48 :: r) = [48]
        · have : r = [] := by simpa using hr
          subst this
          have h0 : dgV [48] = 0 := rfl
          have ha : isDg 48 = true := rfl
          simp [dCond, ix0, ha, h0]
        · have hb : ((48 :: r) == ([48] : List Nat)) = false := by simpa using hr
          rw [hb]
          generalize hcr : 48 :: r = s at *
          simp [dCond, hok, hne, h31', ix0, hr]
      · have hb : (c == 48) = false := by simpa using hc48
        rw [hb]
        by_cases hvv : 1000000000000000000000000000000 < dgV (c :: r)
        · have hvi := hv.mpr hvv
          have a2 : decide (1000000000000000000000000000000 < dgV (c :: r)) = true := by simpa using hvv
          rw [a2]
          generalize hcr : c :: r = s at *
          simp [dCond, hok, hne, h31', ix0, hc, hc48, hall, hne2, h600, hvi]
        · have hvi : ¬ (1000000000000000000000000000000 : Int) < (dgV (c :: r) : Int) := fun z => hvv (hv.mp z)
          have a2 : decide (1000000000000000000000000000000 < dgV (c :: r)) = false := by simpa using hvv
          rw [a2]
          generalize hcr : c :: r = s at *
          simp [dCond, hok, hne, h31', ix0, hc, hc48, hall, hne2, h600, hvi]
def vDig (x : List Nat) (at0 : Nat) : PV := match readNum x at0 with
  | .ok (_, e) => .int (e : Nat)
  | _ => .non
theorem dig_ok [Has D f_law_digits d_law_digits] {x : List Nat} (hw : x.length < wf) (hx : okT x = true) {at0 : Nat} (hat : at0 ≤ x.length) (n : Nat) (S : Store) : callN D G wf (n + 1) f_law_digits [.str x, .int at0] S = .ok (vDig x at0) S := by
  have run := dg_run2 (C := ⟨callN D G wf n, G, wf⟩) (x := x) (e1 := some (.int at0)) (e3 := none) (S := S) x.length wf at0 (by omega) (by omega) hat
  have hge := dgEnd_ge x x.length at0
  have hall := digs_all x at0
  have cm := cut_mid x at0 _ hge
  have hds : digs x at0 = (x.drop at0).take (dgEnd x x.length at0 - at0) := rfl
  rw [← hds] at cm
  have hokd : okT (digs x at0) = true := okT_sub hx fun c hc => by
    unfold digs at hc
    exact List.mem_of_mem_drop (List.mem_of_mem_take hc)
  have hc := cond_run (C := ⟨callN D G wf n, G, wf⟩) hall hokd (e0 := some (.str x)) (e1 := some (.int at0)) (e2 := some (.int (dgEnd x x.length at0 : Nat))) (S := S)
  unfold vDig readNum
  generalize dgEnd x x.length at0 = e at *
  generalize digs x at0 = s at *
  rw [call_eq rfl]
  simp only [d_law_digits, dig_body, startE]
  cases hn : numOk s with
  | true =>
    rw [hn] at hc
    simp [run, cm, hc]
  | false =>
    rw [hn] at hc
    simp [run, cm, hc]
def brV (x : List Nat) (at0 e : Nat) : PV := if e = at0 + 1 then .tup [.str [102, 97, 117, 108, 116], .int (e : Nat)] else if x[e]? = some 125 then .tup [.str [101, 110, 100], .int ((e + 1 : Nat) : Int)] else .tup [.str [102, 97, 117, 108, 116], .int (e : Nat)]
def upL (e k : Nat) : List PV := (List.range k).map fun j => PV.int ((e + j : Nat) : Int)
theorem upL_s (e k : Nat) : upL e (k + 1) = .int (e : Nat) :: upL (e + 1) k := by
  unfold upL
  rw [List.range_succ_eq_map, List.map_cons, List.map_map]
  congr 1
  refine List.map_congr_left fun j _ => ?_
  show PV.int ((e + (j + 1) : Nat) : Int) = _
  congr 2; omega
theorem br_run {C : Cfg} {x : List Nat} (hx : okT x = true) {at0 : Nat} {src : Src} (hc : src.cell = none) {S : Store} : ∀ (k e : Nat) (e2 : Option PV), e + k = at0 + 11 → e ≤ at0 + 9 → at0 + 1 ≤ e → e ≤ x.length →
    forLoop (denS C l_law_braces_1) (.one 2) src (upL e k) [some (.str x), some (.int at0), e2] S = .ok (.rt (brV x at0 (nmEnd x at0 (k + 10) e))) S
  | 0, e, e2, h1, h2, h3, h4 => by omega
  | k + 1, e, e2, h1, h2, h3, h4 => by
    rw [upL_s]
    have hk : k + 1 + 10 = (k + 10) + 1 := by omega
    rw [hk]
    unfold nmEnd
    cases q : x[e]? with
    | none =>
      have hl : e = x.length := by
        rcases Nat.lt_or_ge e x.length with z | z
        · rw [List.getElem?_eq_getElem z] at q; cases q
        · omega
      have hl' : (e : Int) = (x.length : Int) := by omega
      refine for_rt hc rfl ?_
      have hv : brV x at0 e = .tup [.str [102, 97, 117, 108, 116], .int (e : Nat)] := by
        unfold brV
        rw [q]
        simp
      dsimp only
      rw [hv]
      simp [l_law_braces_1, hl']
    | some c =>
      have hl : e < x.length := (List.getElem?_eq_some_iff.mp q).1
      have hl' : ¬ (e : Int) = (x.length : Int) := by omega
      have ix := ix_str q S
      have hcc := okT_at hx q
      have hin : ∀ S : Store, opC .isin (.str [c]) (.str [97, 98, 99, 100, 101, 102, 103, 104, 105, 106, 107, 108, 109, 110, 111, 112, 113, 114, 115, 116, 117, 118, 119, 120, 121, 122]) S = .ok (isSm c) S := fun S => by rw [opIn_ss, lit_sm]
      dsimp only
      by_cases h125 : c = 125
      · subst h125
        have hs : isSm 125 = false := rfl
        rw [hs]
        simp only [Bool.false_and, Bool.false_eq_true, if_false]
        by_cases he : e = at0 + 1
        · have he' : ¬ (at0 : Int) + 1 < (e : Int) := by omega
          have hv : brV x at0 e = .tup [.str [102, 97, 117, 108, 116], .int (e : Nat)] := by unfold brV; rw [if_pos he]
          refine for_rt hc rfl ?_
          rw [hv]
          have hin := hin S
          rw [hs] at hin
          simp [l_law_braces_1, hl', ix, he', -opIn_ss, hin]
        · have he' : (at0 : Int) + 1 < (e : Int) := by omega
          have hv : brV x at0 e = .tup [.str [101, 110, 100], .int ((e + 1 : Nat) : Int)] := by unfold brV; rw [if_neg he, if_pos q]
          refine for_rt hc rfl ?_
          rw [hv]
          simp [l_law_braces_1, hl', ix, he']
      · have hbr : brV x at0 e = .tup [.str [102, 97, 117, 108, 116], .int (e : Nat)] := by
          unfold brV
          rw [q]
          have : ¬ (some c = some 125) := by simpa using h125
          rw [if_neg this]
          simp
        cases hs : isSm c with
        | false =>
          simp only [Bool.false_and, Bool.false_eq_true, if_false]
          refine for_rt hc rfl ?_
          rw [hbr]
          have hin := hin S
          rw [hs] at hin
          simp [l_law_braces_1, hl', ix, hcc, h125, -opIn_ss, hin]
        | true =>
          have hin := hin S
          rw [hs] at hin
          by_cases h8 : e ≤ at0 + 8
          · have h8' : ¬ (at0 : Int) + 8 < (e : Int) := by omega
            have hb : denS C l_law_braces_1 [some (.str x), some (.int at0), some (.int (e : Nat))] S = .ok (.nx [some (.str x), some (.int at0), some (.int (e : Nat))]) S := by
              simp [l_law_braces_1, hl', ix, hcc, h125, -opIn_ss, hin, h8']
            rw [for_nx hc rfl hb]
            rw [decide_eq_true h8]
            simp only [Bool.true_and, if_true]
            exact br_run hx hc k (e + 1) _ (by omega) (by omega) (by omega) (by omega)
          · have h8' : (at0 : Int) + 8 < (e : Int) := by omega
            rw [decide_eq_false h8]
            simp only [Bool.true_and, Bool.and_false, Bool.false_eq_true, if_false]
            refine for_rt hc rfl ?_
            rw [hbr]
            simp [l_law_braces_1, hl', ix, hcc, h125, -opIn_ss, hin, h8']
theorem br_ok [Has D f_law_braces d_law_braces] {x : List Nat} (hx : okT x = true) {at0 : Nat} (hat : at0 < x.length) (n : Nat) (S : Store) : callN D G wf (n + 1) f_law_braces [.str x, .int at0] S = .ok (brV x at0 (nmEnd x at0 20 (at0 + 1))) S := by
  have run := br_run (C := ⟨callN D G wf n, G, wf⟩) hx (at0 := at0) (src := ⟨upL (at0 + 1) 10, none⟩) rfl (S := S) 10 (at0 + 1) none (by omega) (by omega) (by omega) (by omega)
  have hr : rngM [.int ((at0 : Int) + 1), .int ((at0 : Int) + 11)] S = .ok ⟨upL (at0 + 1) 10, none⟩ S := by
    rw [rngM_two, if_pos (by unfold lineN; omega)]
    congr 2
    unfold rangeL upL
    have : ((at0 : Int) + 11 - ((at0 : Int) + 1)).toNat = 10 := by omega
    rw [this]
    refine List.map_congr_left fun j _ => ?_
    congr 1 <;> omega
  rw [call_eq rfl]
  generalize upL (at0 + 1) 10 = UU at run hr
  generalize brV x at0 (nmEnd x at0 20 (at0 + 1)) = BB at run ⊢
  have hI : denI ⟨callN D G wf n, G, wf⟩ (.rng (.cons (.bin .add (.var 1) (.int 1)) (.cons (.bin .add (.var 1) (.int 11)) .nil))) [some (.str x), some (.int at0), none] S = .ok ⟨UU, none⟩ S := by
    rw [ev_rng]
    simp [hr]
  simp only [d_law_braces, b_law_braces, startE]
  simp [-ev_rng, hI, run]
end K
set_option Elab.async false
set_option linter.all false
set_option maxRecDepth 100000
namespace K
open Mi
variable {D : Nat → Option Def} {G : Nat → Option PV} {wf : Nat}
def wTest : E := (.cmp .lt (.var 1) (.bi .len (.cons (.var 0) .nil)))
def wBody : S := (.seq (.asg (.one 4) (.idx (.var 0) (.var 1))) (.seq (.ifS (.cmp .isin (.var 4) (.str [97, 98, 99])) (.seq (.par 1 3 (.bin .add (.var 1) (.int 1)) (.bl false)) .skip) (.seq (.ifS (.cmp .eq (.var 4) (.str [123])) (.seq (.asg (.one 5) (.call f_law_braces (.cons (.var 0) (.cons (.var 1) .nil)))) (.seq (.ifS (.cmp .eq (.idx (.var 5) (.int 0)) (.str [102, 97, 117, 108, 116])) (.seq (.ret (.tup (.cons (.str [73, 110, 118, 97, 108, 105, 100, 84, 101, 120, 116]) (.cons (.idx (.var 5) (.int 1)) .nil)))) .skip) .skip) (.seq (.par 1 3 (.idx (.var 5) (.int 1)) (.bl false)) .skip))) (.seq (.ifS (.and (.cmp .eq (.var 4) (.str [40])) (.cmp .eq (.var 2) (.int 8))) (.seq (.ret (.tup (.cons (.str [84, 111, 111, 76, 97, 114, 103, 101]) (.cons (.int 8) .nil)))) .skip) (.seq (.ifS (.cmp .eq (.var 4) (.str [40])) (.seq (.par3 1 2 3 (.bin .add (.var 1) (.int 1)) (.bin .add (.var 2) (.int 1)) (.bl true)) .skip) (.seq (.ifS (.and (.cmp .eq (.var 4) (.str [41])) (.cmp .gt (.var 2) (.int 0))) (.seq (.par3 1 2 3 (.bin .add (.var 1) (.int 1)) (.bin .sub (.var 2) (.int 1)) (.bl false)) .skip) (.seq (.ifS (.and (.cmp .isin (.var 4) (.str [62, 60])) (.not (.var 3))) (.seq (.asg (.one 1) (.bin .add (.var 1) (.int 1))) .skip) (.seq (.ifS (.and (.cmp .eq (.var 4) (.str [94])) (.not (.var 3))) (.seq (.asg (.one 1) (.bin .add (.var 1) (.int 1))) (.seq (.ifS (.cmp .is (.call f_law_digits (.cons (.var 0) (.cons (.var 1) .nil))) .non) (.seq (.ret (.tup (.cons (.str [73, 110, 118, 97, 108, 105, 100, 84, 101, 120, 116]) (.cons (.var 1) .nil)))) .skip) .skip) (.seq (.asg (.one 1) (.call f_law_digits (.cons (.var 0) (.cons (.var 1) .nil)))) .skip))) (.seq (.ret (.tup (.cons (.str [73, 110, 118, 97, 108, 105, 100, 84, 101, 120, 116]) (.cons (.var 1) .nil)))) .skip)) .skip)) .skip)) .skip)) .skip)) .skip)) .skip)) .skip))
def wd_1 : S := (.asg (.thr 1 2 3) (.tup (.cons (.int 0) (.cons (.int 0) (.cons (.bl true) .nil)))))
def wd_2' : S := .whileS wTest wBody
def wd_3 : S := (.ret (.ite (.cmp .gt (.var 2) (.int 0)) (.tup (.cons (.str [73, 110, 118, 97, 108, 105, 100, 84, 101, 120, 116]) (.cons (.var 1) .nil))) .non))
theorem wd_body' : b_law_word_due = (.seq wd_1 (.seq wd_2' (.seq wd_3 .skip))) := rfl
theorem wh_rt {test : Env → M Bool} {body : Env → M Fl} {k : Nat} {env : Env} {S S' S'' : Store} {v : PV} (h : test env S = .ok true S') (hb : body env S' = .ok (.rt v) S'') : whileLoop test body (k + 1) env S = .ok (.rt v) S'' := by
  simp only [whileLoop, M.bind, h, if_true, hb]
  rfl
def vDue : Rs Unit → PV
  | .ok _ => .non
  | .bad p => .tup [.str xText, .int (p : Nat)]
  | .big k => .tup [.str xLarge, .int (k : Nat)]
theorem due_run [Has D f_law_digits d_law_digits] [Has D f_law_braces d_law_braces] {x : List Nat} (hw : x.length < wf) (hx : okT x = true) {m : Nat} {S : Store} : ∀ (k kw at0 o : Nat) (fr : Bool) (e4 e5 : Option PV), x.length ≤ at0 + k → x.length < at0 + kw → at0 ≤ x.length →
    ∃ fl, whileLoop (fun env => M.bind (denE ⟨callN D G wf (m + 1), G, wf⟩ wTest env) ofBl) (denS ⟨callN D G wf (m + 1), G, wf⟩ wBody) kw [some (.str x), some (.int at0), some (.int o), some (.bl fr), e4, e5] S = .ok fl S ∧ goOn fl (denS ⟨callN D G wf (m + 1), G, wf⟩ (.seq wd_3 .skip)) S = .ok (.rt (vDue (scan x k at0 o fr))) S
  | k, 0, at0, o, fr, e4, e5, hk, hkw, hl => by omega
  | 0, kw + 1, at0, o, fr, e4, e5, hk, hkw, hl => by
    have hl' : ¬ at0 < x.length := by omega
    refine ⟨_, wh_stop (S' := S) (by simp [wTest, hl']), ?_⟩
    by_cases ho : 0 < o
    · have ho' : (0 : Int) < (o : Int) := by omega
      simp [wd_3, scan, ho, vDue, xText]
    · have ho' : o = 0 := by omega
      subst ho'
      simp [wd_3, scan, vDue]
  | k + 1, kw + 1, at0, o, fr, e4, e5, hk, hkw, hl => by
    cases q : x[at0]? with
    | none =>
      have hl' : ¬ at0 < x.length := fun z => by rw [List.getElem?_eq_getElem z] at q; cases q
      refine ⟨_, wh_stop (S' := S) (by simp [wTest, hl']), ?_⟩
      by_cases ho : 0 < o
      · have ho' : (0 : Int) < (o : Int) := by omega
        simp [wd_3, scan, q, ho, vDue, xText]
      · have ho' : o = 0 := by omega
        subst ho'
        simp [wd_3, scan, q, vDue]
    | some c =>
      have hl' : at0 < x.length := (List.getElem?_eq_some_iff.mp q).1
      have ht : (fun env => M.bind (denE ⟨callN D G wf (m + 1), G, wf⟩ wTest env) ofBl) [some (.str x), some (.int at0), some (.int o), some (.bl fr), e4, e5] S = .ok true S := by simp [wTest, hl']
      have ix := ix_str q S
      have hcc := okT_at hx q
      have hin3 : opC .isin (.str [c]) (.str [97, 98, 99]) S = .ok (isLtr c) S := by rw [opIn_ss, lit_lt]
      have hin2 : opC .isin (.str [c]) (.str [62, 60]) S = .ok (decide (c = 62 ∨ c = 60)) S := by rw [opIn_ss]; simp
      have bk := br_ok (D := D) (G := G) (wf := wf) hx hl' m S
      have dk := dig_ok (D := D) (G := G) (wf := wf) hw hx (at0 := at0 + 1) (by omega) m S
      have i1 : ((at0 + 1 : Nat) : Int) = (at0 : Int) + 1 := by omega
      rw [i1] at dk
      -- a turn that goes on
      have go : ∀ (at1 o1 : Nat) (fr1 : Bool) (f4 f5 : Option PV), at0 < at1 → at1 ≤ x.length → denS ⟨callN D G wf (m + 1), G, wf⟩ wBody [some (.str x), some (.int at0), some (.int o), some (.bl fr), e4, e5] S = .ok (.nx [some (.str x), some (.int at1), some (.int o1), some (.bl fr1), f4, f5]) S → scan x (k + 1) at0 o fr = scan x k at1 o1 fr1 →
          ∃ fl, whileLoop (fun env => M.bind (denE ⟨callN D G wf (m + 1), G, wf⟩ wTest env) ofBl) (denS ⟨callN D G wf (m + 1), G, wf⟩ wBody) (kw + 1) [some (.str x), some (.int at0), some (.int o), some (.bl fr), e4, e5] S = .ok fl S ∧ goOn fl (denS ⟨callN D G wf (m + 1), G, wf⟩ (.seq wd_3 .skip)) S = .ok (.rt (vDue (scan x (k + 1) at0 o fr))) S := fun at1 o1 fr1 f4 f5 h1 h2 hb hs => by
        rw [wh_go ht hb, hs]
        exact due_run hw hx k kw at1 o1 fr1 f4 f5 (by omega) (by omega) h2
      have stop : ∀ v, denS ⟨callN D G wf (m + 1), G, wf⟩ wBody [some (.str x), some (.int at0), some (.int o), some (.bl fr), e4, e5] S = .ok (.rt (vDue v)) S → scan x (k + 1) at0 o fr = v →
          ∃ fl, whileLoop (fun env => M.bind (denE ⟨callN D G wf (m + 1), G, wf⟩ wTest env) ofBl) (denS ⟨callN D G wf (m + 1), G, wf⟩ wBody) (kw + 1) [some (.str x), some (.int at0), some (.int o), some (.bl fr), e4, e5] S = .ok fl S ∧ goOn fl (denS ⟨callN D G wf (m + 1), G, wf⟩ (.seq wd_3 .skip)) S = .ok (.rt (vDue (scan x (k + 1) at0 o fr))) S := fun v hb hs => by
        refine ⟨_, wh_rt ht hb, ?_⟩
        rw [hs]; rfl
      have sx : scan x (k + 1) at0 o fr = (if isLtr c then scan x k (at0 + 1) o false
      else if c = 123 then (readName x at0).bind fun r => scan x k r.2 o false
      else if c = 40 then (if o = 8 then .big 8 else scan x k (at0 + 1) (o + 1) true)
      else if c = 41 ∧ 0 < o then scan x k (at0 + 1) (o - 1) false
      else if (c = 62 ∨ c = 60) ∧ fr = false then scan x k (at0 + 1) o false
      else if c = 94 ∧ fr = false then (readNum x (at0 + 1)).bind fun r => scan x k r.2 o false
      else .bad at0) := by
        rw [scan, q]
      cases hL : isLtr c with
      | true =>
        rw [hL] at hin3 sx
        refine go (at0 + 1) o false (some (.str [c])) e5 (by omega) (by omega) ?_ (by rw [sx]; rfl)
        rw [i1]
        simp [wBody, ix, -opIn_ss, hin3]
      | false =>
        rw [hL] at hin3 sx
        simp only [Bool.false_eq_true, if_false] at sx
        by_cases h123 : c = 123
        · subst h123
          rw [if_pos rfl] at sx
          unfold readName at sx
          dsimp only at sx
          have hge := nmEnd_ge x at0 20 (at0 + 1)
          have hle := nmEnd_le x at0 20 (at0 + 1) (by omega)
          unfold brV at bk
          generalize nmEnd x at0 20 (at0 + 1) = e at sx bk hge hle
          by_cases he : e = at0 + 1
          · rw [if_pos he] at sx bk
            refine stop (.bad e) ?_ sx
            simp [wBody, ix, -opIn_ss, hin3, bk, vDue, xText]
          · rw [if_neg he] at sx bk
            by_cases hq : x[e]? = some 125
            · rw [if_pos hq] at sx bk
              have hel : e < x.length := (List.getElem?_eq_some_iff.mp hq).1
              refine go (e + 1) o false (some (.str [123])) (some (.tup [.str [101, 110, 100], .int ((e + 1 : Nat) : Int)])) (by omega) (by omega) ?_ sx
              simp at bk
              simp [wBody, ix, -opIn_ss, hin3, bk]
            · rw [if_neg hq] at sx bk
              refine stop (.bad e) ?_ sx
              simp [wBody, ix, -opIn_ss, hin3, bk, vDue, xText]
        · rw [if_neg h123] at sx
          by_cases h40 : c = 40
          · subst h40
            rw [if_pos rfl] at sx
            by_cases ho : o = 8
            · rw [if_pos ho] at sx
              refine stop (.big 8) ?_ sx
              subst ho
              simp [wBody, ix, -opIn_ss, hin3, vDue, xLarge]
            · rw [if_neg ho] at sx
              have ho' : ¬ (o : Int) = 8 := by omega
              refine go (at0 + 1) (o + 1) true (some (.str [40])) e5 (by omega) (by omega) ?_ sx
              have i2 : ((o + 1 : Nat) : Int) = (o : Int) + 1 := by omega
              rw [i1, i2]
              simp [wBody, ix, -opIn_ss, hin3, ho']
          · rw [if_neg h40] at sx
            by_cases h41 : c = 41 ∧ 0 < o
            · rw [if_pos h41] at sx
              obtain ⟨rfl, ho⟩ := h41
              have ho' : (0 : Int) < (o : Int) := by omega
              refine go (at0 + 1) (o - 1) false (some (.str [41])) e5 (by omega) (by omega) ?_ sx
              have i2 : ((o - 1 : Nat) : Int) = (o : Int) - 1 := by omega
              rw [i1, i2]
              simp [wBody, ix, -opIn_ss, hin3, ho]
            · rw [if_neg h41] at sx
              have h41' : ¬ (c = 41 ∧ (0 : Int) < (o : Int)) := fun z => h41 ⟨z.1, by omega⟩
              have h41b : ¬ (c = 41 ∧ 0 < o) := h41
              cases fr with
              | true =>
                rw [if_neg (fun z => nomatch z.2), if_neg (fun z => nomatch z.2)] at sx
                refine stop (.bad at0) ?_ sx
                simp [wBody, ix, -opIn_ss, hin3, hcc, h123, h40, h41', h41b, hin2, vDue, xText]
                by_cases z1 : c = 41
                · have z2 : ¬ 0 < o := fun z => h41 ⟨z1, z⟩
                  simp [z1, z2]
                · simp [z1]
              | false =>
                by_cases h62 : c = 62 ∨ c = 60
                · rw [if_pos ⟨h62, rfl⟩] at sx
                  refine go (at0 + 1) o false (some (.str [c])) e5 (by omega) (by omega) ?_ sx
                  rw [i1]
                  rcases h62 with rfl | rfl
                  · simp [wBody, ix, -opIn_ss, hin3, hin2]
                  · simp [wBody, ix, -opIn_ss, hin3, hin2]
                · rw [if_neg (fun z => h62 z.1)] at sx
                  by_cases h94 : c = 94
                  · subst h94
                    rw [if_pos ⟨rfl, rfl⟩] at sx
                    have hge := dgEnd_ge x x.length (at0 + 1)
                    have hle := dgEnd_le x x.length (at0 + 1) (by omega)
                    unfold vDig at dk
                    unfold readNum at sx dk
                    by_cases hn : numOk (digs x (at0 + 1)) = true
                    · rw [if_pos hn] at sx dk
                      refine go (dgEnd x x.length (at0 + 1)) o false (some (.str [94])) e5 (by omega) hle ?_ sx
                      simp [wBody, ix, -opIn_ss, hin3, hin2, dk]
                    · rw [if_neg hn] at sx dk
                      refine stop (.bad (at0 + 1)) ?_ sx
                      simp [wBody, ix, -opIn_ss, hin3, hin2, dk, vDue, xText]
                  · rw [if_neg (fun z => h94 z.1)] at sx
                    refine stop (.bad at0) ?_ sx
                    have h62' : decide (c = 62 ∨ c = 60) = false := decide_eq_false h62
                    rw [h62'] at hin2
                    by_cases z1 : c = 41
                    · have z2 : ¬ 0 < o := fun z => h41 ⟨z1, z⟩
                      subst z1
                      simp [wBody, ix, -opIn_ss, hin3, hin2, z2, vDue, xText]
                    · simp [wBody, ix, -opIn_ss, hin3, hin2, hcc, h123, h40, z1, h94, vDue, xText]
theorem due_ok [Has D f_law_digits d_law_digits] [Has D f_law_braces d_law_braces] [Has D f_law_word_due d_law_word_due] {x : List Nat} (hw : x.length < wf) (hx : okT x = true) (n : Nat) (S : Store) : callN D G wf (n + 2) f_law_word_due [.str x] S = .ok (vDue (sc x 0 0 true)) S := by
  obtain ⟨fl, h1, h2⟩ := due_run (D := D) (G := G) (wf := wf) hw hx (m := n) (S := S) (x.length + 1) wf 0 0 true none none (by omega) (by omega) (by omega)
  have h1 : whileLoop (fun env => M.bind (denE ⟨callN D G wf (n + 1), G, wf⟩ wTest env) ofBl) (denS ⟨callN D G wf (n + 1), G, wf⟩ wBody) wf [some (.str x), some (.int 0), some (.int 0), some (.bl true), none, none] S = .ok fl S := h1
  rw [call_eq rfl]
  have hb : d_law_word_due.body = b_law_word_due := rfl
  have hs : startE d_law_word_due [.str x] = [some (.str x), none, none, none, none, none] := rfl
  have w1 : denS ⟨callN D G wf (n + 1), G, wf⟩ wd_1 [some (.str x), none, none, none, none, none] S = .ok (.nx [some (.str x), some (.int 0), some (.int 0), some (.bl true), none, none]) S := by simp [wd_1]
  rw [hb, hs, wd_body', ev_seq, w1, bnd_ok, goOn_nx, ev_seq]
  unfold wd_2'
  rw [ev_while, h1, bnd_ok, h2]
  rfl
end K
set_option Elab.async false
set_option linter.all false
set_option maxRecDepth 100000
namespace K
open Mi
variable {D : Nat → Option Def} {G : Nat → Option PV} {wf : Nat}
def dig (n : Nat) : List Nat := (Nat.toDigits 10 n).map Char.toNat
theorem codes_nat (n : Nat) : codes (toString (n : Int)) = dig n := by
  show ((Nat.repr n).toList).map Char.toNat = _
  simp [Nat.repr, dig]
theorem digitChar_nat {d : Nat} (h : d < 10) : (Nat.digitChar d).toNat = 48 + d := by
  have : d = 0 ∨ d = 1 ∨ d = 2 ∨ d = 3 ∨ d = 4 ∨ d = 5 ∨ d = 6 ∨ d = 7 ∨ d = 8 ∨ d = 9 := by omega
  rcases this with rfl | rfl | rfl | rfl | rfl | rfl | rfl | rfl | rfl | rfl <;> decide
theorem dig_eq (n : Nat) : dig n = if n < 10 then [48 + n] else dig (n / 10) ++ [48 + n % 10] := by
  unfold dig
  rw [Nat.toDigits_eq_if (by decide)]
  split
  · rename_i h
    simp [digitChar_nat h]
  · simp [digitChar_nat (Nat.mod_lt n (by decide : 0 < 10))]
theorem dig_lt {n : Nat} (h : n < 10) : dig n = [48 + n] := by rw [dig_eq, if_pos h]
theorem dig_ge {n : Nat} (h : 10 ≤ n) : dig n = dig (n / 10) ++ [48 + n % 10] := by rw [dig_eq, if_neg (by omega)]
theorem dig_ne (n : Nat) : dig n ≠ [] := by
  rw [dig_eq]; split <;> simp
theorem dig_all (n : Nat) : (dig n).all isDg = true := by
  induction n using Nat.strongRecOn with
  | _ n ih =>
    rcases Nat.lt_or_ge n 10 with h | h
    · rw [dig_lt h]; simp [isDg]; omega
    · rw [dig_ge h, List.all_append, ih (n / 10) (by omega)]
      have := Nat.mod_lt n (by decide : 0 < 10)
      simp [isDg]; omega
theorem dig_val (n : Nat) : dgV (dig n) = n := by
  induction n using Nat.strongRecOn with
  | _ n ih =>
    rcases Nat.lt_or_ge n 10 with h | h
    · rw [dig_lt h]; simp [dgV]
    · have ih := ih (n / 10) (by omega)
      rw [dig_ge h]
      unfold dgV at ih ⊢
      rw [List.foldl_append, ih]
      simp; omega
theorem dig_len : ∀ (k n : Nat), n < 10 ^ (k + 1) → (dig n).length ≤ k + 1
  | 0, n, h => by rw [dig_lt (by simpa using h)]; simp
  | k + 1, n, h => by
    rcases Nat.lt_or_ge n 10 with g | g
    · rw [dig_lt g]; simp
    · rw [dig_ge g, List.length_append]
      have := dig_len k (n / 10) (by rw [Nat.pow_succ] at h; omega)
      simp; omega
theorem dig_head (n : Nat) (h : 0 < n) : (dig n).head? ≠ some 48 := by
  induction n using Nat.strongRecOn with
  | _ n ih =>
    rcases Nat.lt_or_ge n 10 with g | g
    · rw [dig_lt g]; simp; omega
    · rw [dig_ge g, List.head?_append]
      have ih := ih (n / 10) (by omega) (by omega)
      cases q : (dig (n / 10)).head? with
      | none => rw [List.head?_eq_none_iff] at q; exact absurd q (dig_ne _)
      | some c => rw [q] at ih; simpa using ih
theorem dig_num {n : Nat} (h : n ≤ 1000000000000000000000000000000) : numOk (dig n) = true := by
  have hl := dig_len 30 n (by omega)
  have hn := dig_ne n
  have hv := dig_val n
  unfold numOk
  have h1 : (dig n).isEmpty = false := by cases q : dig n with
    | nil => exact absurd q hn
    | cons a l => rfl
  have h2 : decide (31 < (dig n).length) = false := decide_eq_false (by omega)
  have h4 : decide (1000000000000000000000000000000 < dgV (dig n)) = false := decide_eq_false (by omega)
  have h3 : ((dig n).head? == some 48 && !(dig n == [48])) = false := by
    rcases Nat.eq_zero_or_pos n with z | z
    · subst z; decide
    · have := dig_head n z
      have : ((dig n).head? == some 48) = false := by simpa using this
      rw [this]; rfl
  rw [h1, h2, h3, h4]; rfl
def paren : W → List Nat → List Nat
  | .join _, s => 40 :: (s ++ [41])
  | _, s => s
mutual
def W.txt : W → List Nat
  | .emp => [40, 41]
  | .ltr c => [c]
  | .name s => 123 :: (s ++ [125])
  | .join ts => W.txts ts
  | .times t n => paren t t.txt ++ (94 :: dig n)
  | .right t => paren t t.txt ++ [62]
  | .left t => paren t t.txt ++ [60]
def W.txts : List W → List Nat
  | [] => []
  | t :: ts => paren t t.txt ++ W.txts ts
end
def W.ptxt (t : W) : List Nat := paren t t.txt
theorem txt_emp : W.emp.txt = [40, 41] := by rw [W.txt]
theorem txt_ltr (c : Nat) : (W.ltr c).txt = [c] := by rw [W.txt]
theorem txt_name (s : List Nat) : (W.name s).txt = 123 :: (s ++ [125]) := by rw [W.txt]
theorem txts_map : ∀ ts : List W, W.txts ts = (ts.map W.ptxt).flatten
  | [] => by rw [W.txts]; rfl
  | t :: ts => by rw [W.txts, txts_map ts]; rfl
theorem txt_join (ts : List W) : (W.join ts).txt = (ts.map W.ptxt).flatten := by rw [W.txt, txts_map]
theorem txt_times (t : W) (n : Nat) : (W.times t n).txt = t.ptxt ++ (94 :: dig n) := by rw [W.txt]; rfl
theorem txt_right (t : W) : (W.right t).txt = t.ptxt ++ [62] := by rw [W.txt]; rfl
theorem txt_left (t : W) : (W.left t).txt = t.ptxt ++ [60] := by rw [W.txt]; rfl
/-- a word that a law draws, of at most this depth -/
inductive Ow : Nat → W → Prop
  | emp (d : Nat) : Ow d .emp
  | ltr (d : Nat) (c : Nat) (h : isLtr c = true) : Ow d (.ltr c)
  | name (d : Nat) (s : List Nat) (h : s.all isSm = true) (h1 : 1 ≤ s.length) (h8 : s.length ≤ 8) : Ow d (.name s)
  | join (d : Nat) (ts : List W) (hl : ts.length ≤ 8) (h : ∀ t ∈ ts, Ow d t) : Ow (d + 1) (.join ts)
  | times (d : Nat) (t : W) (n : Nat) (h1 : n ≤ 1000000000000000000000000000000) (h : Ow d t) : Ow (d + 1) (.times t n)
  | right (d : Nat) (t : W) (h : Ow d t) : Ow (d + 1) (.right t)
  | left (d : Nat) (t : W) (h : Ow d t) : Ow (d + 1) (.left t)
theorem Ow.up {d : Nat} {t : W} (h : Ow d t) : Ow (d + 1) t := by
  induction h with
  | emp d => exact .emp _
  | ltr d s h => exact .ltr _ _ h
  | name d s h h1 h8 => exact .name _ _ h h1 h8
  | join d ts hl h ih => exact .join _ _ hl ih
  | times d t n h1 h ih => exact .times _ _ _ h1 ih
  | right d t h ih => exact .right _ _ ih
  | left d t h ih => exact .left _ _ ih
theorem Ow.mono {d d' : Nat} {t : W} (h : Ow d t) (hd : d ≤ d') : Ow d' t := by
  induction hd with
  | refl => exact h
  | step _ ih => exact ih.up
/-- a drawn tree without names -/
theorem Wt.word {d : Nat} {v : PV} (h : Wt abc d v) : ∃ t : W, v = t.pv ∧ Ow d t := by
  induction h with
  | emp d => exact ⟨.emp, pv_emp'.symm, .emp _⟩
  | letter d s h =>
    simp only [abc, List.mem_cons, List.not_mem_nil, or_false] at h
    rcases h with rfl | rfl | rfl
    · exact ⟨.ltr 97, (pv_ltr' _).symm, .ltr _ _ (by decide)⟩
    · exact ⟨.ltr 98, (pv_ltr' _).symm, .ltr _ _ (by decide)⟩
    · exact ⟨.ltr 99, (pv_ltr' _).symm, .ltr _ _ (by decide)⟩
  | join d ts hl h ih =>
    haveI : Inhabited W := ⟨.emp⟩
    obtain ⟨f, hf⟩ := choose_on ih
    refine ⟨.join (ts.map f), ?_, .join _ _ (by simpa using hl) fun t ht => ?_⟩
    · rw [pv_join', List.map_map]
      have : ts.map (W.pv ∘ f) = ts := by
        conv => rhs; rw [← List.map_id ts]
        exact List.map_congr_left fun x hx => (hf x hx).1.symm
      rw [this]
    · obtain ⟨x, hx, rfl⟩ := List.mem_map.mp ht
      exact (hf x hx).2
  | times d t n h0 h1 h ih =>
    obtain ⟨u, e, o⟩ := ih
    obtain ⟨k, rfl⟩ : ∃ k : Nat, n = k := ⟨n.toNat, by omega⟩
    exact ⟨.times u k, by rw [pv_times', e], .times _ _ _ (by omega) o⟩
  | right d t h ih =>
    obtain ⟨u, e, o⟩ := ih
    exact ⟨.right u, by rw [pv_right', e], .right _ _ o⟩
  | left d t h ih =>
    obtain ⟨u, e, o⟩ := ih
    exact ⟨.left u, by rw [pv_left', e], .left _ _ o⟩
def tN (d : Nat) : Nat := 16 * 9 ^ d
theorem tN_s (d : Nat) : tN (d + 1) = 9 * tN d := by unfold tN; rw [Nat.pow_succ]; omega
theorem tN_pos (d : Nat) : 16 ≤ tN d := by
  have := Nat.pow_pos (n := d) (by decide : 0 < 9)
  unfold tN; omega
theorem ptxt_le (w : W) : w.ptxt.length ≤ w.txt.length + 2 := by
  unfold W.ptxt
  cases w <;> simp [paren]
theorem okT_dig (n : Nat) : okT (dig n) = true := List.all_eq_true.mpr fun c hc => by
  have := List.all_eq_true.mp (dig_all n) c hc
  simp [isDg] at this ⊢; omega
theorem okT_append (x y : List Nat) : okT (x ++ y) = (okT x && okT y) := List.all_append ..
theorem okT_sm {s : List Nat} (h : s.all isSm = true) : okT s = true := List.all_eq_true.mpr fun c hc => by
  have := List.all_eq_true.mp h c hc
  simp [isSm] at this ⊢; omega
theorem okT_ptxt {w : W} (h : okT w.txt = true) : okT w.ptxt = true := by
  unfold W.ptxt
  cases w <;> simp [paren, okT_append, h]
theorem flat_le {α : Type} (f : α → List Nat) (M : Nat) : ∀ l : List α, (∀ x ∈ l, (f x).length ≤ M) → ((l.map f).flatten).length ≤ l.length * M
  | [], _ => by simp
  | x :: l, h => by
    have h1 := h x List.mem_cons_self
    have h2 := flat_le f M l fun y hy => h y (List.mem_cons_of_mem _ hy)
    have h3 : (l.length + 1) * M = l.length * M + M := by rw [Nat.add_mul]; omega
    simp only [List.map_cons, List.flatten_cons, List.length_append, List.length_cons]
    omega
theorem flat_okT {α : Type} (f : α → List Nat) : ∀ l : List α, (∀ x ∈ l, okT (f x) = true) → okT ((l.map f).flatten) = true
  | [], _ => by simp
  | x :: l, h => by
    rw [List.map_cons, List.flatten_cons, okT_append, h x List.mem_cons_self, flat_okT f l fun y hy => h y (List.mem_cons_of_mem _ hy)]; rfl
theorem Ow.txt {d : Nat} {w : W} (h : Ow d w) : okT w.txt = true ∧ w.txt.length + 2 ≤ tN d := by
  induction h with
  | emp d => have := tN_pos d; rw [txt_emp]; exact ⟨by decide, by simp; omega⟩
  | ltr d c h =>
    have := tN_pos d
    simp [isLtr] at h
    rw [txt_ltr]; exact ⟨by simp; omega, by simp; omega⟩
  | name d s h h1 h8 =>
    have := tN_pos d
    rw [txt_name]; exact ⟨by simp [okT_append, okT_sm h], by simp; omega⟩
  | join d ts hl h ih =>
    rw [txt_join]
    refine ⟨flat_okT _ _ fun t ht => okT_ptxt (ih t ht).1, ?_⟩
    have h1 := flat_le W.ptxt (tN d) ts fun t ht => Nat.le_trans (ptxt_le t) (ih t ht).2
    have h2 : ts.length * tN d ≤ 8 * tN d := Nat.mul_le_mul_right _ hl
    have := tN_pos d
    rw [tN_s]; omega
  | times d t n h1 h ih =>
    have h2 := ptxt_le t
    have h3 := dig_len 30 n (by omega)
    have := tN_pos d
    rw [txt_times]
    refine ⟨by simp [okT_append, okT_ptxt ih.1, okT_dig], ?_⟩
    simp only [List.length_append, List.length_cons]
    rw [tN_s]; omega
  | right d t h ih =>
    have h2 := ptxt_le t
    have := tN_pos d
    rw [txt_right]
    refine ⟨by simp [okT_append, okT_ptxt ih.1], ?_⟩
    simp only [List.length_append, List.length_cons, List.length_nil]
    rw [tN_s]; omega
  | left d t h ih =>
    have h2 := ptxt_le t
    have := tN_pos d
    rw [txt_left]
    refine ⟨by simp [okT_append, okT_ptxt ih.1], ?_⟩
    simp only [List.length_append, List.length_cons, List.length_nil]
    rw [tN_s]; omega
theorem Ow.ptxt_le {d : Nat} {w : W} (h : Ow d w) : w.ptxt.length ≤ tN d := Nat.le_trans (K.ptxt_le w) h.txt.2
theorem inter_nil' : ∀ ss : List (List Nat), List.intercalate [] ss = ss.flatten
  | [] => rfl
  | [s] => by simp [List.intercalate, List.intersperse]
  | s :: t :: r => by
    have := inter_nil' (t :: r)
    simp [List.intercalate, List.intersperse] at this ⊢
    exact this
theorem texts_map' : ∀ ss : List (List Nat), texts (ss.map PV.str) = some ss
  | [] => rfl
  | s :: ss => by
    show (texts (ss.map PV.str)).map (s :: ·) = _
    rw [texts_map' ss]; rfl
theorem join_ok {S : Store} {ss : List (List Nat)} (h : ss.flatten.length ≤ lineN) : opMt .join (.str []) [.lst (ss.map PV.str)] S = .ok (.str ss.flatten) S := by
  show bnd (R.ok (ss.map PV.str) S) (fun xs S => bnd (ofO (texts xs) S) fun ts S => guardM (decide ((ts.map (·.length)).sum + ts.length * 0 ≤ lineN)) (PV.str (List.intercalate [] ts)) S) = _
  rw [bnd_ok, texts_map']
  show (if decide ((ss.map (·.length)).sum + ss.length * 0 ≤ lineN) then R.ok (PV.str (List.intercalate [] ss)) S else .stuck) = _
  have hs : (ss.map (·.length)).sum = ss.flatten.length := by rw [List.length_flatten]
  rw [if_pos (by rw [decide_eq_true_eq, hs]; omega), inter_nil']
theorem opAddS (S : Store) (x y : List Nat) : opB .add (.str x) (.str y) S = if x.length + y.length ≤ lineN then .ok (.str (x ++ y)) S else .stuck := by simp [opB, opAdd]
theorem addS_ok {S : Store} {x y : List Nat} (h : x.length + y.length ≤ lineN) : opB .add (.str x) (.str y) S = .ok (.str (x ++ y)) S := by rw [opAddS, if_pos h]
theorem str_ok {S : Store} {n : Nat} (h : n ≤ 1000000000000000000000000000000) : opBi .str [.int (n : Int)] S = .ok (.str (dig n)) S := by
  show (if decide ((n : Int).natAbs.log2 < 1920) then R.ok (PV.str (codes (toString (n : Int)))) S else .stuck) = _
  rw [codes_nat, if_pos]
  rw [decide_eq_true_eq, Int.natAbs_natCast]
  rcases Nat.eq_zero_or_pos n with z | z
  · subst z; decide
  · have := (Nat.log2_lt (by omega : n ≠ 0) (k := 1920)).mpr (Nat.lt_of_le_of_lt h (by decide))
    exact this
def TxtAt (D : Nat → Option Def) (G : Nat → Option PV) (wf f d : Nat) (v : PV) (s : List Nat) : Prop := ∀ (n : Nat) (S : Store), d ≤ n → callN D G wf n f [v] S = .ok (.str s) S
theorem ptext_ok [Has D f_law_part_text d_law_part_text] {d : Nat} {w : W} (hl : w.txt.length + 2 ≤ lineN) (h : TxtAt D G wf f_law_text d w.pv w.txt) : TxtAt D G wf f_law_part_text (d + 1) w.pv w.ptxt := by
  intro n S hn
  obtain ⟨m, rfl⟩ : ∃ m, n = m + 1 := ⟨n - 1, by omega⟩
  have hm := h m S (by omega)
  rw [call_eq rfl]
  cases w with
  | emp => rw [pv_emp'] at hm ⊢; simp [d_law_part_text, b_law_part_text, startE, hm, W.ptxt, paren]
  | ltr c => rw [pv_ltr'] at hm ⊢; simp [d_law_part_text, b_law_part_text, startE, hm, W.ptxt, paren]
  | name s => rw [pv_name'] at hm ⊢; simp [d_law_part_text, b_law_part_text, startE, hm, W.ptxt, paren]
  | join ts =>
    rw [pv_join'] at hm ⊢
    unfold W.ptxt
    generalize (W.join ts).txt = x at hm hl ⊢
    generalize ts.map W.pv = TS at hm ⊢
    have h1 : 1 + x.length ≤ lineN := by omega
    have h2 : x.length + 1 + 1 ≤ lineN := by omega
    simp [d_law_part_text, b_law_part_text, startE, hm, paren, opAddS, h1, h2]
  | times t k => rw [pv_times'] at hm ⊢; simp [d_law_part_text, b_law_part_text, startE, hm, W.ptxt, paren]
  | right t => rw [pv_right'] at hm ⊢; simp [d_law_part_text, b_law_part_text, startE, hm, W.ptxt, paren]
  | left t => rw [pv_left'] at hm ⊢; simp [d_law_part_text, b_law_part_text, startE, hm, W.ptxt, paren]
theorem tN_line {d : Nat} (h : d ≤ 6) : tN d ≤ 8503056 := by
  unfold tN
  have : 9 ^ d ≤ 9 ^ 6 := Nat.pow_le_pow_right (by decide) h
  omega
theorem text_ok [Has D f_law_part_text d_law_part_text] [Has D f_law_text d_law_text] {d : Nat} {w : W} (h : Ow d w) : d ≤ 6 → TxtAt D G wf f_law_text (2 * d + 1) w.pv w.txt := by
  induction h with
  | emp d =>
    intro hd n S hn
    obtain ⟨m, rfl⟩ : ∃ m, n = m + 1 := ⟨n - 1, by omega⟩
    rw [call_eq rfl, pv_emp', txt_emp]; simp [d_law_text, b_law_text, startE]
  | ltr d c h =>
    intro hd n S hn
    obtain ⟨m, rfl⟩ : ∃ m, n = m + 1 := ⟨n - 1, by omega⟩
    rw [call_eq rfl, pv_ltr', txt_ltr]; simp [d_law_text, b_law_text, startE]
  | name d s h h1 h8 =>
    intro hd n S hn
    obtain ⟨m, rfl⟩ : ∃ m, n = m + 1 := ⟨n - 1, by omega⟩
    have z1 : 1 + s.length ≤ lineN := by unfold lineN; omega
    have z2 : s.length + 1 + 1 ≤ lineN := by unfold lineN; omega
    rw [call_eq rfl, pv_name', txt_name]; simp [d_law_text, b_law_text, startE, opAddS, z1, z2]
  | join d ts hl h ih =>
    intro hd n S hn
    obtain ⟨m, rfl⟩ : ∃ m, n = m + 1 := ⟨n - 1, by omega⟩
    have hb := tN_line hd
    have ht := (Ow.join d ts hl h).txt
    rw [txt_join] at ht
    have hlc := lc_callA (C := ⟨callN D G wf m, G, wf⟩) (tg := 2) (env := [some (.tup [.str [106, 111, 105, 110], .tup (ts.map W.pv)]), none, none]) (S := S) (ts := ts) (pv := W.pv) (F := fun t => .str t.ptxt) (src := ⟨ts.map W.pv, none⟩) (elt := .call f_law_part_text (.cons (.var 2) .nil)) rfl
      (fun t ht => by
        have hb := tN_line (d := d) (by omega)
        have := (h t ht).txt.2
        have := ptext_ok (D := D) (G := G) (wf := wf) (w := t) (by unfold lineN; omega) (ih t ht (by omega)) m S (by omega)
        generalize t.pv = TT at this ⊢
        simp [this]) []
    rw [List.nil_append] at hlc
    have hj := join_ok (S := S) (ss := ts.map W.ptxt) (by unfold lineN; omega)
    rw [List.map_map] at hj
    have hj : opMt .join (.str []) [.lst (ts.map fun t => .str t.ptxt)] S = .ok (.str (ts.map W.ptxt).flatten) S := hj
    have hr : recv .join (.str []) S = .ok () S := rfl
    rw [call_eq rfl, pv_join', txt_join]
    generalize ts.map W.pv = TS at hlc ⊢
    generalize (ts.map fun t => PV.str t.ptxt) = FS at hlc hj
    simp [d_law_text, b_law_text, startE, hlc, hj, hr]
  | times d t k h1 h ih =>
    intro hd n S hn
    obtain ⟨m, rfl⟩ : ∃ m, n = m + 1 := ⟨n - 1, by omega⟩
    have hb := tN_line (d := d) (by omega)
    have hl := h.txt.2
    have hp := ptext_ok (D := D) (G := G) (wf := wf) (w := t) (by unfold lineN; omega) (ih (by omega)) m S (by omega)
    have hs := str_ok (S := S) h1
    have hd3 := dig_len 30 k (by omega)
    have hq := h.ptxt_le
    rw [call_eq rfl, pv_times', txt_times]
    generalize t.pv = TT at hp ⊢
    generalize t.ptxt = x at hp hq ⊢
    generalize dig k = y at hs hd3 ⊢
    have z0 : 1 ≤ lineN := by unfold lineN; omega
    have z1 : x.length + 1 ≤ lineN := by unfold lineN; omega
    have z2 : x.length + 1 + y.length ≤ lineN := by unfold lineN; omega
    simp [d_law_text, b_law_text, startE, hp, hs, opAddS, z0, z1, z2, dgetL]
  | right d t h ih =>
    intro hd n S hn
    obtain ⟨m, rfl⟩ : ∃ m, n = m + 1 := ⟨n - 1, by omega⟩
    have hb := tN_line (d := d) (by omega)
    have hl := h.txt.2
    have hp := ptext_ok (D := D) (G := G) (wf := wf) (w := t) (by unfold lineN; omega) (ih (by omega)) m S (by omega)
    have hq := h.ptxt_le
    rw [call_eq rfl, pv_right', txt_right]
    generalize t.pv = TT at hp ⊢
    generalize t.ptxt = x at hp hq ⊢
    have z0 : 1 ≤ lineN := by unfold lineN; omega
    have z1 : x.length + 1 ≤ lineN := by unfold lineN; omega
    simp [d_law_text, b_law_text, startE, hp, opAddS, z0, z1, dgetL]
  | left d t h ih =>
    intro hd n S hn
    obtain ⟨m, rfl⟩ : ∃ m, n = m + 1 := ⟨n - 1, by omega⟩
    have hb := tN_line (d := d) (by omega)
    have hl := h.txt.2
    have hp := ptext_ok (D := D) (G := G) (wf := wf) (w := t) (by unfold lineN; omega) (ih (by omega)) m S (by omega)
    have hq := h.ptxt_le
    rw [call_eq rfl, pv_left', txt_left]
    generalize t.pv = TT at hp ⊢
    generalize t.ptxt = x at hp hq ⊢
    have z0 : 1 ≤ lineN := by unfold lineN; omega
    have z1 : x.length + 1 ≤ lineN := by unfold lineN; omega
    simp [d_law_text, b_law_text, startE, hp, opAddS, z0, z1, dgetL]
end K
set_option Elab.async false
set_option linter.all false
set_option maxRecDepth 100000
namespace K
open Mi
variable {D : Nat → Option Def} {G : Nat → Option PV} {wf : Nat}
theorem sm_at {i : Nat} (h : i < 26) : ∃ c, smL[i]? = some c ∧ isSm c = true := by
  have hl : smL.length = 26 := rfl
  have ha : smL.all isSm = true := by decide
  refine ⟨smL[i]'(by omega), List.getElem?_eq_getElem _, ?_⟩
  exact List.all_eq_true.mp ha _ (List.getElem_mem _)
theorem flat_ones : ∀ cs : List Nat, (cs.map fun c => [c]).flatten = cs
  | [] => rfl
  | c :: cs => by rw [List.map_cons, List.flatten_cons, flat_ones cs]; rfl
theorem name_draw [Has D f_law_draw d_law_draw] [Has D f_law_name d_law_name] {n r B : Nat} {S : Store} (h : RngAt B r S) (hB : B ≤ 2 ^ 80) :
    ∃ (s : List Nat) (S' : Store), callN D G wf (n + 2) f_law_name [.ref r] S = .ok (.str s) S' ∧ s.all isSm = true ∧ 1 ≤ s.length ∧ s.length ≤ 8 ∧ Keep [r] S S' ∧ RngAt (B + 9) r S' := by
  obtain ⟨i1, S1, c1, hi0, hi1, k1, l1, g1⟩ := draw_ok (D := D) (G := G) (wf := wf) (n := n) h (by omega) (m := 8) (by omega) (by omega)
  obtain ⟨a, rfl⟩ : ∃ a : Nat, i1 = a := ⟨i1.toNat, by omega⟩
  obtain ⟨ys, S', e, cs, hy, h1, h2, h3, h4⟩ := lc_inv (test := denT ⟨callN D G wf (n + 1), G, wf⟩ .nil) (elt := denE ⟨callN D G wf (n + 1), G, wf⟩ (.idx (.var 1) (.call f_law_draw (.cons (.var 0) (.cons (.int 26) .nil))))) (tg := .one 2) (env := [some (.ref r), some (.str smL), none]) (src := ⟨rangeL 0 (1 + a), none⟩) rfl
    (fun xs acc S2 => ∃ cs : List Nat, acc = cs.map (fun c => PV.str [c]) ∧ cs.all isSm = true ∧ cs.length + xs.length = 1 + a ∧ RngAt (B + 1 + cs.length) r S2 ∧ Keep [r] S1 S2)
    (fun x xs acc S2 ⟨cs, ha, h1, h2, h3, h4⟩ => by
      obtain ⟨i2, S3, c2, hj0, hj1, k2, l2, g2⟩ := draw_ok (D := D) (G := G) (wf := wf) (n := n) h3 (by simp at h2; omega) (m := 26) (by omega) (by omega)
      obtain ⟨b, rfl⟩ : ∃ b : Nat, i2 = b := ⟨i2.toNat, by omega⟩
      obtain ⟨c, hc, hs⟩ := sm_at (i := b) (by omega)
      have hx := ix_str hc S3
      refine ⟨_, .str [c], S3, rfl, by simp, ?_, cs ++ [c], by rw [ha]; simp, by simp [h1, hs], by simp at h2 ⊢; omega, by simp; exact g2, h4.trans k2⟩
      generalize smL = SM at hx ⊢
      simp [c2, hx])
    (rangeL 0 (1 + a)) [] S1 ⟨[], rfl, by simp, by simp [rangeL]; omega, by simpa using g1, Keep.refl _ _⟩
  subst hy
  have h2 : cs.length = 1 + a := by simpa using h2
  refine ⟨cs, S', ?_, h1, by omega, by omega, k1.trans h4, h3.mono (by omega)⟩
  have hr : rngM [.int (1 + (a : Int))] S1 = .ok ⟨rangeL 0 (1 + a), none⟩ S1 := by
    have s62 : small62 (1 + (a : Int)) = true := small62_of (by omega) (by omega)
    have sl : (1 + (a : Int)).toNat ≤ lineN := by unfold lineN; omega
    rw [rngM_one, s62, decide_eq_true sl]; rfl
  have hm : cs.map (fun c => PV.str [c]) = (cs.map fun c => [c]).map PV.str := by rw [List.map_map]; rfl
  have hf := flat_ones cs
  have hj : opMt .join (.str []) [.lst (cs.map fun c => PV.str [c])] S' = .ok (.str cs) S' := by
    rw [hm, join_ok (by rw [hf]; unfold lineN; omega), hf]
  have hrv : ∀ S : Store, recv .join (.str []) S = .ok () S := fun _ => rfl
  generalize rangeL 0 (1 + (a : Int)) = RR at e hr
  generalize (cs.map fun c => PV.str [c]) = LL at e hj
  rw [call_eq rfl]
  unfold smL at e
  simp [d_law_name, b_law_name, startE, c1, hr, e, hj, hrv]
theorem named_ok [Has D f_law_draw d_law_draw] [Has D f_law_pick d_law_pick] [Has D f_law_tree d_law_tree] [Has D f_law_word d_law_word] [Has D f_law_named_tree d_law_named_tree] {n r B : Nat} {S : Store} (h : RngAt B r S) (hB : B ≤ 2 ^ 70) {ns : List (List Nat)} (h0 : ns ≠ []) (hl : ns.length ≤ 100) (hn : ∀ s ∈ ns, s.all isSm = true ∧ 1 ≤ s.length ∧ s.length ≤ 8) :
    ∃ (w : W) (S' : Store), callN D G wf (n + 8) f_law_named_tree [.ref r, .lst (ns.map PV.str)] S = .ok w.pv S' ∧ Ow 5 w ∧ Keep [r] S S' ∧ RngAt (B + 700) r S' := by
  obtain ⟨v, S1, c1, w1, k1, g1⟩ := word_ok (D := D) (G := G) (wf := wf) (n := n) h (by omega)
  obtain ⟨w, rfl, o1⟩ := w1.word
  obtain ⟨i, S2, c2, hi0, hi1, k2, l2, g2⟩ := draw_ok (D := D) (G := G) (wf := wf) (n := n + 6) g1 (by omega) (m := 2) (by omega) (by omega)
  by_cases hz : i = 0
  · subst hz
    obtain ⟨x, S3, c3, hx, k3, l3, g3⟩ := pick_ok (D := D) (G := G) (wf := wf) (n := n + 5) (xs := ns.map PV.str) g2 (by omega) (by simpa using h0) (by simp; omega)
    obtain ⟨s, hs, rfl⟩ := List.mem_map.mp hx
    obtain ⟨q1, q2, q3⟩ := hn s hs
    refine ⟨.join [w, .name s], S3, ?_, .join _ _ (by simp) ?_, (k1.trans k2).trans k3, g3.mono (by omega)⟩
    · rw [call_eq rfl, pv_join']
      simp only [List.map_cons, List.map_nil, pv_name']
      generalize w.pv = V at c1 ⊢
      generalize ns.map PV.str = NN at c3 ⊢
      simp [d_law_named_tree, b_law_named_tree, startE, c1, c2, c3]
    · intro t ht
      simp only [List.mem_cons, List.not_mem_nil, or_false] at ht
      rcases ht with rfl | rfl
      · exact o1
      · exact .name _ _ q1 q2 q3
  · refine ⟨w, S2, ?_, o1.up, k1.trans k2, g2.mono (by omega)⟩
    rw [call_eq rfl]
    generalize w.pv = V at c1 ⊢
    generalize ns.map PV.str = NN
    simp [d_law_named_tree, b_law_named_tree, startE, c1, c2, hz]
theorem cut_to {α : Type} (xs : List α) (i : Nat) : Mi.cut xs none (some (i : Int)) = xs.take i := by
  have hi : ¬ ((i : Int) < 0) := by omega
  simp only [Mi.cut, sIx, if_neg hi, Int.toNat_natCast, List.drop_zero, Nat.sub_zero]
  rcases Nat.le_total i xs.length with h | h
  · rw [Nat.min_eq_left h]
  · rw [Nat.min_eq_right h, List.take_of_length_le (Nat.le_refl _), List.take_of_length_le h]
theorem cut_from {α : Type} (xs : List α) (i : Nat) : Mi.cut xs (some (i : Int)) none = xs.drop i := by
  have hi : ¬ ((i : Int) < 0) := by omega
  simp only [Mi.cut, sIx, if_neg hi, Int.toNat_natCast]
  rcases Nat.le_total i xs.length with h | h
  · rw [Nat.min_eq_left h, List.take_of_length_le (by simp)]
  · rw [Nat.min_eq_right h, List.drop_of_length_le (Nat.le_refl _), List.drop_of_length_le h]; simp
theorem bent_ok [Has D f_law_draw d_law_draw] [Has D f_law_pick d_law_pick] [Has D f_law_bent d_law_bent] {n r B : Nat} {S : Store} (h : RngAt B r S) (hB : B ≤ 2 ^ 70) {x : List Nat} (hx : okT x = true) (hl : x.length ≤ 10000000) {ss : List (List Nat)} (h0 : ss ≠ []) (hl2 : ss.length ≤ 100) (hs : ∀ s ∈ ss, okT s = true ∧ s.length = 1) :
    ∃ (y : List Nat) (S' : Store), callN D G wf (n + 3) f_law_bent [.ref r, .str x, .lst (ss.map PV.str)] S = .ok (.str y) S' ∧ okT y = true ∧ y.length ≤ x.length + 1 ∧ Keep [r] S S' ∧ RngAt (B + 3) r S' := by
  obtain ⟨i, S1, c1, hi0, hi1, k1, l1, g1⟩ := draw_ok (D := D) (G := G) (wf := wf) (n := n + 1) h (by omega) (m := (x.length : Int) + 1) (by omega) (by omega)
  obtain ⟨j, S2, c2, hj0, hj1, k2, l2, g2⟩ := draw_ok (D := D) (G := G) (wf := wf) (n := n + 1) g1 (by omega) (m := 3) (by omega) (by omega)
  obtain ⟨v, S3, c3, hv, k3, l3, g3⟩ := pick_ok (D := D) (G := G) (wf := wf) (n := n) (xs := ss.map PV.str) g2 (by omega) (by simpa using h0) (by simp; omega)
  obtain ⟨s, hs', rfl⟩ := List.mem_map.mp hv
  obtain ⟨q1, q2⟩ := hs s hs'
  obtain ⟨a, rfl⟩ : ∃ a : Nat, i = a := ⟨i.toNat, by omega⟩
  have ha : a ≤ x.length := by omega
  have e1 : ((a : Int) + 1) = ((a + 1 : Nat) : Int) := by omega
  have t1 : okT (x.take a) = true := okT_sub hx fun c hc => List.mem_of_mem_take hc
  have t2 : okT (x.drop a) = true := okT_sub hx fun c hc => List.mem_of_mem_drop hc
  have t3 : okT (x.drop (a + 1)) = true := okT_sub hx fun c hc => List.mem_of_mem_drop hc
  have z1 : (x.take a).length = a := by rw [List.length_take]; omega
  have z2 : (x.drop a).length = x.length - a := List.length_drop ..
  have z3 : (x.drop (a + 1)).length = x.length - (a + 1) := List.length_drop ..
  have p1 : a + 1 ≤ lineN := by unfold lineN; omega
  have p2 : a + 1 + (x.length - a) ≤ lineN := by unfold lineN; omega
  have p3 : a + (x.length - (a + 1)) ≤ lineN := by unfold lineN; omega
  have p4 : a + 1 + (x.length - (a + 1)) ≤ lineN := by unfold lineN; omega
  have hj : j = 0 ∨ j = 1 ∨ j = 2 := by omega
  have key : ∃ y, atI [PV.str (x.take a ++ s ++ x.drop a), .str (x.take a ++ x.drop (a + 1)), .str (x.take a ++ s ++ x.drop (a + 1))] j = some (.str y) ∧ okT y = true ∧ y.length ≤ x.length + 1 := by
    rcases hj with rfl | rfl | rfl
    · exact ⟨x.take a ++ s ++ x.drop a, by simp, by rw [okT_append, okT_append, t1, q1, t2]; rfl, by rw [List.length_append, List.length_append, z1, z2, q2]; omega⟩
    · exact ⟨x.take a ++ x.drop (a + 1), by simp, by rw [okT_append, t1, t3]; rfl, by rw [List.length_append, z1, z3]; omega⟩
    · exact ⟨x.take a ++ s ++ x.drop (a + 1), by simp, by rw [okT_append, okT_append, t1, q1, t3]; rfl, by rw [List.length_append, List.length_append, z1, z3, q2]; omega⟩
  obtain ⟨y, hy, y1, y2⟩ := key
  refine ⟨y, S3, ?_, y1, y2, (k1.trans k2).trans k3, g3⟩
  rw [call_eq rfl]
  have d1 := cut_to x a
  have d2 := cut_from x a
  have d3 := cut_from x (a + 1)
  rw [← e1] at d3
  generalize ss.map PV.str = SS at c3 ⊢
  simp only [List.append_assoc] at hy
  simp [d_law_bent, b_law_bent, startE, c1, c2, c3, d1, d2, d3, opAddS, z1, z2, z3, q2, p1, p2, p3, p4, ha, hy]
end K
set_option Elab.async false
set_option linter.all false
set_option maxRecDepth 100000
namespace K
open Mi
variable {D : Nat → Option Def} {G : Nat → Option PV} {wf : Nat}
inductive Cw : W → Prop
  | emp : Cw .emp
  | ltr (c : Nat) (h : isLtr c = true) : Cw (.ltr c)
  | name (s : List Nat) (h : s.all isSm = true) (h1 : 1 ≤ s.length) (h8 : s.length ≤ 8) : Cw (.name s)
  | join (ts : List W) (h : ∀ t ∈ ts, Cw t) : Cw (.join ts)
  | times (t : W) (n : Nat) (h1 : n ≤ 1000000000000000000000000000000) (h : Cw t) : Cw (.times t n)
  | right (t : W) (h : Cw t) : Cw (.right t)
  | left (t : W) (h : Cw t) : Cw (.left t)
theorem cw_suf {x : List Nat} {at0 : Nat} {w w' : W} {e : Nat} (h : Cw w) (q : readSuf x at0 w = .ok (w', e)) : Cw w' := by
  unfold readSuf at q
  split at q
  · cases q2 : readNum x (at0 + 1) with
    | ok r =>
      rw [q2] at q; cases q
      refine .times _ _ ?_ h
      unfold readNum at q2
      split at q2
      · rename_i hn
        cases q2
        unfold numOk at hn
        simp only [Bool.not_eq_true', Bool.or_eq_false_iff, decide_eq_false_iff_not] at hn
        have := hn.2.2.2
        show dgV _ ≤ _
        omega
      · cases q2
    | bad p => rw [q2] at q; cases q
    | big p => rw [q2] at q; cases q
  · cases q
    split
    · exact .right _ h
    · exact .left _ h
theorem cw_sufs {x : List Nat} : ∀ {k at0 : Nat} {w w' : W} {e : Nat}, Cw w → sufs x k at0 w = .ok (w', e) → Cw w'
  | 0, at0, w, w', e, h, q => by unfold sufs at q; cases q; exact h
  | k + 1, at0, w, w', e, h, q => by
    unfold sufs at q
    split at q
    · split at q
      · cases q2 : readSuf x at0 w with
        | ok r => rw [q2] at q; exact cw_sufs (cw_suf h q2) q
        | bad p => rw [q2] at q; cases q
        | big p => rw [q2] at q; cases q
      · cases q; exact h
    · cases q; exact h
theorem cw_items {x : List Nat} {aF : Nat → Rs (W × Nat)} (hA : ∀ at0 w e, aF at0 = .ok (w, e) → Cw w) : ∀ {k at0 : Nat} {acc ws : List W} {e : Nat}, (∀ w ∈ acc, Cw w) → items aF x k at0 acc = .ok (ws, e) → ∀ w ∈ ws, Cw w
  | 0, at0, acc, ws, e, ha, q => by unfold items at q; cases q; exact ha
  | k + 1, at0, acc, ws, e, ha, q => by
    unfold items at q
    split at q
    · split at q
      · cases q; exact ha
      · cases q1 : aF at0 with
        | bad p => rw [q1] at q; cases q
        | big p => rw [q1] at q; cases q
        | ok r =>
          obtain ⟨w, e1⟩ := r
          rw [q1] at q
          have g := hA at0 w e1 q1
          have q : ((sufs x (x.length + 1) e1 w).bind fun q => items aF x k q.2 (acc ++ [q.1])) = .ok (ws, e) := q
          cases q2 : sufs x (x.length + 1) e1 w with
          | bad p => rw [q2] at q; cases q
          | big p => rw [q2] at q; cases q
          | ok r2 =>
            rw [q2] at q
            refine cw_items hA (fun v hv => ?_) q
            rcases List.mem_append.mp hv with z | z
            · exact ha v z
            · rw [List.mem_singleton.mp z]; exact cw_sufs g q2
    · cases q; exact ha
theorem nmEnd_all (x : List Nat) (at0 : Nat) : ∀ (k e i : Nat), e ≤ i → i < nmEnd x at0 k e → ∃ c, x[i]? = some c ∧ isSm c = true
  | 0, e, i, h1, h2 => by unfold nmEnd at h2; omega
  | k + 1, e, i, h1, h2 => by
    unfold nmEnd at h2
    cases q : x[e]? with
    | none => rw [q] at h2; dsimp only at h2; omega
    | some c =>
      rw [q] at h2
      dsimp only at h2
      split at h2
      · rename_i hc
        rw [Bool.and_eq_true] at hc
        rcases Nat.eq_or_lt_of_le h1 with z | z
        · subst z; exact ⟨c, q, hc.1⟩
        · exact nmEnd_all x at0 k (e + 1) i z h2
      · omega
theorem nmEnd_nine (x : List Nat) (at0 : Nat) : ∀ (k e : Nat), e ≤ at0 + 9 → nmEnd x at0 k e ≤ at0 + 9
  | 0, e, h => by unfold nmEnd; exact h
  | k + 1, e, h => by
    unfold nmEnd
    split
    · split
      · rename_i hc
        rw [Bool.and_eq_true, decide_eq_true_eq] at hc
        exact nmEnd_nine x at0 k (e + 1) (by omega)
      · exact h
    · exact h
theorem seg_all {x : List Nat} {p : Nat → Bool} {a b : Nat} (h : ∀ i, a ≤ i → i < b → ∃ c, x[i]? = some c ∧ p c = true) : ((x.drop a).take (b - a)).all p = true := List.all_eq_true.mpr fun c hc => by
  obtain ⟨i, hi⟩ := List.mem_iff_getElem?.mp hc
  rw [List.getElem?_take] at hi
  split at hi
  · rename_i hl
    rw [List.getElem?_drop] at hi
    obtain ⟨d, hd, hp⟩ := h (a + i) (by omega) (by omega)
    rw [hd] at hi; cases hi; exact hp
  · cases hi
theorem cw_name {x : List Nat} {at0 : Nat} {w : W} {e : Nat} (hl : at0 < x.length) (q : readName x at0 = .ok (w, e)) : Cw w := by
  unfold readName at q
  have h1 := nmEnd_ge x at0 20 (at0 + 1)
  have h2 := nmEnd_nine x at0 20 (at0 + 1) (by omega)
  have h3 := nmEnd_all x at0 20 (at0 + 1)
  have h4 := nmEnd_le x at0 20 (at0 + 1) (by omega)
  dsimp only at q
  generalize nmEnd x at0 20 (at0 + 1) = ee at q h1 h2 h3 h4
  split at q
  · cases q
  · split at q
    · cases q
      refine .name _ (seg_all h3) ?_ ?_
      · rw [List.length_take, List.length_drop]; omega
      · rw [List.length_take, List.length_drop]; omega
    · cases q
theorem cw_mk {ws : List W} (h : ∀ w ∈ ws, Cw w) : Cw (mkW ws) := by
  cases ws with
  | nil => exact .emp
  | cons w ws =>
    cases ws with
    | nil => exact h w List.mem_cons_self
    | cons v ws => exact .join _ h
theorem cw_atom {x : List Nat} : ∀ (d o at0 : Nat) (w : W) (e : Nat), atomD x d at0 o = .ok (w, e) → Cw w
  | 0, o, at0, w, e, q => by unfold atomD at q; cases q
  | d + 1, o, at0, w, e, q => by
    unfold atomD at q
    split at q
    · rename_i cc qq
      have hl' : at0 < x.length := (List.getElem?_eq_some_iff.mp qq).1
      split at q
      · rename_i hL; cases q; exact .ltr _ hL
      · split at q
        · exact cw_name hl' q
        · split at q
          · split at q
            · cases q
            · cases q1 : items (fun a => atomD x d a (o + 1)) x (x.length + 1) (at0 + 1) [] with
              | bad p => rw [q1] at q; cases q
              | big p => rw [q1] at q; cases q
              | ok r =>
                obtain ⟨ws, e1⟩ := r
                rw [q1] at q
                have g := cw_items (fun a w e h => cw_atom d (o + 1) a w e h) (by simp) q1
                have q : (if e1 = x.length then Rs.bad e1 else .ok (mkW ws, e1 + 1)) = .ok (w, e) := q
                split at q
                · cases q
                · cases q; exact cw_mk g
          · cases q
    · cases q
theorem cw_parse {x : List Nat} {w : W} (q : parseW x = .ok w) : Cw w ∧ w.depth ≤ 12 ∧ x.length ≤ 200 := by
  unfold parseW at q
  split at q
  · cases q
  · rename_i hl
    cases q1 : itemsD x 9 0 0 with
    | bad p => rw [q1] at q; cases q
    | big p => rw [q1] at q; cases q
    | ok r =>
      obtain ⟨ws, e⟩ := r
      rw [q1] at q
      have q : (if e < x.length then Rs.bad e else if 12 < (mkW ws).depth then .big 12 else .ok (mkW ws)) = .ok w := q
      split at q
      · cases q
      · split at q
        · cases q
        · cases q
          exact ⟨cw_mk (cw_items (fun a w e h => cw_atom 9 0 a w e h) (by simp) q1), by omega, by omega⟩
theorem Cw.okP {w : W} (h : Cw w) : okP (2 * w.depth + 1) w.pv = true := by
  induction h with
  | emp => rw [pv_emp']; rfl
  | ltr c h =>
    simp [isLtr] at h
    rw [pv_ltr']
    show Mi.okP (2 * (W.ltr c).depth + 1) _ = true
    rw [okP_t]; simp; omega
  | name s h h1 h8 =>
    rw [pv_name', okP_t]; simp [okT_sm h]
  | join ts h ih =>
    rw [pv_join', W.depth, okP_t]
    have e : 2 * (1 + W.deps ts) = 2 * W.deps ts + 1 + 1 := by omega
    rw [e]
    have : okPs (2 * W.deps ts + 1) (ts.map W.pv) = true := okPs_all.mpr fun v hv => by
      obtain ⟨t, ht, rfl⟩ := List.mem_map.mp hv
      exact okP_mono (ih t ht) (by have := deps_mem ht; omega)
    simp [this]
  | times t n h1 h ih =>
    rw [pv_times', W.depth, okP_t]
    have := okP_mono (d' := 2 * (1 + t.depth)) ih (by omega)
    simp [this]
  | right t h ih =>
    rw [pv_right', W.depth, okP_t]
    have := okP_mono (d' := 2 * (1 + t.depth)) ih (by omega)
    simp [this]
  | left t h ih =>
    rw [pv_left', W.depth, okP_t]
    have := okP_mono (d' := 2 * (1 + t.depth)) ih (by omega)
    simp [this]
theorem parse_long [Has D f_parse_word_k05 d_parse_word_k05] [RG : RdG G] {x : List Nat} (h : 200 < x.length) (n : Nat) (S : Store) : callN D G wf (n + 1) f_parse_word_k05 [.str x] S = resP (parseW x) S := by
  have hmt := RG.mt
  have h' : (200 : Int) < (x.length : Int) := by omega
  rw [call_eq rfl]
  unfold parseW
  rw [if_pos h]
  generalize hx : x.length = L at h h' ⊢
  simp [d_parse_word_k05, b_parse_word_k05, startE, hmt, hx, h', resP]
end K
set_option Elab.async false
set_option linter.all false
set_option maxRecDepth 100000
namespace K
open Mi
instance {p : Nat} : RdG (Gm p) := ⟨rfl, rfl, rfl, rfl, rfl, rfl, rfl, rfl, rfl⟩
@[simp] theorem opIsNot_non (a : PV) (S : Store) : opC .isnot a .non S = .ok (!isNonP a) S := rfl
def C225 (p : Nat) : Cfg := ⟨callN Dm (Gm p) wf 225, Gm p, wf⟩
theorem parse_any {p : Nat} {x : List Nat} (hx : okT x = true) (S : Store) : ∃ S', callN Dm (Gm p) wf 225 f_parse_word_k05 [.str x] S = resP (parseW x) S' ∧ Keep [] S S' := by
  rcases Nat.lt_or_ge 200 x.length with h | h
  · exact ⟨S, parse_long h 224 S, Keep.refl _ _⟩
  · exact parse_ok (D := Dm) (G := Gm p) (wf := wf) (by decide) (by show x.length < 1000000; omega) (by omega) hx (by omega) (fun ws e q => by have := (gd_word (by omega) q).2.dp; omega) S
theorem due_any {p : Nat} {x : List Nat} (hx : okT x = true) (hl : x.length < 1000000) (S : Store) : callN Dm (Gm p) wf 225 f_law_word_due [.str x] S = .ok (vDue (sc x 0 0 true)) S := due_ok (D := Dm) (G := Gm p) (wf := wf) hl hx 223 S
theorem try_den {p : Nat} {x : List Nat} {e : E} {env : Env} {S S' : Store} (hT : TabAt p S) (hE : denE (C225 p) e env S = .ok (.str x) S) (hc : callN Dm (Gm p) wf 225 f_parse_word_k05 [.str x] S = resP (parseW x) S') :
    denE (C225 p) (.tryL (.call f_parse_word_k05 (.cons e .nil))) env S = .ok (toldV (parseW x)) S' := by
  have hm : denE (C225 p) (.call f_parse_word_k05 (.cons e .nil)) env S = resP (parseW x) S' := by
    rw [ev_call, ev_cons, hE, bnd_ok]
    simp only [ev_nil, bnd_ok]
    exact hc
  have ht := tell_ok hT hm
  have hG : (C225 p).glb tabG = some (.int p) := rfl
  rw [ev_tryL, hG, ht]
section
variable {p : Nat} {e0 e1 e2 e3 e4 e5 e6 e7 e8 : Option PV}
def k6_c : S := (.ifS (.or (.cmp .gt (.bi .len (.cons (.var 3) .nil)) (.int 200)) (.and (.cmp .is (.var 5) .non) (.cmp .eq (.var 6) (.tup (.cons (.str [84, 111, 111, 76, 97, 114, 103, 101]) (.cons (.int 12) .nil)))))) (.seq .cont .skip) .skip)
def k6_r : S := (.ifS (.or (.and (.cmp .isnot (.var 5) .non) (.not (.call f_law_same (.cons (.var 6) (.cons (.var 5) .nil))))) (.and (.cmp .is (.var 5) .non) (.cmp .ne (.idx (.var 6) (.int 0)) (.str [118, 97, 108, 117, 101])))) (.seq (.ret (.bl false)) .skip) .skip)
/-- both readings agree, or the text is one that is not looked at -/
def Agree (x : List Nat) : Prop := (∃ w, parseW x = .ok w ∧ sc x 0 0 true = .ok ()) ∨ (∃ q, parseW x = .bad q ∧ sc x 0 0 true = .bad q) ∨ (∃ q, parseW x = .big q ∧ sc x 0 0 true = .big q)
theorem agree {x : List Nat} (hl : x.length ≤ 200) : Agree x ∨ (parseW x = .big 12 ∧ sc x 0 0 true = .ok ()) := by
  have h := due_parse hl
  cases q : parseW x with
  | ok w => rw [q] at h; exact .inl (.inl ⟨w, q, h⟩)
  | bad p => rw [q] at h; exact .inl (.inr (.inl ⟨p, q, h⟩))
  | big k =>
    rw [q] at h
    rcases h with ⟨rfl, h⟩ | h
    · exact .inr ⟨rfl, h⟩
    · exact .inl (.inr (.inr ⟨k, q, h⟩))
theorem okPs_told {w : W} (h : Cw w) (hd : w.depth ≤ 12) : okPs 63 [PV.str valN, w.pv] = true := by
  have := okP_mono (d' := 63) h.okP (by omega)
  simp [this, valN]
theorem same_err {n : Nat} {S : Store} (s : List Nat) (hs : okT s = true) (k : Nat) : callN Dm (Gm p) wf (n + 3) f_law_same [.tup [.str s, .int (k : Nat)], .tup [.str s, .int (k : Nat)]] S = .ok (.bl true) S :=
  same_refl (D := Dm) (G := Gm p) (wf := wf) 2 _ (by simp [hs]) (n + 3) S (by omega)
theorem rr_ok {x : List Nat} {S : Store} (h : Agree x) : denS (C225 p) k6_r [e0, e1, e2, e3, e4, some (vDue (sc x 0 0 true)), some (toldV (parseW x)), e7, e8] S = .ok (.nx [e0, e1, e2, e3, e4, some (vDue (sc x 0 0 true)), some (toldV (parseW x)), e7, e8]) S := by
  rcases h with ⟨w, h1, h2⟩ | ⟨q, h1, h2⟩ | ⟨q, h1, h2⟩
  · rw [h1, h2]
    simp only [vDue, toldV]
    generalize w.pv = V
    simp [k6_r, valN]
  · rw [h1, h2]
    have hs := same_err (p := p) (n := 222) (S := S) xText (by decide) q
    simp only [vDue, toldV]
    simp only [C225]
    generalize xText = T at hs ⊢
    simp [k6_r, hs]
  · rw [h1, h2]
    have hs := same_err (p := p) (n := 222) (S := S) xLarge (by decide) q
    simp only [vDue, toldV]
    simp only [C225]
    generalize xLarge = T at hs ⊢
    simp [k6_r, hs]
theorem cr_ok {x : List Nat} {S : Store} : ∃ fl, (fl = .ct [e0, e1, e2, some (.str x), e4, some (vDue (sc x 0 0 true)), some (toldV (parseW x)), e7, e8] ∨ fl = .nx [e0, e1, e2, some (.str x), e4, some (vDue (sc x 0 0 true)), some (toldV (parseW x)), e7, e8]) ∧
    denS (C225 p) (.seq k6_c (.seq k6_r .skip)) [e0, e1, e2, some (.str x), e4, some (vDue (sc x 0 0 true)), some (toldV (parseW x)), e7, e8] S = .ok fl S := by
  rcases Nat.lt_or_ge 200 x.length with h | h
  · refine ⟨_, .inl rfl, ?_⟩
    have h' : (200 : Int) < (x.length : Int) := by omega
    simp [k6_c, h']
  · have h' : ¬ (200 : Int) < (x.length : Int) := by omega
    rcases agree h with g | ⟨g1, g2⟩
    · refine ⟨_, .inr rfl, ?_⟩
      have hr := rr_ok (p := p) (e0 := e0) (e1 := e1) (e2 := e2) (e3 := some (.str x)) (e4 := e4) (e7 := e7) (e8 := e8) (S := S) g
      have hc : denS (C225 p) k6_c [e0, e1, e2, some (.str x), e4, some (vDue (sc x 0 0 true)), some (toldV (parseW x)), e7, e8] S = .ok (.nx [e0, e1, e2, some (.str x), e4, some (vDue (sc x 0 0 true)), some (toldV (parseW x)), e7, e8]) S := by
        rcases g with ⟨w, h1, h2⟩ | ⟨q, h1, h2⟩ | ⟨q, h1, h2⟩
        · rw [h1, h2]
          obtain ⟨hw, hd, _⟩ := cw_parse h1
          have hk := okPs_told hw hd
          simp only [vDue, toldV]
          simp only [okPs_c, okPs_n, Bool.and_eq_true] at hk
          have hk1 := hk.2.1
          generalize w.pv = V at hk1 ⊢
          simp [k6_c, h', hk1, valN]
        · rw [h1, h2]
          simp [k6_c, h', vDue]
        · rw [h1, h2]
          simp [k6_c, h', vDue]
      rw [ev_seq, hc, bnd_ok, goOn_nx, ev_seq, hr, bnd_ok, goOn_nx, ev_skip]
    · refine ⟨_, .inl rfl, ?_⟩
      rw [g1, g2]
      simp [k6_c, h', vDue, toldV, xLarge]
end
def k6_s1 : S := (.asg (.one 3) (.call f_law_text (.cons (.call f_law_named_tree (.cons (.var 1) (.cons (.lst false (.cons (.str [111, 97, 107]) (.cons (.str [101, 108, 109]) (.cons (.call f_law_name (.cons (.var 1) .nil)) .nil)))) .nil))) .nil)))
def k6_s2 : S := (.forS (.one 4) (.rng (.cons (.bin .add (.int 1) (.call f_law_draw (.cons (.var 1) (.cons (.int 2) .nil)))) .nil)) l_law_k06_3)
def k6_s3 : S := (.asg (.one 5) (.call f_law_word_due (.cons (.var 3) .nil)))
def k6_s4 : S := (.asg (.one 6) (.tryL (.call f_parse_word_k05 (.cons (.var 3) .nil))))
theorem turn_body : l_law_k06_2 = (.seq k6_s1 (.seq k6_s2 (.seq k6_s3 (.seq k6_s4 (.seq k6_c (.seq k6_r .skip)))))) := rfl
def signs : List (List Nat) := [[97], [40], [41], [62], [60], [94], [48], [55], [123], [125], [122], [32], [65], [10]]
theorem bend_ok {p : Nat} {B : Nat} {S : Store} {x : List Nat} {e0 e2 e4 e5 e6 e7 e8 : Option PV} (hR : RngAt B 1 S) (hB : B ≤ 2 ^ 60) (hx : okT x = true) (hl : x.length ≤ 999000) :
    ∃ (y : List Nat) (S' : Store), denS (C225 p) l_law_k06_3 [e0, some (.ref 1), e2, some (.str x), e4, e5, e6, e7, e8] S = .ok (.nx [e0, some (.ref 1), e2, some (.str y), e4, e5, e6, e7, e8]) S' ∧ okT y = true ∧ y.length ≤ x.length + 1 ∧ Keep [1] S S' ∧ RngAt (B + 3) 1 S' := by
  obtain ⟨y, S', c1, h1, h2, k1, g1⟩ := bent_ok (D := Dm) (G := Gm p) (wf := wf) (n := 222) hR (by omega) hx (by omega) (ss := signs) (by decide) (by decide) (by decide)
  refine ⟨y, S', ?_, h1, h2, k1, g1⟩
  simp only [C225]
  simp [signs] at c1
  simp [l_law_k06_3, c1]
theorem turn_ok {p : Nat} {B : Nat} {S : Store} {e0 e2 e3 e4 e5 e6 e7 e8 : Option PV} (hR : RngAt B 1 S) (hT : TabAt p S) (hB : B ≤ 2 ^ 50) :
    ∃ f3 f4 f5 f6 S', (denS (C225 p) l_law_k06_2 [e0, some (.ref 1), e2, e3, e4, e5, e6, e7, e8] S = .ok (.nx [e0, some (.ref 1), e2, f3, f4, f5, f6, e7, e8]) S' ∨ denS (C225 p) l_law_k06_2 [e0, some (.ref 1), e2, e3, e4, e5, e6, e7, e8] S = .ok (.ct [e0, some (.ref 1), e2, f3, f4, f5, f6, e7, e8]) S') ∧ RngAt (B + 1000) 1 S' ∧ TabAt p S' := by
  obtain ⟨nm, S1, c1, n1, n2, n3, k1, g1⟩ := name_draw (D := Dm) (G := Gm p) (wf := wf) (n := 223) hR (by omega)
  obtain ⟨w, S2, c2, o2, k2, g2⟩ := named_ok (D := Dm) (G := Gm p) (wf := wf) (n := 217) g1 (by omega) (ns := [[111, 97, 107], [101, 108, 109], nm]) (by simp) (by simp) (by
    intro s hs
    simp only [List.mem_cons, List.not_mem_nil, or_false] at hs
    rcases hs with rfl | rfl | rfl
    · decide
    · decide
    · exact ⟨n1, n2, n3⟩)
  have tx := text_ok (D := Dm) (G := Gm p) (wf := wf) o2 (by omega) 225 S2 (by omega)
  obtain ⟨t1, t2⟩ := o2.txt
  have t3 : tN 5 = 944784 := by decide
  have s1 : denS (C225 p) k6_s1 [e0, some (.ref 1), e2, e3, e4, e5, e6, e7, e8] S = .ok (.nx [e0, some (.ref 1), e2, some (.str w.txt), e4, e5, e6, e7, e8]) S2 := by
    simp only [C225]
    simp only [List.map_cons, List.map_nil] at c2
    generalize w.pv = V at c2 tx
    generalize w.txt = X at tx ⊢
    simp [k6_s1, c1, c2, tx]
  obtain ⟨i, S3, c3, hi0, hi1, k3, l3, g3⟩ := draw_ok (D := Dm) (G := Gm p) (wf := wf) (n := 224) g2 (by omega) (m := 2) (by omega) (by omega)
  obtain ⟨a, rfl⟩ : ∃ a : Nat, i = a := ⟨i.toNat, by omega⟩
  have T3 : TabAt p S3 := ((hT.keep k1 (by decide)).keep k2 (by decide)).keep k3 (by decide)
  obtain ⟨e', S4, lp, y, b4, hy1, hy2, hy3, hy4, hy5⟩ := for_inv (body := denS (C225 p) l_law_k06_3) (tg := .one 4) (src := ⟨rangeL 0 (1 + a), none⟩) rfl
    (fun xs env S => ∃ (y : List Nat) (b4 : Option PV), env = [e0, some (.ref 1), e2, some (.str y), b4, e5, e6, e7, e8] ∧ okT y = true ∧ y.length + xs.length ≤ 944786 ∧ RngAt (B + 800 - 3 * xs.length) 1 S ∧ xs.length ≤ 2 ∧ TabAt p S)
    (fun x xs env S ⟨y, b4, he, h1, h2, h3, h5, h4⟩ => by
      subst he
      simp only [List.length_cons] at h2 h3 h5
      obtain ⟨z, S', q1, q2, q3, q4, q5⟩ := bend_ok (p := p) (e0 := e0) (e2 := e2) (e4 := some x) (e5 := e5) (e6 := e6) (e7 := e7) (e8 := e8) h3 (by omega) h1 (by omega)
      exact ⟨_, _, S', rfl, .inl q1, z, some x, rfl, q2, by omega, q5.mono (by omega), by omega, h4.keep q4 (by decide)⟩)
    (rangeL 0 (1 + a)) [e0, some (.ref 1), e2, some (.str w.txt), e4, e5, e6, e7, e8] S3 ⟨w.txt, e4, rfl, t1, by simp [rangeL]; omega, g3.mono (by simp [rangeL]; omega), by simp [rangeL]; omega, T3⟩
  subst hy1
  have s2 : denS (C225 p) k6_s2 [e0, some (.ref 1), e2, some (.str w.txt), e4, e5, e6, e7, e8] S2 = .ok (.nx [e0, some (.ref 1), e2, some (.str y), b4, e5, e6, e7, e8]) S4 := by
    have hr : rngM [.int (1 + (a : Int))] S3 = .ok ⟨rangeL 0 (1 + a), none⟩ S3 := by
      have s62 : small62 (1 + (a : Int)) = true := small62_of (by omega) (by omega)
      have sl : (1 + (a : Int)).toNat ≤ lineN := by unfold lineN; omega
      rw [rngM_one, s62, decide_eq_true sl]; rfl
    generalize w.txt = X at lp ⊢
    simp only [C225] at lp ⊢
    generalize rangeL 0 (1 + (a : Int)) = RR at lp hr
    simp [k6_s2, c3, hr, lp]
  have du := due_any (p := p) hy2 (by simp at hy3; omega) S4
  have s3 : denS (C225 p) k6_s3 [e0, some (.ref 1), e2, some (.str y), b4, e5, e6, e7, e8] S4 = .ok (.nx [e0, some (.ref 1), e2, some (.str y), b4, some (vDue (sc y 0 0 true)), e6, e7, e8]) S4 := by
    simp only [C225]
    generalize vDue (sc y 0 0 true) = DD at du ⊢
    simp [k6_s3, du]
  obtain ⟨S5, c5, k5⟩ := parse_any (p := p) hy2 S4
  have T5 := hy5.2.keep0 k5
  have s4 : denS (C225 p) k6_s4 [e0, some (.ref 1), e2, some (.str y), b4, some (vDue (sc y 0 0 true)), e6, e7, e8] S4 = .ok (.nx [e0, some (.ref 1), e2, some (.str y), b4, some (vDue (sc y 0 0 true)), some (toldV (parseW y)), e7, e8]) S5 := by
    unfold k6_s4
    rw [ev_asg, try_den (x := y) hy5.2 (by simp) c5]; rfl
  obtain ⟨fl, hfl, s5⟩ := cr_ok (p := p) (x := y) (e0 := e0) (e1 := some (.ref 1)) (e2 := e2) (e4 := b4) (e7 := e7) (e8 := e8) (S := S5)
  refine ⟨some (.str y), b4, some (vDue (sc y 0 0 true)), some (toldV (parseW y)), S5, ?_, (hy4.keep k5 (by simp)).mono (by simp), T5⟩
  have all : denS (C225 p) l_law_k06_2 [e0, some (.ref 1), e2, e3, e4, e5, e6, e7, e8] S = .ok fl S5 := by
    rw [turn_body, ev_seq, s1, bnd_ok, goOn_nx, ev_seq, s2, bnd_ok, goOn_nx, ev_seq, s3, bnd_ok, goOn_nx, ev_seq, s4, bnd_ok, goOn_nx, s5]
  rw [all]
  rcases hfl with rfl | rfl
  · exact .inr rfl
  · exact .inl rfl
def odds : List (List Nat) := [[94], [97, 94], [97, 94, 48, 49], [97, 94, 49, 48, 48, 48, 48, 48, 48, 48, 48, 48, 48, 48, 48, 48, 48, 48, 48, 48, 48, 48, 48, 48, 48, 48, 48, 48, 48, 48, 48, 48, 49], [123], [123, 125], [123, 97, 98, 99, 100, 101, 102, 103, 104, 105, 125], [123, 97, 98, 99, 100, 101, 102, 103, 104], [40], [40, 41, 41], [62], [40, 41, 62], [97, 40, 41, 94, 48], [40, 40, 40, 40, 40, 40, 40, 40, 41, 41, 41, 41, 41, 41, 41, 41], [40, 40, 40, 40, 40, 40, 40, 40, 40], [97, 94, 49, 49, 49, 49, 49, 49, 49, 49, 49, 49, 49, 49, 49, 49, 49, 49, 49, 49, 49, 49, 49, 49, 49, 49, 49, 49, 49, 49, 49, 49, 49, 49, 49, 49, 49, 49, 49, 49, 49, 49, 49, 49, 49, 49, 49, 49, 49, 49, 49, 49, 49, 49, 49, 49, 49, 49, 49, 49, 49, 49], [123, 65, 98, 125], [97, 32, 98]]
def isBig12 : Rs W → Bool
  | .big 12 => true
  | _ => false
theorem odds_ok : (odds.all fun x => okT x && (decide (x.length ≤ 200) && !isBig12 (parseW x))) = true := by decide +kernel
theorem odd_agree {x : List Nat} (h : x ∈ odds) : okT x = true ∧ x.length ≤ 200 ∧ Agree x := by
  have := List.all_eq_true.mp odds_ok x h
  simp only [Bool.and_eq_true, decide_eq_true_eq, Bool.not_eq_true'] at this
  obtain ⟨h1, h2, h3⟩ := this
  refine ⟨h1, h2, (agree h2).resolve_right fun ⟨g, _⟩ => ?_⟩
  rw [g] at h3; cases h3
theorem odd_body : l_law_k06_1 = (.seq (.par 5 6 (.call f_law_word_due (.cons (.var 3) .nil)) (.tryL (.call f_parse_word_k05 (.cons (.var 3) .nil)))) (.seq k6_r .skip)) := rfl
theorem odd_ok {p : Nat} {S : Store} {x : List Nat} {e0 e1 e2 e4 e5 e6 e7 e8 : Option PV} (hT : TabAt p S) (hm : x ∈ odds) :
    ∃ f5 f6 S', denS (C225 p) l_law_k06_1 [e0, e1, e2, some (.str x), e4, e5, e6, e7, e8] S = .ok (.nx [e0, e1, e2, some (.str x), e4, f5, f6, e7, e8]) S' ∧ TabAt p S' := by
  obtain ⟨hx, hl, ha⟩ := odd_agree hm
  have du := due_any (p := p) hx (by omega) S
  obtain ⟨S5, c5, k5⟩ := parse_any (p := p) hx S
  have hr := rr_ok (p := p) (e0 := e0) (e1 := e1) (e2 := e2) (e3 := some (.str x)) (e4 := e4) (e7 := e7) (e8 := e8) (S := S5) ha
  refine ⟨some (vDue (sc x 0 0 true)), some (toldV (parseW x)), S5, ?_, hT.keep0 k5⟩
  have hd : denE (C225 p) (.call f_law_word_due (.cons (.var 3) .nil)) [e0, e1, e2, some (.str x), e4, e5, e6, e7, e8] S = .ok (vDue (sc x 0 0 true)) S := by
    simp only [C225]
    generalize vDue (sc x 0 0 true) = DD at du ⊢
    simp [du]
  have ht := try_den (p := p) (x := x) (e := .var 3) (env := [e0, e1, e2, some (.str x), e4, e5, e6, e7, e8]) hT (by simp) c5
  rw [odd_body, ev_seq, ev_par, hd, bnd_ok, ht, bnd_ok, bnd_ok]
  simp only [List.set_cons_succ, List.set_cons_zero]
  rw [goOn_nx, ev_seq, hr, bnd_ok, goOn_nx, ev_skip]
def longT : List Nat := (List.replicate 100 [97, 98]).flatten
theorem par_long : ∃ w, parseW longT = .ok w := by
  obtain ⟨w, h, _⟩ := parse_ltrs (x := longT) (by decide) (by decide)
  exact ⟨w, h⟩
theorem par_last : parseW [40, 40, 97, 41, 41] = .ok (.ltr 97) := rfl
def k6_1 : S := (.asg (.one 1) (.call f_law_draws (.cons (.var 0) .nil)))
def k6_2 : S := (.forS (.one 2) (.rng (.cons (.int 8) .nil)) l_law_k06_2)
def k6_E : E := (.lst false (.cons (.str [94]) (.cons (.str [97, 94]) (.cons (.str [97, 94, 48, 49]) (.cons (.str [97, 94, 49, 48, 48, 48, 48, 48, 48, 48, 48, 48, 48, 48, 48, 48, 48, 48, 48, 48, 48, 48, 48, 48, 48, 48, 48, 48, 48, 48, 48, 48, 49]) (.cons (.str [123]) (.cons (.str [123, 125]) (.cons (.str [123, 97, 98, 99, 100, 101, 102, 103, 104, 105, 125]) (.cons (.str [123, 97, 98, 99, 100, 101, 102, 103, 104]) (.cons (.str [40]) (.cons (.str [40, 41, 41]) (.cons (.str [62]) (.cons (.str [40, 41, 62]) (.cons (.str [97, 40, 41, 94, 48]) (.cons (.bin .add (.bin .mul (.str [40]) (.int 8)) (.bin .mul (.str [41]) (.int 8))) (.cons (.bin .mul (.str [40]) (.int 9)) (.cons (.bin .add (.str [97, 94]) (.bin .mul (.str [49]) (.int 60))) (.cons (.str [123, 65, 98, 125]) (.cons (.str [97, 32, 98]) .nil)))))))))))))))))))
def k6_4 : S := (.forS (.one 3) (.sq (.var 7)) l_law_k06_1)
def k6_5 : S := (.asg (.one 8) (.bin .mul (.str [97, 98]) (.int 100)))
def k6_6 : S := (.ifS (.cmp .ne (.opx .refu (.tryL (.call f_parse_word_k05 (.cons (.var 8) .nil)))) (.str [118, 97, 108, 117, 101])) (.seq (.ret (.bl false)) .skip) .skip)
def k6_A : E := (.cmp .eq (.opx .refu (.tryL (.callK f_parse_word_k05 .nil (.cons (.bin .add (.var 8) (.str [40])) .nil) [0]))) (.tup (.cons (.str [84, 111, 111, 76, 97, 114, 103, 101]) (.cons (.int 200) .nil))))
def k6_B : E := (.cmp .eq (.call f_parse_word_k05 (.cons (.str [40, 40, 97, 41, 41]) .nil)) (.tup (.cons (.str [108, 101, 116, 116, 101, 114]) (.cons (.str [97]) .nil))))
theorem k6_body : b_law_k06 = (.seq k6_1 (.seq k6_2 (.seq (.asg (.one 7) k6_E) (.seq k6_4 (.seq k6_5 (.seq k6_6 (.seq (.ret (.and k6_A k6_B)) .skip))))))) := rfl
theorem list_ok {p : Nat} {env : Env} {S : Store} : denE (C225 p) k6_E env S = .ok (.lst (odds.map PV.str)) S := by
  have m1 : opB .mul (.str [40]) (.int 8) S = .ok (.str [40, 40, 40, 40, 40, 40, 40, 40]) S := rfl
  have m2 : opB .mul (.str [41]) (.int 8) S = .ok (.str [41, 41, 41, 41, 41, 41, 41, 41]) S := rfl
  have m3 : opB .mul (.str [40]) (.int 9) S = .ok (.str [40, 40, 40, 40, 40, 40, 40, 40, 40]) S := rfl
  have m4 : opB .mul (.str [49]) (.int 60) S = .ok (.str [49, 49, 49, 49, 49, 49, 49, 49, 49, 49, 49, 49, 49, 49, 49, 49, 49, 49, 49, 49, 49, 49, 49, 49, 49, 49, 49, 49, 49, 49, 49, 49, 49, 49, 49, 49, 49, 49, 49, 49, 49, 49, 49, 49, 49, 49, 49, 49, 49, 49, 49, 49, 49, 49, 49, 49, 49, 49, 49, 49]) S := rfl
  simp [k6_E, odds, m1, m2, m3, m4, opAddS, lineN]
theorem long_ok {S : Store} : opB .mul (.str [97, 98]) (.int 100) S = .ok (.str longT) S := rfl
theorem pure_law (p : Nat) (ns : List Int) (hl : ns.length ≤ 63) : ∃ S, callN Dm (Gm p) wf 226 f_law_k06 [.frz (ns.map PV.int)] [.tab p lamQ] = .ok (.bl true) S := by
  obtain ⟨S0, c0, g0, _, k0⟩ := draws_at (D := Dm) (G := Gm p) (wf := wf) (n := 224) [.tab p lamQ] hl
  have T0 : TabAt p S0 := k0.at (j := 0) rfl (by simp)
  have c0 : callN Dm (Gm p) wf 225 f_law_draws [.frz (ns.map PV.int)] [.tab p lamQ] = .ok (.ref 1) S0 := c0
  obtain ⟨e', S1, lp, c2, c3, c4, c5, c6, he, hx, hR, T1⟩ := for_inv (body := denS (C225 p) l_law_k06_2) (tg := .one 2) (src := ⟨rangeL 0 8, none⟩) rfl
    (fun xs env S => ∃ c2 c3 c4 c5 c6, env = [some (.frz (ns.map PV.int)), some (.ref 1), c2, c3, c4, c5, c6, none, none] ∧ xs.length ≤ 8 ∧ RngAt (1000 * (8 - xs.length)) 1 S ∧ TabAt p S)
    (fun x xs env S ⟨c2, c3, c4, c5, c6, he, hx, hR, hT⟩ => by
      subst he
      simp only [List.length_cons] at hx hR
      obtain ⟨f3, f4, f5, f6, S', ev, g, hT'⟩ := turn_ok (e0 := some (.frz (ns.map PV.int))) (e2 := some x) (e3 := c3) (e4 := c4) (e5 := c5) (e6 := c6) (e7 := none) (e8 := none) hR hT (by omega)
      exact ⟨_, _, S', rfl, ev, _, _, _, _, _, rfl, by omega, g.mono (by omega), hT'⟩)
    (rangeL 0 8) [some (.frz (ns.map PV.int)), some (.ref 1), none, none, none, none, none, none, none] S0 ⟨none, none, none, none, none, rfl, by simp [rangeL], by simpa [rangeL] using g0, T0⟩
  subst he
  obtain ⟨e', S2, lq, d3, d5, d6, he, hm, T2⟩ := for_inv (body := denS (C225 p) l_law_k06_1) (tg := .one 3) (src := ⟨odds.map PV.str, none⟩) rfl
    (fun xs env S => ∃ d3 d5 d6, env = [some (.frz (ns.map PV.int)), some (.ref 1), c2, d3, c4, d5, d6, some (.lst (odds.map PV.str)), none] ∧ (∀ v ∈ xs, ∃ x ∈ odds, v = .str x) ∧ TabAt p S)
    (fun x xs env S ⟨d3, d5, d6, he, hx, hT⟩ => by
      subst he
      obtain ⟨z, hz, rfl⟩ := hx x List.mem_cons_self
      obtain ⟨f5, f6, S', ev, hT'⟩ := odd_ok (p := p) (e0 := some (.frz (ns.map PV.int))) (e1 := some (.ref 1)) (e2 := c2) (e4 := c4) (e5 := d5) (e6 := d6) (e7 := some (.lst (odds.map PV.str))) (e8 := none) hT hz
      exact ⟨_, _, S', rfl, .inl ev, _, _, _, rfl, fun v hv => hx v (List.mem_cons_of_mem _ hv), hT'⟩)
    (odds.map PV.str) [some (.frz (ns.map PV.int)), some (.ref 1), c2, c3, c4, c5, c6, some (.lst (odds.map PV.str)), none] S1 ⟨c3, c5, c6, rfl, fun v hv => by
      obtain ⟨z, hz, rfl⟩ := List.mem_map.mp hv
      exact ⟨z, hz, rfl⟩, T1⟩
  subst he
  obtain ⟨w, hw⟩ := par_long
  have hG : (C225 p).glb tabG = some (.int p) := rfl
  obtain ⟨S3, q3, k3⟩ := parse_any (p := p) (x := longT) (by decide) S2
  have T3 := T2.keep0 k3
  obtain ⟨S4, q4, k4⟩ := parse_any (p := p) (x := longT ++ [40]) (by decide) S3
  have T4 := T3.keep0 k4
  have hw4 : parseW (longT ++ [40]) = .big 200 := rfl
  obtain ⟨S5, q5, k5⟩ := parse_any (p := p) (x := [40, 40, 97, 41, 41]) (by decide) S4
  rw [par_last] at q5
  refine ⟨S5, ?_⟩
  have s1 : denS (C225 p) k6_1 [some (.frz (ns.map PV.int)), none, none, none, none, none, none, none, none] [.tab p lamQ] = .ok (.nx [some (.frz (ns.map PV.int)), some (.ref 1), none, none, none, none, none, none, none]) S0 := by
    generalize ns.map PV.int = NN at c0 ⊢
    simp [k6_1, C225, c0]
  have s2 : denS (C225 p) k6_2 [some (.frz (ns.map PV.int)), some (.ref 1), none, none, none, none, none, none, none] S0 = .ok (.nx [some (.frz (ns.map PV.int)), some (.ref 1), c2, c3, c4, c5, c6, none, none]) S1 := by
    have s62 : small62 8 = true := by decide
    unfold k6_2
    rw [ev_for, ev_rng, ev_cons, ev_int, bnd_ok, ev_nil, bnd_ok, bnd_ok, rngM_one, s62]
    exact lp
  have s4 : denS (C225 p) k6_4 [some (.frz (ns.map PV.int)), some (.ref 1), c2, c3, c4, c5, c6, some (.lst (odds.map PV.str)), none] S1 = .ok (.nx [some (.frz (ns.map PV.int)), some (.ref 1), c2, d3, c4, d5, d6, some (.lst (odds.map PV.str)), none]) S2 := by
    unfold k6_4
    rw [ev_for, ev_sq, ev_var]
    exact lq
  have s5 : denS (C225 p) k6_5 [some (.frz (ns.map PV.int)), some (.ref 1), c2, d3, c4, d5, d6, some (.lst (odds.map PV.str)), none] S2 = .ok (.nx [some (.frz (ns.map PV.int)), some (.ref 1), c2, d3, c4, d5, d6, some (.lst (odds.map PV.str)), some (.str longT)]) S2 := by
    unfold k6_5
    rw [ev_asg, ev_bin, ev_str, bnd_ok, ev_int, bnd_ok, long_ok]; rfl
  have hv8 : ∀ S : Store, denE (C225 p) (.var 8) [some (.frz (ns.map PV.int)), some (.ref 1), c2, d3, c4, d5, d6, some (.lst (odds.map PV.str)), some (.str longT)] S = .ok (.str longT) S := fun S => by rw [ev_var]; rfl
  have r6 : denE (C225 p) (.opx .refu (.tryL (.call f_parse_word_k05 (.cons (.var 8) .nil)))) [some (.frz (ns.map PV.int)), some (.ref 1), c2, d3, c4, d5, d6, some (.lst (odds.map PV.str)), some (.str longT)] S2 = .ok (refV (parseW longT)) S3 := by
    rw [ev_opx, ev_tryL, hG]
    refine ref_ok T2 ?_
    rw [ev_call, ev_cons, hv8, bnd_ok]
    simp only [ev_nil, bnd_ok]
    exact q3
  have s6 : denS (C225 p) k6_6 [some (.frz (ns.map PV.int)), some (.ref 1), c2, d3, c4, d5, d6, some (.lst (odds.map PV.str)), some (.str longT)] S2 = .ok (.nx [some (.frz (ns.map PV.int)), some (.ref 1), c2, d3, c4, d5, d6, some (.lst (odds.map PV.str)), some (.str longT)]) S3 := by
    rw [hw] at r6
    unfold k6_6
    rw [ev_if, ev_cmp, r6, bnd_ok]
    simp [refV, valN]
  have rA : denE (C225 p) k6_A [some (.frz (ns.map PV.int)), some (.ref 1), c2, d3, c4, d5, d6, some (.lst (odds.map PV.str)), some (.str longT)] S3 = .ok (.bl true) S4 := by
    have r7 : denE (C225 p) (.opx .refu (.tryL (.callK f_parse_word_k05 .nil (.cons (.bin .add (.var 8) (.str [40])) .nil) [0]))) [some (.frz (ns.map PV.int)), some (.ref 1), c2, d3, c4, d5, d6, some (.lst (odds.map PV.str)), some (.str longT)] S3 = .ok (refV (parseW (longT ++ [40]))) S4 := by
      rw [ev_opx, ev_tryL, hG]
      refine ref_ok T3 ?_
      rw [ev_callK, ev_nil, bnd_ok, ev_cons, ev_bin, hv8, bnd_ok, ev_str, bnd_ok, addS_ok (by decide), bnd_ok, ev_nil, bnd_ok, bnd_ok]
      exact q4
    rw [hw4] at r7
    unfold k6_A
    rw [ev_cmp, r7, bnd_ok]
    simp [refV, xLarge]
  have rB : denE (C225 p) k6_B [some (.frz (ns.map PV.int)), some (.ref 1), c2, d3, c4, d5, d6, some (.lst (odds.map PV.str)), some (.str longT)] S4 = .ok (.bl true) S5 := by
    unfold k6_B
    rw [ev_cmp, ev_call, ev_cons, ev_str, bnd_ok, ev_nil, bnd_ok, bnd_ok]
    have q5 : (C225 p).call f_parse_word_k05 [.str [40, 40, 97, 41, 41]] S4 = resP (.ok (.ltr 97)) S5 := q5
    rw [q5]
    simp [resP, pv_ltr']
  have s7 : denS (C225 p) (.seq (.ret (.and k6_A k6_B)) .skip) [some (.frz (ns.map PV.int)), some (.ref 1), c2, d3, c4, d5, d6, some (.lst (odds.map PV.str)), some (.str longT)] S3 = .ok (.rt (.bl true)) S5 := by
    rw [ev_seq, ev_ret, ev_and, rA, bnd_ok, ofBl_bl, bnd_ok, if_pos rfl, rB]; rfl
  rw [call_eq rfl]
  have hst : startE d_law_k06 [.frz (ns.map PV.int)] = [some (.frz (ns.map PV.int)), none, none, none, none, none, none, none, none] := rfl
  have hb : d_law_k06.body = b_law_k06 := rfl
  have s1 : denS ⟨callN Dm (Gm p) wf 225, Gm p, wf⟩ k6_1 [some (.frz (ns.map PV.int)), none, none, none, none, none, none, none, none] [.tab p lamQ] = .ok (.nx [some (.frz (ns.map PV.int)), some (.ref 1), none, none, none, none, none, none, none]) S0 := s1
  rw [hst, hb, k6_body, ev_seq, s1, bnd_ok, goOn_nx]
  show bnd (denS (C225 p) _ _ _) _ = _
  rw [ev_seq, s2, bnd_ok, goOn_nx, ev_seq, ev_asg, list_ok, bnd_ok, bindT_one, ofO_some, bnd_ok, bnd_ok, goOn_nx, ev_seq]
  simp only [List.set_cons_succ, List.set_cons_zero]
  rw [s4, bnd_ok, goOn_nx, ev_seq, s5, bnd_ok, goOn_nx, ev_seq, s6, bnd_ok, goOn_nx, s7]
  rfl
end K
set_option Elab.async false
set_option linter.all false
set_option maxRecDepth 100000
set_option maxHeartbeats 0
namespace K
open Mi PySem PySem.Spec PyProof.Rows L2
def kwsL : List (Nat × Nat × List Str × List Nat) := [(f_parse_word_k05, 0, ["text"], [0])]
def top (i : Nat) : Stmt := PySem.Challenge.pw_scatterwords_k06_word_texts_read.main.body.getD i (.Pass ⟨0, 0, 0, 0⟩)
def rows : List RowD := [⟨f_parts_of, "parts_of", ["word"], ["word"], top 9, d_parts_of, none⟩,
  ⟨f_depth, "depth", ["word", "part"], ["word"], top 10, d_depth, none⟩,
  ⟨f_read_name_k05, "read_name", ["text", "at", "end"], ["text", "at"], top 18, d_read_name_k05, none⟩,
  ⟨f_read_atom_k05, "read_atom", ["text", "at", "opened", "sign", "name", "end", "word"], ["text", "at", "opened"], top 19, d_read_atom_k05, none⟩,
  ⟨f_read_number, "read_number", ["text", "at", "end", "digits"], ["text", "at"], top 20, d_read_number, none⟩,
  ⟨f_read_suffix, "read_suffix", ["text", "at", "word", "many", "end"], ["text", "at", "word"], top 21, d_read_suffix, none⟩,
  ⟨f_read_items_k05, "read_items", ["text", "at", "opened", "items", "item"], ["text", "at", "opened"], top 22, d_read_items_k05, none⟩,
  ⟨f_parse_word_k05, "parse_word", ["text", "word", "at"], ["text"], top 23, d_parse_word_k05, none⟩,
  ⟨f_law_draws, "_law_draws", ["_law_script", "_law_state", "_law_cell"], ["_law_script"], top 25, d_law_draws, none⟩,
  ⟨f_law_draw, "_law_draw", ["_law_rng", "_law_many", "_law_cell", "_law_digit", "_law_seed"], ["_law_rng", "_law_many"], top 26, d_law_draw, none⟩,
  ⟨f_law_pick, "_law_pick", ["_law_rng", "_law_things"], ["_law_rng", "_law_things"], top 27, d_law_pick, none⟩,
  ⟨f_law_same, "_law_same", ["_law_found", "_law_due", "_law_a", "_law_b"], ["_law_found", "_law_due"], top 28, d_law_same, none⟩,
  ⟨f_law_tree, "_law_tree", ["_law_rng", "_law_kit", "_law_deep", "_law_way", "_law_k"], ["_law_rng", "_law_kit", "_law_deep"], top 32, d_law_tree, none⟩,
  ⟨f_law_word, "_law_word", ["_law_rng", "_law_first"], ["_law_rng"], top 33, d_law_word, none⟩,
  ⟨f_law_text, "_law_text", ["_law_tree_here", "_law_sign", "_law_part"], ["_law_tree_here"], top 34, d_law_text, none⟩,
  ⟨f_law_part_text, "_law_part_text", ["_law_tree_here"], ["_law_tree_here"], top 35, d_law_part_text, none⟩,
  ⟨f_law_name, "_law_name", ["_law_rng", "_law_letters", "_law_k"], ["_law_rng"], top 36, d_law_name, none⟩,
  ⟨f_law_named_tree, "_law_named_tree", ["_law_rng", "_law_names", "_law_tree_here"], ["_law_rng", "_law_names"], top 37, d_law_named_tree, none⟩,
  ⟨f_law_digits, "_law_digits", ["_law_my_text", "_law_at", "_law_end", "_law_word_here"], ["_law_my_text", "_law_at"], top 38, d_law_digits, none⟩,
  ⟨f_law_braces, "_law_braces", ["_law_my_text", "_law_at", "_law_end"], ["_law_my_text", "_law_at"], top 39, d_law_braces, none⟩,
  ⟨f_law_word_due, "_law_word_due", ["_law_my_text", "_law_at", "_law_opened", "_law_fresh", "_law_sign", "_law_found"], ["_law_my_text"], top 40, d_law_word_due, none⟩,
  ⟨f_law_bent, "_law_bent", ["_law_rng", "_law_my_text", "_law_signs", "_law_at", "_law_way", "_law_sign"], ["_law_rng", "_law_my_text", "_law_signs"], top 41, d_law_bent, none⟩]
def TX : TextO := ⟨⟨rows, [(g_LETTERS, "LETTERS", (.str [97, 98, 99])), (g_MAX_COPIES, "MAX_COPIES", (.int 1000000000000000000000000000000)), (g_EMPTY, "EMPTY", (.tup [(.str [101, 109, 112, 116, 121])])), (g_SMALL, "SMALL", (.str [97, 98, 99, 100, 101, 102, 103, 104, 105, 106, 107, 108, 109, 110, 111, 112, 113, 114, 115, 116, 117, 118, 119, 120, 121, 122])), (g_DIGITS, "DIGITS", (.str [48, 49, 50, 51, 52, 53, 54, 55, 56, 57])), (g_MAX_TEXT_k05, "MAX_TEXT", (.int 200)), (g_MAX_OPEN, "MAX_OPEN", (.int 8)), (g_MAX_DEPTH, "MAX_DEPTH", (.int 12)), (g_MAX_NAME, "MAX_NAME", (.int 8))], kwsL, wf, [(0, top 3), (1, top 4)], true⟩, ⟨f_law_k06, "law", ["_law_script", "_law_rng", "_law_turn", "_law_my_text", "_law_bend", "_law_due", "_law_told", "_law_odd", "_law_long"], ["_law_script"], top 42, d_law_k06, none⟩, top 30, ["_law_ask", "_law_e"], "_law_ask", "_law_e", 1, top 29, ["_law_e"], "_law_e", top 31, ["_law_ask", "_law_told"], "_law_ask", "_law_told"⟩
theorem law_ok : RowD.ok TX.prg.law.sig TX.lr = true := by decide +kernel
theorem t_ok : TX.okT = true := by decide +kernel
theorem f_ok : TX.okF = true := by decide +kernel
theorem r_ok : TX.okR = true := by decide +kernel
theorem eqD {p : Nat} : (TX.prgT p).D = Dm := eq_DT (l := defsL) rfl
theorem eqG {p : Nat} : (TX.prgT p).G = Gm p := eq_GT (l := globsL) rfl
theorem exs_ok : TX.exs.all xOk = true := by decide +kernel
theorem rows_ok : TX.rows.all (RowD.ok TX.prg.sig) = true := by decide +kernel
theorem kw_ok : ∀ q ∈ TX.kws, ∃ r, TX.row q.1 = some r ∧ KwOk r.ps (defArgs r.st) q.2.1 q.2.2.1 q.2.2.2 := by
  intro q hq
  simp only [TX, kwsL, List.mem_cons, List.not_mem_nil, or_false] at hq
  rcases hq with rfl
  · refine ⟨_, rfl, fun x qual body scope kV doc pm an cdv ct us ws hu hw => ?_⟩
    match us, ws, hu, hw with | [], [_], _, _ => kernel_rfl
def loose0 : List Str := ["parts_of", "depth", "read_name", "read_atom", "read_number", "read_suffix", "read_items", "parse_word", "_law_draws", "_law_draw", "_law_pick", "_law_same", "_law_tree", "_law_word", "_law_text", "_law_part_text", "_law_name", "_law_named_tree", "_law_digits", "_law_braces", "_law_word_due", "_law_bent", "ScatterError", "Missing", "InvalidText", "TooLarge", "LETTERS", "MAX_COPIES", "EMPTY", "SMALL"]
def loose1 : List Str := ["DIGITS", "MAX_TEXT", "MAX_OPEN", "MAX_DEPTH", "MAX_NAME", "_law_field", "_law_try", "_law_refusal"]
def loose : List Str := loose0 ++ loose1
abbrev Rw : PySem.W.OpenRow := PySem.W.OpenLaw.row PySem.Challenge.rw_scatterwords_k06_word_texts_read
abbrev hk : PySem.W.Hook := He.hookX 4 TX.factsT TX.defsT [] TextO.tf TX.ex
def ob (s : PySem.W.SharedT) : He.AlX := He.obsX 4 TX.factsT TX.defsT [] TextO.tf TX.ex (HandSHeadRun.getT s)
theorem ob_eq (s : PySem.W.SharedT) : ob s = hk.obs s.abs := He.obsX_eq (HandSHeadRun.getT_eq s)
theorem run (w : World) : HandSHeadRun.RunEq Rw (PySem.W.view Rw.prog [42]) hk ob 4000 loose w := by
  intro os
  kernel_rfl
end K
open PySem PySem.W PySem.Calls PyProof.Rows in
theorem PySem.Challenge.cw_scatterwords_k06_word_texts_read_holds : PySem.Challenge.rw_scatterwords_k06_word_texts_read.Holds := by
  w_on; o_law
  refine HandSHeadRun.head_any (r := OpenLaw.row PySem.Challenge.rw_scatterwords_k06_word_texts_read) (q := view (OpenLaw.row PySem.Challenge.rw_scatterwords_k06_word_texts_read).prog [42]) (H := K.hk) (ob := K.ob) (M := 4000) (loose := K.loose) (d := HandSHeadRun.topDef (OpenLaw.row PySem.Challenge.rw_scatterwords_k06_word_texts_read).prog 42) (kwd := []) K.ob_eq
    (by kernel_rfl) (fun s => by kernel_rfl) K.run (by kernel_rfl) (by kernel_rfl) (by kernel_rfl) (by rfl) (by first | assumption | decide +kernel) (by decide +kernel) ⟨rfl, rfl, rfl, rfl, rfl, by decide +kernel⟩ ?hw ?hc
  case hw => w_witness2
  case hc =>
    refine Mi.end_ofT (l := PySem.Challenge.rw_scatterwords_k06_word_texts_read) (T := K.TX) (n := 63) (k := 226) (hk := 4) (x := "_law_script") rfl (by decide) (by kernel_rfl) ⟨rfl, by decide, by decide⟩ (by rfl) (by kernel_rfl) rfl rfl K.exs_ok K.law_ok K.rows_ok K.kw_ok K.t_ok K.f_ok K.r_ok (by decide +kernel) (by rfl) ?_
    intro p ns hl
    rw [K.eqD, K.eqG]
    exact K.pure_law p ns hl
