import PyProof.Rows.All
import Wide.All
import OpenK.AllK
import Wide.FinOn
import HandS.ForMost
import HandS.ForExc
import HandS.Lambda
import HandS.IsInst
import HandS.Deep
import HandS.Conv
import HandS.More
import HandS.TupAny
import HandS.Wide
import HandS.Zip
import HandS.ExcInit
import HandS.TryMany
import HandS.Walk
import KE.GoesEnum
import KE.IntTextLaws
import KE.KIntText
import PyProof.ListStr
import HandS.Flow
import HandS.Small
import HandS.ExcField
import HandS.Defaults
import HandS.HeadWalk
import HandS.HeadHook4
import HandS.Head0
import HandS.Head1
import HandS.Head2
import Wide.Once
import HandS.HeadEnd
import PySem.Challenge.RW_mendsnear_k74_whole_texts_of_deeds
section
/-! Mi: values, objects, the intermediate form and its evaluation. Core Lean alone. -/
namespace Mi

abbrev Tx := List Nat
def lineW : Nat := 16777216

/-- a value: tuples and texts by value; lists, dicts, instances at numbered places -/
inductive W where
  | non
  | bl (b : Bool)
  | int (i : Int)
  | str (s : Tx)
  | tup (ws : List W)
  | ref (n : Nat)
deriving Repr, Inhabited

mutual
def W.beq : W → W → Bool
  | .non, .non => true
  | .bl a, .bl b => a == b
  | .int i, .int j => i == j
  | .str s, .str t => s == t
  | .tup a, .tup b => W.beqs a b
  | .ref n, .ref m => n == m
  | _, _ => false
def W.beqs : List W → List W → Bool
  | [], [] => true
  | a :: r, b :: t => W.beq a b && W.beqs r t
  | _, _ => false
end
mutual
theorem W.eq_of_beq : ∀ {a b : W}, W.beq a b = true → a = b
  | .non, b, h => by cases b <;> simp [W.beq] at h ⊢
  | .bl x, b, h => by cases b <;> simp [W.beq] at h ⊢; exact h
  | .int x, b, h => by cases b <;> simp [W.beq] at h ⊢; exact h
  | .str x, b, h => by cases b <;> simp [W.beq] at h ⊢; exact h
  | .ref x, b, h => by cases b <;> simp [W.beq] at h ⊢; exact h
  | .tup x, b, h => by
    cases b <;> simp [W.beq] at h ⊢
    exact W.eq_of_beqs h
theorem W.eq_of_beqs : ∀ {a b : List W}, W.beqs a b = true → a = b
  | [], b, h => by cases b <;> simp [W.beqs] at h ⊢
  | x :: r, b, h => by
    cases b with
    | nil => simp [W.beqs] at h
    | cons y t =>
      simp only [W.beqs, Bool.and_eq_true] at h
      rw [W.eq_of_beq h.1, W.eq_of_beqs h.2]
end
mutual
theorem W.beq_refl : ∀ a : W, W.beq a a = true
  | .non => rfl
  | .bl x => by simp [W.beq]
  | .int x => by simp [W.beq]
  | .str x => by simp [W.beq]
  | .ref x => by simp [W.beq]
  | .tup x => by simp only [W.beq]; exact W.beqs_refl x
theorem W.beqs_refl : ∀ a : List W, W.beqs a a = true
  | [] => rfl
  | x :: r => by simp only [W.beqs, W.beq_refl x, W.beqs_refl r, Bool.and_self]
end
instance : BEq W := ⟨W.beq⟩
instance : LawfulBEq W where
  eq_of_beq := W.eq_of_beq
  rfl := W.beq_refl _
instance : DecidableEq W := fun a b => if h : W.beq a b = true then .isTrue (W.eq_of_beq h) else .isFalse fun e => h (e ▸ W.beq_refl a)

/-- what stands at a place -/
inductive Ob where
  | lst (ws : List W)
  | dic (kvs : List (W × W))
  | ins (c : Nat) (fs : List (Tx × W))
deriving Repr, Inhabited, DecidableEq

abbrev Hs := List Ob
abbrev Fr := List (Option W)

/-- an exception of the program's own: its class, what it was made with -/
structure Xc where
  cls : Nat
  args : List W
deriving Repr

inductive R (α : Type) where
  | ok (a : α) (h : Hs)
  | exc (x : Xc) (h : Hs)
  | stk
deriving Repr
namespace R
variable {α β : Type}
def bind (r : R α) (f : α → Hs → R β) : R β := match r with
  | .ok a h => f a h
  | .exc x h => .exc x h
  | .stk => .stk
def calm (r : R α) : R α := match r with
  | .ok a h => .ok a h
  | _ => .stk
@[simp] theorem bind_ok (a : α) (h : Hs) (f : α → Hs → R β) : (R.ok a h).bind f = f a h := rfl
@[simp] theorem bind_exc (x : Xc) (h : Hs) (f : α → Hs → R β) : (R.exc x h).bind f = .exc x h := rfl
@[simp] theorem bind_stk (f : α → Hs → R β) : (R.stk : R α).bind f = .stk := rfl
end R

/-- what a statement ends in -/
inductive Rs where
  | nx (fr : Fr) (h : Hs)
  | rt (w : W) (h : Hs)
  | bk (fr : Fr) (h : Hs)
  | ct (fr : Fr) (h : Hs)
  | exc (x : Xc) (fr : Fr) (h : Hs)
  | stk
deriving Repr

inductive Ty where | non | bl | int | str | lst | tup | dic | own (c : Nat)
deriving Repr, DecidableEq
inductive Bo where | add | sub | mul | fdiv | mod | pow
deriving Repr, DecidableEq
inductive Co where | eq | ne | lt | le | gt | ge | isin | notin | is | isnot
deriving Repr, DecidableEq
/-- built-in functions by name -/
inductive Bi where | len | int | str | list | tuple | dict | sorted | all | any | sum | max | min | abs
deriving Repr, DecidableEq
/-- methods of built-in types -/
inductive Me where | append | extend | pop | get | split | join | count | index | items | upper
deriving Repr, DecidableEq
/-- the types that have the method -/
def Me.tys : Me → List Ty
  | .append => [.lst]
  | .extend => [.lst]
  | .count => [.lst]
  | .index => [.lst]
  | .pop => [.lst]
  | .get => [.dic]
  | .items => [.dic]
  | .split => [.str]
  | .join => [.str]
  | .upper => [.str]

/-- targets -/
inductive Tg where
  | nm (i : Nat)
  | nil
  | cons (a r : Tg)
deriving Repr, DecidableEq

mutual
inductive E where
  | var (i : Nat)
  | con (w : W)
  | tup (es : Es)
  | lst (es : Es)
  | dis (ks : List W) (vs : Es)
  | bin (o : Bo) (a b : E)
  | neg (a : E)
  | cmp (o : Co) (a b : E)
  | chain (o p : Co) (a b c : E)
  | and (a b : E)
  | or (a b : E)
  | not (a : E)
  | ite (c a b : E)
  | call (f : Nat) (es : Es)
  | told (f : Nat) (e : E)
  | bi (b : Bi) (es : Es)
  | isi (e : E) (ts : List Ty)
  | me (m : Me) (o : E) (es : Es)
  | idx (a i : E)
  | slc (a : E) (lo hi : Es)
  | comp (own : List Nat) (g : Tg) (it : It) (ifs : Es) (e : E)
  | fld (a : E) (f : Tx)
  | kin (d : Nat) (neg : Bool) (e : E)
  | kget (d : Nat) (e : E)
  | bad
inductive Es where
  | nil
  | cons (e : E) (r : Es)
inductive It where
  | val (e : E)
  | rng (es : Es)
  | enum (e : E)
  | zip (a b : E)
end


inductive S where
  | skip
  | seq (a b : S)
  | ex (e : E)
  | asg (g : Tg) (e : E)
  | par (i j : Nat) (a b : E)
  | sti (o i e : E)
  | aug (i : Nat) (o : Bo) (e : E)
  | ret (e : E)
  | retN
  | iff (c : E) (a b : S)
  | for (g : Tg) (it : It) (b : S)
  | whl (c : E) (b : S)
  | brk
  | cnt
  | rais (c : Nat) (es : Es)
  | bad


/-! ### values -/
def Ob.get (h : Hs) (n : Nat) : Option Ob := h[n]?

def typeW (h : Hs) : W → Option Ty
  | .non => some .non
  | .bl _ => some .bl
  | .int _ => some .int
  | .str _ => some .str
  | .tup _ => some .tup
  | .ref n => match h[n]? with
    | some (.lst _) => some .lst
    | some (.dic _) => some .dic
    | some (.ins c _) => some (.own c)
    | none => none
def subTy (a b : Ty) : Bool := a == b || (a == .bl && b == .int)

/-- truth -/
def truth (h : Hs) : W → Option Bool
  | .non => some false
  | .bl b => some b
  | .int i => some (i != 0)
  | .str s => if s.length ≤ lineW then some (!s.isEmpty) else none
  | .tup ws => some (!ws.isEmpty)
  | .ref n => match h[n]? with
    | some (.lst ws) => some (!ws.isEmpty)
    | some (.dic kvs) => some (!kvs.isEmpty)
    | _ => none

/-- a list's or a tuple's items -/
def items (h : Hs) : W → Option (List W)
  | .tup ws => some ws
  | .ref n => match h[n]? with
    | some (.lst ws) => some ws
    | _ => none
  | _ => none
/-- does a list that is walked stand as it stood -/
def still (h0 h : Hs) : W → Bool
  | .ref n => decide (h[n]? = h0[n]?)
  | _ => true

def ixN (n : Nat) (i : Int) : Option Nat := if 0 ≤ i then (if i < n then some i.toNat else none) else if -(n : Int) ≤ i then some (i + n).toNat else none
def atI {α : Type} (xs : List α) (i : Int) : Option α := (ixN xs.length i).bind fun j => xs[j]?
def sIx (n d : Nat) : Option Int → Nat
  | none => d
  | some v => if v < 0 then (v + (n : Int)).toNat else min v.toNat n
def cut {α : Type} (xs : List α) (lo hi : Option Int) : List α := (xs.drop (sIx xs.length 0 lo)).take (sIx xs.length xs.length hi - sIx xs.length 0 lo)

/-! ### equality as Python's, of data of any depth to 64 -/
inductive D where
  | non | bl (b : Bool) | int (i : Int) | str (s : Tx) | lst (ds : List D) | tup (ds : List D)
mutual
def D.eqv : D → D → Bool
  | .non, .non => true
  | .bl a, .bl b => a == b
  | .bl a, .int j => (if a then 1 else 0) == j
  | .int i, .bl b => i == (if b then 1 else 0)
  | .int i, .int j => i == j
  | .str x, .str y => x == y
  | .lst xs, .lst ys => D.eqvs xs ys
  | .tup xs, .tup ys => D.eqvs xs ys
  | _, _ => false
def D.eqvs : List D → List D → Bool
  | [], [] => true
  | x :: xs, y :: ys => D.eqv x y && D.eqvs xs ys
  | _, _ => false
end
def mapO {α β : Type} (f : α → Option β) : List α → Option (List β)
  | [] => some []
  | a :: r => match f a, mapO f r with
    | some b, some t => some (b :: t)
    | _, _ => none
/-- the data that a value reads as, at most so deep -/
def dataF : Nat → Hs → W → Option D
  | _, _, .non => some .non
  | _, _, .bl b => some (.bl b)
  | _, _, .int i => some (.int i)
  | _, _, .str s => if s.all (· < 1114112) then some (.str s) else none
  | 0, _, _ => none
  | n + 1, h, .tup ws => (mapO (dataF n h) ws).map .tup
  | n + 1, h, .ref k => match h[k]? with
    | some (.lst ws) => (mapO (dataF n h) ws).map .lst
    | _ => none

def scal : W → W → Bool
  | .non, .non => true
  | .non, .int _ => true
  | .int _, .non => true
  | .non, .bl _ => true
  | .bl _, .non => true
  | .non, .str _ => true
  | .str _, .non => true
  | .int _, .int _ => true
  | .bl _, .bl _ => true
  | .str _, .str _ => true
  | .int _, .str _ => true
  | .str _, .int _ => true
  | .bl _, .str _ => true
  | .str _, .bl _ => true
  | _, _ => false
/-- a == b -/
def eqV (h : Hs) (a b : W) : Option Bool := if scal a b then some (a == b) else match dataF 64 h a, dataF 64 h b with
  | some d, some e => some (D.eqv d e)
  | _, _ => none

def flat : W → Bool
  | .non => true
  | .bl _ => true
  | .int _ => true
  | .str _ => true
  | _ => false
/-- == of flat values -/
def eqFl : W → W → Bool
  | .non, .non => true
  | .bl a, .bl b => a == b
  | .bl a, .int b => (if a then 1 else 0) == b
  | .int a, .bl b => a == (if b then 1 else 0)
  | .int a, .int b => a == b
  | .str a, .str b => a == b
  | _, _ => false
/-- x in a list or a tuple -/
def inSeq (h : Hs) (x : W) (c : W) : Option Bool := match items h c with
  | none => none
  | some ws => if flat x && ws.all flat then some (ws.any fun y => eqFl y x) else
    match c with
    | .ref _ => match dataF 64 h x, mapO (dataF 63 h) ws with
      | some d, some ds => some (ds.any fun e => D.eqv e d)
      | _, _ => none
    | _ => none

/-- what may be a dict's key -/
def keyOk : W → Bool
  | .int _ => true
  | .str _ => true
  | _ => false
def dget (kvs : List (W × W)) (k : W) : Option W := (kvs.find? fun kv => kv.1 == k).map (·.2)
def dput (kvs : List (W × W)) (k v : W) : List (W × W) := if kvs.any (fun kv => kv.1 == k) then kvs.map (fun kv => if kv.1 == k then (kv.1, v) else kv) else kvs ++ [(k, v)]
def ddrop (kvs : List (W × W)) (k : W) : List (W × W) := kvs.filter fun kv => !(kv.1 == k)

def isSub (s t : Tx) : Bool := match t with
  | [] => s.isEmpty
  | c :: r => s.isPrefixOf (c :: r) || isSub s r
/-- x in c -/
def inV (h : Hs) (x c : W) : Option Bool := match c with
  | .str t => match x with
    | .str [n] => some (t.contains n)
    | _ => none
  | .ref k => match h[k]? with
    | some (.dic kvs) => if keyOk x then some (dget kvs x).isSome else none
    | some (.lst _) => inSeq h x c
    | _ => none
  | .tup _ => inSeq h x c
  | _ => none

def ltTx : Tx → Tx → Bool
  | [], [] => false
  | [], _ :: _ => true
  | _ :: _, [] => false
  | a :: r, b :: t => a < b || (a == b && ltTx r t)
def ltV : W → W → Option Bool
  | .int i, .int j => some (decide (i < j))
  | .str s, .str t => some (ltTx s t)
  | _, _ => none

def cmpV (o : Co) (h : Hs) (a b : W) : Option Bool := match o with
  | .eq => eqV h a b
  | .ne => (eqV h a b).map (!·)
  | .lt => ltV a b
  | .le => (ltV b a).map (!·)
  | .gt => ltV b a
  | .ge => (ltV a b).map (!·)
  | .isin => inV h a b
  | .notin => (inV h a b).map (!·)
  | .is => match b with
    | .non => some (a == .non)
    | _ => none
  | .isnot => match b with
    | .non => some (!(a == .non))
    | _ => none

def okIf {α : Type} (c : Bool) (a : α) (h : Hs) : R α := if c then .ok a h else .stk
def liftO {α : Type} (o : Option α) (h : Hs) : R α := match o with
  | some a => .ok a h
  | none => .stk
/-- a new object -/
def new (o : Ob) (h : Hs) : R W := .ok (.ref h.length) (h ++ [o])

def binV (o : Bo) (a b : W) (h : Hs) : R W := match o, a, b with
  | .add, .int i, .int j => .ok (.int (i + j)) h
  | .add, .str s, .str t => okIf (decide (s.length + t.length ≤ lineW)) (.str (s ++ t)) h
  | .add, .tup xs, .tup ys => okIf (decide (xs.length + ys.length ≤ lineW)) (.tup (xs ++ ys)) h
  | .add, .ref i, .ref j => match h[i]?, h[j]? with
    | some (.lst xs), some (.lst ys) => if xs.length + ys.length ≤ lineW then new (.lst (xs ++ ys)) h else .stk
    | _, _ => .stk
  | .sub, .int i, .int j => .ok (.int (i - j)) h
  | .mul, .int i, .int j => okIf (decide (i.natAbs.log2 + j.natAbs.log2 < 1000000)) (.int (i * j)) h
  | .fdiv, .int i, .int j => okIf (decide (0 < j ∧ j.natAbs.log2 < 9000)) (.int (i / j)) h
  | .mod, .int i, .int j => okIf (decide (0 < j)) (.int (i % j)) h
  | .pow, .int i, .int j => okIf (decide (0 ≤ j ∧ j ≤ 1000000 ∧ i.natAbs < 2 ^ 64)) (.int (i ^ j.toNat)) h
  | _, _, _ => .stk

def idxL (ws : List W) : W → Option W
  | .int i => atI ws i
  | _ => none
def idxV (h : Hs) (a i : W) : Option W := match a, i with
  | .str s, .int i => if s.length ≤ lineW then (atI s i).map fun c => .str [c] else none
  | .tup ws, .int i => atI ws i
  | .ref n, i => match h[n]? with
    | some (.lst ws) => idxL ws i
    | some (.dic kvs) => if keyOk i then dget kvs i else none
    | _ => none
  | _, _ => none
def slcV (h : Hs) (a : W) (lo hi : Option Int) : R W := match a with
  | .str s => okIf (decide (s.length ≤ lineW)) (.str (cut s lo hi)) h
  | .tup ws => .ok (.tup (cut ws lo hi)) h
  | .ref n => match h[n]? with
    | some (.lst ws) => new (.lst (cut ws lo hi)) h
    | _ => .stk
  | _ => .stk
def boundV : List W → Option (Option Int)
  | [] => some none
  | [.int i] => some (some i)
  | _ => none

/-! ### texts -/
/-- the text cut at each sign c -/
def splitC (c : Nat) : Tx → Tx → List Tx
  | acc, [] => [acc]
  | acc, d :: r => if d == c then acc :: splitC c [] r else splitC c (acc ++ [d]) r
def joinT (sep : Tx) : List Tx → Tx
  | [] => []
  | [s] => s
  | s :: t :: r => s ++ sep ++ joinT sep (t :: r)
def strsW : List W → Option (List Tx)
  | [] => some []
  | .str s :: r => (strsW r).map (s :: ·)
  | _ :: _ => none
def intsW : List W → Option (List Int)
  | [] => some []
  | .int s :: r => (intsW r).map (s :: ·)
  | _ :: _ => none
def bools : List W → Option (List Bool)
  | [] => some []
  | .bl s :: r => (bools r).map (s :: ·)
  | _ :: _ => none
/-- str(i) of a number from 0 on -/
def natTx (n : Nat) : Tx := (Nat.toDigits 10 n).map Char.toNat
/-- int of figures -/
def numTx (s : Tx) : Nat := s.foldl (fun n c => n * 10 + (c - 48)) 0
def insT (x : Tx) : List Tx → List Tx
  | [] => [x]
  | y :: r => if ltTx y x then y :: insT x r else x :: y :: r
def sortT : List Tx → List Tx
  | [] => []
  | x :: r => insT x (sortT r)

/-! ### built-in functions, methods -/
def lenV (h : Hs) : W → Option Nat
  | .str s => if s.length ≤ lineW then some s.length else none
  | .tup ws => some ws.length
  | .ref n => match h[n]? with
    | some (.lst ws) => some ws.length
    | some (.dic kvs) => some kvs.length
    | _ => none
  | _ => none

def biV (b : Bi) (ws : List W) (h : Hs) : R W := match b, ws with
  | .len, [w] => liftO ((lenV h w).map fun (n : Nat) => W.int (n : Int)) h
  | .int, [.int i] => .ok (.int i) h
  | .int, [.bl b] => .ok (.int (if b then 1 else 0)) h
  | .int, [.str s] => okIf (decide (0 < s.length ∧ s.length ≤ 640) && s.all fun c => 48 ≤ c && c ≤ 57) (.int (numTx s)) h
  | .str, [.int i] => okIf (decide (0 ≤ i ∧ i < 2 ^ 200)) (.str (natTx i.toNat)) h
  | .list, [.str s] => if s.length ≤ lineW then new (.lst (s.map fun c => .str [c])) h else .stk
  | .list, [w] => match items h w with
    | some ws => new (.lst ws) h
    | none => match w with
      | .ref n => match h[n]? with
        | some (.dic kvs) => new (.lst (kvs.map (·.1))) h
        | _ => .stk
      | _ => .stk
  | .tuple, [w] => match items h w with
    | some ws => .ok (.tup ws) h
    | none => .stk
  | .all, [.ref n] => match h[n]? with
    | some (.lst ws) => match bools ws with
      | some bs => .ok (.bl (bs.all id)) h
      | none => .stk
    | _ => .stk
  | .any, [.ref n] => match h[n]? with
    | some (.lst ws) => match bools ws with
      | some bs => .ok (.bl (bs.any id)) h
      | none => .stk
    | _ => .stk
  | .sum, [.ref n] => match h[n]? with
    | some (.lst ws) => match intsW ws with
      | some is => .ok (.int is.sum) h
      | none => .stk
    | _ => .stk
  | .sorted, [.ref n] => match h[n]? with
    | some (.lst ws) => match strsW ws with
      | some ss => if ss.length < 64 then new (.lst ((sortT ss).map .str)) h else .stk
      | none => .stk
    | _ => .stk
  | _, _ => .stk

/-- the place of the first equal one -/
def firstAt {α : Type} (p : α → Bool) : List α → Nat → Option Nat
  | [], _ => none
  | a :: r, n => if p a then some n else firstAt p r (n + 1)

def meV (m : Me) (o : W) (ws : List W) (h : Hs) : R W := match m, o, ws with
  | .append, .ref n, [w] => match h[n]? with
    | some (.lst xs) => if xs.length < lineW then .ok .non (h.set n (.lst (xs ++ [w]))) else .stk
    | _ => .stk
  | .extend, .ref n, [.ref m] => match h[n]?, h[m]? with
    | some (.lst xs), some (.lst ys) => if xs.length + ys.length ≤ lineW then .ok .non (h.set n (.lst (xs ++ ys))) else .stk
    | _, _ => .stk
  | .pop, .ref n, [] => match h[n]? with
    | some (.lst xs) => match xs.getLast? with
      | some x => .ok x (h.set n (.lst xs.dropLast))
      | none => .stk
    | _ => .stk
  | .pop, .ref n, [.int i] => match h[n]? with
    | some (.lst xs) => match if -(2 ^ 63) ≤ i ∧ i < 2 ^ 63 then ixN xs.length i else none with
      | some j => match xs[j]? with
        | some x => .ok x (h.set n (.lst (xs.eraseIdx j)))
        | none => .stk
      | none => .stk
    | _ => .stk
  | .split, .str s, [.str [c]] => if s.length + 2 ≤ lineW ∧ c < 256 then new (.lst ((splitC c [] s).map .str)) h else .stk
  | .join, .str sep, [w] => match items h w with
    | some ws => match strsW ws with
      | some ss => okIf (decide ((ss.map (·.length)).sum + ss.length * sep.length ≤ lineW)) (.str (joinT sep ss)) h
      | none => .stk
    | none => .stk
  | .count, .ref n, [w] => match h[n]? with
    | some (.lst xs) => match dataF 64 h w, mapO (dataF 63 h) xs with
      | some d, some ds => .ok (.int ((ds.filter fun e => D.eqv e d).length : Nat)) h
      | _, _ => .stk
    | _ => .stk
  | .index, .ref n, [w] => match h[n]? with
    | some (.lst xs) => match dataF 64 h w, mapO (dataF 63 h) xs with
      | some d, some ds => match firstAt (fun e => D.eqv e d) ds 0 with
        | some j => .ok (.int (j : Nat)) h
        | none => .stk
      | _, _ => .stk
    | _ => .stk
  | _, _, _ => .stk

def isNm : Tg → Bool
  | .nm _ => true
  | _ => false
def bindTg (g : Tg) (w : W) (fr : Fr) : Option Fr := match g with
  | .nm i => if i < fr.length then some (fr.set i (some w)) else none
  | .nil => match w with
    | .tup [] => some fr
    | _ => none
  | .cons a r => match w with
    | .tup (x :: xs) => if isNm r then none else (bindTg a x fr).bind fun fr' => bindTg r (.tup xs) fr'
    | _ => none

def wipe (fr : Fr) : List Nat → Fr
  | [] => fr
  | v :: vs => (wipe fr vs).set v none

/-! ### evaluation -/
/-- what calls mean: a def by its number, a def handed a lambda without parameters, that lambda's call within it; the module's tables -/
structure Cl where
  call : Nat → List W → Hs → R W
  told : Nat → (Hs → R W) → Hs → R W
  tab : Nat → List (W × W)

/-- the turns of a comprehension: what is made so far -/
def compL (f : W → Hs → R (Option W)) (g : Hs → Bool) : List W → List W → Hs → R (List W)
  | [], acc, h => if g h then .ok acc h else .stk
  | w :: r, acc, h => if g h then
      (f w h).bind fun o h => match o with
        | some x => if acc.length < lineW then compL f g r (acc ++ [x]) h else .stk
        | none => compL f g r acc h
    else .stk

def enumL : Nat → List W → List W
  | _, [] => []
  | n, w :: r => .tup [.int n, w] :: enumL (n + 1) r
def zipL : List W → List W → List W
  | x :: xs, y :: ys => .tup [x, y] :: zipL xs ys
  | _, _ => []
def rangeL (lo : Int) (step : Int) : Nat → List W
  | 0 => []
  | n + 1 => .int lo :: rangeL (lo + step) step n

mutual
def ev (c : Cl) : E → Fr → Hs → R W
  | .var i, fr, h => match fr[i]? with
    | some (some w) => .ok w h
    | _ => .stk
  | .con w, _, h => .ok w h
  | .tup es, fr, h => (evs c es fr h).bind fun ws h => okIf (decide (ws.length ≤ lineW)) (.tup ws) h
  | .lst es, fr, h => (evs c es fr h).bind fun ws h => if ws.length ≤ lineW then new (.lst ws) h else .stk
  | .dis ks vs, fr, h => (evs c vs fr h).bind fun us h => if ks.all keyOk && decide (ks.length ≤ 15) && decide (us.length = ks.length) then new (.dic ((ks.zip us).foldl (fun kvs kv => dput kvs kv.1 kv.2) [])) h else .stk
  | .bin o a b, fr, h => (ev c a fr h).bind fun x h => (ev c b fr h).bind fun y h => binV o x y h
  | .neg a, fr, h => (ev c a fr h).bind fun x h => match x with
    | .int i => .ok (.int (-i)) h
    | _ => .stk
  | .cmp o a b, fr, h => (ev c a fr h).bind fun x h => (ev c b fr h).bind fun y h => liftO ((cmpV o h x y).map .bl) h
  | .chain o p a b d, fr, h => (ev c a fr h).bind fun x h => (ev c b fr h).bind fun y h => match cmpV o h x y with
    | some true => (ev c d fr h).bind fun z h => liftO ((cmpV p h y z).map .bl) h
    | some false => .ok (.bl false) h
    | none => .stk
  | .and a b, fr, h => (ev c a fr h).bind fun x h => match truth h x with
    | some true => ev c b fr h
    | some false => .ok x h
    | none => .stk
  | .or a b, fr, h => (ev c a fr h).bind fun x h => match truth h x with
    | some true => .ok x h
    | some false => ev c b fr h
    | none => .stk
  | .not a, fr, h => (ev c a fr h).bind fun x h => match truth h x with
    | some t => .ok (.bl (!t)) h
    | none => .stk
  | .ite d a b, fr, h => (ev c d fr h).bind fun x h => match truth h x with
    | some true => ev c a fr h
    | some false => ev c b fr h
    | none => .stk
  | .call f es, fr, h => (evs c es fr h).bind fun ws h => c.call f ws h
  | .told f e, fr, h => c.told f (fun h => ev c e fr h) h
  | .bi b es, fr, h => (evs c es fr h).bind fun ws h => biV b ws h
  | .isi e ts, fr, h => (ev c e fr h).bind fun x h => match typeW h x with
    | some t => .ok (.bl (ts.any (subTy t))) h
    | none => .stk
  | .me m o es, fr, h => (ev c o fr h).bind fun x h => match typeW h x with
    | some t => if m.tys.contains t then (evs c es fr h).bind fun ws h => meV m x ws h else .stk
    | none => .stk
  | .idx a i, fr, h => (ev c a fr h).bind fun x h => (ev c i fr h).bind fun y h => liftO (idxV h x y) h
  | .slc a lo hi, fr, h => (ev c a fr h).bind fun x h => (evs c lo fr h).bind fun l h => match boundV l with
    | some l => (evs c hi fr h).bind fun u h => match boundV u with
      | some u => slcV h x l u
      | none => .stk
    | none => .stk
  | .comp own g it ifs e, fr, h => (evi c it fr h).bind fun ws h => let fr' := wipe fr own
    (compL (fun w h => match bindTg g w fr' with
      | some fr2 => (evifs c ifs fr2 h (fun h => (ev c e fr2 h))).calm
      | none => .stk) ws.2 ws.1 [] h).bind fun acc h => new (.lst acc) h
  | .fld a f, fr, h => (ev c a fr h).bind fun x h => match x with
    | .ref n => match h[n]? with
      | some (.ins _ fs) => liftO (fs.lookup f) h
      | _ => .stk
    | _ => .stk
  | .kin d neg e, fr, h => (ev c e fr h).bind fun x h => match x with
    | .str _ => .ok (.bl (if neg then !(dget (c.tab d) x).isSome else (dget (c.tab d) x).isSome)) h
    | _ => .stk
  | .kget d e, fr, h => (ev c e fr h).bind fun x h => match x with
    | .str _ => liftO (dget (c.tab d) x) h
    | _ => .stk
  | .bad, _, _ => .stk
def evs (c : Cl) : Es → Fr → Hs → R (List W)
  | .nil, _, h => .ok [] h
  | .cons e r, fr, h => (ev c e fr h).bind fun w h => (evs c r fr h).bind fun ws h => .ok (w :: ws) h
/-- the tests of a comprehension, then its element -/
def evifs (c : Cl) : Es → Fr → Hs → (Hs → R W) → R (Option W)
  | .nil, _, h, k => (k h).bind fun w h => .ok (some w) h
  | .cons e r, fr, h, k => (ev c e fr h).bind fun x h => match truth h x with
    | some true => evifs c r fr h k
    | some false => .ok none h
    | none => .stk
/-- what is walked: the items, and whether the thing still stands as it stood -/
def evi (c : Cl) : It → Fr → Hs → R (List W × (Hs → Bool))
  | .val e, fr, h => (ev c e fr h).bind fun x h => match x with
    | .str s => .ok (s.map fun n => .str [n], fun _ => true) h
    | _ => match items h x with
      | some ws => .ok (ws, fun h' => still h h' x) h
      | none => .stk
  | .rng es, fr, h => (evs c es fr h).bind fun ws h => match ws with
    | [.int j] => if -(2 ^ 62) ≤ j ∧ j < 2 ^ 62 then .ok (rangeL 0 1 j.toNat, fun _ => true) h else .stk
    | [.int i, .int j] => if -(2 ^ 62) ≤ i ∧ i < 2 ^ 62 ∧ -(2 ^ 62) ≤ j ∧ j < 2 ^ 62 then .ok (rangeL i 1 (j - i).toNat, fun _ => true) h else .stk
    | [.int i, .int j, .int k] => if -(2 ^ 30) ≤ i ∧ i < 2 ^ 30 ∧ -(2 ^ 30) ≤ j ∧ j < 2 ^ 30 ∧ 0 < k ∧ k < 2 ^ 30 then .ok (rangeL i k (if i < j then ((j - i - 1) / k + 1).toNat else 0), fun _ => true) h else .stk
    | _ => .stk
  | .enum e, fr, h => (ev c e fr h).bind fun x h => match items h x with
    | some ws => .ok (enumL 0 ws, fun h' => still h h' x) h
    | none => .stk
  | .zip a b, fr, h => (ev c a fr h).bind fun x h => (ev c b fr h).bind fun y h => match x, y with
    | .tup xs, .tup ys => .ok (zipL xs ys, fun _ => true) h
    | .ref n, .ref m => match items h (.ref n), items h (.ref m) with
      | some xs, some ys => .ok (zipL xs ys, fun h' => still h h' (.ref n) && still h h' (.ref m)) h
      | _, _ => .stk
    | _, _ => .stk
end

/-- the turns of a for -/
def forL (f : W → Fr → Hs → Rs) (g : Hs → Bool) : List W → Fr → Hs → Rs
  | [], fr, h => if g h then .nx fr h else .stk
  | w :: r, fr, h => if g h then match f w fr h with
      | .nx fr h => forL f g r fr h
      | .ct fr h => forL f g r fr h
      | .bk fr h => .nx fr h
      | z => z
    else .stk
/-- at most so many turns of a while -/
def whlL (t : Fr → Hs → R Bool) (f : Fr → Hs → Rs) : Nat → Fr → Hs → Rs
  | 0, _, _ => .stk
  | n + 1, fr, h => match t fr h with
    | .ok true h => match f fr h with
      | .nx fr h => whlL t f n fr h
      | .ct fr h => whlL t f n fr h
      | .bk fr h => .nx fr h
      | z => z
    | .ok false h => .nx fr h
    | .exc x h => .exc x fr h
    | .stk => .stk

def R.to (r : R W) (fr : Fr) (k : W → Hs → Rs) : Rs := match r with
  | .ok w h => k w h
  | .exc x h => .exc x fr h
  | .stk => .stk

def ex (c : Cl) (wf : Nat) : S → Fr → Hs → Rs
  | .skip, fr, h => .nx fr h
  | .seq a b, fr, h => match ex c wf a fr h with
    | .nx fr h => ex c wf b fr h
    | z => z
  | .ex e, fr, h => (ev c e fr h).to fr fun _ h => .nx fr h
  | .asg g e, fr, h => (ev c e fr h).to fr fun w h => match bindTg g w fr with
    | some fr => .nx fr h
    | none => .stk
  | .par i j a b, fr, h => (ev c a fr h).to fr fun x h => (ev c b fr h).to fr fun y h => if i < fr.length ∧ j < fr.length then .nx ((fr.set i (some x)).set j (some y)) h else .stk
  | .sti o i e, fr, h => (ev c e fr h).to fr fun w h => (ev c o fr h).to fr fun x h => (ev c i fr h).to fr fun y h => match x with
    | .ref n => match h[n]? with
      | some (.lst xs) => match y with
        | .int k => match ixN xs.length k with
          | some j => .nx fr (h.set n (.lst (xs.set j w)))
          | none => .stk
        | _ => .stk
      | some (.dic kvs) => if keyOk y && decide (kvs.length < lineW) then .nx fr (h.set n (.dic (dput kvs y w))) else .stk
      | _ => .stk
    | _ => .stk
  | .aug i o e, fr, h => match fr[i]? with
    | some (some x) => (ev c e fr h).to fr fun y h => match o, x, y with
      | .add, .int _, .int _ => (binV o x y h).to fr fun z h => .nx (fr.set i (some z)) h
      | _, _, _ => .stk
    | _ => .stk
  | .ret e, fr, h => (ev c e fr h).to fr fun w h => .rt w h
  | .retN, _, h => .rt .non h
  | .iff d a b, fr, h => (ev c d fr h).to fr fun x h => match truth h x with
    | some true => ex c wf a fr h
    | some false => ex c wf b fr h
    | none => .stk
  | .for g it b, fr, h => match evi c it fr h with
    | .ok ws h => forL (fun w fr h => match bindTg g w fr with
      | some fr => ex c wf b fr h
      | none => .stk) ws.2 ws.1 fr h
    | .exc x h => .exc x fr h
    | .stk => .stk
  | .whl d b, fr, h => whlL (fun fr h => (ev c d fr h).bind fun x h => liftO (truth h x) h) (fun fr h => ex c wf b fr h) wf fr h
  | .brk, fr, h => .bk fr h
  | .cnt, fr, h => .ct fr h
  | .rais k es, fr, h => match evs c es fr h with
    | .ok ws h => .exc ⟨k, ws⟩ fr h
    | .exc x h => .exc x fr h
    | .stk => .stk
  | .bad, _, _ => .stk

/-! ### calls -/
mutual
/-- all its places lie below m -/
def W.under (m : Nat) : W → Bool
  | .tup ws => W.unders m ws
  | .ref n => n < m
  | _ => true
def W.unders (m : Nat) : List W → Bool
  | [] => true
  | w :: r => w.under m && W.unders m r
end
def Ob.under (m : Nat) : Ob → Bool
  | .lst ws => W.unders m ws
  | .dic kvs => kvs.all fun kv => kv.1.under m && kv.2.under m
  | .ins _ fs => fs.all fun f => f.2.under m
/-- at a call's end what it alone made is forgotten: from place m on -/
def gc (h0 : Hs) (w : W) (h : Hs) : R W :=
  let old := h.take h0.length
  if old = h0 ∨ old.all (Ob.under h0.length) = true then
    if w.under h0.length then .ok w old else match w with
      | .ref k => match h[k]? with
        | some o => if o.under h0.length then .ok (.ref h0.length) (old ++ [o]) else .ok w h
        | none => .ok w h
      | _ => .ok w h
  else .ok w h

def gcX (h0 : Hs) (x : Xc) (h : Hs) : R W :=
  let old := h.take h0.length
  if (old = h0 ∨ old.all (Ob.under h0.length) = true) ∧ W.unders h0.length x.args = true then .exc x old else .exc x h

structure Def where
  arity : Nat
  slots : Nat
  body : S
/-- what an except clause answers: of texts, numbers and the exception's own things -/
inductive XE where
  | con (w : W)
  | fld (k : Nat)
  | nil
  | cons (a r : XE)
/-- a tuple by its parts -/
def xeV (args : List W) : XE → Option W
  | .con w => some w
  | .fld k => args[k]?
  | .nil => some (.tup [])
  | .cons a r => match xeV args a, xeV args r with
    | some w, some (.tup ws) => some (.tup (w :: ws))
    | _, _ => none
/-- a def that calls what it gets: try: return (tag, call()) except .. -/
structure Told where
  tag : Tx
  hs : List (Nat × XE)
structure Prog where
  fns : Nat → Option Def
  tolds : Nat → Option Told
  tab : Nat → List (W × W)
  sub : Nat → Nat → Bool

/-- the first clause that takes it -/
def pick (sub : Nat → Nat → Bool) (x : Xc) : List (Nat × XE) → Option XE
  | [] => none
  | (c, e) :: r => if sub x.cls c then (if x.cls = c then some e else none) else pick sub x r
def toldV (P : Prog) (t : Told) (r : R W) : R W := match r with
  | .ok w h => .ok (.tup [.str t.tag, w]) h
  | .exc x h => match pick P.sub x t.hs with
    | some e => match xeV x.args e with
      | some w => .ok w h
      | none => .stk
    | none => .stk
  | .stk => .stk

def startFr (n : Nat) (ws : List W) : Fr := ws.map some ++ List.replicate (n - ws.length) none
def endOf (h0 : Hs) : Rs → R W
  | .nx _ h => gc h0 .non h
  | .rt w h => gc h0 w h
  | .exc x _ h => gcX h0 x h
  | _ => .stk

/-- calls to the depth n, whiles of at most wf turns -/
def lev (P : Prog) (wf : Nat) : Nat → (Nat → List W → Hs → R W)
  | 0 => fun _ _ _ => .stk
  | n + 1 =>
    let c : Cl := ⟨lev P wf n, fun f th h => match P.tolds f with
      | some t => toldV P t (th h)
      | none => .stk, P.tab⟩
    fun f ws h => match P.fns f with
      | some d => if ws.length = d.arity then endOf h (ex c wf d.body (startFr d.slots ws) h) else .stk
      | none => .stk
def run (P : Prog) (wf n : Nat) : Nat → List W → Hs → R W := lev P wf n
def clOf (P : Prog) (wf n : Nat) : Cl := ⟨lev P wf n, fun f th h => match P.tolds f with
      | some t => toldV P t (th h)
      | none => .stk, P.tab⟩
end Mi
end
section
set_option Elab.async false
set_option linter.all false
set_option maxRecDepth 100000
set_option maxHeartbeats 2000000
/-! What Mi's values and objects stand for in the hand layer's heap. -/
namespace MiS
open PySem L2
open Mi (W Ob Hs Fr R Rs Xc)

abbrev tx (l : List Nat) : Str := ⟨l.toArray⟩

mutual
/-- a value of Mi and a value of the layer; places by ρ -/
inductive WR (K : PySem.W.Frag) (ρ : List Addr) (H : Hp) : W → V → Prop
  | non : WR K ρ H .non .non
  | bl (b : Bool) : WR K ρ H (.bl b) (.bl b)
  | int (i : Int) : WR K ρ H (.int i) (.int i)
  | str (s : List Nat) : WR K ρ H (.str s) (.str (tx s))
  | tup {ws : List W} {a : Addr} {xs : List V} (h : SqT K H a xs) (hl : ws.length ≤ sizeLine) (r : WRs K ρ H ws xs) : WR K ρ H (.tup ws) (.ref a)
  | ref {n : Nat} {a : Addr} (h : ρ[n]? = some a) : WR K ρ H (.ref n) (.ref a)
inductive WRs (K : PySem.W.Frag) (ρ : List Addr) (H : Hp) : List W → List V → Prop
  | nil : WRs K ρ H [] []
  | cons {w : W} {ws : List W} {x : V} {xs : List V} (h : WR K ρ H w x) (r : WRs K ρ H ws xs) : WRs K ρ H (w :: ws) (x :: xs)
end

/-- a dict's key -/
def keyR : W → Option Key
  | .int i => some (.inl i)
  | .str s => some (.inr (tx s))
  | _ => none
inductive KvR (K : PySem.W.Frag) (ρ : List Addr) (H : Hp) : List (W × W) → List (Key × V) → Prop
  | nil : KvR K ρ H [] []
  | cons {k v : W} {k' : Key} {x : V} {r : List (W × W)} {t : List (Key × V)} (hk : keyR k = some k') (h : WR K ρ H v x) (rs : KvR K ρ H r t) : KvR K ρ H ((k, v) :: r) ((k', x) :: t)

/-- an object of Mi and what the layer tracks -/
inductive ObR (K : PySem.W.Frag) (ρ : List Addr) (H : Hp) (a : Addr) : Ob → Prop
  | lst {ws : List W} {xs : List V} (h : H a = some (.lst xs)) (hl : ws.length ≤ sizeLine) (r : WRs K ρ H ws xs) : ObR K ρ H a (.lst ws)
  | dic {kvs : List (W × W)} {ks : List (Key × V)} (h : H a = some (.dK ks)) (r : KvR K ρ H kvs ks) : ObR K ρ H a (.dic kvs)

structure RelH (K : PySem.W.Frag) (T : List (Addr × Str)) (ρ : List Addr) (h : Hs) (H : Hp) : Prop where
  len : ρ.length = h.length
  nd : ρ.Nodup
  ob : ∀ (n : Nat) (o : Ob) (a : Addr), h[n]? = some o → ρ[n]? = some a → ObR K ρ H a o
  tabs : LamX.Tabs T H

def FrR (K : PySem.W.Frag) (ρ : List Addr) (H : Hp) (fr : Fr) (σ : L2.St) : Prop :=
  fr.length = σ.length ∧ ∀ (i : Nat) (w : W), fr[i]? = some (some w) → ∃ v, σ[i]? = some (some v) ∧ WR K ρ H w v

/-- how heaps go on: what is no object of Mi stays -/
structure Stp (ρ : List Addr) (H : Hp) (ρ' : List Addr) (H' : Hp) : Prop where
  pre : ρ <+: ρ'
  keep : ∀ b o, H b = some o → b ∉ ρ → (∀ ps, o ≠ .tbl ps) → H' b = some o
  new : ∀ b, b ∈ ρ' → b ∉ ρ → ∀ o, H b = some o → ∃ ps, o = .tbl ps

theorem Stp.refl (ρ : List Addr) (H : Hp) : Stp ρ H ρ H := ⟨List.prefix_refl _, fun _ _ h _ _ => h, fun _ h n => absurd h n⟩
theorem Stp.out {ρ ρ1 : List Addr} {H H1 : Hp} (a : Stp ρ H ρ1 H1) {b : Addr} {o : HO} (e : H b = some o) (n : b ∉ ρ) (t : ∀ ps, o ≠ .tbl ps) : b ∉ ρ1 := fun m => by
  obtain ⟨ps, z⟩ := a.new b m n o e
  exact t ps z
theorem Stp.trans {ρ ρ1 ρ2 : List Addr} {H H1 H2 : Hp} (a : Stp ρ H ρ1 H1) (b : Stp ρ1 H1 ρ2 H2) : Stp ρ H ρ2 H2 where
  pre := a.pre.trans b.pre
  keep := fun c o e n t => b.keep c o (a.keep c o e n t) (a.out e n t) t
  new := fun c m n o e => by
    by_cases hc : c ∈ ρ1
    · exact a.new c hc n o e
    · by_cases t : ∃ ps, o = .tbl ps
      · exact t
      · exact b.new c m hc o (a.keep c o e n fun ps z => t ⟨ps, z⟩)

section
variable {K : PySem.W.Frag} {T : List (Addr × Str)} {ρ ρ' : List Addr} {H H' : Hp} {h h' : Hs}
theorem RelH.at_ (R : RelH K T ρ h H) {n : Nat} {o : Ob} (e : h[n]? = some o) : ∃ a, ρ[n]? = some a ∧ ObR K ρ H a o := by
  have hn : n < h.length := (List.getElem?_eq_some_iff.mp e).1
  have hr : n < ρ.length := by rw [R.len]; exact hn
  exact ⟨ρ[n], List.getElem?_eq_getElem hr, R.ob n o _ e (List.getElem?_eq_getElem hr)⟩
theorem RelH.mem (R : RelH K T ρ h H) {a : Addr} (m : a ∈ ρ) : ∃ o, ObR K ρ H a o := by
  obtain ⟨n, hn, e⟩ := List.mem_iff_getElem.mp m
  have hh : n < h.length := by rw [← R.len]; exact hn
  exact ⟨h[n], R.ob n _ a (List.getElem?_eq_getElem hh) (by rw [List.getElem?_eq_getElem hn, e])⟩
theorem RelH.notTup (R : RelH K T ρ h H) {a : Addr} {xs : List V} (e : H a = some (.tup xs)) : a ∉ ρ := fun m => by
  obtain ⟨o, r⟩ := R.mem m
  cases r with
  | lst q => rw [e] at q; cases q
  | dic q => rw [e] at q; cases q
theorem RelH.notFrz (R : RelH K T ρ h H) {a : Addr} {ob : Obj} {u : HO} (e : H a = some (.frz ob u)) : a ∉ ρ := fun m => by
  obtain ⟨o, r⟩ := R.mem m
  cases r with
  | lst q => rw [e] at q; cases q
  | dic q => rw [e] at q; cases q
theorem RelH.notTbl (R : RelH K T ρ h H) {a : Addr} {ps : Array Value} (e : H a = some (.tbl ps)) : a ∉ ρ := fun m => by
  obtain ⟨o, r⟩ := R.mem m
  cases r with
  | lst q => rw [e] at q; cases q
  | dic q => rw [e] at q; cases q
theorem sqT_mono (R : RelH K T ρ h H) (s : Stp ρ H ρ' H') {a : Addr} {xs : List V} (e : SqT K H a xs) : SqT K H' a xs := by
  rcases e with (e | ⟨o, e⟩) | e
  · exact .inl (.inl (s.keep _ _ e (R.notTup e) fun _ z => by cases z))
  · exact .inl (.inr ⟨o, s.keep _ _ e (R.notFrz e) fun _ z => by cases z⟩)
  · exact .inr e
theorem pre_get {α : Type} {l m : List α} (p : l <+: m) {n : Nat} {a : α} (e : l[n]? = some a) : m[n]? = some a := by
  obtain ⟨t, rfl⟩ := p
  rw [List.getElem?_append_left (List.getElem?_eq_some_iff.mp e).1]
  exact e
mutual
theorem WR.mono (R : RelH K T ρ h H) (s : Stp ρ H ρ' H') : ∀ {w : W} {v : V}, WR K ρ H w v → WR K ρ' H' w v
  | _, _, .non => .non
  | _, _, .bl b => .bl b
  | _, _, .int i => .int i
  | _, _, .str x => .str x
  | _, _, .tup h l r => .tup (sqT_mono R s h) l (WRs.mono R s r)
  | _, _, .ref h => .ref (pre_get s.pre h)
theorem WRs.mono (R : RelH K T ρ h H) (s : Stp ρ H ρ' H') : ∀ {ws : List W} {vs : List V}, WRs K ρ H ws vs → WRs K ρ' H' ws vs
  | _, _, .nil => .nil
  | _, _, .cons h r => .cons (WR.mono R s h) (WRs.mono R s r)
end
theorem KvR.mono (R : RelH K T ρ h H) (s : Stp ρ H ρ' H') : ∀ {ws : List (W × W)} {vs : List (Key × V)}, KvR K ρ H ws vs → KvR K ρ' H' ws vs
  | _, _, .nil => .nil
  | _, _, .cons hk h r => .cons hk (h.mono R s) (KvR.mono R s r)
theorem FrR.mono (R : RelH K T ρ h H) (s : Stp ρ H ρ' H') {fr : Fr} {σ : L2.St} (f : FrR K ρ H fr σ) : FrR K ρ' H' fr σ :=
  ⟨f.1, fun i w e => let ⟨v, e1, r⟩ := f.2 i w e; ⟨v, e1, r.mono R s⟩⟩
theorem WRs.length : ∀ {ws : List W} {vs : List V}, WRs K ρ H ws vs → ws.length = vs.length
  | _, _, .nil => rfl
  | _, _, .cons _ r => by rw [List.length_cons, List.length_cons, r.length]
end
end MiS
end
section
set_option Elab.async false
set_option linter.all false
set_option maxRecDepth 100000
set_option maxHeartbeats 2000000
/-! Readings by simulation. -/
namespace MiS
open PySem L2
open Mi (W Ob Hs Fr R Rs Xc)

/-- an exception of Mi, in the layer: its class, its own dict -/
def XcR (K : PySem.W.Frag) (cl : Nat → Addr) (fl : Nat → List Str) (ρ : List Addr) (H : Hp) (x : Xc) (c : Value) (d : Option Addr) : Prop :=
  c = .ref (cl x.cls) ∧ ∃ (dd : Addr) (fs : List (Str × V)), d = some dd ∧ H dd = some (.xd fs) ∧ dd ∉ ρ ∧
    (fl x.cls).length = x.args.length ∧ ∀ (i : Nat) (f : Str) (w : W), (fl x.cls)[i]? = some f → x.args[i]? = some w → ∃ v, fs.lookup f = some v ∧ WR K ρ H w v

/-- the static part: the written part, the tables, the exceptions' classes and their fields -/
structure Gv where
  K : PySem.W.Frag
  T : List (Addr × Str)
  cl : Nat → Addr
  fl : Nat → List Str

variable {G : Gv}

def OutE (G : Gv) {α β : Type} (Rel : List Addr → Hp → α → β → Prop) (ρ : List Addr) (H : Hp) (r : R α) (Q : β → Hp → Prop) (E : XK) : Prop :=
  match r with
  | .ok w h' => ∀ ρ' H' v, Stp ρ H ρ' H' → RelH G.K G.T ρ' h' H' → Rel ρ' H' w v → Q v H'
  | .exc x h' => ∀ ρ' H' c d, Stp ρ H ρ' H' → RelH G.K G.T ρ' h' H' → XcR G.K G.cl G.fl ρ' H' x c d → E c d H'
  | .stk => False

section
variable {α β α' β' : Type} {Rel : List Addr → Hp → α → β → Prop} {Rel' : List Addr → Hp → α' → β' → Prop} {ρ ρ1 : List Addr} {H H1 : Hp} {r : R α} {Q Q' : β → Hp → Prop} {Q2 : β' → Hp → Prop} {E E' : XK}
theorem OutE.shift (o : OutE G Rel ρ H r Q E) (s : Stp ρ H ρ1 H1) : OutE G Rel ρ1 H1 r Q E := by
  cases r with
  | ok w h => exact fun ρ' H' v st R w => o ρ' H' v (s.trans st) R w
  | exc x h => exact fun ρ' H' c d st R w => o ρ' H' c d (s.trans st) R w
  | stk => exact o
theorem OutE.imp (o : OutE G Rel ρ H r Q E) (hQ : ∀ v H', Q v H' → Q' v H') (hE : ∀ c d H', E c d H' → E' c d H') : OutE G Rel ρ H r Q' E' := by
  cases r with
  | ok w h => exact fun ρ' H' v st R w => hQ _ _ (o ρ' H' v st R w)
  | exc x h => exact fun ρ' H' c d st R w => hE _ _ _ (o ρ' H' c d st R w)
  | stk => exact o
/-- a first part, what follows told by the state behind it -/
theorem OutE.bind {g : α → Hs → R α'} (o : OutE G Rel' ρ H (r.bind g) Q2 E) :
    OutE G Rel ρ H r (fun v H1 => ∃ (ρ1 : List Addr) (x : α) (h1 : Hs), Stp ρ H ρ1 H1 ∧ RelH G.K G.T ρ1 h1 H1 ∧ Rel ρ1 H1 x v ∧ OutE G Rel' ρ1 H1 (g x h1) Q2 E) E := by
  cases r with
  | ok w h => exact fun ρ' H' v st R q => ⟨ρ', w, h, st, R, q, OutE.shift (r := g w h) o st⟩
  | exc x h => exact o
  | stk => exact o
theorem OutE.ok {w : α} {h : Hs} {v : β} (o : OutE G Rel ρ H (.ok w h) Q E) (R : RelH G.K G.T ρ h H) (q : Rel ρ H w v) : Q v H := o ρ H v (Stp.refl _ _) R q
end

abbrev RE (G : Gv) : List Addr → Hp → W → V → Prop := WR G.K
abbrev RA (G : Gv) : List Addr → Hp → List W → List V → Prop := WRs G.K
abbrev RT : List Addr → Hp → Bool → Bool → Prop := fun _ _ a b => a = b

/-- the reading of an expression that Mi evaluates so; Wx: what is wanted of an exception -/
def SimE (G : Gv) (f : Fr → Hs → R W) (Wx : WX) : TE := fun σ H Q => ∃ (ρ : List Addr) (h : Hs) (fr : Fr), RelH G.K G.T ρ h H ∧ FrR G.K ρ H fr σ ∧ OutE G (RE G) ρ H (f fr h) Q (fun c d H' => Wx c d σ H')
def SimT (G : Gv) (f : Fr → Hs → R Bool) (Wx : WX) : TT := fun σ H Q => ∃ (ρ : List Addr) (h : Hs) (fr : Fr), RelH G.K G.T ρ h H ∧ FrR G.K ρ H fr σ ∧ OutE G RT ρ H (f fr h) Q (fun c d H' => Wx c d σ H')
def SimA (G : Gv) (f : Fr → Hs → R (List W)) (Wx : WX) : TA := fun σ H Q => ∃ (ρ : List Addr) (h : Hs) (fr : Fr), RelH G.K G.T ρ h H ∧ FrR G.K ρ H fr σ ∧ OutE G (RA G) ρ H (f fr h) Q (fun c d H' => Wx c d σ H')

theorem PE.weak {X : Cx} {e : Expr} {t t' : TE} (p : PE X e t) (h : ∀ σ H Q, t' σ H Q → t σ H Q) : PE X e t' := ⟨fun pins s σ H Q I q => p.run pins s σ H Q I (h σ H Q q)⟩
theorem PT.weak {X : Cx} {e : Expr} {t t' : TT} (p : PT X e t) (h : ∀ σ H Q, t' σ H Q → t σ H Q) : PT X e t' := ⟨fun pins s σ H Q I q => p.run pins s σ H Q I (h σ H Q q)⟩
theorem PW.weak {X : Cx} {e : Expr} {t t' : TT} (p : PW X e t) (h : ∀ σ H Q, t' σ H Q → t σ H Q) : PW X e t' := ⟨fun wh pins s σ H Q I q => p.run wh pins s σ H Q I (h σ H Q q)⟩
theorem PA.weak {X : Cx} {e : List Expr} {t t' : TA} (p : PA X e t) (h : ∀ σ H Q, t' σ H Q → t σ H Q) : PA X e t' := ⟨fun pos pins s σ H Q I q => p.run pos pins s σ H Q I (h σ H Q q)⟩
theorem PS.weak {X : Cx} {e : Stmt} {t t' : TS} (p : PS X e t) (h : ∀ D σ H, t' D σ H → t D σ H) : PS X e t' := ⟨fun pins s σ H Q I q => p.run pins s σ H Q I (h Q σ H q)⟩
theorem PSs.weak {X : Cx} {e : List Stmt} {t t' : TS} (p : PSs X e t) (h : ∀ D σ H, t' D σ H → t D σ H) : PSs X e t' := ⟨fun pins s σ H Q I q => p.run pins s σ H Q I (h Q σ H q)⟩
theorem PE.never {X : Cx} {e : Expr} : PE X e (fun _ _ _ => False) := ⟨fun _ _ _ _ _ _ q => q.elim⟩
theorem PE.cases {X : Cx} {e : Expr} {ι : Sort _} {t : ι → TE} (p : ∀ i, PE X e (t i)) : PE X e (fun σ H Q => ∃ i, t i σ H Q) := ⟨fun pins s σ H Q I ⟨i, q⟩ => (p i).run pins s σ H Q I q⟩
theorem PE.or {X : Cx} {e : Expr} {t u : TE} (p : PE X e t) (q : PE X e u) : PE X e (fun σ H Q => t σ H Q ∨ u σ H Q) := ⟨fun pins s σ H Q I z => z.elim (p.run pins s σ H Q I) (q.run pins s σ H Q I)⟩
theorem PT.or {X : Cx} {e : Expr} {t u : TT} (p : PT X e t) (q : PT X e u) : PT X e (fun σ H Q => t σ H Q ∨ u σ H Q) := ⟨fun pins s σ H Q I z => z.elim (p.run pins s σ H Q I) (q.run pins s σ H Q I)⟩

section
variable {f g : Fr → Hs → R W} {Wx : WX} {σ : L2.St} {H : Hp}
/-- an operator's two sides -/
theorem sim2 {k : W → W → Hs → R W} {Q : VK} {r : R2}
    (hr : ∀ ρ h H x y v u, RelH G.K G.T ρ h H → WR G.K ρ H x v → WR G.K ρ H y u → OutE G (RE G) ρ H (k x y h) Q (fun c d H' => Wx c d σ H') → r v u H Q)
    (z : SimE G (fun fr h => (f fr h).bind fun x h => (g fr h).bind fun y h => k x y h) Wx σ H Q) : tOp r (SimE G f Wx) (SimE G g Wx) σ H Q := by
  obtain ⟨ρ, h, fr, R, F, o⟩ := z
  refine ⟨ρ, h, fr, R, F, (OutE.bind o).imp (fun v H1 ⟨ρ1, x, h1, s1, R1, w1, o1⟩ => ?_) fun _ _ _ q => q⟩
  refine ⟨ρ1, h1, fr, R1, F.mono R s1, (OutE.bind o1).imp (fun u H2 ⟨ρ2, y, h2, s2, R2, w2, o2⟩ => ?_) fun _ _ _ q => q⟩
  exact hr ρ2 h2 H2 x y v u R2 (w1.mono R1 s2) w2 o2
/-- one part, then what is made of it -/
theorem sim1 {k : W → Hs → R W} {Q : VK} {P : V → Hp → Prop}
    (hr : ∀ ρ h H x v, RelH G.K G.T ρ h H → WR G.K ρ H x v → OutE G (RE G) ρ H (k x h) Q (fun c d H' => Wx c d σ H') → P v H)
    (z : SimE G (fun fr h => (f fr h).bind fun x h => k x h) Wx σ H Q) : SimE G f Wx σ H P := by
  obtain ⟨ρ, h, fr, R, F, o⟩ := z
  exact ⟨ρ, h, fr, R, F, (OutE.bind o).imp (fun v H1 ⟨ρ1, x, h1, s1, R1, w1, o1⟩ => hr ρ1 h1 H1 x v R1 w1 o1) fun _ _ _ q => q⟩
end
end MiS
end
section
set_option Elab.async false
set_option linter.all false
set_option maxRecDepth 100000
set_option maxHeartbeats 2000000
/-! New objects, writes. -/
namespace MiS
open PySem L2
open Mi (W Ob Hs Fr R Rs Xc)
section
variable {K : PySem.W.Frag} {T : List (Addr × Str)} {ρ ρ' : List Addr} {H H' : Hp} {h h' : Hs} {p a : Addr} {o : HO} {ob : Ob}
theorem ObR.mono (R : RelH K T ρ h H) (s : Stp ρ H ρ' H') (e : H' a = H a) (r : ObR K ρ H a ob) : ObR K ρ' H' a ob := by
  cases r with
  | lst q l r => exact .lst (by rw [e]; exact q) l (r.mono R s)
  | dic q r => exact .dic (by rw [e]; exact q) (r.mono R s)
theorem RelH.free (R : RelH K T ρ h H) (n : H p = none) : p ∉ ρ := fun m => by
  obtain ⟨o, r⟩ := R.mem m
  cases r with
  | lst q => rw [n] at q; cases q
  | dic q => rw [n] at q; cases q
theorem Stp.put (n : H p = none) (hp : p ∉ ρ) : Stp ρ H ρ (upd H p o) where
  pre := List.prefix_refl _
  keep := fun b u e _ _ => by rw [upd_ne (ne_of_none e n)]; exact e
  new := fun b m k => absurd m k
theorem Stp.own (n : H p = none) : Stp ρ H (ρ ++ [p]) (upd H p o) where
  pre := List.prefix_append _ _
  keep := fun b u e _ _ => by rw [upd_ne (ne_of_none e n)]; exact e
  new := fun b m k u e => by
    rcases List.mem_append.mp m with m | m
    · exact absurd m k
    · rw [List.mem_singleton.mp m, n] at e; cases e
theorem tabs_put (t : LamX.Tabs T H) (n : H p = none) : LamX.Tabs T (upd H p o) := t.ext fun b u e => by rw [upd_ne (ne_of_none e n)]; exact e
/-- a thing that is no object of Mi is laid -/
theorem RelH.put (R : RelH K T ρ h H) (n : H p = none) : RelH K T ρ h (upd H p o) where
  len := R.len
  nd := R.nd
  ob := fun i u b e1 e2 => (R.ob i u b e1 e2).mono R (Stp.put n (R.free n)) (by
    have hb : b ≠ p := fun z => R.free n (z ▸ List.mem_of_getElem? e2)
    rw [upd_ne hb])
  tabs := tabs_put R.tabs n
/-- a new object of Mi -/
theorem RelH.own (R : RelH K T ρ h H) (n : H p = none) (r : ObR K (ρ ++ [p]) (upd H p o) p ob) : RelH K T (ρ ++ [p]) (h ++ [ob]) (upd H p o) where
  len := by rw [List.length_append, List.length_append, R.len]; rfl
  nd := by
    rw [List.nodup_append]
    exact ⟨R.nd, by simp, fun x hx y hy e => R.free n (by rw [List.mem_singleton.mp hy] at e; exact e ▸ hx)⟩
  ob := fun i u b e1 e2 => by
    by_cases hi : i < h.length
    · rw [List.getElem?_append_left hi] at e1
      have hr : i < ρ.length := by rw [R.len]; exact hi
      rw [List.getElem?_append_left hr] at e2
      have hb : b ≠ p := fun z => R.free n (z ▸ List.mem_of_getElem? e2)
      exact (R.ob i u b e1 e2).mono R (Stp.own n) (by rw [upd_ne hb])
    · have hl := R.len
      have hi1 : i < (h ++ [ob]).length := (List.getElem?_eq_some_iff.mp e1).1
      rw [List.length_append] at hi1
      have he : i = h.length := by
        have : ([ob] : List Ob).length = 1 := rfl
        omega
      subst he
      rw [List.getElem?_append_right (Nat.le_refl _)] at e1
      rw [List.getElem?_append_right (by omega)] at e2
      have z1 : ob = u := by simpa using e1
      have z2 : p = b := by simpa [hl] using e2
      subst z1 z2
      exact r
  tabs := tabs_put R.tabs n
theorem WR.own (R : RelH K T ρ h H) : WR K (ρ ++ [p]) H' (.ref h.length) (.ref p) := .ref (by rw [List.getElem?_append_right (by rw [R.len]; exact Nat.le_refl _), R.len]; simp)
theorem tup_put (R : RelH K T ρ h H) (n : H p = none) {ws : List W} {xs : List V} (r : WRs K ρ H ws xs) (hl : ws.length ≤ sizeLine) : WR K ρ (upd H p (.tup xs)) (.tup ws) (.ref p) :=
  .tup (.inl (.inl upd_same)) hl (r.mono R (Stp.put n (R.free n)))
theorem lst_own (R : RelH K T ρ h H) (n : H p = none) {ws : List W} {xs : List V} (r : WRs K ρ H ws xs) (hl : ws.length ≤ sizeLine) : RelH K T (ρ ++ [p]) (h ++ [.lst ws]) (upd H p (.lst xs)) :=
  R.own n (.lst upd_same hl (r.mono R (Stp.own n)))

/-- an object of Mi is written -/
theorem Stp.write (R : RelH K T ρ h H) (m : p ∈ ρ) : Stp ρ H ρ (upd H p o) where
  pre := List.prefix_refl _
  keep := fun b u e k _ => by
    have hb : b ≠ p := fun z => k (by rw [z]; exact m)
    rw [upd_ne hb]; exact e
  new := fun b m k => absurd m k
theorem nodup_idx {l : List Addr} (nd : l.Nodup) {i j : Nat} {b : Addr} (e1 : l[i]? = some b) (e2 : l[j]? = some b) : i = j := by
  obtain ⟨h1, z1⟩ := List.getElem?_eq_some_iff.mp e1
  obtain ⟨h2, z2⟩ := List.getElem?_eq_some_iff.mp e2
  rcases Nat.lt_trichotomy i j with q | q | q
  · exact absurd (z1.trans z2.symm) (List.pairwise_iff_getElem.mp nd i j h1 h2 q)
  · exact q
  · exact absurd (z2.trans z1.symm) (List.pairwise_iff_getElem.mp nd j i h2 h1 q)
theorem RelH.write (R : RelH K T ρ h H) {i : Nat} (e : ρ[i]? = some p) (r : ObR K ρ (upd H p o) p ob) : RelH K T ρ (h.set i ob) (upd H p o) where
  len := by rw [List.length_set]; exact R.len
  nd := R.nd
  ob := fun j u b e1 e2 => by
    by_cases hj : i = j
    · subst hj
      have hb : b = p := Option.some.inj (e2.symm.trans e)
      subst hb
      rw [List.getElem?_set_self (by
        have := (List.getElem?_eq_some_iff.mp e).1
        rw [R.len] at this
        exact this)] at e1
      cases e1
      exact r
    · rw [List.getElem?_set_ne hj] at e1
      have hb : b ≠ p := fun z => hj (nodup_idx R.nd e (z ▸ e2))
      exact (R.ob j u b e1 e2).mono R (Stp.write R (List.mem_of_getElem? e)) (by rw [upd_ne hb])
  tabs := fun q hq => by
    obtain ⟨ps, h1, h2, h3⟩ := R.tabs q hq
    have hm : p ∈ ρ := List.mem_of_getElem? e
    have hq1 : q.1 ≠ p := fun z => R.notTbl (by rw [z] at h1; exact h1) hm
    refine ⟨ps, by rw [upd_ne hq1]; exact h1, h2, fun pos cv hc => ?_⟩
    obtain ⟨c, e1, e2⟩ := h3 pos cv hc
    refine ⟨c, e1, ?_⟩
    have hcp : c ≠ p := fun z => by
      obtain ⟨o', r'⟩ := R.mem (z ▸ hm)
      cases r' with
      | lst q => rw [e2] at q; unfold LamX.CodeO at q; cases q
      | dic q => rw [e2] at q; unfold LamX.CodeO at q; cases q
    rw [upd_ne hcp]
    exact e2
end
theorem WRs.get {K : PySem.W.Frag} {ρ : List Addr} {H : Hp} : ∀ {ws : List W} {xs : List V} {i : Nat} {w : W}, WRs K ρ H ws xs → ws[i]? = some w → ∃ x, xs[i]? = some x ∧ WR K ρ H w x
  | _, _, 0, _, .cons h _, e => by simp at e; subst e; exact ⟨_, rfl, h⟩
  | _, _, i + 1, _, .cons _ r, e => by
    obtain ⟨x, e1, h⟩ := r.get (i := i) (by simpa using e)
    exact ⟨x, by simpa using e1, h⟩
  | _, _, _, _, .nil, e => by simp at e
theorem WRs.append {K : PySem.W.Frag} {ρ : List Addr} {H : Hp} : ∀ {ws us : List W} {xs ys : List V}, WRs K ρ H ws xs → WRs K ρ H us ys → WRs K ρ H (ws ++ us) (xs ++ ys)
  | _, _, _, _, .nil, s => s
  | _, _, _, _, .cons h r, s => .cons h (r.append s)
theorem WRs.take {K : PySem.W.Frag} {ρ : List Addr} {H : Hp} : ∀ {ws : List W} {xs : List V} (n : Nat), WRs K ρ H ws xs → WRs K ρ H (ws.take n) (xs.take n)
  | _, _, 0, _ => .nil
  | _, _, _ + 1, .nil => .nil
  | _, _, n + 1, .cons h r => .cons h (r.take n)
theorem WRs.drop {K : PySem.W.Frag} {ρ : List Addr} {H : Hp} : ∀ {ws : List W} {xs : List V} (n : Nat), WRs K ρ H ws xs → WRs K ρ H (ws.drop n) (xs.drop n)
  | _, _, 0, r => r
  | _, _, _ + 1, .nil => .nil
  | _, _, n + 1, .cons _ r => r.drop n
theorem WRs.set {K : PySem.W.Frag} {ρ : List Addr} {H : Hp} {w : W} {x : V} (h : WR K ρ H w x) : ∀ {ws : List W} {xs : List V} (n : Nat), WRs K ρ H ws xs → WRs K ρ H (ws.set n w) (xs.set n x)
  | _, _, _, .nil => .nil
  | _, _, 0, .cons _ r => .cons h r
  | _, _, n + 1, .cons g r => .cons g (r.set h n)
theorem WRs.eraseIdx {K : PySem.W.Frag} {ρ : List Addr} {H : Hp} : ∀ {ws : List W} {xs : List V} (n : Nat), WRs K ρ H ws xs → WRs K ρ H (ws.eraseIdx n) (xs.eraseIdx n)
  | _, _, _, .nil => .nil
  | _, _, 0, .cons _ r => r
  | _, _, n + 1, .cons g r => .cons g (r.eraseIdx n)
end MiS
end
section
set_option Elab.async false
set_option linter.all false
set_option maxRecDepth 100000
set_option maxHeartbeats 2000000
/-! enumerate of a tuple. -/
namespace MiS
open PySem L2 PySem.Spec PyProof.Rows

theorem meets_enumB1 {v : Value} {o : Obj} {H : Heap → Prop} (B : Begins v o H) :
    Meets (Builtin.«enumerate.__new__» ⟨[.type "enumerate", v], []⟩) (fun _ R s => H s.heap ∧
      R (.ok (.ret (.ref (s.heap.push o).objs.size))) { s with heap := (s.heap.push o).push { cls := .type "enumerate", data := .fields #[.none, .bool false, .ref s.heap.objs.size, rawInt 0, .none, .none] } }) :=
  .of_wp fun prog w A R s h => by
    obtain ⟨hp, g, d, tk, os⟩ := s; obtain ⟨h1, h⟩ := h
    have hsub := sub_enumerate
    have q1 : ∀ {A' : Around} {E : Value → Shared → Prop} {Q : Value → Shared → Prop}, Q (.ref hp.objs.size) ⟨hp.push o, g, d, tk, os⟩ → wpAny (model prog w) A' (pyIter v) Q E ⟨hp, g, d, tk, os⟩ :=
      fun q => B.iter prog w _ _ ⟨hp, g, d, tk, os⟩ _ h1 q
    wp_walk using q1
    refine wpAny_stack_any fun st => wpAny_pure ?_
    split
    · rename_i c _ _ _ _ _
      cases (c == Value.type "enumerate")
      · wp_walk using q1
        exact ⟨_, rfl, h⟩
      · wp_walk using q1
        exact ⟨_, rfl, h⟩
    · wp_walk using q1
      exact ⟨_, rfl, h⟩
section
variable {prog : Program} {w : World} {A : Around} {E : Value → Shared → Prop} {s : Shared}
theorem enum_begins1 {v : Value} {o : Obj} {H : Heap → Prop} {Q : Value → Shared → Prop} (B : Begins v o H) (h1 : H s.heap)
    (h : ∀ h', IsEnum h' (s.heap.objs.size + 1) s.heap.objs.size 0 .none → h'.get? s.heap.objs.size = some o → h'.objs.size = s.heap.objs.size + 2 →
      (∀ b o, s.heap.get? b = some o → h'.get? b = some o) → Q (.ref (s.heap.objs.size + 1)) { s with heap := h' }) :
    wpAny (model prog w) A (call (.type "enumerate") [v]) Q E s := by
  refine callType_new F.called_enumerate (by decide) (F.typeCall_enumerate_1 _) (F.newCall_enumerate_1 _) (fun obj => F.args_object_init_2 obj _) F.entry_enumerate_new
    (meets_enumB1 B) ⟨h1, ?_⟩
  have hz : (s.heap.push o).objs.size = s.heap.objs.size + 1 := Heap.size_push ..
  show _ ∧ _
  rw [hz]
  have he : IsEnum ((s.heap.push o).push { cls := .type "enumerate", data := .fields #[.none, .bool false, .ref s.heap.objs.size, rawInt 0, .none, .none] }) (s.heap.objs.size + 1) s.heap.objs.size 0 .none := by
    have := Heap.get?_push_size (s.heap.push o) (o := { cls := .type "enumerate", data := .fields #[.none, .bool false, .ref s.heap.objs.size, rawInt 0, .none, .none] }) rfl
    rw [hz] at this; exact this
  refine ⟨⟨_, he, rfl⟩, h _ he (Heap.get?_push_of_some _ (Heap.get?_push_size _ B.free)) (by rw [Heap.size_push, hz]) fun b o x => Heap.get?_push_of_some _ (Heap.get?_push_of_some _ x)⟩
end

/-- enumerate(tuple) -/
def IteT (K : PySem.W.Frag) (a : Addr) : It :=
  ⟨fun i H => ∃ (xs : List V) (x : V), SqT K H a xs ∧ xs[i]? = some x, fun i H v H' => ∃ T x, v = .ref T ∧ H T = none ∧ H' = upd H T (.tup [.int (i : Nat), x]) ∧ ∀ xs, SqT K H a xs → xs[i]? = some x, fun i H => ∃ xs : List V, SqT K H a xs ∧ xs.length ≤ i⟩
theorem turn_enumT {P : Program} {w : World} {K : PySem.W.Frag} {elts : List Expr} {kk : Nat} {tpos : Pos} (a e it : Addr) :
    Turn P w K (.Tuple elts kk tpos) (IteT K a) [e, it] e (fun i h => (∃ old, IsEnum h e it ((i : Nat) : Int) old) ∧ h.IsTupleIter it a i ∧ e ≠ it ∧ a ≠ it ∧ a ≠ e) where
  mem := by simp
  obj := fun i h st b hb => by
    obtain ⟨⟨old, he⟩, ⟨o, ho, hc, hd⟩, _⟩ := st
    have e' : b = e ∨ b = it := by simpa using hb
    rcases e' with z | z
    · rw [z]; exact ⟨_, he, fun v q => nomatch q⟩
    · rw [z]; exact ⟨o, ho, fun v q => by rw [hd] at q; cases q⟩
  keep := fun i h h' st k => let ⟨⟨old, he⟩, hi, hne⟩ := st; ⟨⟨old, k e (by simp) _ he⟩, hi.at fun o q => k it (by simp) o q, hne⟩
  item := by
    intro X hP hw hK hc i pins s σ H E I hf st hg
    subst hP hw hK
    obtain ⟨⟨old, he⟩, hit, hne, hai, hae⟩ := st
    obtain ⟨xs, x, hq, hx⟩ := hg
    obtain ⟨its, rv, p, hz⟩ := I.tuple hq
    obtain ⟨u, hu, ru⟩ := rv.get hx
    have hel : e < s.heap.objs.size := Heap.lt_size he
    have hil : it < s.heap.objs.size := by obtain ⟨_, q, _⟩ := hit; exact Heap.lt_size q
    have hlt : i < its.toArray.size := by
      have := (List.getElem?_eq_some_iff.mp hu).1
      simpa using this
    have D := Draws.tuple (prog := X.prog) (w := X.w) (A := X.A.in1) (I.ok.hd hc) it a hai its.toArray
    refine wpAny_pyNext_enum_itemD D he ⟨hit, p⟩ hlt hne (by simp; exact ⟨hne, Ne.symm hae⟩) fun x' h' tk hx' ho hit' hT hsz hk => ?_
    have ex : x' = u := by
      have h1 : its[i]? = some x' := by simpa using hx'
      rw [hu] at h1
      exact (Option.some.inj h1).symm
    subst ex
    refine ⟨_, rfl, wpAny_letOwnedTupleGo_enum (s := { s with heap := h', toks := tk + 1 }) ho fun h'' he' sb => ?_⟩
    have hT2 : h''.get? s.heap.objs.size = some { cls := .type "tuple", data := .seq #[.int i tk, x'] } := (sb.2 _ (Nat.ne_of_gt hel)).trans hT
    have new : ObjOk X.prog X.w (upd H s.heap.objs.size (.tup [.int (i : Nat), x])) h'' s.heap.objs.size (.tup [.int (i : Nat), x]) :=
      ⟨by show 2 ≤ sizeLine; decide, [.int i tk, x'], .cons ⟨_, rfl⟩ (.cons ru .nil), ⟨_, hT2, rfl, _, rfl⟩⟩
    have I1 : Inv X pins σ (upd H s.heap.objs.size (.tup [.int (i : Nat), x])) { s with heap := h'', toks := tk + 1 } :=
      I.turnedNew (ch := [e, it]) (fun b ob hb q => (sb.2 b (fun z => hb (by simp [z]))).trans (hk b ob (fun z => hb (by simp [z])) (fun z => hb (by simp [z])) q)) hf (Nat.le_refl _) new
    refine ⟨.ref s.heap.objs.size, _, I1, rfl, ⟨_, x, rfl, I.hok.fresh (Nat.le_refl _), rfl, fun ys hy => by rw [I.tuple_inj hy hq]; exact hx⟩, ⟨⟨x', ?_⟩, hit'.1.at fun o q => (sb.2 it (Ne.symm hne)).trans q, hne, hai, hae⟩, fun b hb => ?_⟩
    · have e1 : ((i + 1 : Nat) : Int) = (i : Int) + 1 := by omega
      rw [e1]; exact he'
    · have hb' : b < s.heap.objs.size := by
        have e' : b = e ∨ b = it := by simpa using hb
        rcases e' with z | z
        · rw [z]; exact hel
        · rw [z]; exact hil
      rw [upd_ne (Nat.ne_of_lt hb')]
      exact (hf b hb).1
  done := by
    intro X hP hw hK hc i pins s σ H E I hf st hg
    subst hP hw hK
    obtain ⟨⟨old, he⟩, hit, hne, hai, hae⟩ := st
    obtain ⟨xs, hq, hx⟩ := hg
    obtain ⟨its, rv, p, hz⟩ := I.tuple hq
    obtain ⟨f0, f1, f2, f3, f4, f5⟩ := hf it (by simp)
    have hl := rv.length
    have hT : s.TypeIs (.ref e) "enumerate" := ⟨_, he, rfl⟩
    unfold pyNext
    refine wpAny_bind (wpAny_attempt (wpAny_callSpecial?_slot (name := Str.ofString "__next__") hT F.slot_enumerate_next
      (wpAny_call_entry F.slot_enumerate_next hT F.entry_enumerate_next ?_ (F.args_enumerate_next_1 _))))
    show wpAny _ _ (field (.ref e) 2 >>= _) _ _ _
    refine wpAny_bind (wpAny_field he rfl (x := .ref it) rfl ?_)
    refine wpAny_bind (wpAny_nextOf_tuple_end (A := X.A.in1) (I.ok.hd hc) hit p (by simp; omega) fun h' x he' hx' => ?_)
    obtain ⟨o, ho, hcl⟩ := hx'
    refine wpAny_bind (wpAny_isInstance (T := "StopIteration") (b := true) ⟨o, ho, hcl⟩ isSubtype_stop ?_)
    exact wpAny_pure ⟨rfl, I.turned (t' := s.toks) (fun b o hb q => he' b o hb q) f0 f1 f3 f4 f5⟩
  self := fun A i s Q E st h => let ⟨⟨_, he⟩, _⟩ := st; wpAny_pyIter_enum he h
def iEnumT (K : PySem.W.Frag) (ta : TA) : TI := fun σ H R => ta σ H fun vs H1 => ∃ a xs, vs = [.ref a] ∧ SqT K H1 a xs ∧ R (IteT K a) H1
theorem pi_enumT {X : Cx} {e : Expr} {ta : TA} {p pos tpos : Pos} {elts : List Expr} {kk : Nat} (hg : Gl X "enumerate") (hm : X.mg "enumerate" = none) (ha : PA X [e] ta) (hs : starEach [e] X.env = [(false, eval e X.env)] := by rfl) :
    PI X (.Tuple elts kk tpos) (.Call (.Name "enumerate" p) [e] [] pos) (iEnumT X.K ta) := by
  refine ⟨fun pins s σ H R I h => ?_⟩
  refine Call_ (ld_blt I hg hm boot_enumerate (PyProof.Rows.callWith_type1 (thn (ha.run pos pins s σ H _ I h) fun us s1 ⟨vs, H1, I1, r1, q1⟩ => ?_) hs rfl))
  obtain ⟨a, xs, ex, hq, q⟩ := q1
  subst ex
  cases r1 with
  | cons r rr =>
    cases rr
    cases r
    obtain ⟨its, rv, p', hz⟩ := I1.tuple hq
    have hlt : a < s1.heap.objs.size := by obtain ⟨_, q, _⟩ := id p'; exact Heap.lt_size q
    refine enum_begins1 (begins_tuple a its.toArray) p' fun h' he hit hsz hk => wpAny_pyIter_enum he ?_
    have I2 : Inv X pins σ H1 { s1 with heap := h' } := I1.kept (t' := s1.toks) hk
    refine ⟨s1.heap.objs.size + 1, [s1.heap.objs.size + 1, s1.heap.objs.size], _, _, H1, rfl, I2, turn_enumT a (s1.heap.objs.size + 1) s1.heap.objs.size, ⟨⟨.none, he⟩, ⟨_, hit, rfl, rfl⟩, Nat.succ_ne_self _, Nat.ne_of_lt hlt, Nat.ne_of_lt (Nat.lt_succ_of_lt hlt)⟩, fun b hb => ?_, q⟩
    have e' : b = s1.heap.objs.size + 1 ∨ b = s1.heap.objs.size := by simpa using hb
    have hle : s1.heap.objs.size ≤ b := by
      rcases e' with z | z
      · rw [z]; exact Nat.le_add_right _ _
      · rw [z]; exact Nat.le_refl _
    exact I1.fpOk hle (I1.hok.fresh hle)
theorem walk_enumT {K : PySem.W.Frag} {a : Addr} {xs : List V} : Walk (IteT K a) xs.length (fun H => SqT K H a xs) (YPair (fun i => some (.int (i : Nat))) (fun i => xs[i]?)) := by
  refine ⟨fun i _ hi q => ⟨xs, xs[i], q, by simp [hi]⟩, fun _ q => ⟨xs, q, Nat.le_refl _⟩, fun i H v H' _ q y => ?_⟩
  obtain ⟨T, x, h1, h2, h3, h4⟩ := y
  exact ⟨T, .int (i : Nat), x, h1, h2, h3, rfl, h4 xs q⟩
end MiS
end
section
set_option Elab.async false
set_option linter.all false
set_option maxRecDepth 100000
set_option maxHeartbeats 2000000
/-! What is walked. -/
namespace MiS
open PySem L2 PySem.Spec PyProof.Rows
open Mi (W Ob Hs Fr R Rs Xc)

section
variable {G : Gv}
/-- J walks ws while g stands -/
def IW (G : Gv) (ρ : List Addr) (H : Hp) (p : List W × (Hs → Bool)) (J : It) : Prop :=
  ∃ (Gp : Hp → Prop) (Y : Nat → Hp → V → Hp → Prop), Walk J p.1.length Gp Y ∧ ∀ ρ' h' H', Stp ρ H ρ' H' → RelH G.K G.T ρ' h' H' → p.2 h' = true →
    Gp H' ∧ ∀ i x H'' w, p.1[i]? = some w → Y i H' x H'' → Stp ρ' H' ρ' H'' ∧ RelH G.K G.T ρ' h' H'' ∧ WR G.K ρ' H'' w x
def SimI (G : Gv) (f : Fr → Hs → R (List W × (Hs → Bool))) (Wx : WX) : TI := fun σ H Q => ∃ (ρ : List Addr) (h : Hs) (fr : Fr), RelH G.K G.T ρ h H ∧ FrR G.K ρ H fr σ ∧ OutE G (IW G) ρ H (f fr h) Q (fun c d H' => Wx c d σ H')
theorem PI.weak {X : Cx} {tg e : Expr} {t t' : TI} (p : PI X tg e t) (h : ∀ σ H Q, t' σ H Q → t σ H Q) : PI X tg e t' := ⟨fun pins s σ H Q I q => p.run pins s σ H Q I (h σ H Q q)⟩
theorem PI.or {X : Cx} {tg e : Expr} {t u : TI} (p : PI X tg e t) (q : PI X tg e u) : PI X tg e (fun σ H Q => t σ H Q ∨ u σ H Q) := ⟨fun pins s σ H Q I z => z.elim (p.run pins s σ H Q I) (q.run pins s σ H Q I)⟩

section
variable {ρ : List Addr} {h : Hs} {H : Hp}
theorem iw_list {n : Nat} {a : Addr} {ws : List W} (hn : ρ[n]? = some a) (e : h[n]? = some (.lst ws)) : IW G ρ H (ws, fun h' => Mi.still h h' (.ref n)) (Itl G.K a) := by
  refine ⟨fun H' => ∃ xs, SqL G.K H' a xs ∧ xs.length = ws.length, fun i H' x H'' => H'' = H' ∧ ∀ xs, SqL G.K H' a xs → xs[i]? = some x,
    ⟨fun i H' hi ⟨xs, q, l⟩ => ⟨xs, xs[i]'(by rw [l]; exact hi), q, by simp [show i < xs.length by rw [l]; exact hi]⟩, fun H' ⟨xs, q, l⟩ => ⟨xs, q, by rw [l]; exact Nat.le_refl _⟩, fun i H' x H'' hi q y => y⟩, fun ρ' h' H' s R' g => ?_⟩
  have e' : h'[n]? = some (.lst ws) := by
    have : h'[n]? = h[n]? := of_decide_eq_true g
    rw [this]; exact e
  have hn' := pre_get s.pre hn
  cases R'.ob n _ a e' hn' with
  | lst q l r =>
    refine ⟨⟨_, .inl (.inl q), r.length.symm⟩, fun i x H'' w ew y => ?_⟩
    obtain ⟨rfl, y⟩ := y
    have z := y _ (.inl (.inl q))
    obtain ⟨x', ex, wr⟩ := r.get ew
    rw [z] at ex
    cases ex
    exact ⟨Stp.refl _ _, R', wr⟩
theorem iw_tup {a : Addr} {ws : List W} {xs : List V} (R : RelH G.K G.T ρ h H) (q : SqT G.K H a xs) (r : WRs G.K ρ H ws xs) : IW G ρ H (ws, fun _ => true) (Itt G.K a) := by
  refine ⟨fun H' => SqT G.K H' a xs, fun i H' x H'' => H'' = H' ∧ xs[i]? = some x, by rw [r.length]; exact walk_tup, fun ρ' h' H' s R' _ => ⟨sqT_mono R s q, fun i x H'' w ew y => ?_⟩⟩
  obtain ⟨rfl, y⟩ := y
  obtain ⟨x', ex, wr⟩ := r.get ew
  rw [y] at ex
  cases ex
  exact ⟨Stp.refl _ _, R', wr.mono R s⟩
theorem iw_str {t : List Nat} : IW G ρ H (t.map fun n => W.str [n], fun _ => true) (Its (tx t)) := by
  refine ⟨fun _ => True, _, by rw [List.length_map]; exact walk_str (z := tx t), fun ρ' h' H' s R' _ => ⟨trivial, fun i x H'' w ew y => ?_⟩⟩
  obtain ⟨rfl, c, ec, rfl⟩ := y
  refine ⟨Stp.refl _ _, R', ?_⟩
  have e1 : t[i]? = some c := by simpa using ec
  rw [List.getElem?_map, e1] at ew
  have : w = W.str [c] := (Option.some.inj ew).symm
  rw [this]
  exact .str _
theorem rangeL_length (c : Int) : ∀ (n : Nat) (lo : Int), (Mi.rangeL lo c n).length = n
  | 0, _ => rfl
  | n + 1, lo => by show (Mi.rangeL (lo + c) c n).length + 1 = n + 1; rw [rangeL_length c n]
theorem rangeL_get (c : Int) : ∀ (n : Nat) (lo : Int) (i : Nat) (w : W), (Mi.rangeL lo c n)[i]? = some w → w = .int (lo + i * c)
  | 0, _, i, w, e => by
    have : ([] : List W)[i]? = some w := e
    simp at this
  | n + 1, lo, 0, w, e => by
    have : some (W.int lo) = some w := e
    rw [← Option.some.inj this]
    congr 1; simp
  | n + 1, lo, i + 1, w, e => by
    have : (Mi.rangeL (lo + c) c n)[i]? = some w := e
    rw [rangeL_get c n _ i w this]
    congr 1
    rw [show ((i + 1 : Nat) : Int) = (i : Int) + 1 from by omega, Int.add_mul]
    omega
theorem iw_range {lo : Int} {n : Nat} : IW G ρ H (Mi.rangeL lo 1 n, fun _ => true) (Itr lo n) := by
  refine ⟨fun _ => True, _, by rw [rangeL_length]; exact walk_range (lo := lo), fun ρ' h' H' s R' _ => ⟨trivial, fun i x H'' w ew y => ?_⟩⟩
  obtain ⟨rfl, rfl⟩ := y
  refine ⟨Stp.refl _ _, R', ?_⟩
  rw [rangeL_get 1 n lo i w ew, Int.mul_one]
  exact .int _
theorem iw_rangeC {lo c : Int} {n : Nat} : IW G ρ H (Mi.rangeL lo c n, fun _ => true) (Itc lo c n) := by
  refine ⟨fun _ => True, _, by rw [rangeL_length]; exact walk_rangeC (lo := lo) (c := c), fun ρ' h' H' s R' _ => ⟨trivial, fun i x H'' w ew y => ?_⟩⟩
  obtain ⟨rfl, rfl⟩ := y
  refine ⟨Stp.refl _ _, R', ?_⟩
  rw [rangeL_get c n lo i w ew]
  exact .int _
theorem enumL_length : ∀ (ws : List W) (n : Nat), (Mi.enumL n ws).length = ws.length
  | [], _ => rfl
  | _ :: r, n => by show (Mi.enumL (n + 1) r).length + 1 = r.length + 1; rw [enumL_length r]
theorem enumL_get : ∀ (ws : List W) (n i : Nat) (w : W), (Mi.enumL n ws)[i]? = some w → ∃ w', ws[i]? = some w' ∧ w = .tup [.int ((n + i : Nat) : Int), w']
  | [], _, i, w, e => by
    have : ([] : List W)[i]? = some w := e
    simp at this
  | a :: r, n, 0, w, e => by
    have : some (W.tup [.int n, a]) = some w := e
    exact ⟨a, rfl, (Option.some.inj this).symm⟩
  | a :: r, n, i + 1, w, e => by
    have : (Mi.enumL (n + 1) r)[i]? = some w := e
    obtain ⟨w', h1, h2⟩ := enumL_get r (n + 1) i w this
    exact ⟨w', h1, by rw [h2]; congr 3; omega⟩
theorem zipL_length : ∀ (xs ys : List W), (Mi.zipL xs ys).length = min xs.length ys.length
  | [], _ => by simp [Mi.zipL]
  | _ :: _, [] => by simp [Mi.zipL]
  | x :: xs, y :: ys => by show (Mi.zipL xs ys).length + 1 = _; rw [zipL_length xs ys]; simp only [List.length_cons]; omega
theorem zipL_get : ∀ (xs ys : List W) (i : Nat) (w : W), (Mi.zipL xs ys)[i]? = some w → ∃ x y, xs[i]? = some x ∧ ys[i]? = some y ∧ w = .tup [x, y]
  | [], ys, i, w, e => by
    have : ([] : List W)[i]? = some w := e
    simp at this
  | _ :: _, [], i, w, e => by
    have : ([] : List W)[i]? = some w := e
    simp at this
  | x :: xs, y :: ys, 0, w, e => by
    have : some (W.tup [x, y]) = some w := e
    exact ⟨x, y, rfl, rfl, (Option.some.inj this).symm⟩
  | x :: xs, y :: ys, i + 1, w, e => by
    have : (Mi.zipL xs ys)[i]? = some w := e
    exact zipL_get xs ys i w this
theorem pair_put {ρ' : List Addr} {h' : Hs} {H' : Hp} {T : Addr} {w1 w2 : W} {x1 x2 : V} (R : RelH G.K G.T ρ' h' H') (n : H' T = none) (r1 : WR G.K ρ' H' w1 x1) (r2 : WR G.K ρ' H' w2 x2) :
    Stp ρ' H' ρ' (upd H' T (.tup [x1, x2])) ∧ RelH G.K G.T ρ' h' (upd H' T (.tup [x1, x2])) ∧ WR G.K ρ' (upd H' T (.tup [x1, x2])) (.tup [w1, w2]) (.ref T) :=
  ⟨Stp.put n (R.free n), R.put n, tup_put R n (.cons r1 (.cons r2 .nil)) (by show 2 ≤ sizeLine; decide)⟩
theorem iw_enum {n : Nat} {a : Addr} {ws : List W} (hn : ρ[n]? = some a) (e : h[n]? = some (.lst ws)) : IW G ρ H (Mi.enumL 0 ws, fun h' => Mi.still h h' (.ref n)) (Ite G.K a) := by
  refine ⟨fun H' => ∃ xs, SqL G.K H' a xs ∧ xs.length = ws.length, fun i H' v H'' => ∃ T x, v = .ref T ∧ H' T = none ∧ H'' = upd H' T (.tup [.int (i : Nat), x]) ∧ ∀ xs, SqL G.K H' a xs → xs[i]? = some x, ?_, fun ρ' h' H' s R' g => ?_⟩
  · show Walk (Ite G.K a) (Mi.enumL 0 ws).length _ _
    rw [enumL_length]
    exact ⟨fun i H' hi ⟨xs, q, l⟩ => ⟨xs, xs[i]'(by rw [l]; exact hi), q, by simp [show i < xs.length by rw [l]; exact hi]⟩, fun H' ⟨xs, q, l⟩ => ⟨xs, q, by rw [l]; exact Nat.le_refl _⟩, fun i H' x H'' hi q y => y⟩
  have e' : h'[n]? = some (.lst ws) := by
    have : h'[n]? = h[n]? := of_decide_eq_true g
    rw [this]; exact e
  have hn' := pre_get s.pre hn
  cases R'.ob n _ a e' hn' with
  | lst q l r =>
    refine ⟨⟨_, .inl (.inl q), r.length.symm⟩, fun i x H'' w ew y => ?_⟩
    obtain ⟨T, x, rfl, hT, rfl, y⟩ := y
    have z := y _ (.inl (.inl q))
    obtain ⟨w', ew', rfl⟩ := enumL_get ws 0 i w ew
    obtain ⟨x', ex, wr⟩ := r.get ew'
    rw [z] at ex
    cases ex
    rw [Nat.zero_add]
    exact pair_put R' hT (.int _) wr
theorem iw_enumT {a : Addr} {ws : List W} {xs : List V} (R : RelH G.K G.T ρ h H) (q : SqT G.K H a xs) (r : WRs G.K ρ H ws xs) : IW G ρ H (Mi.enumL 0 ws, fun _ => true) (IteT G.K a) := by
  refine ⟨fun H' => SqT G.K H' a xs, _, by rw [enumL_length, r.length]; exact walk_enumT, fun ρ' h' H' s R' _ => ⟨sqT_mono R s q, fun i x H'' w ew y => ?_⟩⟩
  obtain ⟨T, x1, x2, rfl, hT, rfl, y1, y2⟩ := y
  obtain ⟨w', ew', rfl⟩ := enumL_get ws 0 i w ew
  obtain ⟨x', ex, wr⟩ := r.get ew'
  have y2 : xs[i]? = some x2 := y2
  rw [y2] at ex
  cases ex
  have y1 : V.int i = x1 := Option.some.inj y1
  subst y1
  rw [Nat.zero_add]
  exact pair_put R' hT (.int _) (wr.mono R s)
theorem iw_zip {n m : Nat} {a b : Addr} {ws us : List W} (hn : ρ[n]? = some a) (e : h[n]? = some (.lst ws)) (hm : ρ[m]? = some b) (f : h[m]? = some (.lst us)) :
    IW G ρ H (Mi.zipL ws us, fun h' => Mi.still h h' (.ref n) && Mi.still h h' (.ref m)) (Itz G.K a b) := by
  refine ⟨fun H' => ∃ xs ys, SqL G.K H' a xs ∧ SqL G.K H' b ys ∧ xs.length = ws.length ∧ ys.length = us.length, fun i H' v H'' => ∃ T x y, v = .ref T ∧ H' T = none ∧ H'' = upd H' T (.tup [x, y]) ∧ (∀ xs, SqL G.K H' a xs → xs[i]? = some x) ∧ ∀ ys, SqL G.K H' b ys → ys[i]? = some y, ?_, fun ρ' h' H' s R' g => ?_⟩
  · show Walk (Itz G.K a b) (Mi.zipL ws us).length _ _
    rw [zipL_length]
    refine ⟨fun i H' hi ⟨xs, ys, q1, q2, l1, l2⟩ => ?_, fun H' ⟨xs, ys, q1, q2, l1, l2⟩ => ⟨xs, ys, q1, q2, by omega⟩, fun i H' x H'' hi q y => y⟩
    have h1 : i < xs.length := by omega
    have h2 : i < ys.length := by omega
    exact ⟨xs, ys, xs[i], ys[i], q1, q2, by simp [h1], by simp [h2]⟩
  have g : (Mi.still h h' (.ref n) && Mi.still h h' (.ref m)) = true := g
  rw [Bool.and_eq_true] at g
  have e' : h'[n]? = some (.lst ws) := by
    have : h'[n]? = h[n]? := of_decide_eq_true g.1
    rw [this]; exact e
  have f' : h'[m]? = some (.lst us) := by
    have : h'[m]? = h[m]? := of_decide_eq_true g.2
    rw [this]; exact f
  have hn' := pre_get s.pre hn
  have hm' := pre_get s.pre hm
  cases R'.ob n _ a e' hn' with
  | lst q l r =>
    cases R'.ob m _ b f' hm' with
    | lst q2 l2 r2 =>
      refine ⟨⟨_, _, .inl (.inl q), .inl (.inl q2), r.length.symm, r2.length.symm⟩, fun i x H'' w ew y => ?_⟩
      obtain ⟨T, x, y', rfl, hT, rfl, y1, y2⟩ := y
      have z1 := y1 _ (.inl (.inl q))
      have z2 := y2 _ (.inl (.inl q2))
      obtain ⟨w1, w2, ew1, ew2, rfl⟩ := zipL_get ws us i w ew
      obtain ⟨x1, ex1, wr1⟩ := r.get ew1
      obtain ⟨x2, ex2, wr2⟩ := r2.get ew2
      rw [z1] at ex1
      rw [z2] at ex2
      cases ex1
      cases ex2
      exact pair_put R' hT wr1 wr2
theorem iw_zipT {a b : Addr} {ws us : List W} {xs ys : List V} (R : RelH G.K G.T ρ h H) (q : SqT G.K H a xs) (r : WRs G.K ρ H ws xs) (q2 : SqT G.K H b ys) (r2 : WRs G.K ρ H us ys) :
    IW G ρ H (Mi.zipL ws us, fun _ => true) (RZ.ItzT G.K a b) := by
  refine ⟨fun H' => SqT G.K H' a xs ∧ SqT G.K H' b ys, fun i H' v H'' => ∃ T x y, v = .ref T ∧ H' T = none ∧ H'' = upd H' T (.tup [x, y]) ∧ xs[i]? = some x ∧ ys[i]? = some y, ?_, fun ρ' h' H' s R' g => ⟨⟨sqT_mono R s q, sqT_mono R s q2⟩, fun i x H'' w ew y => ?_⟩⟩
  · show Walk (RZ.ItzT G.K a b) (Mi.zipL ws us).length _ _
    rw [zipL_length, r.length, r2.length]
    refine ⟨fun i H' hi ⟨q1, q2⟩ => ?_, fun H' ⟨q1, q2⟩ => ⟨xs, ys, q1, q2, by omega⟩, fun i H' x H'' hi q y => ?_⟩
    · have h1 : i < xs.length := by omega
      have h2 : i < ys.length := by omega
      exact ⟨xs, ys, xs[i], ys[i], q1, q2, by simp [h1], by simp [h2]⟩
    · obtain ⟨T, x1, x2, e1, hT, e2, y1, y2⟩ := y
      exact ⟨T, x1, x2, e1, hT, e2, y1 xs q.1, y2 ys q.2⟩
  · obtain ⟨T, x, y', rfl, hT, rfl, z1, z2⟩ := y
    obtain ⟨w1, w2, ew1, ew2, rfl⟩ := zipL_get ws us i w ew
    obtain ⟨x1, ex1, wr1⟩ := r.get ew1
    obtain ⟨x2, ex2, wr2⟩ := r2.get ew2
    rw [z1] at ex1
    rw [z2] at ex2
    cases ex1
    cases ex2
    exact pair_put R' hT (wr1.mono R s) (wr2.mono R s)
end
end
end MiS
end
section
set_option Elab.async false
set_option linter.all false
set_option maxRecDepth 100000
set_option maxHeartbeats 2000000
/-! Operators. -/
namespace MiS
open PySem L2
open Mi (W Ob Hs Fr R Rs Xc)

def noE : XK := fun _ _ _ => False
/-- an operator by Mi's function -/
def rSim (G : Gv) (k : W → W → Hs → R W) : R2 := fun v u H Q => ∃ (ρ : List Addr) (h : Hs) (x y : W), RelH G.K G.T ρ h H ∧ WR G.K ρ H x v ∧ WR G.K ρ H y u ∧ OutE G (RE G) ρ H (k x y h) Q noE
theorem tx_app (a b : List Nat) : tx a ++ tx b = tx (a ++ b) := SX.S_cat a b
theorem tx_len (a : List Nat) : (tx a).length = a.length := SX.S_len a
theorem tx_inj {a b : List Nat} (h : tx a = tx b) : a = b := SX.S_inj h
theorem tx_iff {a b : List Nat} : tx a = tx b ↔ a = b := ⟨tx_inj, fun e => by rw [e]⟩
theorem tx_ex (x : Str) : ∃ l, x = tx l := ⟨x.cps.toList, (SX.S_tl x).symm⟩
theorem line_eq : sizeLine = Mi.lineW := by rw [sizeLine_eq]; rfl
theorem le_line {n : Nat} (h : n ≤ Mi.lineW) : n ≤ sizeLine := by rw [line_eq]; exact h
theorem lt_line {n : Nat} (h : n < Mi.lineW) : n < sizeLine := by rw [line_eq]; exact h

section
variable {G : Gv} {ρ : List Addr} {H : Hp} {h : Hs} {Q : VK} {E : XK}
theorem okIf_out {α β : Type} {Rel : List Addr → Hp → α → β → Prop} {Q : β → Hp → Prop} {c : Bool} {a : α} (o : OutE G Rel ρ H (Mi.okIf c a h) Q E) : c = true ∧ OutE G Rel ρ H (.ok a h) Q E := by
  cases c with
  | true => exact ⟨rfl, o⟩
  | false => exact (show False from o).elim
theorem liftO_out {α β : Type} {Rel : List Addr → Hp → α → β → Prop} {Q : β → Hp → Prop} {a : Option α} (o : OutE G Rel ρ H (Mi.liftO a h) Q E) : ∃ x, a = some x ∧ OutE G Rel ρ H (.ok x h) Q E := by
  cases a with
  | some x => exact ⟨x, rfl, o⟩
  | none => exact (show False from o).elim
theorem new_lst_out {ws : List W} {xs : List V} (R : RelH G.K G.T ρ h H) (r : WRs G.K ρ H ws xs) (hl : ws.length ≤ sizeLine) (o : OutE G (RE G) ρ H (Mi.new (.lst ws) h) Q E) (p : Addr) (n : H p = none) : Q (.ref p) (upd H p (.lst xs)) :=
  o _ _ _ (Stp.own n) (lst_own R n r hl) (WR.own R)
theorem tup_out {ws : List W} {xs : List V} (R : RelH G.K G.T ρ h H) (r : WRs G.K ρ H ws xs) (hl : ws.length ≤ sizeLine) (o : OutE G (RE G) ρ H (.ok (.tup ws) h) Q E) (p : Addr) (n : H p = none) : Q (.ref p) (upd H p (.tup xs)) :=
  o _ _ _ (Stp.put n (R.free n)) (R.put n) (tup_put R n r hl)
theorem ok_out {w : W} {v : V} (R : RelH G.K G.T ρ h H) (r : WR G.K ρ H w v) (o : OutE G (RE G) ρ H (.ok w h) Q E) : Q v H := o ρ H v (Stp.refl _ _) R r
end

section
variable {X : Cx} {G : Gv}
theorem opr_add (hK : X.K = G.K) : OpR X (binaryOp .Add) (rSim G (Mi.binV .add)) := by
  intro pins s σ H x y v u Q I rx ry h
  obtain ⟨ρ, hh, a, b, R, wa, wb, o⟩ := h
  cases wa with
  | int i =>
    cases wb with
    | int j => exact op_add pins s σ H _ _ _ _ Q I rx ry ⟨i, j, rfl, rfl, ok_out R (.int _) o⟩
    | _ => exact (show False from o).elim
  | str i =>
    cases wb with
    | str j =>
      obtain ⟨c, o⟩ := okIf_out o
      refine op_add_str pins s σ H _ _ _ _ Q I rx ry ⟨_, _, rfl, rfl, ?_, ?_⟩
      · rw [tx_len, tx_len]; exact le_line (of_decide_eq_true c)
      · rw [tx_app]; exact ok_out R (.str _) o
    | _ => exact (show False from o).elim
  | @tup ws a1 xs ha hl ra =>
    cases wb with
    | @tup us b1 ys hb hl2 rb =>
      obtain ⟨c, o⟩ := okIf_out o
      have c := of_decide_eq_true c
      have l1 := ra.length
      have l2 := rb.length
      refine op_catA pins s σ H _ _ _ _ Q I rx ry ⟨a1, b1, xs, ys, rfl, rfl, by rw [hK]; exact ha, by rw [hK]; exact hb, by rw [← l1, ← l2]; exact le_line c, fun e => ?_, fun _ e => ?_, fun _ _ p n => ?_⟩
      · subst e
        cases ra
        exact ok_out R (.tup hb hl2 rb) o
      · subst e
        cases rb
        rw [List.append_nil] at o
        exact ok_out R (.tup ha hl ra) o
      · exact tup_out R (ra.append rb) (by rw [List.length_append]; exact le_line c) o p n
    | _ => exact (show False from o).elim
  | @ref n a1 ha =>
    cases wb with
    | @ref m b1 hb =>
      have o : OutE G (RE G) ρ H (match hh[n]?, hh[m]? with
        | some (.lst xs), some (.lst ys) => if xs.length + ys.length ≤ Mi.lineW then Mi.new (.lst (xs ++ ys)) hh else .stk
        | _, _ => .stk) Q noE := o
      split at o
      · rename_i xs ys e1 e2
        split at o
        · rename_i hl
          have r1 := R.ob _ _ _ e1 ha
          have r2 := R.ob _ _ _ e2 hb
          cases r1 with
          | lst q1 l1 s1 =>
            cases r2 with
            | lst q2 l2 s2 =>
              refine op_cat pins s σ H _ _ _ _ Q I rx ry ⟨a1, b1, _, _, rfl, rfl, q1, q2, ?_, fun p n => ?_⟩
              · rw [← s1.length, ← s2.length]; exact le_line hl
              · exact new_lst_out R (s1.append s2) (by rw [List.length_append]; exact le_line hl) o p n
        · exact (show False from o).elim
      · exact (show False from o).elim
    | _ => exact (show False from o).elim
  | _ => cases wb <;> exact (show False from o).elim
theorem opr_sub : OpR X (binaryOp .Sub) (rSim G (Mi.binV .sub)) := by
  intro pins s σ H x y v u Q I rx ry h
  obtain ⟨ρ, hh, a, b, R, wa, wb, o⟩ := h
  cases wa with
  | int i =>
    cases wb with
    | int j => exact op_sub pins s σ H _ _ _ _ Q I rx ry ⟨i, j, rfl, rfl, ok_out R (.int _) o⟩
    | _ => exact (show False from o).elim
  | _ => cases wb <;> exact (show False from o).elim
theorem opr_mul : OpR X (binaryOp .Mult) (rSim G (Mi.binV .mul)) := by
  intro pins s σ H x y v u Q I rx ry h
  obtain ⟨ρ, hh, a, b, R, wa, wb, o⟩ := h
  cases wa with
  | int i =>
    cases wb with
    | int j =>
      obtain ⟨c, o⟩ := okIf_out o
      exact op_mulW pins s σ H _ _ _ _ Q I rx ry (by have c := of_decide_eq_true c; exact ⟨i, j, rfl, rfl, c, ok_out R (.int _) o⟩)
    | _ => exact (show False from o).elim
  | _ => cases wb <;> exact (show False from o).elim
theorem opr_fdiv : OpR X (binaryOp .FloorDiv) (rSim G (Mi.binV .fdiv)) := by
  intro pins s σ H x y v u Q I rx ry h
  obtain ⟨ρ, hh, a, b, R, wa, wb, o⟩ := h
  cases wa with
  | int i =>
    cases wb with
    | int j =>
      obtain ⟨c, o⟩ := okIf_out o
      exact op_fdivW pins s σ H _ _ _ _ Q I rx ry (by have c := of_decide_eq_true c; exact ⟨i, j, rfl, rfl, c, ok_out R (.int _) o⟩)
    | _ => exact (show False from o).elim
  | _ => cases wb <;> exact (show False from o).elim
theorem opr_mod : OpR X (binaryOp .Mod) (rSim G (Mi.binV .mod)) := by
  intro pins s σ H x y v u Q I rx ry h
  obtain ⟨ρ, hh, a, b, R, wa, wb, o⟩ := h
  cases wa with
  | int i =>
    cases wb with
    | int j =>
      obtain ⟨c, o⟩ := okIf_out o
      exact op_mod pins s σ H _ _ _ _ Q I rx ry (by have c := of_decide_eq_true c; exact ⟨i, j, rfl, rfl, c, ok_out R (.int _) o⟩)
    | _ => exact (show False from o).elim
  | _ => cases wb <;> exact (show False from o).elim
theorem opr_pow : OpR X (binaryOp .Pow) (rSim G (Mi.binV .pow)) := by
  intro pins s σ H x y v u Q I rx ry h
  obtain ⟨ρ, hh, a, b, R, wa, wb, o⟩ := h
  cases wa with
  | int i =>
    cases wb with
    | int j =>
      obtain ⟨c, o⟩ := okIf_out o
      exact op_pow pins s σ H _ _ _ _ Q I rx ry (by have c := of_decide_eq_true c; exact ⟨i, j, rfl, rfl, c, ok_out R (.int _) o⟩)
    | _ => exact (show False from o).elim
  | _ => cases wb <;> exact (show False from o).elim
end
end MiS
end
section
set_option Elab.async false
set_option linter.all false
set_option maxRecDepth 100000
set_option maxHeartbeats 2000000
/-! Comparisons. -/
namespace MiS
open PySem L2
open Mi (W Ob Hs Fr R Rs Xc D)

mutual
def toPy : D → PyData
  | .non => .none
  | .bl b => .bool b
  | .int i => .int i
  | .str s => .str (tx s)
  | .lst ds => .list (toPys ds)
  | .tup ds => .tuple (toPys ds)
def toPys : List D → List PyData
  | [] => []
  | d :: r => toPy d :: toPys r
end
theorem beq_tx (a b : List Nat) : (tx a == tx b) = (a == b) := SX.S_beq a b
mutual
theorem eqv_py : ∀ d e : D, PyData.eqv (toPy d) (toPy e) = D.eqv d e
  | .non, e => by cases e <;> simp [toPy, PyData.eqv, D.eqv]
  | .bl b, e => by cases e <;> simp [toPy, PyData.eqv, D.eqv]
  | .int i, e => by cases e <;> simp [toPy, PyData.eqv, D.eqv]
  | .str s, e => by
    cases e <;> simp only [toPy, PyData.eqv, D.eqv]
    exact beq_tx _ _
  | .lst ds, e => by
    cases e <;> simp only [toPy, PyData.eqv, D.eqv]
    exact eqvs_py _ _
  | .tup ds, e => by
    cases e <;> simp only [toPy, PyData.eqv, D.eqv]
    exact eqvs_py _ _
theorem eqvs_py : ∀ ds es : List D, PyData.eqvAll (toPys ds) (toPys es) = D.eqvs ds es
  | [], es => by cases es <;> simp [toPys, PyData.eqvAll, D.eqvs]
  | d :: ds, es => by
    cases es with
    | nil => simp [toPys, PyData.eqvAll, D.eqvs]
    | cons e es => simp only [toPys, PyData.eqvAll, D.eqvs, eqv_py d e, eqvs_py ds es]
end
theorem toPys_map : ∀ ds : List D, toPys ds = ds.map toPy
  | [] => rfl
  | d :: ds => by rw [toPys, List.map_cons, toPys_map ds]
theorem mapO_cons {α β : Type} {f : α → Option β} {a : α} {r : List α} {bs : List β} (e : Mi.mapO f (a :: r) = some bs) : ∃ b t, f a = some b ∧ Mi.mapO f r = some t ∧ bs = b :: t := by
  simp only [Mi.mapO] at e
  split at e
  · rename_i b t e1 e2
    exact ⟨b, t, e1, e2, (Option.some.inj e).symm⟩
  · cases e

/-- data as read: what it stands for -/
structure DpOk (K : PySem.W.Frag) (H : Hp) (n : Nat) (v : V) (d : D) : Prop where
  dp : Dp K H v (toPy d)
  lay : PyData.canLay0 (toPy d) = true
  dep : PyData.depth (toPy d) ≤ n
structure DpsOk (K : PySem.W.Frag) (H : Hp) (n : Nat) (vs : List V) (ds : List D) : Prop where
  dp : DpAll K H vs (toPys ds)
  lay : PyData.canLayAll0 (toPys ds) = true
  dep : PyData.depthAll (toPys ds) ≤ n
section
variable {K : PySem.W.Frag} {T : List (Addr × Str)} {ρ : List Addr} {H : Hp} {h : Hs}
theorem dps_of {n : Nat} (ih : ∀ (w : W) (v : V) (d : D), Mi.dataF n h w = some d → WR K ρ H w v → DpOk K H n v d) :
    ∀ (ws : List W) (vs : List V) (ds : List D), Mi.mapO (Mi.dataF n h) ws = some ds → WRs K ρ H ws vs → DpsOk K H n vs ds
  | [], _, ds, e, r => by
    cases r
    simp only [Mi.mapO, Option.some.injEq] at e
    subst e
    exact ⟨.nil, by simp [toPys, PyData.canLayAll0], by simp [toPys, PyData.depthAll]⟩
  | w :: ws, _, ds, e, r => by
    cases r with
    | cons h1 r1 =>
      obtain ⟨b, t, e1, e2, rfl⟩ := mapO_cons e
      have a := ih _ _ _ e1 h1
      have b := dps_of ih ws _ _ e2 r1
      refine ⟨.cons a.dp b.dp, ?_, ?_⟩
      · simp only [toPys, PyData.canLayAll0, a.lay, b.lay, Bool.and_self]
      · simp only [toPys, PyData.depthAll]
        exact Nat.max_le.mpr ⟨a.dep, b.dep⟩
theorem dp_of (R : RelH K T ρ h H) : ∀ (n : Nat) (w : W) (v : V) (d : D), Mi.dataF n h w = some d → WR K ρ H w v → DpOk K H n v d
  | n, .non, _, d, e, r => by
    cases r
    have e : some D.non = some d := by cases n <;> exact e
    cases e
    exact ⟨.non, by simp [toPy, PyData.canLay0], by simp [toPy, PyData.depth]⟩
  | n, .bl b, _, d, e, r => by
    cases r
    have e : some (D.bl b) = some d := by cases n <;> exact e
    cases e
    exact ⟨.bl _, by simp [toPy, PyData.canLay0], by simp [toPy, PyData.depth]⟩
  | n, .int i, _, d, e, r => by
    cases r
    have e : some (D.int i) = some d := by cases n <;> exact e
    cases e
    exact ⟨.int _, by simp [toPy, PyData.canLay0], by simp [toPy, PyData.depth]⟩
  | n, .str s, _, d, e, r => by
    cases r
    have e : (if s.all (· < 1114112) then some (D.str s) else none) = some d := by cases n <;> exact e
    split at e
    · rename_i hs
      cases e
      refine ⟨.str _, ?_, by simp [toPy, PyData.depth]⟩
      simp only [toPy, PyData.canLay0, PyData.strOk]
      rw [← Array.all_toList]
      exact hs
    · cases e
  | 0, .tup ws, _, d, e, r => by cases e
  | 0, .ref k, _, d, e, r => by cases e
  | n + 1, .tup ws, _, d, e, r => by
    cases r with
    | tup ha hl ra =>
      have e : (Mi.mapO (Mi.dataF n h) ws).map D.tup = some d := e
      cases q : Mi.mapO (Mi.dataF n h) ws with
      | none => rw [q] at e; cases e
      | some ds =>
        rw [q] at e
        cases e
        have z := dps_of (dp_of R n) ws _ ds q ra
        exact ⟨.tup ha z.dp, by simp only [toPy, PyData.canLay0]; exact z.lay, by simp only [toPy, PyData.depth]; exact Nat.succ_le_succ z.dep⟩
  | n + 1, .ref k, _, d, e, r => by
    cases r with
    | ref ha =>
      have e : (match h[k]? with
        | some (.lst ws) => (Mi.mapO (Mi.dataF n h) ws).map D.lst
        | _ => none) = some d := e
      split at e
      · rename_i ws e1
        cases R.ob _ _ _ e1 ha with
        | lst q1 l1 s1 =>
          cases q : Mi.mapO (Mi.dataF n h) ws with
          | none => rw [q] at e; cases e
          | some ds =>
            rw [q] at e
            cases e
            have z := dps_of (dp_of R n) ws _ ds q s1
            exact ⟨.lst (.inl (.inl q1)) z.dp, by simp only [toPy, PyData.canLay0]; exact z.lay, by simp only [toPy, PyData.depth]; exact Nat.succ_le_succ z.dep⟩
      · cases e
theorem DpOk.shaped {v : V} {d : D} (x : DpOk K H 64 v d) : SeqAt.shaped (toPy d) = true := by
  unfold SeqAt.shaped
  rw [x.lay, decide_eq_true x.dep]
  rfl
theorem WR.refs_inj (R : RelH K T ρ h H) {i j : Nat} {a : Addr} (e1 : ρ[i]? = some a) (e2 : ρ[j]? = some a) : i = j := nodup_idx R.nd e1 e2
end

/-! ### scalars -/
theorem scal_ok {K : PySem.W.Frag} {ρ : List Addr} {H : Hp} {a b : W} {v u : V} (wa : WR K ρ H a v) (wb : WR K ρ H b u) (e : Mi.scal a b = true) : L2.scal v u = true ∧ (a == b) = decide (v = u) := by
  cases wa <;> cases wb <;> first
    | (exfalso; revert e; simp [Mi.scal]; done)
    | (refine ⟨rfl, ?_⟩
       rw [Bool.eq_iff_iff]
       simp [tx_iff]
       done)

section
variable {X : Cx} {G : Gv}
theorem opr_eq (hK : X.K = G.K) (hu : X.A.units + 64 < cLine) : OpR X (compareOp .Eq) (rSim G fun a b h => Mi.liftO ((Mi.cmpV .eq h a b).map .bl) h) := by
  intro pins s σ H x y v u Q I rx ry h
  obtain ⟨ρ, hh, a, b, R, wa, wb, o⟩ := h
  obtain ⟨z, e0, o1⟩ := liftO_out o
  clear o
  obtain ⟨t, e, e9⟩ := Option.map_eq_some_iff.mp e0
  clear e0
  subst e9
  have o := o1
  clear o1
  have e : (if Mi.scal a b then some (a == b) else match Mi.dataF 64 hh a, Mi.dataF 64 hh b with
    | some d, some e => some (D.eqv d e)
    | _, _ => none) = some t := e
  split at e
  · rename_i hs
    obtain ⟨h1, h2⟩ := scal_ok wa wb hs
    have e := Option.some.inj e
    subst e
    exact op_eq pins s σ H _ _ _ _ Q I rx ry ⟨h1, by rw [← h2]; exact ok_out R (.bl _) o⟩
  · split at e
    · rename_i d d' e1 e2
      have e := Option.some.inj e
      subst e
      have z1 := dp_of R _ _ _ _ e1 wa
      have z2 := dp_of R _ _ _ _ e2 wb
      exact op_eqD hu pins s σ H _ _ _ _ Q I rx ry ⟨_, _, by rw [hK]; exact z1.dp, by rw [hK]; exact z2.dp, z1.shaped, z2.shaped, by rw [eqv_py]; exact ok_out R (.bl _) o⟩
    · cases e
theorem opr_ne (hK : X.K = G.K) (hu : X.A.units + 64 < cLine) : OpR X (compareOp .NotEq) (rSim G fun a b h => Mi.liftO ((Mi.cmpV .ne h a b).map .bl) h) := by
  intro pins s σ H x y v u Q I rx ry h
  obtain ⟨ρ, hh, a, b, R, wa, wb, o⟩ := h
  obtain ⟨z, e0, o1⟩ := liftO_out o
  clear o
  obtain ⟨t, e, e9⟩ := Option.map_eq_some_iff.mp e0
  clear e0
  subst e9
  have o := o1
  clear o1
  obtain ⟨t2, e2, e9⟩ := Option.map_eq_some_iff.mp (show (Mi.eqV hh a b).map (!·) = some t from e)
  subst e9
  have e : (if Mi.scal a b then some (a == b) else match Mi.dataF 64 hh a, Mi.dataF 64 hh b with
    | some d, some e => some (D.eqv d e)
    | _, _ => none) = some t2 := e2
  split at e
  · rename_i hs
    obtain ⟨h1, h2⟩ := scal_ok wa wb hs
    have e := Option.some.inj e
    subst e
    exact op_ne pins s σ H _ _ _ _ Q I rx ry ⟨h1, by rw [← h2]; exact ok_out R (.bl _) o⟩
  · split at e
    · rename_i d d' q1 q2
      have e := Option.some.inj e
      subst e
      have z1 := dp_of R _ _ _ _ q1 wa
      have z2 := dp_of R _ _ _ _ q2 wb
      exact op_neD hu pins s σ H _ _ _ _ Q I rx ry ⟨_, _, by rw [hK]; exact z1.dp, by rw [hK]; exact z2.dp, z1.shaped, z2.shaped, by rw [eqv_py]; exact ok_out R (.bl _) o⟩
    · cases e
theorem ltTx_eq : ∀ a b : List Nat, Mi.ltTx a b = decide (a < b)
  | [], [] => by simp [Mi.ltTx]
  | [], _ :: _ => by simp [Mi.ltTx]
  | _ :: _, [] => by simp [Mi.ltTx]
  | a :: r, b :: t => by
    simp only [Mi.ltTx, ltTx_eq r t, List.cons_lt_cons_iff]
    rw [Bool.eq_iff_iff]
    simp
theorem opr_lt : OpR X (compareOp .Lt) (rSim G fun a b h => Mi.liftO ((Mi.cmpV .lt h a b).map .bl) h) := by
  intro pins s σ H x y v u Q I rx ry h
  obtain ⟨ρ, hh, a, b, R, wa, wb, o⟩ := h
  obtain ⟨z, e0, o1⟩ := liftO_out o
  clear o
  obtain ⟨t, e, e9⟩ := Option.map_eq_some_iff.mp e0
  clear e0
  subst e9
  have o := o1
  clear o1
  have e : Mi.ltV a b = some t := e
  cases wa with
  | int i => cases wb with
    | int j =>
      cases e
      exact op_lt pins s σ H _ _ _ _ Q I rx ry ⟨_, _, rfl, rfl, ok_out R (.bl _) o⟩
    | _ => cases e
  | str i => cases wb with
    | str j =>
      cases e
      rw [ltTx_eq] at o
      exact op_lt_str pins s σ H _ _ _ _ Q I rx ry ⟨_, _, rfl, rfl, ok_out R (.bl _) o⟩
    | _ => cases e
  | _ => cases wb <;> cases e
theorem opr_gt : OpR X (compareOp .Gt) (rSim G fun a b h => Mi.liftO ((Mi.cmpV .gt h a b).map .bl) h) := by
  intro pins s σ H x y v u Q I rx ry h
  obtain ⟨ρ, hh, a, b, R, wa, wb, o⟩ := h
  obtain ⟨z, e0, o1⟩ := liftO_out o
  clear o
  obtain ⟨t, e, e9⟩ := Option.map_eq_some_iff.mp e0
  clear e0
  subst e9
  have o := o1
  clear o1
  have e : Mi.ltV b a = some t := e
  cases wa with
  | int i => cases wb with
    | int j =>
      cases e
      exact op_gt pins s σ H _ _ _ _ Q I rx ry ⟨_, _, rfl, rfl, ok_out R (.bl _) o⟩
    | _ => cases e
  | str i => cases wb with
    | str j =>
      cases e
      rw [ltTx_eq] at o
      exact op_gt_str pins s σ H _ _ _ _ Q I rx ry ⟨_, _, rfl, rfl, ok_out R (.bl _) o⟩
    | _ => cases e
  | _ => cases wb <;> cases e
theorem opr_le : OpR X (compareOp .LtE) (rSim G fun a b h => Mi.liftO ((Mi.cmpV .le h a b).map .bl) h) := by
  intro pins s σ H x y v u Q I rx ry h
  obtain ⟨ρ, hh, a, b, R, wa, wb, o⟩ := h
  obtain ⟨z, e0, o1⟩ := liftO_out o
  clear o
  obtain ⟨t, e, e9⟩ := Option.map_eq_some_iff.mp e0
  clear e0
  subst e9
  have o := o1
  clear o1
  obtain ⟨t2, e2, e9⟩ := Option.map_eq_some_iff.mp (show (Mi.ltV b a).map (!·) = some t from e)
  subst e9
  cases wa with
  | int i => cases wb with
    | int j =>
      have e2 := Option.some.inj e2
      subst e2
      have q : (!decide (j < i)) = decide (i ≤ j) := by rw [Bool.eq_iff_iff]; simp
      rw [q] at o
      exact op_le pins s σ H _ _ _ _ Q I rx ry ⟨_, _, rfl, rfl, ok_out R (.bl _) o⟩
    | _ => cases e2
  | str i => cases wb with
    | str j =>
      have e2 := Option.some.inj e2
      subst e2
      rw [ltTx_eq] at o
      exact op_le_str pins s σ H _ _ _ _ Q I rx ry ⟨_, _, rfl, rfl, ok_out R (.bl _) o⟩
    | _ => cases e2
  | _ => cases wb <;> cases e2
theorem opr_ge : OpR X (compareOp .GtE) (rSim G fun a b h => Mi.liftO ((Mi.cmpV .ge h a b).map .bl) h) := by
  intro pins s σ H x y v u Q I rx ry h
  obtain ⟨ρ, hh, a, b, R, wa, wb, o⟩ := h
  obtain ⟨z, e0, o1⟩ := liftO_out o
  clear o
  obtain ⟨t, e, e9⟩ := Option.map_eq_some_iff.mp e0
  clear e0
  subst e9
  have o := o1
  clear o1
  obtain ⟨t2, e2, e9⟩ := Option.map_eq_some_iff.mp (show (Mi.ltV a b).map (!·) = some t from e)
  subst e9
  cases wa with
  | int i => cases wb with
    | int j =>
      have e2 := Option.some.inj e2
      subst e2
      have q : (!decide (i < j)) = decide (j ≤ i) := by rw [Bool.eq_iff_iff]; simp
      rw [q] at o
      exact op_ge pins s σ H _ _ _ _ Q I rx ry ⟨_, _, rfl, rfl, ok_out R (.bl _) o⟩
    | _ => cases e2
  | str i => cases wb with
    | str j =>
      have e2 := Option.some.inj e2
      subst e2
      rw [ltTx_eq] at o
      exact op_ge_str pins s σ H _ _ _ _ Q I rx ry ⟨_, _, rfl, rfl, ok_out R (.bl _) o⟩
    | _ => cases e2
  | _ => cases wb <;> cases e2
theorem isn_ok {K : PySem.W.Frag} {ρ : List Addr} {H : Hp} {a : W} {v : V} (wa : WR K ρ H a v) : (a == W.non) = decide (v = V.non) := by
  cases wa <;> (rw [Bool.eq_iff_iff]; simp)
theorem opr_is : OpR X (compareOp .Is) (rSim G fun a b h => Mi.liftO ((Mi.cmpV .is h a b).map .bl) h) := by
  intro pins s σ H x y v u Q I rx ry h
  obtain ⟨ρ, hh, a, b, R, wa, wb, o⟩ := h
  obtain ⟨z, e0, o1⟩ := liftO_out o
  clear o
  obtain ⟨t, e, e9⟩ := Option.map_eq_some_iff.mp e0
  clear e0
  subst e9
  have o := o1
  clear o1
  cases wb with
  | non =>
    have e := Option.some.inj (show some (a == W.non) = some t from e)
    subst e
    exact op_isN pins s σ H _ _ _ _ Q I rx ry ⟨rfl, by rw [← isn_ok wa]; exact ok_out R (.bl _) o⟩
  | _ => cases e
theorem opr_isnot : OpR X (compareOp .IsNot) (rSim G fun a b h => Mi.liftO ((Mi.cmpV .isnot h a b).map .bl) h) := by
  intro pins s σ H x y v u Q I rx ry h
  obtain ⟨ρ, hh, a, b, R, wa, wb, o⟩ := h
  obtain ⟨z, e0, o1⟩ := liftO_out o
  clear o
  obtain ⟨t, e, e9⟩ := Option.map_eq_some_iff.mp e0
  clear e0
  subst e9
  have o := o1
  clear o1
  cases wb with
  | non =>
    have e := Option.some.inj (show some (!(a == W.non)) = some t from e)
    subst e
    exact op_notN pins s σ H _ _ _ _ Q I rx ry ⟨rfl, by rw [← isn_ok wa]; exact ok_out R (.bl _) o⟩
  | _ => cases e
end
end MiS
end
section
set_option Elab.async false
set_option linter.all false
set_option maxRecDepth 100000
set_option maxHeartbeats 2000000
/-! x in c. -/
namespace MiS
open PySem L2
open Mi (W Ob Hs Fr R Rs Xc D)

theorem keyR_inj {a b : W} {k : Key} (h1 : keyR a = some k) (h2 : keyR b = some k) : a = b := by
  cases a <;> cases b <;> simp only [keyR, Option.some.injEq, reduceCtorEq] at h1 h2
  · rw [← h2] at h1; injection h1 with e; rw [e]
  · rw [← h2] at h1; cases h1
  · rw [← h2] at h1; cases h1
  · rw [← h2] at h1; injection h1 with e; rw [tx_inj e]
theorem keyR_iff {a b : W} {k l : Key} (h1 : keyR a = some k) (h2 : keyR b = some l) : (a == b) = decide (k = l) := by
  rw [Bool.eq_iff_iff, beq_iff_eq, decide_eq_true_iff]
  constructor
  · intro e
    subst e
    exact Option.some.inj (h1.symm.trans h2)
  · intro e
    subst e
    exact keyR_inj h1 h2
theorem keyR_ok {a : W} (h : Mi.keyOk a = true) : ∃ k, keyR a = some k := by
  cases a <;> first | exact ⟨_, rfl⟩ | cases h
theorem keyR_V {K : PySem.W.Frag} {ρ : List Addr} {H : Hp} {a : W} {v : V} {k : Key} (h : keyR a = some k) (r : WR K ρ H a v) : v = kV k := by
  cases r <;> simp only [keyR, Option.some.injEq, reduceCtorEq] at h
  · rw [← h]; rfl
  · rw [← h]; rfl
theorem kv_get {K : PySem.W.Frag} {ρ : List Addr} {H : Hp} {a : W} {k : Key} (ha : keyR a = some k) : ∀ {kvs : List (W × W)} {ks : List (Key × V)}, KvR K ρ H kvs ks →
    (∀ w, Mi.dget kvs a = some w → ∃ v, valV ks k = some v ∧ WR K ρ H w v) ∧ (Mi.dget kvs a = none → valV ks k = none)
  | _, _, .nil => ⟨fun w e => (by cases e), fun _ => rfl⟩
  | _, _, @KvR.cons _ _ _ b y k' x r t hk h rs => by
    have ih := kv_get ha rs
    have q := keyR_iff hk ha
    by_cases e : k' = k
    · have e1 : (b == a) = true := by rw [q]; exact decide_eq_true e
      have e2 : Mi.dget ((b, y) :: r) a = some y := by simp [Mi.dget, List.find?_cons, e1]
      have e3 : valV ((k', x) :: t) k = some x := valV_pos (p := (k', x)) e
      rw [e2, e3]
      exact ⟨fun w z => ⟨x, rfl, by cases z; exact h⟩, fun z => by cases z⟩
    · have e1 : (b == a) = false := by rw [q]; exact decide_eq_false e
      have e2 : Mi.dget ((b, y) :: r) a = Mi.dget r a := by simp [Mi.dget, List.find?_cons, e1]
      have e3 : valV ((k', x) :: t) k = valV t k := valV_neg (p := (k', x)) e
      rw [e2, e3]
      exact ih
theorem kv_some {K : PySem.W.Frag} {ρ : List Addr} {H : Hp} {a : W} {k : Key} (ha : keyR a = some k) {kvs : List (W × W)} {ks : List (Key × V)} (r : KvR K ρ H kvs ks) : (Mi.dget kvs a).isSome = (valV ks k).isSome := by
  obtain ⟨h1, h2⟩ := kv_get ha r
  cases e : Mi.dget kvs a with
  | none => rw [h2 e]; rfl
  | some w =>
    obtain ⟨v, e1, _⟩ := h1 w e
    rw [e1]; rfl
theorem flat_ok {K : PySem.W.Frag} {ρ : List Addr} {H : Hp} {a : W} {v : V} (r : WR K ρ H a v) (e : Mi.flat a = true) : flatV v = true := by
  cases r <;> first | rfl | cases e
theorem flats_ok {K : PySem.W.Frag} {ρ : List Addr} {H : Hp} : ∀ {ws : List W} {vs : List V}, WRs K ρ H ws vs → ws.all Mi.flat = true → vs.all flatV = true
  | _, _, .nil, _ => rfl
  | _, _, .cons h r, e => by
    simp only [List.all_cons, Bool.and_eq_true] at e ⊢
    exact ⟨flat_ok h e.1, flats_ok r e.2⟩
theorem eqFl_ok {K : PySem.W.Frag} {ρ : List Addr} {H : Hp} {a b : W} {v u : V} (ra : WR K ρ H a v) (rb : WR K ρ H b u) : L2.eqV v u = Mi.eqFl a b := by
  cases ra <;> cases rb <;> first
    | rfl
    | (simp only [L2.eqV, Mi.eqFl]; exact beq_tx _ _)
theorem anyFl_ok {K : PySem.W.Frag} {ρ : List Addr} {H : Hp} {a : W} {v : V} (ra : WR K ρ H a v) : ∀ {ws : List W} {vs : List V}, WRs K ρ H ws vs → L2.inV v vs = ws.any fun y => Mi.eqFl y a
  | _, _, .nil => rfl
  | _, _, .cons h r => by
    have ih := anyFl_ok ra r
    unfold L2.inV at ih ⊢
    rw [List.any_cons, List.any_cons, ih, eqFl_ok h ra]
theorem any_py (d : D) : ∀ ds : List D, ((toPys ds).any fun z => PyData.eqv z (toPy d)) = ds.any fun e => D.eqv e d
  | [] => rfl
  | e :: ds => by rw [toPys, List.any_cons, List.any_cons, any_py d ds, eqv_py]
theorem items_ok {K : PySem.W.Frag} {T : List (Addr × Str)} {ρ : List Addr} {H : Hp} {h : Hs} (R : RelH K T ρ h H) {a : W} {v : V} {ws : List W} (r : WR K ρ H a v) (e : Mi.items h a = some ws) :
    ∃ p xs, v = .ref p ∧ WRs K ρ H ws xs ∧ ws.length ≤ sizeLine ∧ ((∃ n, a = .ref n ∧ h[n]? = some (.lst ws) ∧ H p = some (.lst xs) ∧ ρ[n]? = some p) ∨ (a = .tup ws ∧ SqT K H p xs)) := by
  cases r with
  | @tup ws' p xs ha hl ra =>
    cases e
    exact ⟨p, xs, rfl, ra, hl, .inr ⟨rfl, ha⟩⟩
  | @ref n p ha =>
    have e : (match h[n]? with
      | some (.lst ws) => some ws
      | _ => none) = some ws := e
    split at e
    · rename_i e1
      cases e
      cases R.ob _ _ _ e1 ha with
      | lst q1 l1 s1 => exact ⟨p, _, rfl, s1, l1, .inl ⟨n, rfl, e1, q1, ha⟩⟩
    · cases e
  | _ => cases e

theorem inV_str {h : Hs} {t : Bool} {c t' : List Nat} (e : Mi.inV h (.str c) (.str t') = some t) : ∃ n, c = [n] ∧ t'.contains n = t := by
  match c, e with
  | [], e => cases e
  | [n], e => exact ⟨n, rfl, Option.some.inj e⟩
  | _ :: _ :: _, e => cases e
section
variable {X : Cx} {G : Gv}
/-- what in and not in answer, by the two rules -/
theorem in_core (hK : X.K = G.K) (hu : X.A.units + 65 < cLine) (neg : Bool) {pins : List (Addr × Obj)} {s : Shared} {σ : L2.St} {H : Hp} {x y : V} {v u : Value} {Q : VK} {ρ : List Addr} {hh : Hs} {a b : W} {t : Bool}
    (I : L2.Inv X pins σ H s) (rx : RelV x v) (ry : RelV y u) (R : RelH G.K G.T ρ hh H) (wa : WR G.K ρ H a x) (wb : WR G.K ρ H b y) (e : Mi.inV hh a b = some t) (q : Q (.bl (if neg then !t else t)) H) :
    wpAny (model X.prog X.w) X.A (compareOp (if neg then .NotIn else .In) v u) (EP X pins σ Q) X.xe s := by
  have seqs : Mi.inSeq hh a b = some t → wpAny (model X.prog X.w) X.A (compareOp (if neg then .NotIn else .In) v u) (EP X pins σ Q) X.xe s := by
    intro e
    unfold Mi.inSeq at e
    split at e
    · cases e
    · rename_i ws ei
      obtain ⟨p, xs, rfl, rs, hl, hc⟩ := items_ok R wb ei
      split at e
      · rename_i hf
        simp only [Bool.and_eq_true] at hf
        have e := Option.some.inj e
        subst e
        have hs : SqL X.K H p xs ∨ SqT X.K H p xs := by
          rcases hc with ⟨n, _, _, h1, _⟩ | ⟨_, h1⟩
          · exact .inl (.inl (.inl h1))
          · exact .inr (by rw [hK]; exact h1)
        rw [← anyFl_ok wa rs] at q
        cases neg with
        | true => exact op_notIn_seq pins s σ H _ _ _ _ Q I rx ry ⟨p, xs, rfl, hs, flat_ok wa hf.1, flats_ok rs hf.2, q⟩
        | false => exact op_in_seq pins s σ H _ _ _ _ Q I rx ry ⟨p, xs, rfl, hs, flat_ok wa hf.1, flats_ok rs hf.2, q⟩
      · split at e
        · split at e
          · rename_i d ds e1 e2
            have e := Option.some.inj e
            subst e
            rcases hc with ⟨n, _, _, h1, _⟩ | ⟨h1, _⟩
            · have z1 := dp_of R _ _ _ _ e1 wa
              have z2 := dps_of (dp_of R 63) _ _ _ e2 rs
              have sh : SeqAt.shaped (.list (toPys ds)) = true := by
                unfold SeqAt.shaped
                rw [show PyData.canLay0 (.list (toPys ds)) = true by simp only [PyData.canLay0]; exact z2.lay]
                rw [show PyData.depth (.list (toPys ds)) = PyData.depthAll (toPys ds) + 1 by simp only [PyData.depth]]
                rw [decide_eq_true (Nat.succ_le_succ z2.dep)]
                rfl
              rw [← any_py] at q
              have dl : Dp X.K H (.ref p) (.list (toPys ds)) := .lst (.inl (.inl h1)) (by rw [hK]; exact z2.dp)
              cases neg with
              | true => exact op_notInD hu pins s σ H _ _ _ _ Q I rx ry ⟨_, _, by rw [hK]; exact z1.dp, dl, z1.shaped, sh, q⟩
              | false => exact op_inD hu pins s σ H _ _ _ _ Q I rx ry ⟨_, _, by rw [hK]; exact z1.dp, dl, z1.shaped, sh, q⟩
            · cases h1
          · cases e
        · cases e
  cases wb with
  | str t' =>
    cases wa with
    | str c =>
      obtain ⟨n, rfl, rfl⟩ := inV_str e
      have hm : t'.contains n = decide (n ∈ (tx t').cps.toList) := by
        rw [Bool.eq_iff_iff]
        simp
      rw [hm] at q
      cases neg with
      | true => exact op_notIn_sign pins s σ H _ _ _ _ Q I rx ry ⟨n, tx t', rfl, rfl, q⟩
      | false => exact op_in_sign pins s σ H _ _ _ _ Q I rx ry ⟨n, tx t', rfl, rfl, q⟩
    | _ => cases e
  | tup ha hl ra => exact seqs e
  | @ref k p hk =>
    have e : (match hh[k]? with
      | some (.dic kvs) => if Mi.keyOk a then some (Mi.dget kvs a).isSome else none
      | some (.lst _) => Mi.inSeq hh a (.ref k)
      | _ => none) = some t := e
    split at e
    · rename_i kvs e1
      split at e
      · rename_i ek
        have e := Option.some.inj e
        subst e
        cases R.ob _ _ _ e1 hk with
        | @dic _ ks hd rd =>
          obtain ⟨k', hk'⟩ := keyR_ok ek
          have hx := keyR_V hk' wa
          subst hx
          rw [kv_some hk' rd] at q
          have ru : u = Value.ref p := ry
          subst ru
          cases neg with
          | true => exact d_notIn (by omega) I (DGet.k hd) rx fun s3 I3 => ⟨.bl _, H, I3, rfl, q⟩
          | false => exact d_in (by omega) I (DGet.k hd) rx fun s3 I3 => ⟨.bl _, H, I3, rfl, q⟩
      · cases e
    · exact seqs e
    · cases e
  | _ => cases e
theorem opr_in (hK : X.K = G.K) (hu : X.A.units + 65 < cLine) : OpR X (compareOp .In) (rSim G fun a b h => Mi.liftO ((Mi.cmpV .isin h a b).map .bl) h) := by
  intro pins s σ H x y v u Q I rx ry h
  obtain ⟨ρ, hh, a, b, R, wa, wb, o⟩ := h
  obtain ⟨z, e0, o1⟩ := liftO_out o
  obtain ⟨t, e, e9⟩ := Option.map_eq_some_iff.mp e0
  subst e9
  exact in_core hK hu false I rx ry R wa wb e (ok_out R (.bl _) o1)
theorem opr_notin (hK : X.K = G.K) (hu : X.A.units + 65 < cLine) : OpR X (compareOp .NotIn) (rSim G fun a b h => Mi.liftO ((Mi.cmpV .notin h a b).map .bl) h) := by
  intro pins s σ H x y v u Q I rx ry h
  obtain ⟨ρ, hh, a, b, R, wa, wb, o⟩ := h
  obtain ⟨z, e0, o1⟩ := liftO_out o
  obtain ⟨t, e, e9⟩ := Option.map_eq_some_iff.mp e0
  subst e9
  obtain ⟨t2, e2, e9⟩ := Option.map_eq_some_iff.mp (show (Mi.inV hh a b).map (!·) = some t from e)
  subst e9
  exact in_core hK hu true I rx ry R wa wb e2 (ok_out R (.bl _) o1)
end
end MiS
end
section
set_option Elab.async false
set_option linter.all false
set_option maxRecDepth 100000
set_option maxHeartbeats 2000000
/-! Truth, built-in functions. -/
namespace MiS
open PySem L2
open Mi (W Ob Hs Fr R Rs Xc D)

section
variable {K : PySem.W.Frag} {T : List (Addr × Str)} {ρ : List Addr} {H : Hp} {h : Hs}
theorem isEmpty_len {α β : Type} {l : List α} {m : List β} (e : l.length = m.length) : l.isEmpty = m.isEmpty := by
  cases l <;> cases m <;> first | rfl | simp at e
theorem KvR.length : ∀ {kvs : List (W × W)} {ks : List (Key × V)}, KvR K ρ H kvs ks → kvs.length = ks.length
  | _, _, .nil => rfl
  | _, _, .cons _ _ r => by rw [List.length_cons, List.length_cons, r.length]
theorem truth_ok (R : RelH K T ρ h H) {w : W} {v : V} {t : Bool} (r : WR K ρ H w v) (e : Mi.truth h w = some t) : TruV K v H t := by
  cases r with
  | non => cases e; rfl
  | bl b => cases e; rfl
  | int i => cases e; rfl
  | str s =>
    have e : (if s.length ≤ Mi.lineW then some (!s.isEmpty) else none) = some t := e
    split at e
    · rename_i hl
      cases e
      refine ⟨by rw [tx_len]; exact le_line hl, ?_⟩
      rw [tx_len]
      cases s with
      | nil => rfl
      | cons a l =>
        symm
        show (((l.length + 1 : Nat) : Int) != 0) = true
        rw [bne_iff_ne]
        omega
    · cases e
  | tup ha hl ra =>
    cases e
    exact .inr (.inl ⟨_, ha, by rw [isEmpty_len ra.length]⟩)
  | @ref n a ha =>
    have e : (match h[n]? with
      | some (.lst ws) => some (!ws.isEmpty)
      | some (.dic kvs) => some (!kvs.isEmpty)
      | _ => none) = some t := e
    split at e
    · rename_i e1
      cases e
      cases R.ob _ _ _ e1 ha with
      | lst q l s => exact .inl ⟨_, .inl (.inl q), by rw [isEmpty_len s.length]⟩
    · rename_i e1
      cases e
      cases R.ob _ _ _ e1 ha with
      | dic q s => exact .inr (.inr ⟨_, q, by rw [isEmpty_len s.length]⟩)
    · cases e
theorem WRs.one {w : W} {vs : List V} (r : WRs K ρ H [w] vs) : ∃ v, vs = [v] ∧ WR K ρ H w v := by
  cases r with
  | cons h r => cases r; exact ⟨_, rfl, h⟩
theorem bools_ok : ∀ {ws : List W} {vs : List V} {bs : List Bool}, WRs K ρ H ws vs → Mi.bools ws = some bs → vs = bs.map V.bl
  | [], _, _, .nil, e => by cases e; rfl
  | .bl b :: r, _, bs, .cons h t, e => by
    cases h
    obtain ⟨cs, e1, rfl⟩ := Option.map_eq_some_iff.mp (show (Mi.bools r).map (b :: ·) = some bs from e)
    rw [bools_ok t e1]; rfl
theorem ints_ok : ∀ {ws : List W} {vs : List V} {bs : List Int}, WRs K ρ H ws vs → Mi.intsW ws = some bs → vs = bs.map V.int
  | [], _, _, .nil, e => by cases e; rfl
  | .int b :: r, _, bs, .cons h t, e => by
    cases h
    obtain ⟨cs, e1, rfl⟩ := Option.map_eq_some_iff.mp (show (Mi.intsW r).map (b :: ·) = some bs from e)
    rw [ints_ok t e1]; rfl
theorem strs_ok : ∀ {ws : List W} {vs : List V} {bs : List (List Nat)}, WRs K ρ H ws vs → Mi.strsW ws = some bs → vs = (bs.map tx).map V.str
  | [], _, _, .nil, e => by cases e; rfl
  | .str b :: r, _, bs, .cons h t, e => by
    cases h
    obtain ⟨cs, e1, rfl⟩ := Option.map_eq_some_iff.mp (show (Mi.strsW r).map (b :: ·) = some bs from e)
    rw [strs_ok t e1]; rfl
theorem wrs_strs : ∀ bs : List (List Nat), WRs K ρ H (bs.map W.str) ((bs.map tx).map V.str)
  | [] => .nil
  | b :: bs => .cons (.str b) (wrs_strs bs)
theorem strs_len : ∀ {ws : List W} {bs : List (List Nat)}, Mi.strsW ws = some bs → bs.length = ws.length
  | [], _, e => by cases e; rfl
  | .str b :: r, bs, e => by
    obtain ⟨cs, e1, rfl⟩ := Option.map_eq_some_iff.mp (show (Mi.strsW r).map (b :: ·) = some bs from e)
    rw [List.length_cons, List.length_cons, strs_len e1]
end

/-! ### sorting texts -/
theorem ltTx_irr (a : List Nat) : Mi.ltTx a a = false := by rw [ltTx_eq]; exact decide_eq_false (List.lt_irrefl a)
theorem ltTx_asymm {a b : List Nat} (h : Mi.ltTx a b = true) : Mi.ltTx b a = false := by
  rw [ltTx_eq] at h ⊢
  exact decide_eq_false (List.lt_asymm (of_decide_eq_true h))
theorem ltTx_anti {a b : List Nat} (h1 : Mi.ltTx a b = false) (h2 : Mi.ltTx b a = false) : a = b := by
  rw [ltTx_eq] at h1 h2
  exact List.le_antisymm (of_decide_eq_false h2) (of_decide_eq_false h1)
theorem geTx_trans {a b c : List Nat} (h1 : Mi.ltTx b a = false) (h2 : Mi.ltTx c b = false) : Mi.ltTx c a = false := by
  rw [ltTx_eq] at h1 h2 ⊢
  exact decide_eq_false (List.le_trans (of_decide_eq_false h1 : a ≤ b) (of_decide_eq_false h2 : b ≤ c))
theorem insT_perm (x : List Nat) : ∀ l, (Mi.insT x l).Perm (x :: l)
  | [] => .refl _
  | y :: r => by
    unfold Mi.insT
    split
    · exact ((insT_perm x r).cons y).trans (.swap _ _ _)
    · exact .refl _
theorem sortT_perm : ∀ l, (Mi.sortT l).Perm l
  | [] => .refl _
  | x :: r => (insT_perm x _).trans ((sortT_perm r).cons x)
abbrev UpT (l : List (List Nat)) : Prop := l.Pairwise fun a b => Mi.ltTx b a = false
theorem insT_up (x : List Nat) : ∀ l, UpT l → UpT (Mi.insT x l)
  | [], _ => List.pairwise_singleton _ _
  | y :: r, h => by
    unfold Mi.insT
    have h1 := List.pairwise_cons.mp h
    split
    · rename_i hlt
      refine List.pairwise_cons.mpr ⟨fun z hz => ?_, insT_up x r h1.2⟩
      rcases List.mem_cons.mp ((insT_perm x r).mem_iff.mp hz) with e | e
      · rw [e]; exact ltTx_asymm hlt
      · exact h1.1 z e
    · rename_i hlt
      have hyx : Mi.ltTx y x = false := by simpa using hlt
      refine List.pairwise_cons.mpr ⟨fun z hz => ?_, h⟩
      rcases List.mem_cons.mp hz with e | e
      · rw [e]; exact hyx
      · exact geTx_trans hyx (h1.1 z e)
theorem sortT_up : ∀ l, UpT (Mi.sortT l)
  | [] => List.Pairwise.nil
  | x :: r => insT_up x _ (sortT_up r)
theorem ltCps_eq : ∀ a b : List Nat, PySem.Spec.ltCps a b = Mi.ltTx a b
  | [], [] => rfl
  | [], _ :: _ => rfl
  | _ :: _, [] => rfl
  | a :: r, b :: t => by simp only [PySem.Spec.ltCps, Mi.ltTx, ltCps_eq r t]
theorem rising_up : ∀ (l : List Str) (p : Str), PyProof.Rows.risingS p l = true → UpT ((p :: l).map (·.cps.toList))
  | [], p, _ => List.pairwise_singleton _ _
  | x :: r, p, h => by
    simp only [PyProof.Rows.risingS, Bool.and_eq_true, Bool.not_eq_true', ltCps_eq] at h
    have ih := rising_up r x h.2
    refine List.pairwise_cons.mpr ⟨fun z hz => ?_, ih⟩
    have i2 := (List.pairwise_cons.mp ih).1
    rcases List.mem_cons.mp hz with e | e
    · rw [e]; exact h.1
    · exact geTx_trans h.1 (i2 z e)
theorem sortT_the {xs : List (List Nat)} {ys : List Str} (p : ys.Perm (xs.map tx)) (u : PyProof.Rows.sortedS ys = true) : ys = (Mi.sortT xs).map tx := by
  have u2 : UpT (ys.map (·.cps.toList)) := by
    cases ys with
    | nil => exact List.Pairwise.nil
    | cons y r => exact rising_up r y u
  have p2 : (ys.map (·.cps.toList)).Perm xs := by
    have q := p.map (·.cps.toList)
    rw [List.map_map] at q
    have e : xs.map ((·.cps.toList) ∘ tx) = xs := by
      rw [show ((fun x : Str => x.cps.toList) ∘ tx) = id from rfl, List.map_id]
    rw [e] at q
    exact q
  have e := List.Perm.eq_of_pairwise (l₁ := ys.map (·.cps.toList)) (l₂ := Mi.sortT xs) (le := fun a b => Mi.ltTx b a = false) (fun a b _ _ h1 h2 => ltTx_anti h2 h1) u2 (sortT_up xs) (p2.trans (sortT_perm xs).symm)
  rw [← e, List.map_map]
  rw [show (tx ∘ fun x : Str => x.cps.toList) = id from funext fun x => SX.S_tl x, List.map_id]

/-! ### calls of built-in functions -/
def cSim (G : Gv) (k : List W → Hs → R W) : List V → Hp → VK → Prop := fun vs H Q => ∃ (ρ : List Addr) (h : Hs) (ws : List W), RelH G.K G.T ρ h H ∧ WRs G.K ρ H ws vs ∧ OutE G (RE G) ρ H (k ws h) Q noE
section
variable {X : Cx} {G : Gv}
theorem bi_one {b : Mi.Bi} {ρ : List Addr} {H : Hp} {h : Hs} {Q : VK} {ws : List W} {vs : List V} (r : WRs G.K ρ H ws vs) (o : OutE G (RE G) ρ H (Mi.biV b ws h) Q noE) : ∃ w v, ws = [w] ∧ vs = [v] ∧ WR G.K ρ H w v := by
  match ws, r, o with
  | [], _, o => cases b <;> exact (show False from o).elim
  | [w], r, _ =>
    obtain ⟨v, e, r⟩ := r.one
    exact ⟨w, v, rfl, e, r⟩
  | a :: _ :: _, _, o => cases b <;> cases a <;> exact (show False from o).elim
theorem callr_len (hK : X.K = G.K) : CallR X (.builtin "len") (cSim G (Mi.biV .len)) := by
  intro pins s σ H xs us Q I r ⟨ρ, h, ws, R, wr, o⟩
  obtain ⟨w, v, rfl, rfl, wv⟩ := bi_one wr o
  obtain ⟨z, e0, o1⟩ := liftO_out (show OutE G (RE G) ρ H (Mi.liftO ((Mi.lenV h w).map fun (n : Nat) => W.int (n : Int)) h) Q noE from o)
  obtain ⟨n, e, e9⟩ := Option.map_eq_some_iff.mp e0
  subst e9
  have q := ok_out R (.int _) o1
  have gen : LenV X.K v H n → wpAny (model X.prog X.w) X.A (call (.builtin "len") us) (EP X pins σ Q) X.xe s := fun l => call_len pins s σ H _ _ Q I r ⟨v, n, rfl, l, q⟩
  cases wv with
  | str x =>
    have e : (if x.length ≤ Mi.lineW then some x.length else none) = some n := e
    split at e
    · rename_i hl
      cases e
      exact gen ⟨by rw [tx_len]; exact le_line hl, (tx_len _).symm⟩
    · cases e
  | tup ha hl ra =>
    cases e
    exact gen (.inr ⟨_, by rw [hK]; exact ha, ra.length⟩)
  | @ref k a ha =>
    have e : (match h[k]? with
      | some (.lst ws) => some ws.length
      | some (.dic kvs) => some kvs.length
      | _ => none) = some n := e
    split at e
    · rename_i e1
      cases e
      cases R.ob _ _ _ e1 ha with
      | lst q1 l1 s1 => exact gen (.inl ⟨_, .inl (.inl q1), s1.length⟩)
    · rename_i e1
      cases e
      cases R.ob _ _ _ e1 ha with
      | dic q1 s1 => exact call_lenD pins s σ H _ _ Q I r ⟨a, _, rfl, q1, by rw [← s1.length]; exact q⟩
    · cases e
  | _ => cases e
theorem callr_int : CallR X (.type "int") (cSim G (Mi.biV .int)) := by
  intro pins s σ H xs us Q I r ⟨ρ, h, ws, R, wr, o⟩
  obtain ⟨w, v, rfl, rfl, wv⟩ := bi_one wr o
  cases wv with
  | int i => exact call_int1 pins s σ H _ _ Q I r (.inl ⟨i, rfl, ok_out R (.int _) o⟩)
  | bl b => exact call_int1 pins s σ H _ _ Q I r (.inr ⟨b, rfl, ok_out R (.int _) o⟩)
  | str x =>
    obtain ⟨c, o⟩ := okIf_out o
    rw [Bool.and_eq_true] at c
    have c1 := of_decide_eq_true c.1
    have hd : PySem.NumText.AllDigits (tx x).cps.toList := fun c' hc => by
      have := List.all_eq_true.mp c.2 c' hc
      simpa using this
    have hne : (tx x).cps.toList ≠ [] := fun e => by
      have e : x = [] := e
      rw [e] at c1
      exact absurd c1.1 (Nat.lt_irrefl _)
    refine call_int_str pins s σ H _ _ Q I r ⟨tx x, _, rfl, intText_digits hd hne (by rw [tx_len]; omega), by rw [tx_len]; exact c1.2, ?_⟩
    exact ok_out R (.int _) o
  | _ => exact (show False from o).elim
theorem natTx_ok (m : Nat) : PySem.Str.ofString (toString ((m : Nat) : Int)) = tx (Mi.natTx m) := by
  refine TL.ext_tl ?_
  exact PySem.W.KIN.signs_num m
theorem callr_str : CallR X (.type "str") (cSim G (Mi.biV .str)) := by
  intro pins s σ H xs us Q I r ⟨ρ, h, ws, R, wr, o⟩
  obtain ⟨w, v, rfl, rfl, wv⟩ := bi_one wr o
  cases wv with
  | int i =>
    obtain ⟨c, o⟩ := okIf_out o
    have c := of_decide_eq_true c
    obtain ⟨m, rfl⟩ := Int.eq_ofNat_of_zero_le c.1
    refine call_str_int pins s σ H _ _ Q I r ⟨(m : Int), rfl, ?_, ?_⟩
    · have h2 : m < 2 ^ 200 := by have := c.2; exact_mod_cast this
      have : ((m : Int).natAbs).log2 < 200 := PySem.Flt.log2_lt_of (by decide) (by simpa using h2)
      omega
    · have e := natTx_ok m
      have q := ok_out R (.str _) o
      rw [Int.toNat_natCast] at q
      rw [← e] at q
      exact q
  | _ => exact (show False from o).elim
theorem callr_tuple (hK : X.K = G.K) : CallR X (.type "tuple") (cSim G (Mi.biV .tuple)) := by
  intro pins s σ H xs us Q I r ⟨ρ, h, ws, R, wr, o⟩
  obtain ⟨w, v, rfl, rfl, wv⟩ := bi_one wr o
  have o2 : OutE G (RE G) ρ H (match Mi.items h w with
    | some ws => .ok (.tup ws) h
    | none => .stk) Q noE := o
  clear o
  split at o2
  · rename_i ws ei
    have o := o2
    clear o2
    obtain ⟨p, xs, rfl, rs, hl, hc⟩ := items_ok R wv ei
    rcases hc with ⟨n, rfl, _, h1, _⟩ | ⟨rfl, h1⟩
    · exact call_tuple_of pins s σ H _ _ Q I r ⟨p, xs, rfl, .inl ⟨.inl (.inl h1), fun l n => tup_out R rs hl o l n⟩⟩
    · exact call_tuple_of pins s σ H _ _ Q I r ⟨p, xs, rfl, .inr ⟨by rw [hK]; exact h1, ok_out R (.tup h1 hl rs) o⟩⟩
  · exact (show False from o2).elim
theorem callr_all (hc : X.calm = true) : CallR X (.builtin "all") (cSim G (Mi.biV .all)) := by
  intro pins s σ H xs us Q I r ⟨ρ, h, ws, R, wr, o⟩
  obtain ⟨w, v, rfl, rfl, wv⟩ := bi_one wr o
  cases wv with
  | @ref k a ha =>
    have o : OutE G (RE G) ρ H (match h[k]? with
      | some (.lst ws) => match Mi.bools ws with
        | some bs => .ok (.bl (bs.all id)) h
        | none => .stk
      | _ => .stk) Q noE := o
    split at o
    · rename_i e1
      split at o
      · rename_i bs e2
        cases R.ob _ _ _ e1 ha with
        | lst q1 l1 s1 => exact cr_all hc pins s σ H _ _ Q I r ⟨a, bs, rfl, .inl (.inl (by rw [← bools_ok s1 e2]; exact q1)), ok_out R (.bl _) o⟩
      · exact (show False from o).elim
    · exact (show False from o).elim
  | _ => exact (show False from o).elim
theorem callr_any (hc : X.calm = true) : CallR X (.builtin "any") (cSim G (Mi.biV .any)) := by
  intro pins s σ H xs us Q I r ⟨ρ, h, ws, R, wr, o⟩
  obtain ⟨w, v, rfl, rfl, wv⟩ := bi_one wr o
  cases wv with
  | @ref k a ha =>
    have o : OutE G (RE G) ρ H (match h[k]? with
      | some (.lst ws) => match Mi.bools ws with
        | some bs => .ok (.bl (bs.any id)) h
        | none => .stk
      | _ => .stk) Q noE := o
    split at o
    · rename_i e1
      split at o
      · rename_i bs e2
        cases R.ob _ _ _ e1 ha with
        | lst q1 l1 s1 => exact cr_any hc pins s σ H _ _ Q I r ⟨a, bs, rfl, .inl (.inl (by rw [← bools_ok s1 e2]; exact q1)), ok_out R (.bl _) o⟩
      · exact (show False from o).elim
    · exact (show False from o).elim
  | _ => exact (show False from o).elim
theorem callr_sum (hc : X.calm = true) : CallR X (.builtin "sum") (cSim G (Mi.biV .sum)) := by
  intro pins s σ H xs us Q I r ⟨ρ, h, ws, R, wr, o⟩
  obtain ⟨w, v, rfl, rfl, wv⟩ := bi_one wr o
  cases wv with
  | @ref k a ha =>
    have o : OutE G (RE G) ρ H (match h[k]? with
      | some (.lst ws) => match Mi.intsW ws with
        | some bs => .ok (.int bs.sum) h
        | none => .stk
      | _ => .stk) Q noE := o
    split at o
    · rename_i e1
      split at o
      · rename_i bs e2
        cases R.ob _ _ _ e1 ha with
        | lst q1 l1 s1 => exact cr_sum hc pins s σ H _ _ Q I r ⟨a, bs, rfl, .inl (.inl (by rw [← ints_ok s1 e2]; exact q1)), ok_out R (.int _) o⟩
      · exact (show False from o).elim
    · exact (show False from o).elim
  | _ => exact (show False from o).elim
theorem callr_sorted : CallR X (.builtin "sorted") (cSim G (Mi.biV .sorted)) := by
  intro pins s σ H xs us Q I r ⟨ρ, h, ws, R, wr, o⟩
  obtain ⟨w, v, rfl, rfl, wv⟩ := bi_one wr o
  cases wv with
  | @ref k a ha =>
    have o : OutE G (RE G) ρ H (match h[k]? with
      | some (.lst ws) => match Mi.strsW ws with
        | some ss => if ss.length < 64 then Mi.new (.lst ((Mi.sortT ss).map .str)) h else .stk
        | none => .stk
      | _ => .stk) Q noE := o
    split at o
    · rename_i e1
      split at o
      · rename_i ss e2
        split at o
        · rename_i hl
          cases R.ob _ _ _ e1 ha with
          | lst q1 l1 s1 =>
            refine cr_sortedS pins s σ H _ _ Q I r ⟨a, ss.map tx, rfl, .inl (.inl (by rw [← strs_ok s1 e2]; exact q1)), by rw [List.length_map]; exact hl, fun ys p hp hu hn => ?_⟩
            rw [sortT_the hp hu]
            refine new_lst_out R (wrs_strs _) ?_ o p hn
            rw [List.length_map, (sortT_perm ss).length_eq]
            have : 64 ≤ sizeLine := by rw [sizeLine_eq]; decide
            omega
        · exact (show False from o).elim
      · exact (show False from o).elim
    · exact (show False from o).elim
  | _ => exact (show False from o).elim
end
end MiS
end
section
set_option Elab.async false
set_option linter.all false
set_option maxRecDepth 100000
set_option maxHeartbeats 2000000
/-! Subscripts, slices, methods. -/
namespace MiS
open PySem L2
open Mi (W Ob Hs Fr R Rs Xc D)

section
variable {K : PySem.W.Frag} {T : List (Addr × Str)} {ρ : List Addr} {H : Hp} {h : Hs}
theorem atI_ok {ws : List W} {xs : List V} {i : Int} {w : W} (r : WRs K ρ H ws xs) (e : Mi.atI ws i = some w) : ∃ x, L2.atI xs i = some x ∧ WR K ρ H w x := by
  obtain ⟨j, e1, e2⟩ := Option.bind_eq_some_iff.mp e
  obtain ⟨x, e3, rx⟩ := r.get e2
  refine ⟨x, Option.bind_eq_some_iff.mpr ⟨j, ?_, e3⟩, rx⟩
  rw [← r.length]
  exact e1
end
section
variable {X : Cx} {G : Gv}
/-- the reading of a subscript -/
theorem ixr (hK : X.K = G.K) (hu : X.A.units + 65 < cLine) : IxR X (rSim G fun a b h => Mi.liftO (Mi.idxV h a b) h) := by
  intro value slice pins s σ H x y v u Q I rx ry ⟨ρ, h, a, b, R, wa, wb, o⟩ hs
  obtain ⟨z, e, o1⟩ := liftO_out o
  clear o
  cases wa with
  | str t =>
    cases wb with
    | int i =>
      have e : (if t.length ≤ Mi.lineW then (Mi.atI t i).map fun c => W.str [c] else none) = some z := e
      split at e
      · rename_i hl
        obtain ⟨c, e1, rfl⟩ := Option.map_eq_some_iff.mp e
        exact ix_str value slice pins s σ H _ _ _ _ Q I rx ry ⟨tx t, i, c, rfl, rfl, by rw [tx_len]; exact le_line hl, e1, ok_out R (.str [c]) o1⟩ hs
      · cases e
    | _ => cases e
  | @tup ws p xs ha hl ra =>
    cases wb with
    | int i =>
      obtain ⟨x', e1, rx'⟩ := atI_ok ra (show Mi.atI ws i = some z from e)
      exact ix_tup value slice pins s σ H _ _ _ _ Q I rx ry ⟨p, xs, i, x', rfl, rfl, by rw [hK]; exact ha, e1, ok_out R rx' o1⟩ hs
    | _ => cases e
  | @ref n p ha =>
    have e : (match h[n]? with
      | some (.lst ws) => Mi.idxL ws b
      | some (.dic kvs) => if Mi.keyOk b then Mi.dget kvs b else none
      | _ => none) = some z := e
    split at e
    · rename_i ws e1
      cases wb with
      | int i =>
        cases R.ob _ _ _ e1 ha with
        | lst q1 l1 s1 =>
          obtain ⟨x', e2, rx'⟩ := atI_ok s1 (show Mi.atI ws i = some z from e)
          exact ix_list value slice pins s σ H _ _ _ _ Q I rx ry ⟨p, _, i, x', rfl, rfl, .inl (.inl q1), e2, ok_out R rx' o1⟩ hs
      | _ => cases e
    · rename_i kvs e1
      split at e
      · rename_i ek
        cases R.ob _ _ _ e1 ha with
        | dic q1 s1 =>
          obtain ⟨k', hk'⟩ := keyR_ok ek
          have hy := keyR_V hk' wb
          subst hy
          obtain ⟨x', e2, rx'⟩ := (kv_get hk' s1).1 _ e
          have g : DGet H p (kV k') (some x') := by
            rw [← e2]
            exact DGet.k q1
          have rv : v = Value.ref p := rx
          subst rv
          exact PyProof.Rows.tail_any (dict_typeIs I g) PySem.F.slot_dict_getitem.lookup (d_getItem (by omega) I g ry fun w' s3 I3 rw' => ⟨x', H, I3, rw', ok_out R rx' o1⟩) hs
      · cases e
    · cases e
  | _ => cases e

theorem cut_ok {K : PySem.W.Frag} {ρ : List Addr} {H : Hp} {ws : List W} {xs : List V} (lo hi : Option Int) (r : WRs K ρ H ws xs) : WRs K ρ H (Mi.cut ws lo hi) (cutV xs lo hi) := by
  have e : cutV xs lo hi = (xs.drop (Mi.sIx ws.length 0 lo)).take (Mi.sIx ws.length ws.length hi - Mi.sIx ws.length 0 lo) := by
    rw [r.length]
    rfl
  rw [e]
  exact (r.drop _).take _
theorem cut_le {α : Type} (ws : List α) (lo hi : Option Int) : (Mi.cut ws lo hi).length ≤ ws.length := by
  unfold Mi.cut
  rw [List.length_take, List.length_drop]
  omega
def slSim (G : Gv) : V → Option Int → Option Int → Hp → VK → Prop := fun v lo hi H Q => ∃ (ρ : List Addr) (h : Hs) (x : W), RelH G.K G.T ρ h H ∧ WR G.K ρ H x v ∧ OutE G (RE G) ρ H (Mi.slcV h x lo hi) Q noE
theorem slr (hK : X.K = G.K) : SlR X (slSim G) := by
  intro pins s σ H x v vl vu lo hi sl Q I rx hs pl pu ⟨ρ, h, a, R, wa, o⟩
  cases wa with
  | str t =>
    obtain ⟨c, o⟩ := okIf_out o
    refine sl_str pins s σ H _ _ _ _ lo hi sl Q I rx hs pl pu ⟨tx t, rfl, by rw [tx_len]; exact le_line (of_decide_eq_true c), ?_⟩
    have q := ok_out R (.str _) o
    have e : cutS (tx t) lo hi = tx (Mi.cut t lo hi) := by
      unfold cutS Mi.cut
      rw [tx_len]
      rfl
    rw [e]
    exact q
  | @tup ws p xs ha hl ra =>
    refine sl_tupA pins s σ H _ _ _ _ lo hi sl Q I rx hs pl pu ⟨p, xs, rfl, by rw [hK]; exact ha, fun e => ?_, fun _ l n => ?_⟩
    · have e1 : Mi.cut ws lo hi = ws := by
        have h1 : Mi.sIx ws.length 0 lo = 0 := by rw [ra.length]; exact e.1
        have h2 : Mi.sIx ws.length ws.length hi = ws.length := by
          have := e.2
          rw [ra.length]; exact this
        unfold Mi.cut
        rw [h1, h2, List.drop_zero, Nat.sub_zero, List.take_length]
      have o : OutE G (RE G) ρ H (.ok (.tup (Mi.cut ws lo hi)) h) Q noE := o
      rw [e1] at o
      exact ok_out R (.tup ha hl ra) o
    · exact tup_out R (cut_ok lo hi ra) (Nat.le_trans (cut_le _ _ _) hl) o l n
  | @ref n p ha =>
    have o : OutE G (RE G) ρ H (match h[n]? with
      | some (.lst ws) => Mi.new (.lst (Mi.cut ws lo hi)) h
      | _ => .stk) Q noE := o
    split at o
    · rename_i ws e1
      cases R.ob _ _ _ e1 ha with
      | lst q1 l1 s1 => exact sl_list pins s σ H _ _ _ _ lo hi sl Q I rx hs pl pu ⟨p, _, rfl, .inl (.inl q1), fun l n => new_lst_out R (cut_ok lo hi s1) (Nat.le_trans (cut_le _ _ _) l1) o l n⟩
    · exact (show False from o).elim
  | _ => exact (show False from o).elim

/-! ### methods -/
def mSim (G : Gv) (m : Mi.Me) : V → List V → Hp → VK → Prop := fun v vs H Q => ∃ (ρ : List Addr) (h : Hs) (x : W) (ws : List W), RelH G.K G.T ρ h H ∧ WR G.K ρ H x v ∧ WRs G.K ρ H ws vs ∧ OutE G (RE G) ρ H (Mi.meV m x ws h) Q noE
theorem write_out {ρ : List Addr} {H : Hp} {h : Hs} {Q : VK} {n : Nat} {p : Addr} {ob : Ob} {o' : HO} {w : W} {v : V} (R : RelH G.K G.T ρ h H) (hn : ρ[n]? = some p) (r : ObR G.K ρ (upd H p o') p ob) (rw' : WR G.K ρ (upd H p o') w v) (o : OutE G (RE G) ρ H (.ok w (h.set n ob)) Q noE) : Q v (upd H p o') :=
  o ρ _ _ (Stp.write R (List.mem_of_getElem? hn)) (R.write hn r) rw'
theorem mtr_append : MtR X "list.append" (mSim G .append) := by
  intro pins s σ H x xs v us Q I rx rxs ⟨ρ, h, a, ws, R, wa, wr, o⟩
  match ws, wr, o with
  | [], _, o => cases a <;> exact (show False from o).elim
  | _ :: _ :: _, _, o => cases a <;> exact (show False from o).elim
  | [w], wr, o =>
    obtain ⟨y, rfl, wy⟩ := wr.one
    cases wa with
    | @ref n p ha =>
      have o : OutE G (RE G) ρ H (match h[n]? with
        | some (.lst xs) => if xs.length < Mi.lineW then .ok .non (h.set n (.lst (xs ++ [w]))) else .stk
        | _ => .stk) Q noE := o
      split at o
      · rename_i e1
        split at o
        · rename_i hl
          cases R.ob _ _ _ e1 ha with
          | @lst _ zs q1 l1 s1 =>
            have st := Stp.write (o := HO.lst (zs ++ [y])) R (List.mem_of_getElem? ha)
            refine mt_append pins s σ H _ _ _ _ Q I rx rxs ⟨p, _, y, rfl, rfl, q1, by rw [← s1.length]; exact lt_line hl, write_out R ha (.lst upd_same ?_ ((s1.append (.cons wy .nil)).mono R st)) .non o⟩
            rw [List.length_append]
            exact lt_line hl
        · exact (show False from o).elim
      · exact (show False from o).elim
    | _ => exact (show False from o).elim
theorem mtr_extend : MtR X "list.extend" (mSim G .extend) := by
  intro pins s σ H x xs v us Q I rx rxs ⟨ρ, h, a, ws, R, wa, wr, o⟩
  match ws, wr, o with
  | [], _, o => cases a <;> exact (show False from o).elim
  | c :: _ :: _, _, o => cases a <;> cases c <;> exact (show False from o).elim
  | [w], wr, o =>
    obtain ⟨y, rfl, wy⟩ := wr.one
    cases wa with
    | @ref n p ha =>
      cases wy with
      | @ref m p2 hb =>
        have o : OutE G (RE G) ρ H (match h[n]?, h[m]? with
          | some (.lst xs), some (.lst ys) => if xs.length + ys.length ≤ Mi.lineW then .ok .non (h.set n (.lst (xs ++ ys))) else .stk
          | _, _ => .stk) Q noE := o
        split at o
        · rename_i e1 e2
          split at o
          · rename_i hl
            cases R.ob _ _ _ e1 ha with
            | lst q1 l1 s1 =>
              cases R.ob _ _ _ e2 hb with
              | lst q2 l2 s2 =>
                refine mt_extend pins s σ H _ _ _ _ Q I rx rxs ⟨p, p2, _, _, rfl, rfl, q1, q2, by rw [← s1.length, ← s2.length]; exact le_line hl, write_out R ha (.lst upd_same ?_ ((s1.append s2).mono R (Stp.write R (List.mem_of_getElem? ha)))) .non o⟩
                rw [List.length_append]
                exact le_line hl
          · exact (show False from o).elim
        · exact (show False from o).elim
      | _ => exact (show False from o).elim
    | _ => cases w <;> exact (show False from o).elim
theorem WRs.dropLast {K : PySem.W.Frag} {ρ : List Addr} {H : Hp} {ws : List W} {xs : List V} (r : WRs K ρ H ws xs) : WRs K ρ H ws.dropLast xs.dropLast := by
  rw [List.dropLast_eq_take, List.dropLast_eq_take, r.length]
  exact r.take _
theorem ixN_eq {n : Nat} {i : Int} {k : Nat} (e : Mi.ixN n i = some k) : seqIndex? i n = some k := (L2.ixN_seq (show L2.ixN n i = some k from e)).1
theorem mtr_pop : MtR X "list.pop" (fun v vs H Q => ∃ (ρ : List Addr) (h : Hs) (n : Nat) (xs0 : List W) (ws : List W), RelH G.K G.T ρ h H ∧ h[n]? = some (.lst xs0) ∧ WR G.K ρ H (.ref n) v ∧ WRs G.K ρ H ws vs ∧ OutE G (RE G) ρ H (Mi.meV .pop (.ref n) ws h) Q noE) := by
  intro pins s σ H x xs v us Q I rx rxs ⟨ρ, h, n, xs0, ws, R, e1, wa, wr, o⟩
  cases wa with
  | @ref _ p ha =>
    cases R.ob _ _ _ e1 ha with
    | @lst _ zs q1 l1 s1 =>
      match ws, wr, o with
      | [], wr, o =>
        cases wr
        have o : OutE G (RE G) ρ H (match h[n]? with
          | some (.lst xs) => match xs.getLast? with
            | some x => .ok x (h.set n (.lst xs.dropLast))
            | none => .stk
          | _ => .stk) Q noE := o
        rw [e1] at o
        have o : OutE G (RE G) ρ H (match xs0.getLast? with
            | some x => .ok x (h.set n (.lst xs0.dropLast))
            | none => .stk) Q noE := o
        split at o
        · rename_i w el
          rw [List.getLast?_eq_getElem?] at el
          obtain ⟨y, ey, ry⟩ := s1.get el
          have st := Stp.write (o := HO.lst zs.dropLast) R (List.mem_of_getElem? ha)
          refine mt_pop pins s σ H _ _ _ _ Q I rx rxs ⟨p, _, y, rfl, rfl, q1, by rw [← s1.length]; exact ey, write_out R ha (.lst upd_same ?_ (s1.dropLast.mono R st)) (ry.mono R st) o⟩
          rw [List.length_dropLast]; omega
        · exact (show False from o).elim
      | w :: _ :: _, _, o => cases w <;> exact (show False from o).elim
      | [w], wr, o =>
        obtain ⟨y0, rfl, wy⟩ := wr.one
        cases wy with
        | int i =>
          have o : OutE G (RE G) ρ H (match h[n]? with
            | some (.lst xs) => match if -(2 ^ 63) ≤ i ∧ i < 2 ^ 63 then Mi.ixN xs.length i else none with
              | some j => match xs[j]? with
                | some x => .ok x (h.set n (.lst (xs.eraseIdx j)))
                | none => .stk
              | none => .stk
            | _ => .stk) Q noE := o
          rw [e1] at o
          have o : OutE G (RE G) ρ H (match if -(2 ^ 63) ≤ i ∧ i < 2 ^ 63 then Mi.ixN xs0.length i else none with
              | some j => match xs0[j]? with
                | some x => .ok x (h.set n (.lst (xs0.eraseIdx j)))
                | none => .stk
              | none => .stk) Q noE := o
          by_cases hb : -(2 ^ 63) ≤ i ∧ i < 2 ^ 63
          · rw [if_pos hb] at o
            split at o
            · rename_i j ej
              split at o
              · rename_i w el
                obtain ⟨y, ey, ry⟩ := s1.get el
                have st := Stp.write (o := HO.lst (zs.eraseIdx j)) R (List.mem_of_getElem? ha)
                refine mt_popAt pins s σ H _ _ _ _ Q I rx rxs ⟨p, _, i, j, y, rfl, rfl, q1, hb.1, hb.2, by rw [← s1.length]; exact ixN_eq ej, ey, write_out R ha (.lst upd_same ?_ ((s1.eraseIdx j).mono R st)) (ry.mono R st) o⟩
                have := List.length_eraseIdx_le xs0 j
                omega
              · exact (show False from o).elim
            · exact (show False from o).elim
          · rw [if_neg hb] at o
            exact (show False from o).elim
        | _ => exact (show False from o).elim
end
theorem splitC_eq (c : Nat) : ∀ (acc s : List Nat), TL.spl [c] 0 acc s = Mi.splitC c acc s
  | acc, [] => rfl
  | acc, d :: r => by
    unfold Mi.splitC
    have hp : TL.pre [c] (d :: r) = (d == c) := by
      unfold TL.pre
      simp [List.take]
    show (if TL.pre [c] (d :: r) = true then acc :: TL.spl [c] 0 [] r else TL.spl [c] 0 (acc ++ [d]) r) = _
    rw [hp, splitC_eq c [] r, splitC_eq c (acc ++ [d]) r]
theorem joinT_eq (sep : List Nat) : ∀ ss : List (List Nat), TL.joinL sep ss = Mi.joinT sep ss
  | [] => rfl
  | [_] => rfl
  | a :: b :: r => by
    show a ++ (sep ++ TL.joinL sep (b :: r)) = a ++ sep ++ Mi.joinT sep (b :: r)
    rw [joinT_eq sep (b :: r), List.append_assoc]
theorem splitC_len (c : Nat) : ∀ (acc s : List Nat), (Mi.splitC c acc s).length ≤ s.length + 1
  | acc, [] => Nat.le_refl _
  | acc, d :: r => by
    unfold Mi.splitC
    split
    · have := splitC_len c [] r
      simp only [List.length_cons]
      omega
    · have := splitC_len c (acc ++ [d]) r
      simp only [List.length_cons]
      omega
section
variable {X : Cx} {G : Gv}
theorem mtr_split : MtR X "str.split" (mSim G .split) := by
  intro pins s σ H x xs v us Q I rx rxs ⟨ρ, h, a, ws, R, wa, wr, o⟩
  cases wa with
  | str t =>
    match ws, wr, o with
    | [], _, o => exact (show False from o).elim
    | c :: _ :: _, _, o =>
      cases c with
      | str z => match z, o with
        | [], o => exact (show False from o).elim
        | [_], o => exact (show False from o).elim
        | _ :: _ :: _, o => exact (show False from o).elim
      | _ => exact (show False from o).elim
    | [w], wr, o =>
      obtain ⟨y, rfl, wy⟩ := wr.one
      cases wy with
      | str z =>
        match z, o, rxs with
        | [], o, _ => exact (show False from o).elim
        | _ :: _ :: _, o, _ => exact (show False from o).elim
        | [c], o, rxs =>
          have o : OutE G (RE G) ρ H (if t.length + 2 ≤ Mi.lineW ∧ c < 256 then Mi.new (.lst ((Mi.splitC c [] t).map .str)) h else .stk) Q noE := o
          split at o
          · rename_i hl
            refine mt_split pins s σ H _ _ _ _ Q I rx rxs ⟨tx t, tx [c], rfl, rfl, by rw [tx_len]; rfl, by rw [tx_len]; exact le_line hl.1, fun p n => ?_⟩
            rw [SX.split_S (a := t) (b := [c]) (by simp) (by simp [hl.2]), splitC_eq]
            refine new_lst_out R (wrs_strs _) ?_ o p n
            rw [List.length_map]
            have := splitC_len c [] t
            have := hl.1
            exact le_line (by omega)
          · exact (show False from o).elim
      | _ => exact (show False from o).elim
  | _ => cases ws <;> exact (show False from o).elim
theorem mtr_join (hK : X.K = G.K) : MtR X "str.join" (mSim G .join) := by
  intro pins s σ H x xs v us Q I rx rxs ⟨ρ, h, a, ws, R, wa, wr, o⟩
  cases wa with
  | str t =>
    match ws, wr, o with
    | [], _, o => exact (show False from o).elim
    | _ :: _ :: _, _, o => exact (show False from o).elim
    | [w], wr, o =>
      obtain ⟨y, rfl, wy⟩ := wr.one
      have o2 : OutE G (RE G) ρ H (match Mi.items h w with
        | some ws => match Mi.strsW ws with
          | some ss => Mi.okIf (decide ((ss.map (·.length)).sum + ss.length * t.length ≤ Mi.lineW)) (.str (Mi.joinT t ss)) h
          | none => .stk
        | none => .stk) Q noE := o
      clear o
      split at o2
      · rename_i ws ei
        split at o2
        · rename_i ss es
          obtain ⟨c, o⟩ := okIf_out o2
          have c := of_decide_eq_true c
          obtain ⟨p, xs, rfl, rs, hl, hc⟩ := items_ok R wy ei
          have ex := strs_ok rs es
          refine mt_join pins s σ H _ _ _ _ Q I rx rxs ⟨tx t, p, ss.map tx, rfl, rfl, ?_, ?_, ?_⟩
          · rcases hc with ⟨n, _, _, h1, _⟩ | ⟨_, h1⟩
            · exact .inl (.inl (.inl (by rw [← ex]; exact h1)))
            · exact .inr (by rw [hK, ← ex]; exact h1)
          · rw [SX.lens, List.length_map, tx_len]
            exact c
          · rw [SX.join_S, joinT_eq]
            exact ok_out R (.str _) o
        · exact (show False from o2).elim
      · exact (show False from o2).elim
  | _ => cases ws <;> exact (show False from o).elim
end
end MiS
end
section
set_option Elab.async false
set_option linter.all false
set_option maxRecDepth 100000
set_option maxHeartbeats 2000000
/-! list.index, list.count, list(..). -/
namespace MiS
open PySem L2
open Mi (W Ob Hs Fr R Rs Xc D)

theorem firstAt_ok {α : Type} {p : α → Bool} : ∀ {l : List α} {n j : Nat}, Mi.firstAt p l n = some j → n ≤ j ∧ (∃ a, l[j - n]? = some a ∧ p a = true) ∧ ∀ m a, m < j - n → l[m]? = some a → p a = false
  | [], _, _, e => by cases e
  | a :: r, n, j, e => by
    unfold Mi.firstAt at e
    split at e
    · rename_i hp
      cases e
      refine ⟨Nat.le_refl _, ⟨a, by simp, hp⟩, fun m b hm _ => by omega⟩
    · rename_i hp
      obtain ⟨h1, ⟨b, h2, h3⟩, h4⟩ := firstAt_ok e
      refine ⟨by omega, ⟨b, ?_, h3⟩, fun m c hm hc => ?_⟩
      · have : j - n = (j - (n + 1)) + 1 := by omega
        rw [this]
        exact h2
      · cases m with
        | zero =>
          have : a = c := by simpa using hc
          rw [← this]
          simpa using hp
        | succ m => exact h4 m c (by omega) (by simpa using hc)
theorem shaped_lst {K : PySem.W.Frag} {H : Hp} {vs : List V} {ds : List D} (z : DpsOk K H 63 vs ds) : SeqAt.shaped (.list (toPys ds)) = true := by
  unfold SeqAt.shaped
  rw [show PyData.canLay0 (.list (toPys ds)) = true by simp only [PyData.canLay0]; exact z.lay]
  rw [show PyData.depth (.list (toPys ds)) = PyData.depthAll (toPys ds) + 1 by simp only [PyData.depth]]
  rw [decide_eq_true (Nat.succ_le_succ z.dep)]
  rfl
section
variable {X : Cx} {G : Gv}
theorem mtr_index (hK : X.K = G.K) (hu : X.A.units + 65 < cLine) : MtR X "list.index" (mSim G .index) := by
  intro pins s σ H x xs v us Q I rx rxs ⟨ρ, h, a, ws, R, wa, wr, o⟩
  match ws, wr, o with
  | [], _, o => cases a <;> exact (show False from o).elim
  | _ :: _ :: _, _, o => cases a <;> exact (show False from o).elim
  | [w], wr, o =>
    obtain ⟨y, rfl, wy⟩ := wr.one
    cases wa with
    | @ref n p ha =>
      have o : OutE G (RE G) ρ H (match h[n]? with
        | some (.lst xs) => match Mi.dataF 64 h w, Mi.mapO (Mi.dataF 63 h) xs with
          | some d, some ds => match Mi.firstAt (fun e => D.eqv e d) ds 0 with
            | some j => .ok (.int (j : Nat)) h
            | none => .stk
          | _, _ => .stk
        | _ => .stk) Q noE := o
      split at o
      · rename_i e1
        split at o
        · rename_i d ds e2 e3
          split at o
          · rename_i j ej
            obtain ⟨_, ⟨d', h2, h3⟩, h4⟩ := firstAt_ok ej
            cases R.ob _ _ _ e1 ha with
            | lst q1 l1 s1 =>
              have z1 := dp_of R _ _ _ _ e2 wy
              have z2 := dps_of (dp_of R 63) _ _ _ e3 s1
              refine mt_indexD hu pins s σ H _ _ _ _ Q I rx rxs ⟨p, y, toPy d, toPys ds, j, toPy d', rfl, rfl, .lst (.inl (.inl q1)) (by rw [hK]; exact z2.dp), by rw [hK]; exact z1.dp, shaped_lst z2, z1.shaped, ?_, by rw [eqv_py]; exact h3, fun m z' hm hz => ?_, ok_out R (.int _) o⟩
              · rw [toPys_map, List.getElem?_map]
                rw [Nat.sub_zero] at h2
                rw [h2]
                rfl
              · rw [toPys_map, List.getElem?_map] at hz
                obtain ⟨e, he, rfl⟩ := Option.map_eq_some_iff.mp hz
                rw [eqv_py]
                exact h4 m e (by omega) he
          · exact (show False from o).elim
        · exact (show False from o).elim
      · exact (show False from o).elim
    | _ => exact (show False from o).elim
theorem countP_map {α β : Type} (f : α → β) (p : β → Bool) (l : List α) : (l.map f).countP p = l.countP (fun a => p (f a)) := by
  induction l with
  | nil => rfl
  | cons a l ih => simp only [List.map_cons, List.countP_cons, ih]
theorem mtr_count (hK : X.K = G.K) (hu : X.A.units + 65 < cLine) : MtR X "list.count" (mSim G .count) := by
  intro pins s σ H x xs v us Q I rx rxs ⟨ρ, h, a, ws, R, wa, wr, o⟩
  match ws, wr, o with
  | [], _, o => cases a <;> exact (show False from o).elim
  | _ :: _ :: _, _, o => cases a <;> exact (show False from o).elim
  | [w], wr, o =>
    obtain ⟨y, rfl, wy⟩ := wr.one
    cases wa with
    | @ref n p ha =>
      have o : OutE G (RE G) ρ H (match h[n]? with
        | some (.lst xs) => match Mi.dataF 64 h w, Mi.mapO (Mi.dataF 63 h) xs with
          | some d, some ds => .ok (.int ((ds.filter fun e => D.eqv e d).length : Nat)) h
          | _, _ => .stk
        | _ => .stk) Q noE := o
      split at o
      · rename_i e1
        split at o
        · rename_i d ds e2 e3
          cases R.ob _ _ _ e1 ha with
          | @lst _ zs q1 l1 s1 =>
            have z1 := dp_of R _ _ _ _ e2 wy
            have z2 := dps_of (dp_of R 63) _ _ _ e3 s1
            obtain ⟨uy, rfl, ry⟩ := rxs.one
            cases rx
            have d1 : Dp X.K H y (toPy d) := by rw [hK]; exact z1.dp
            have d2 : DpAll X.K H zs (toPys ds) := by rw [hK]; exact z2.dp
            obtain ⟨bs, r1⟩ := Dp.reads I (toPy d) y uy d1 ry
            have hroom : X.A.units + 1 + min (PyData.depthAll (toPys ds)) (toPy d).depth < cLine := by
              have := z1.dep
              have := Nat.min_le_right (PyData.depthAll (toPys ds)) (toPy d).depth
              omega
            obtain ⟨its, rv, ⟨⟨cls, dd, data, sls⟩, n', ho, hc, hdn, hdt⟩, hlen⟩ := I.list (.inl (.inl q1))
            simp only at hc hdt
            subst hc hdt
            obtain ⟨as, h4⟩ := Dp.readsAll I (toPys ds) _ its d2 rv
            have hmap : its.map (SeqAt.readOf s.heap) = toPys ds := SeqAt.readsAll_map (toPys ds) its as z2.lay h4
            refine call_meets PySem.F.slot_list_count ⟨_, ho, rfl⟩ PySem.F.entry_list_count (PySem.F.args_list_count_2 _ _)
              (SeqAt.list_countAt p its.toArray n' dd sls uy (fun u => PyData.eqv (SeqAt.readOf s.heap u) (toPy d))) ⟨ho, SeqAt.items_eqAt (vs := its.toArray) (show ReadsAll s.heap its.toArray.toList (toPys ds) as from h4) r1 z2.lay z1.lay hroom, ?_⟩
            have ec : its.toArray.toList.countP (fun u => PyData.eqv (SeqAt.readOf s.heap u) (toPy d)) = (ds.filter fun e => D.eqv e d).length := by
              show its.countP (fun u => PyData.eqv (SeqAt.readOf s.heap u) (toPy d)) = _
              rw [← countP_map (SeqAt.readOf s.heap) (fun z => PyData.eqv z (toPy d)), hmap, toPys_map, countP_map, List.countP_eq_length_filter]
              congr 1
              refine List.filter_congr fun e _ => ?_
              rw [eqv_py]
            refine ⟨.int ((ds.filter fun e => D.eqv e d).length : Nat), H, I.tok _, ⟨s.toks, ?_⟩, ok_out R (.int _) o⟩
            rw [ec]
        · exact (show False from o).elim
      · exact (show False from o).elim
    | _ => exact (show False from o).elim
end
end MiS
end
section
set_option Elab.async false
set_option linter.all false
set_option maxRecDepth 100000
set_option maxHeartbeats 2000000
/-! list(..) -/
namespace MiS
open PySem L2
open Mi (W Ob Hs Fr R Rs Xc D)

theorem vals_signs (l : List Nat) : ∀ (its : List Value), its.length = l.length → (∀ (i : Nat) (v : Value), its[i]? = some v → ∃ (c : Nat) (u : _), l[i]? = some c ∧ v = .str ⟨#[c]⟩ u) → Vals (l.map fun c => V.str (tx [c])) its := by
  induction l with
  | nil =>
    intro its hl _
    cases its with
    | nil => exact .nil
    | cons a r => simp at hl
  | cons c l ih =>
    intro its hl h
    cases its with
    | nil => simp at hl
    | cons a r =>
      have tl : Vals (l.map fun c => V.str (tx [c])) r := by
        refine ih r (by simpa using hl) fun i v e => ?_
        obtain ⟨c', u, e1, e2⟩ := h (i + 1) v (by rw [List.getElem?_cons_succ]; exact e)
        rw [List.getElem?_cons_succ] at e1
        exact ⟨c', u, e1, e2⟩
      refine .cons ?_ tl
      obtain ⟨c', u, e1, e2⟩ := h 0 a (by rw [List.getElem?_cons_zero])
      have : c = c' := by rw [List.getElem?_cons_zero] at e1; exact Option.some.inj e1
      subst this
      exact ⟨u, e2⟩
theorem wrs_signs {K : PySem.W.Frag} {ρ : List Addr} {H : Hp} : ∀ l : List Nat, WRs K ρ H (l.map fun c => W.str [c]) (l.map fun c => V.str (tx [c]))
  | [] => .nil
  | c :: l => .cons (.str [c]) (wrs_signs l)
theorem kv_keys {K : PySem.W.Frag} {ρ : List Addr} {H : Hp} : ∀ {kvs : List (W × W)} {ks : List (Key × V)}, KvR K ρ H kvs ks → WRs K ρ H (kvs.map (·.1)) (ks.map fun kv => kV kv.1)
  | _, _, .nil => .nil
  | _, _, @KvR.cons _ _ _ k v k' x r t hk h rs => by
    refine .cons ?_ (kv_keys rs)
    show WR K ρ H k (kV k')
    cases k <;> simp only [keyR, Option.some.injEq, reduceCtorEq] at hk
    · rw [← hk]; exact .int _
    · rw [← hk]; exact .str _
section
variable {X : Cx} {G : Gv}
theorem callr_list (hK : X.K = G.K) (hc : X.calm = true) : CallR X (.type "list") (cSim G (Mi.biV .list)) := by
  intro pins s σ H xs us Q I r ⟨ρ, h, ws, R, wr, o⟩
  obtain ⟨w, v, rfl, rfl, wv⟩ := bi_one wr o
  have seqs : ∀ ws, Mi.items h w = some ws → OutE G (RE G) ρ H (Mi.new (.lst ws) h) Q noE → wpAny (model X.prog X.w) X.A (call (.type "list") us) (EP X pins σ Q) X.xe s := by
    intro ws ei o2
    obtain ⟨p, xs, rfl, rs, hl, hc'⟩ := items_ok R wv ei
    refine call_list_of pins s σ H _ _ Q I r ⟨p, xs, rfl, ?_, fun l n => new_lst_out R rs hl o2 l n⟩
    rcases hc' with ⟨n, _, _, h1, _⟩ | ⟨_, h1⟩
    · exact .inl (.inl (.inl h1))
    · exact .inr (by rw [hK]; exact h1)
  cases wv with
  | str t =>
    have o2 : OutE G (RE G) ρ H (if t.length ≤ Mi.lineW then Mi.new (.lst (t.map fun c => .str [c])) h else .stk) Q noE := o
    split at o2
    · rename_i hl
      obtain ⟨u, rfl, ru⟩ := r.one
      obtain ⟨tk, rfl⟩ := ru
      have hsz : (tx t).cps.size ≤ sizeLine := by
        have := le_line hl
        simpa using this
      refine call_list_str (I.ok.hd hc) (tx t) tk (fun h' tk' acc' c' kp e it => ?_) hsz
      have hv : Vals (t.map fun c => V.str (tx [c])) acc'.toList := by
        refine vals_signs t acc'.toList ?_ fun i v e => ?_
        · have := it.1
          rw [Array.length_toList, this]
          simp
        · obtain ⟨c, u, e1, e2⟩ := it.2 i v (by rw [← Array.getElem?_toList]; exact e)
          exact ⟨c, u, by simpa using e1, e2⟩
      have hl2 : (t.map fun c => V.str (tx [c])).length ≤ sizeLine := by rw [List.length_map]; exact le_line hl
      refine ⟨.ref s.heap.objs.size, _, I.laid (t' := tk') kp (Nat.le_refl _) (show ObjOk X.prog X.w _ h' _ (.lst (t.map fun c => V.str (tx [c]))) from ⟨hl2, acc'.toList, c', hv, by rw [Array.toArray_toList]; exact e⟩), rfl, ?_⟩
      exact new_lst_out R (wrs_signs t) (by rw [List.length_map]; exact le_line hl) o2 _ (I.hok.fresh (Nat.le_refl _))
    · exact (show False from o2).elim
  | tup rs hl => exact seqs _ rfl o
  | @ref n p hp =>
    cases e1 : h[n]? with
    | none =>
      have e2 : Mi.items h (.ref n) = none := by simp only [Mi.items, e1]
      have o2 : OutE G (RE G) ρ H Mi.R.stk Q noE := by
        have e3 : Mi.biV .list [.ref n] h = Mi.R.stk := by simp only [Mi.biV, e2, e1]
        rw [← e3]; exact o
      exact (show False from o2).elim
    | some ob =>
      cases ob with
      | lst ws =>
        have e2 : Mi.items h (.ref n) = some ws := by simp only [Mi.items, e1]
        refine seqs _ e2 ?_
        have e3 : Mi.biV .list [.ref n] h = Mi.new (.lst ws) h := by simp only [Mi.biV, e2]
        rw [← e3]; exact o
      | dic kvs =>
        have e2 : Mi.items h (.ref n) = none := by simp only [Mi.items, e1]
        have o2 : OutE G (RE G) ρ H (Mi.new (.lst (kvs.map (·.1))) h) Q noE := by
          have e3 : Mi.biV .list [.ref n] h = Mi.new (.lst (kvs.map (·.1))) h := by simp only [Mi.biV, e2, e1]
          rw [← e3]; exact o
        cases R.ob _ _ _ e1 hp with
        | dic q1 s1 =>
          have hz : _ := I.hok p _ q1
          refine call_listD hc pins s σ H _ _ Q I r ⟨p, _, rfl, .inl q1, fun l n => new_lst_out R (kv_keys s1) ?_ o2 l n⟩
          rw [List.length_map]
          exact s1.length ▸ hz.1
      | ins c fs =>
        have e2 : Mi.items h (.ref n) = none := by simp only [Mi.items, e1]
        have o2 : OutE G (RE G) ρ H Mi.R.stk Q noE := by
          have e3 : Mi.biV .list [.ref n] h = Mi.R.stk := by simp only [Mi.biV, e2, e1]
          rw [← e3]; exact o
        exact (show False from o2).elim
  | _ => exact (show False from o).elim
end
end MiS
end
section
set_option Elab.async false
set_option linter.all false
set_option maxRecDepth 100000
set_option maxHeartbeats 2000000
/-! Expressions by simulation. -/
namespace MiS
open PySem L2
open Mi (W Ob Hs Fr R Rs Xc Cl E Es It ev evs)

/-- its truth -/
def evT (c : Cl) (e : E) (fr : Fr) (h : Hs) : R Bool := (ev c e fr h).bind fun x h => Mi.liftO (Mi.truth h x) h

/-- it raises nothing itself -/
def NoX {α : Type} : R α → Prop
  | .exc _ _ => False
  | _ => True
theorem NoX.okIf {α : Type} {c : Bool} {a : α} {h : Hs} : NoX (Mi.okIf c a h) := by cases c <;> exact True.intro
theorem NoX.liftO {α : Type} {o : Option α} {h : Hs} : NoX (Mi.liftO o h) := by cases o <;> exact True.intro
theorem noX_bin (o : Mi.Bo) (a b : W) (h : Hs) : NoX (Mi.binV o a b h) := by
  unfold Mi.binV
  repeat' split
  all_goals first | exact True.intro | exact NoX.okIf
theorem noX_bi (b : Mi.Bi) (ws : List W) (h : Hs) : NoX (Mi.biV b ws h) := by
  unfold Mi.biV
  repeat' split
  all_goals first | exact True.intro | exact NoX.okIf | exact NoX.liftO
theorem noX_me (m : Mi.Me) (o : W) (ws : List W) (h : Hs) : NoX (Mi.meV m o ws h) := by
  unfold Mi.meV
  repeat' split
  all_goals first | exact True.intro | exact NoX.okIf | exact NoX.liftO
theorem noX_slc (a : W) (lo hi : Option Int) (h : Hs) : NoX (Mi.slcV h a lo hi) := by
  unfold Mi.slcV
  repeat' split
  all_goals first | exact True.intro | exact NoX.okIf | exact NoX.liftO

section
variable {G : Gv}
theorem OutE.noX {α β : Type} {Rel : List Addr → Hp → α → β → Prop} {ρ : List Addr} {H : Hp} {r : R α} {Q : β → Hp → Prop} {E E' : XK} (o : OutE G Rel ρ H r Q E) (n : NoX r) : OutE G Rel ρ H r Q E' := by
  cases r with
  | ok w h => exact o
  | exc x h => exact n.elim
  | stk => exact o
section
variable {α β α' β' : Type} {Rel : List Addr → Hp → α → β → Prop} {Rel' : List Addr → Hp → α' → β' → Prop} {ρ : List Addr} {H : Hp} {r : R α} {g : α → Hs → R α'} {Q2 : β' → Hp → Prop} {Ex : XK} {fr : Fr} {σ : L2.St}
theorem oBind (R0 : ∃ h, RelH G.K G.T ρ h H) (F : FrR G.K ρ H fr σ) (o : OutE G Rel' ρ H (r.bind g) Q2 Ex) :
    OutE G Rel ρ H r (fun v H1 => ∃ (ρ1 : List Addr) (x : α) (h1 : Hs), Stp ρ H ρ1 H1 ∧ RelH G.K G.T ρ1 h1 H1 ∧ FrR G.K ρ1 H1 fr σ ∧ Rel ρ1 H1 x v ∧ OutE G Rel' ρ1 H1 (g x h1) Q2 Ex) Ex :=
  (OutE.bind o).imp (fun v H1 ⟨ρ1, x, h1, s, R, q, o1⟩ => ⟨ρ1, x, h1, s, R, let ⟨_, R0⟩ := R0; F.mono R0 s, q, o1⟩) fun _ _ _ q => q
end

section
variable {X : Cx} {c : Cl} {Wx : WX} {e a b : Expr} {pos : Pos} {i j k : E}

theorem ev_tru (R : ∃ h, RelH G.K G.T ρ h H) : True := trivial
/-- by truth: what is read behind -/
theorem truB {f : Fr → Hs → R W} {σ : L2.St} {H : Hp} {α β : Type} {Rel : List Addr → Hp → α → β → Prop} {g : W → Bool → Hs → R α} {Q2 : β → Hp → Prop} {P : V → Hp → Prop}
    (z : ∃ (ρ : List Addr) (h : Hs) (fr : Fr), RelH G.K G.T ρ h H ∧ FrR G.K ρ H fr σ ∧ OutE G Rel ρ H ((f fr h).bind fun x h => match Mi.truth h x with
      | some t => g x t h
      | none => .stk) Q2 (fun c d H' => Wx c d σ H'))
    (hP : ∀ v H1, (∃ (ρ1 : List Addr) (x : W) (h1 : Hs) (fr : Fr) (t : Bool), RelH G.K G.T ρ1 h1 H1 ∧ FrR G.K ρ1 H1 fr σ ∧ WR G.K ρ1 H1 x v ∧ TruV G.K v H1 t ∧ OutE G Rel ρ1 H1 (g x t h1) Q2 (fun c d H' => Wx c d σ H')) → P v H1) : SimE G f Wx σ H P := by
  obtain ⟨ρ, h, fr, R, F, o⟩ := z
  refine ⟨ρ, h, fr, R, F, (oBind ⟨h, R⟩ F o).imp (fun v H1 ⟨ρ1, x, h1, s1, R1, F1, w1, o1⟩ => ?_) fun _ _ _ q => q⟩
  have o1 : OutE G Rel ρ1 H1 (match Mi.truth h1 x with
      | some t => g x t h1
      | none => .stk) Q2 (fun c d H' => Wx c d σ H') := o1
  cases ht : Mi.truth h1 x with
  | some t =>
    rw [ht] at o1
    exact hP v H1 ⟨ρ1, x, h1, fr, t, R1, F1, w1, truth_ok R1 w1 ht, o1⟩
  | none =>
    rw [ht] at o1
    exact (show False from o1).elim

/-! ### names, constants -/
theorem s_var {x : Str} {n : Nat} (hN : X.N[n]? = some x) (hv : Vis X.env.scope x) (hd : (x == ("__debug__" : Str)) = false) (hcd : (x == ("__classdict__" : Str)) = false) : PE X (.Name x pos) (SimE G (ev c (.var n)) Wx) := by
  refine PE.weak (pe_var hN hv hd hcd) fun σ H Q ⟨ρ, h, fr, R, F, o⟩ => ?_
  have o : OutE G (RE G) ρ H (match fr[n]? with
    | some (some w) => .ok w h
    | _ => .stk) Q _ := o
  split at o
  · rename_i w e
    obtain ⟨v, e1, wr⟩ := F.2 n w e
    exact ⟨v, e1, o.ok R wr⟩
  · exact (show False from o).elim
theorem s_con {w : W} {v : V} (h : PE X e (tC v)) (r : ∀ ρ H, WR G.K ρ H w v) : PE X e (SimE G (ev c (.con w)) Wx) :=
  PE.weak h fun σ H Q ⟨ρ, hh, fr, R, F, o⟩ => OutE.ok (Rel := RE G) (w := w) o R (r ρ H)
theorem s_bad : PE X e (SimE G (ev c .bad) Wx) := ⟨fun _ _ _ _ _ _ ⟨_, _, _, _, _, o⟩ => (show False from o).elim⟩
theorem s_badT : PT X e (SimT G (evT c .bad) Wx) := ⟨fun _ _ _ _ _ _ ⟨_, _, _, _, _, o⟩ => (show False from o).elim⟩

/-! ### operators -/
theorem s_op {op : Operator} {f : W → W → Hs → R W} {g1 g2 : Fr → Hs → R W} (ho : OpR X (binaryOp op) (rSim G f)) (hx : ∀ x y h, NoX (f x y h)) (ha : PE X a (SimE G g1 Wx)) (hb : PE X b (SimE G g2 Wx)) :
    PE X (.BinOp a op b pos) (SimE G (fun fr h => (g1 fr h).bind fun x h => (g2 fr h).bind fun y h => f x y h) Wx) :=
  PE.weak (pe_op ho ha hb) fun σ H Q z => sim2 (fun ρ h H x y v u R wv wu o => ⟨ρ, h, x, y, R, wv, wu, o.noX (hx x y h)⟩) z
theorem s_cmp {op : CmpOp} {f : W → W → Hs → R W} {g1 g2 : Fr → Hs → R W} (ho : OpR X (compareOp op) (rSim G f)) (hx : ∀ x y h, NoX (f x y h)) (ha : PE X a (SimE G g1 Wx)) (hb : PE X b (SimE G g2 Wx)) (hm : behindInMarks op b = false) :
    PE X (.Compare a [op] [b] pos) (SimE G (fun fr h => (g1 fr h).bind fun x h => (g2 fr h).bind fun y h => f x y h) Wx) :=
  PE.weak (pe_cmpR ho ha hb hm) fun σ H Q z => sim2 (fun ρ h H x y v u R wv wu o => ⟨ρ, h, x, y, R, wv, wu, o.noX (hx x y h)⟩) z
theorem s_ix {g1 g2 : Fr → Hs → R W} {f : W → W → Hs → R W} (ho : IxR X (rSim G f)) (hx : ∀ x y h, NoX (f x y h)) (ha : PE X a (SimE G g1 Wx)) (hb : PE X b (SimE G g2 Wx)) (hm : PlainIx b) :
    PE X (.Subscript a b pos) (SimE G (fun fr h => (g1 fr h).bind fun x h => (g2 fr h).bind fun y h => f x y h) Wx) :=
  PE.weak (pe_ix ho ha hb hm) fun σ H Q z => sim2 (fun ρ h H x y v u R wv wu o => ⟨ρ, h, x, y, R, wv, wu, o.noX (hx x y h)⟩) z

/-! ### tests -/
/-- a test of an expression that is always a bool -/
def Bls (r : R W) : Prop := match r with
  | .ok w _ => ∃ b, w = .bl b
  | _ => True
theorem sT_bl {t : TE} {f : Fr → Hs → R W} (h : ∀ σ H Q, SimE G f Wx σ H Q → t σ H Q) (hb : ∀ fr h, Bls (f fr h)) {σ : L2.St} {H : Hp} {Q : Bool → Hp → Prop}
    (z : SimT G (fun fr h => (f fr h).bind fun x h => Mi.liftO (Mi.truth h x) h) Wx σ H Q) : tTest t σ H Q := by
  obtain ⟨ρ, hh, fr, R, F, o⟩ := z
  refine h σ H _ ⟨ρ, hh, fr, R, F, ?_⟩
  have hb := hb fr hh
  have o : OutE G RT ρ H ((f fr hh).bind fun x h => Mi.liftO (Mi.truth h x) h) Q (fun c d H' => Wx c d σ H') := o
  cases q : f fr hh with
  | ok w h1 =>
    rw [q] at o hb
    obtain ⟨b, rfl⟩ := hb
    have o : OutE G RT ρ H (.ok b h1) Q _ := o
    intro ρ' H' v s R' wv
    cases wv
    exact ⟨b, rfl, o ρ' H' b s R' rfl⟩
  | exc x h1 =>
    rw [q] at o
    exact o
  | stk =>
    rw [q] at o
    exact o
/-- a test by its value's truth -/
theorem s_truth (hK : X.K = G.K) (ha : PE X a (SimE G (ev c i) Wx)) (he : ∀ whole, isTrue a X.env whole = (do let v ← whole; standAt a.pos; holding [v] (truthy v))) : PT X a (SimT G (evT c i) Wx) :=
  PT.weak (pt_truth ha he) fun σ H Q ⟨ρ, h, fr, R, F, o⟩ => ⟨ρ, h, fr, R, F, (oBind (Rel := RE G) ⟨h, R⟩ F o).imp (fun v H1 ⟨ρ1, x, h1, s1, R1, F1, w1, o1⟩ => by
    obtain ⟨t, et, o2⟩ := liftO_out o1
    exact ⟨t, by rw [hK]; exact truth_ok R1 w1 et, o2.ok R1 rfl⟩) fun _ _ _ q => q⟩

theorem evT_and (fr : Fr) (h : Hs) : evT c (.and i j) fr h = (evT c i fr h).bind fun t h => if t then evT c j fr h else .ok false h := by
  unfold evT
  show ((ev c i fr h).bind fun x h => match Mi.truth h x with
    | some true => ev c j fr h
    | some false => .ok x h
    | none => .stk).bind _ = _
  cases ev c i fr h with
  | ok x h1 =>
    simp only [R.bind_ok]
    cases q : Mi.truth h1 x with
    | none => rfl
    | some t => cases t <;> simp [Mi.liftO, q]
  | exc x h1 => rfl
  | stk => rfl
theorem evT_or (fr : Fr) (h : Hs) : evT c (.or i j) fr h = (evT c i fr h).bind fun t h => if t then .ok true h else evT c j fr h := by
  unfold evT
  show ((ev c i fr h).bind fun x h => match Mi.truth h x with
    | some true => .ok x h
    | some false => ev c j fr h
    | none => .stk).bind _ = _
  cases ev c i fr h with
  | ok x h1 =>
    simp only [R.bind_ok]
    cases q : Mi.truth h1 x with
    | none => rfl
    | some t => cases t <;> simp [Mi.liftO, q]
  | exc x h1 => rfl
  | stk => rfl
theorem evT_not (fr : Fr) (h : Hs) : evT c (.not i) fr h = (evT c i fr h).bind fun t h => .ok (!t) h := by
  unfold evT
  show ((ev c i fr h).bind fun x h => match Mi.truth h x with
    | some t => R.ok (W.bl (!t)) h
    | none => .stk).bind _ = _
  cases ev c i fr h with
  | ok x h1 =>
    simp only [R.bind_ok]
    cases q : Mi.truth h1 x with
    | none => rfl
    | some t => simp [Mi.liftO, Mi.truth]
  | exc x h1 => rfl
  | stk => rfl
theorem evT_ite (fr : Fr) (h : Hs) : evT c (.ite i j k) fr h = (evT c i fr h).bind fun t h => if t then evT c j fr h else evT c k fr h := by
  unfold evT
  show ((ev c i fr h).bind fun x h => match Mi.truth h x with
    | some true => ev c j fr h
    | some false => ev c k fr h
    | none => .stk).bind _ = _
  cases ev c i fr h with
  | ok x h1 =>
    simp only [R.bind_ok]
    cases q : Mi.truth h1 x with
    | none => rfl
    | some t => cases t <;> simp [Mi.liftO]
  | exc x h1 => rfl
  | stk => rfl
theorem ev_ite (fr : Fr) (h : Hs) : ev c (.ite i j k) fr h = (evT c i fr h).bind fun t h => if t then ev c j fr h else ev c k fr h := by
  unfold evT
  show ((ev c i fr h).bind fun x h => match Mi.truth h x with
    | some true => ev c j fr h
    | some false => ev c k fr h
    | none => .stk) = _
  cases ev c i fr h with
  | ok x h1 =>
    simp only [R.bind_ok]
    cases q : Mi.truth h1 x with
    | none => rfl
    | some t => cases t <;> simp [Mi.liftO]
  | exc x h1 => rfl
  | stk => rfl
/-- a test, then -/
theorem simTb {α β : Type} {Rel : List Addr → Hp → α → β → Prop} {f : Fr → Hs → R Bool} {g : Fr → Bool → Hs → R α} {σ : L2.St} {H : Hp} {Q : β → Hp → Prop} {P : Bool → Hp → Prop}
    (z : ∃ (ρ : List Addr) (h : Hs) (fr : Fr), RelH G.K G.T ρ h H ∧ FrR G.K ρ H fr σ ∧ OutE G Rel ρ H ((f fr h).bind fun t h => g fr t h) Q (fun c d H' => Wx c d σ H'))
    (hP : ∀ t H1, (∃ (ρ1 : List Addr) (h1 : Hs) (fr : Fr), RelH G.K G.T ρ1 h1 H1 ∧ FrR G.K ρ1 H1 fr σ ∧ OutE G Rel ρ1 H1 (g fr t h1) Q (fun c d H' => Wx c d σ H')) → P t H1) : SimT G f Wx σ H P := by
  obtain ⟨ρ, h, fr, R, F, o⟩ := z
  exact ⟨ρ, h, fr, R, F, (oBind (Rel := RT) ⟨h, R⟩ F o).imp (fun v H1 ⟨ρ1, x, h1, s1, R1, F1, w1, o1⟩ => hP v H1 ⟨ρ1, h1, fr, R1, F1, by cases w1; exact o1⟩) fun _ _ _ q => q⟩
theorem sT_and1 (ha : PT X a (SimT G (evT c i) Wx)) : PW X (.BoolOp .And [a] pos) (SimT G (evT c i) Wx) := pw_and1 ha
theorem sT_or1 (ha : PT X a (SimT G (evT c i) Wx)) : PW X (.BoolOp .Or [a] pos) (SimT G (evT c i) Wx) := pw_or1 ha
theorem sT_and {rest : List Expr} (ha : PT X a (SimT G (evT c i) Wx)) (hb : PW X (.BoolOp .And (b :: rest) pos) (SimT G (evT c j) Wx)) : PW X (.BoolOp .And (a :: b :: rest) pos) (SimT G (evT c (.and i j)) Wx) := by
  refine PW.weak (pw_and ha hb) fun σ H Q ⟨ρ, h, fr, R, F, o⟩ => ?_
  rw [evT_and] at o
  refine simTb (g := fun fr t h => if t then evT c j fr h else .ok false h) ⟨ρ, h, fr, R, F, o⟩ fun t H1 ⟨ρ1, h1, fr1, R1, F1, o1⟩ => ?_
  cases t with
  | true => exact ⟨ρ1, h1, fr1, R1, F1, o1⟩
  | false => exact OutE.ok (w := false) o1 R1 rfl
theorem sT_or {rest : List Expr} (ha : PT X a (SimT G (evT c i) Wx)) (hb : PW X (.BoolOp .Or (b :: rest) pos) (SimT G (evT c j) Wx)) : PW X (.BoolOp .Or (a :: b :: rest) pos) (SimT G (evT c (.or i j)) Wx) := by
  refine PW.weak (pw_or ha hb) fun σ H Q ⟨ρ, h, fr, R, F, o⟩ => ?_
  rw [evT_or] at o
  refine simTb (g := fun fr t h => if t then .ok true h else evT c j fr h) ⟨ρ, h, fr, R, F, o⟩ fun t H1 ⟨ρ1, h1, fr1, R1, F1, o1⟩ => ?_
  cases t with
  | false => exact ⟨ρ1, h1, fr1, R1, F1, o1⟩
  | true => exact OutE.ok (w := true) o1 R1 rfl
theorem sT_not (ha : PT X a (SimT G (evT c i) Wx)) : PT X (.UnaryOp .Not a pos) (SimT G (evT c (.not i)) Wx) := by
  refine PT.weak (pt_not ha) fun σ H Q ⟨ρ, h, fr, R, F, o⟩ => ?_
  rw [evT_not] at o
  exact simTb (g := fun fr t h => .ok (!t) h) ⟨ρ, h, fr, R, F, o⟩ fun t H1 ⟨ρ1, h1, fr1, R1, F1, o1⟩ => OutE.ok (w := !t) o1 R1 rfl
/-! .. as values -/
theorem s_and {rest : List Expr} (hK : X.K = G.K) (ha : PE X a (SimE G (ev c i) Wx)) (hb : PE X (.BoolOp .And (b :: rest) pos) (SimE G (ev c j) Wx)) : PE X (.BoolOp .And (a :: b :: rest) pos) (SimE G (ev c (.and i j)) Wx) := by
  refine PE.weak (pe_andT ha hb) fun σ H Q ⟨ρ, h, fr, R, F, o⟩ => ?_
  have o : OutE G (RE G) ρ H ((ev c i fr h).bind fun x h => match Mi.truth h x with
    | some true => ev c j fr h
    | some false => .ok x h
    | none => .stk) Q _ := o
  refine ⟨ρ, h, fr, R, F, (oBind (Rel := RE G) ⟨h, R⟩ F o).imp (fun v H1 ⟨ρ1, x, h1, s1, R1, F1, w1, o1⟩ => ?_) fun _ _ _ q => q⟩
  cases ht : Mi.truth h1 x with
  | none => rw [ht] at o1; exact (show False from o1).elim
  | some t =>
    rw [ht] at o1
    refine ⟨t, by rw [hK]; exact truth_ok R1 w1 ht, ?_⟩
    cases t with
    | true => exact ⟨ρ1, h1, fr, R1, F1, o1⟩
    | false => exact OutE.ok (w := x) o1 R1 w1
theorem s_or {rest : List Expr} (hK : X.K = G.K) (ha : PE X a (SimE G (ev c i) Wx)) (hb : PE X (.BoolOp .Or (b :: rest) pos) (SimE G (ev c j) Wx)) : PE X (.BoolOp .Or (a :: b :: rest) pos) (SimE G (ev c (.or i j)) Wx) := by
  refine PE.weak (pe_orT ha hb) fun σ H Q ⟨ρ, h, fr, R, F, o⟩ => ?_
  have o : OutE G (RE G) ρ H ((ev c i fr h).bind fun x h => match Mi.truth h x with
    | some true => .ok x h
    | some false => ev c j fr h
    | none => .stk) Q _ := o
  refine ⟨ρ, h, fr, R, F, (oBind (Rel := RE G) ⟨h, R⟩ F o).imp (fun v H1 ⟨ρ1, x, h1, s1, R1, F1, w1, o1⟩ => ?_) fun _ _ _ q => q⟩
  cases ht : Mi.truth h1 x with
  | none => rw [ht] at o1; exact (show False from o1).elim
  | some t =>
    rw [ht] at o1
    refine ⟨t, by rw [hK]; exact truth_ok R1 w1 ht, ?_⟩
    cases t with
    | false => exact ⟨ρ1, h1, fr, R1, F1, o1⟩
    | true => exact OutE.ok (w := x) o1 R1 w1
theorem s_not (hK : X.K = G.K) (ha : PE X a (SimE G (ev c i) Wx)) : PE X (.UnaryOp .Not a pos) (SimE G (ev c (.not i)) Wx) := by
  refine PE.weak (pe_notT ha) fun σ H Q ⟨ρ, h, fr, R, F, o⟩ => ?_
  have o : OutE G (RE G) ρ H ((ev c i fr h).bind fun x h => match Mi.truth h x with
    | some t => .ok (.bl (!t)) h
    | none => .stk) Q _ := o
  refine ⟨ρ, h, fr, R, F, (oBind (Rel := RE G) ⟨h, R⟩ F o).imp (fun v H1 ⟨ρ1, x, h1, s1, R1, F1, w1, o1⟩ => ?_) fun _ _ _ q => q⟩
  cases ht : Mi.truth h1 x with
  | none => rw [ht] at o1; exact (show False from o1).elim
  | some t =>
    rw [ht] at o1
    exact ⟨t, by rw [hK]; exact truth_ok R1 w1 ht, OutE.ok (Rel := RE G) (w := W.bl (!t)) o1 R1 (WR.bl _)⟩
theorem s_ite {d : Expr} (hc : PT X d (SimT G (evT c i) Wx)) (ha : PE X a (SimE G (ev c j) Wx)) (hb : PE X b (SimE G (ev c k) Wx)) : PE X (.IfExp d a b pos) (SimE G (ev c (.ite i j k)) Wx) := by
  refine PE.weak (pe_ifExp hc ha hb) fun σ H Q ⟨ρ, h, fr, R, F, o⟩ => ?_
  rw [ev_ite] at o
  refine simTb (g := fun fr t h => if t then ev c j fr h else ev c k fr h) ⟨ρ, h, fr, R, F, o⟩ fun t H1 ⟨ρ1, h1, fr1, R1, F1, o1⟩ => ?_
  cases t with
  | true => exact ⟨ρ1, h1, fr1, R1, F1, o1⟩
  | false => exact ⟨ρ1, h1, fr1, R1, F1, o1⟩
end
end
end MiS
end
section
set_option Elab.async false
set_option linter.all false
set_option maxRecDepth 100000
set_option maxHeartbeats 2000000
/-! Arguments, displays, calls of built-ins, methods, slices, isinstance, what is walked. -/
namespace MiS
open PySem L2
open Mi (W Ob Hs Fr R Rs Xc Cl E Es It ev evs evi)

/-- it is no starred item, no slice -/
def nsE : Expr → Bool
  | .Starred _ _ => false
  | .Slice _ _ _ _ => false
  | _ => true
theorem star_of {e : Expr} {es : List Expr} {env : Env} (h : nsE e = true) : starEach (e :: es) env = (false, eval e env) :: starEach es env := by
  cases e <;> first | rfl | cases h
theorem plainIx_of {e : Expr} (h : nsE e = true) : PlainIx e := by
  intro o i
  cases e <;> first | rfl | cases h
theorem back_of {env : Env} {pos : Pos} : ∀ {es : List Expr}, es.all nsE = true → (backTo pos (starEach es env)).any (·.1) = false
  | [], _ => rfl
  | e :: es, h => by
    rw [List.all_cons, Bool.and_eq_true] at h
    rw [star_of h.1]
    show (false || (backTo pos (starEach es env)).any (·.1)) = false
    rw [back_of h.2]; rfl
theorem back_all {env : Env} {pos : Pos} : ∀ {es : List Expr}, es.all nsE = true → (backTo pos (starEach es env)).all (fun x => !x.1) = true
  | [], _ => rfl
  | e :: es, h => by
    rw [List.all_cons, Bool.and_eq_true] at h
    rw [star_of h.1]
    show (true && (backTo pos (starEach es env)).all (fun x => !x.1)) = true
    rw [back_all h.2]; rfl
/-- it is no call of a name without arguments -/
def baseE : Expr → Bool
  | .Call (.Name _ _) [] [] _ => false
  | _ => true
theorem base_of {o : Expr} {name : Str} {env : Env} {t : Sem Value} (h : baseE o = true) : attributeBase o name env t = t := by
  unfold attributeBase
  split
  · cases h
  · rfl

section
variable {G : Gv} {X : Cx} {c : Cl} {Wx : WX} {e a b : Expr} {es : List Expr} {pos : Pos} {i j k : E} {is : Es}

theorem sa_nil : PA X [] (SimA G (evs c .nil) Wx) := ⟨fun p pins s σ H Q I ⟨ρ, h, fr, R, F, o⟩ => pa_nil.run p pins s σ H Q I (OutE.ok (Rel := RA G) (w := []) o R .nil)⟩
theorem sa_cons (hs : nsE e = true) (ha : PE X e (SimE G (ev c i) Wx)) (hr : PA X es (SimA G (evs c is) Wx)) : PA X (e :: es) (SimA G (evs c (.cons i is)) Wx) := by
  refine PA.weak (pa_cons ha hr (star_of hs)) fun σ H Q ⟨ρ, h, fr, R, F, o⟩ => ?_
  have o : OutE G (RA G) ρ H ((ev c i fr h).bind fun w h => (evs c is fr h).bind fun ws h => .ok (w :: ws) h) Q (fun c d H' => Wx c d σ H') := o
  refine ⟨ρ, h, fr, R, F, (oBind (Rel := RE G) ⟨h, R⟩ F o).imp (fun v H1 ⟨ρ1, x, h1, s1, R1, F1, w1, o1⟩ => ?_) fun _ _ _ q => q⟩
  refine ⟨ρ1, h1, fr, R1, F1, (oBind (Rel := RA G) ⟨h1, R1⟩ F1 o1).imp (fun vs H2 ⟨ρ2, xs, h2, s2, R2, F2, w2, o2⟩ => ?_) fun _ _ _ q => q⟩
  exact OutE.ok (Rel := RA G) (w := x :: xs) o2 R2 (.cons (w1.mono R1 s2) w2)

/-- the arguments, then -/
theorem simA {g : List W → Hs → R W} {σ : L2.St} {H : Hp} {Q : VK} {P : List V → Hp → Prop}
    (z : SimE G (fun fr h => (evs c is fr h).bind fun ws h => g ws h) Wx σ H Q)
    (hP : ∀ ρ h H1 ws vs, RelH G.K G.T ρ h H1 → WRs G.K ρ H1 ws vs → OutE G (RE G) ρ H1 (g ws h) Q (fun c d H' => Wx c d σ H') → P vs H1) : SimA G (evs c is) Wx σ H P := by
  obtain ⟨ρ, h, fr, R, F, o⟩ := z
  exact ⟨ρ, h, fr, R, F, (oBind (Rel := RA G) ⟨h, R⟩ F o).imp (fun v H1 ⟨ρ1, x, h1, s1, R1, F1, w1, o1⟩ => hP ρ1 h1 H1 x v R1 w1 o1) fun _ _ _ q => q⟩
theorem s_tup {x1 : Nat} (h : PA X es (SimA G (evs c is) Wx)) : PE X (.Tuple es x1 pos) (SimE G (ev c (.tup is)) Wx) := by
  refine PE.weak (pe_tup h) fun σ H Q z => simA (g := fun ws h => Mi.okIf (decide (ws.length ≤ Mi.lineW)) (.tup ws) h) z fun ρ h H1 ws vs R w o => ?_
  obtain ⟨hl, o⟩ := okIf_out o
  have hl := le_line (of_decide_eq_true hl)
  exact ⟨by rw [← w.length]; exact hl, fun p n => tup_out R w hl o p n⟩
theorem s_lst (h : PA X es (SimA G (evs c is) Wx)) : PE X (.List es pos) (SimE G (ev c (.lst is)) Wx) := by
  refine PE.weak (pe_lst h) fun σ H Q z => simA (g := fun ws h => if ws.length ≤ Mi.lineW then Mi.new (.lst ws) h else .stk) z fun ρ h H1 ws vs R w o => ?_
  split at o
  · rename_i hl
    have hl := le_line hl
    exact ⟨by rw [← w.length]; exact hl, fun p n => new_lst_out R w hl o p n⟩
  · exact (show False from o).elim

/-! ### built-in functions -/
theorem s_bi {x : Str} {id : String} {p : Pos} {f : Mi.Bi} (hc : CallR X (.builtin id) (cSim G (Mi.biV f))) (hg : Gl X x) (hm : X.mg x = none) (hv : bootBuiltins x = some (.builtin id)) (hn : x ≠ "__name__") (hdb : (x == ("__debug__" : Str)) = false)
    (hs : (e :: es).all nsE = true) (ha : PA X (e :: es) (SimA G (evs c is) Wx)) : PE X (.Call (.Name x p) (e :: es) [] pos) (SimE G (ev c (.bi f is)) Wx) := by
  have hs2 : nsE e = true ∧ es.all nsE = true := by rw [List.all_cons, Bool.and_eq_true] at hs; exact hs
  refine PE.weak (pe_callB hc hg hm hv ha hn hdb (star_of hs2.1) (back_of hs2.2)) fun σ H Q z => ?_
  exact simA (g := Mi.biV f) z fun ρ h H1 ws vs R w o => ⟨ρ, h, ws, R, w, o.noX (noX_bi f ws h)⟩
theorem s_biT {x : Str} {id : String} {p : Pos} {f : Mi.Bi} (hc : CallR X (.type id) (cSim G (Mi.biV f))) (hg : Gl X x) (hm : X.mg x = none) (hv : bootBuiltins x = some (.type id)) (hn : x ≠ "__name__") (hdb : (x == ("__debug__" : Str)) = false)
    (hs : (e :: es).all nsE = true) (ha : PA X (e :: es) (SimA G (evs c is) Wx)) : PE X (.Call (.Name x p) (e :: es) [] pos) (SimE G (ev c (.bi f is)) Wx) := by
  have hs2 : nsE e = true ∧ es.all nsE = true := by rw [List.all_cons, Bool.and_eq_true] at hs; exact hs
  refine PE.weak (pe_callTy hc hg hm hv ha hn hdb (star_of hs2.1) (back_of hs2.2)) fun σ H Q z => ?_
  exact simA (g := Mi.biV f) z fun ρ h H1 ws vs R w o => ⟨ρ, h, ws, R, w, o.noX (noX_bi f ws h)⟩

/-! ### methods -/
theorem tyV_ok {ρ : List Addr} {h : Hs} {H : Hp} {w : W} {v : V} {t : Mi.Ty} (R : RelH G.K G.T ρ h H) (r : WR G.K ρ H w v) (e : Mi.typeW h w = some t) {T : String} (ht : (t = .lst ∧ T = "list") ∨ (t = .str ∧ T = "str") ∨ (t = .dic ∧ T = "dict")) : tyV G.K T v H := by
  cases r with
  | str s =>
    cases (Option.some.inj e)
    rcases ht with ⟨z, _⟩ | ⟨_, z⟩ | ⟨z, _⟩
    · cases z
    · exact z
    · cases z
  | @ref n p hp =>
    cases e1 : h[n]? with
    | none => simp only [Mi.typeW, e1] at e; cases e
    | some ob =>
      have ro := R.ob n ob p e1 hp
      cases ro with
      | lst q l rs =>
        simp only [Mi.typeW, e1] at e
        cases (Option.some.inj e)
        rcases ht with ⟨_, z⟩ | ⟨z, _⟩ | ⟨z, _⟩
        · exact .inl ⟨z, _, .inl (.inl q)⟩
        · cases z
        · cases z
      | dic q rs =>
        simp only [Mi.typeW, e1] at e
        cases (Option.some.inj e)
        rcases ht with ⟨z, _⟩ | ⟨z, _⟩ | ⟨_, z⟩
        · cases z
        · cases z
        · exact .inr (.inr (.inl ⟨z, .inl ⟨_, q⟩⟩))
  | non => cases (Option.some.inj e); rcases ht with ⟨z, _⟩ | ⟨z, _⟩ | ⟨z, _⟩ <;> cases z
  | bl => cases (Option.some.inj e); rcases ht with ⟨z, _⟩ | ⟨z, _⟩ | ⟨z, _⟩ <;> cases z
  | int => cases (Option.some.inj e); rcases ht with ⟨z, _⟩ | ⟨z, _⟩ | ⟨z, _⟩ <;> cases z
  | tup => cases (Option.some.inj e); rcases ht with ⟨z, _⟩ | ⟨z, _⟩ | ⟨z, _⟩ <;> cases z
/-- o.m(..): the receiver's type is T alone -/
theorem s_me1 {T id : String} {name : Str} {m : Mi.Me} {o : Expr} {apos : Pos} {t : Mi.Ty} (hK : X.K = G.K) (pa : PlainAttrs T) (slot : Slot T name id) (hty : typeOf (.builtin id) = pure (.type "method_descriptor")) (hm : MtR X id (mSim G m))
    (htt : (t = .lst ∧ T = "list") ∨ (t = .str ∧ T = "str") ∨ (t = .dic ∧ T = "dict")) (hmt : m.tys = [t])
    (ho : PE X o (SimE G (ev c i) Wx)) (hb : baseE o = true) (hl : (apos.endLine == pos.line) = true) (hs : (e :: es).all nsE = true) (hn : (e :: es).length < 30) (ha : PA X (e :: es) (SimA G (evs c is) Wx)) :
    PE X (.Call (.Attribute o name apos) (e :: es) [] pos) (SimE G (ev c (.me m i is)) Wx) := by
  have hs2 : nsE e = true ∧ es.all nsE = true := by rw [List.all_cons, Bool.and_eq_true] at hs; exact hs
  refine PE.weak (pe_bm pa slot hty hm ho ha (base_of hb) (by rw [back_all hs]; show (true && true && decide ((e :: es).length < 30)) = true; rw [decide_eq_true hn]; rfl) hl (star_of hs2.1) (back_of hs2.2)) fun σ H Q ⟨ρ, h, fr, R, F, o⟩ => ?_
  have o : OutE G (RE G) ρ H ((ev c i fr h).bind fun x h => match Mi.typeW h x with
    | some t => if m.tys.contains t then (evs c is fr h).bind fun ws h => Mi.meV m x ws h else .stk
    | none => .stk) Q (fun c d H' => Wx c d σ H') := o
  refine ⟨ρ, h, fr, R, F, (oBind (Rel := RE G) ⟨h, R⟩ F o).imp (fun v H1 ⟨ρ1, x, h1, s1, R1, F1, w1, o1⟩ => ?_) fun _ _ _ q => q⟩
  cases et : Mi.typeW h1 x with
  | none => rw [et] at o1; exact (show False from o1).elim
  | some t' =>
    rw [et] at o1
    have o1 : OutE G (RE G) ρ1 H1 (if m.tys.contains t' then (evs c is fr h1).bind fun ws h => Mi.meV m x ws h else .stk) Q (fun c d H' => Wx c d σ H') := o1
    split at o1
    · rename_i hin
      rw [hmt] at hin
      have e2 : t' = t := by simpa using hin
      subst e2
      refine ⟨by rw [hK]; exact tyV_ok R1 w1 et htt, ?_⟩
      exact ⟨ρ1, h1, fr, R1, F1, (oBind (Rel := RA G) ⟨h1, R1⟩ F1 o1).imp (fun vs H2 ⟨ρ2, xs, h2, s2, R2, F2, w2, o2⟩ => ⟨ρ2, h2, x, xs, R2, w1.mono R1 s2, w2, o2.noX (noX_me m x xs h2)⟩) fun _ _ _ q => q⟩
    · exact (show False from o1).elim
/-! ### slices -/
theorem s_slc {lo hi : Option Expr} {p2 : Pos} {il ih : Es} {tl th : TO} (hK : X.K = G.K) (ho : PE X e (SimE G (ev c i) Wx))
    (hl : (lo = none ∧ il = .nil) ∨ ∃ l k, lo = some l ∧ il = .cons k .nil ∧ PE X l (SimE G (ev c k) Wx)) (hh : (hi = none ∧ ih = .nil) ∨ ∃ l k, hi = some l ∧ ih = .cons k .nil ∧ PE X l (SimE G (ev c k) Wx)) :
    PE X (.Subscript e (.Slice lo hi none p2) pos) (SimE G (ev c (.slc i il ih)) Wx) := by
  have part : ∀ {lo : Option Expr} {il : Es}, ((lo = none ∧ il = .nil) ∨ ∃ l k, lo = some l ∧ il = .cons k .nil ∧ PE X l (SimE G (ev c k) Wx)) → ∃ t : TO, PO X lo t ∧
      ∀ {σ : L2.St} {H : Hp} {P : Option Int → Hp → Prop} {ρ : List Addr} {h : Hs} {fr : Fr}, RelH G.K G.T ρ h H → FrR G.K ρ H fr σ → OutE G (RA G) ρ H (evs c il fr h) (fun vs H1 => ∃ (ρ1 : List Addr) (xs : List W) (h1 : Hs), WRs G.K ρ1 H1 xs vs ∧ ∃ o, Mi.boundV xs = some o ∧ P o H1) (fun c d H' => Wx c d σ H') → t σ H P := by
    intro lo il z
    rcases z with ⟨rfl, rfl⟩ | ⟨l, k, rfl, rfl, hp⟩
    · refine ⟨_, po_none, fun {σ H P ρ h fr} R F o => ?_⟩
      obtain ⟨ρ1, xs, h1, w, o', eo, p⟩ := OutE.ok (Rel := RA G) (w := []) (v := []) o R .nil
      cases w
      cases (Option.some.inj eo)
      exact p
    · refine ⟨_, po_some hp, fun {σ H P ρ h fr} R F o => ?_⟩
      have o : OutE G (RA G) ρ H ((ev c k fr h).bind fun w h => .ok [w] h) _ (fun c d H' => Wx c d σ H') := o
      refine ⟨ρ, h, fr, R, F, (oBind (Rel := RE G) ⟨h, R⟩ F o).imp (fun v H1 ⟨ρ1, x, h1, s1, R1, F1, w1, o1⟩ => ?_) fun _ _ _ q => q⟩
      obtain ⟨ρ2, xs, h2, w, o', eo, p⟩ := OutE.ok (Rel := RA G) (w := [x]) (v := [v]) o1 R1 (.cons w1 .nil)
      cases w with
      | cons wa wb =>
        cases wb
        rename_i w'
        cases w' with
        | int i =>
          cases wa
          cases (Option.some.inj eo)
          exact ⟨i, rfl, p⟩
        | _ => cases eo
  obtain ⟨t1, p1, q1⟩ := part hl
  obtain ⟨t2, p2', q2⟩ := part hh
  refine PE.weak (pe_slice (slr hK) ho p1 p2') fun σ H Q ⟨ρ, h, fr, R, F, o⟩ => ?_
  have o : OutE G (RE G) ρ H ((ev c i fr h).bind fun x h => (evs c il fr h).bind fun l h => match Mi.boundV l with
    | some l => (evs c ih fr h).bind fun u h => match Mi.boundV u with
      | some u => Mi.slcV h x l u
      | none => .stk
    | none => .stk) Q (fun c d H' => Wx c d σ H') := o
  refine ⟨ρ, h, fr, R, F, (oBind (Rel := RE G) ⟨h, R⟩ F o).imp (fun v H1 ⟨ρ1, x, h1, s1, R1, F1, w1, o1⟩ => ?_) fun _ _ _ q => q⟩
  refine q1 R1 F1 ((oBind (Rel := RA G) ⟨h1, R1⟩ F1 o1).imp (fun vl H2 ⟨ρ2, xl, h2, s2, R2, F2, w2, o2⟩ => ?_) fun _ _ _ q => q)
  refine ⟨ρ2, xl, h2, w2, ?_⟩
  have o2 : OutE G (RE G) ρ2 H2 (match Mi.boundV xl with
    | some l => (evs c ih fr h2).bind fun u h => match Mi.boundV u with
      | some u => Mi.slcV h x l u
      | none => .stk
    | none => .stk) Q (fun c d H' => Wx c d σ H') := o2
  cases el : Mi.boundV xl with
  | none => rw [el] at o2; exact (show False from o2).elim
  | some l =>
    rw [el] at o2
    refine ⟨l, rfl, ?_⟩
    refine q2 R2 F2 ((oBind (Rel := RA G) ⟨h2, R2⟩ F2 o2).imp (fun vu H3 ⟨ρ3, xu, h3, s3, R3, F3, w3, o3⟩ => ?_) fun _ _ _ q => q)
    refine ⟨ρ3, xu, h3, w3, ?_⟩
    have o3 : OutE G (RE G) ρ3 H3 (match Mi.boundV xu with
      | some u => Mi.slcV h3 x l u
      | none => .stk) Q (fun c d H' => Wx c d σ H') := o3
    cases eu : Mi.boundV xu with
    | none => rw [eu] at o3; exact (show False from o3).elim
    | some u =>
      rw [eu] at o3
      exact ⟨u, rfl, ρ3, h3, x, R3, (w1.mono R1 s2).mono R2 s3, o3.noX (noX_slc x l u h3)⟩
end
end MiS
end
section
set_option Elab.async false
set_option linter.all false
set_option maxRecDepth 100000
set_option maxHeartbeats 2000000
/-! isinstance; what is walked. -/
namespace MiS
open PySem L2
open Mi (W Ob Hs Fr R Rs Xc Cl E Es It ev evs evi)

def tyN : Mi.Ty → Option String
  | .non => some "NoneType"
  | .bl => some "bool"
  | .int => some "int"
  | .str => some "str"
  | .lst => some "list"
  | .tup => some "tuple"
  | .dic => some "dict"
  | .own _ => none
def cls6 : List String := ["bool", "int", "str", "list", "tuple", "dict"]
theorem kit6 : ∀ (a b : Mi.Ty) (n m : String), tyN a = some n → tyN b = some m → b ≠ .non → kitB n m = some (Mi.subTy a b) := by
  intro a b n m ha hb hn
  cases a <;> cases b <;> simp only [tyN, Option.some.injEq, reduceCtorEq] at ha hb <;> first | exact absurd rfl hn | (subst ha hb; decide +kernel)
section
variable {G : Gv} {X : Cx} {c : Cl} {Wx : WX} {e a b : Expr} {es : List Expr} {pos : Pos} {i j k : E} {is : Es}
theorem tyX_ok {ρ : List Addr} {h : Hs} {H : Hp} {w : W} {v : V} {t : Mi.Ty} (R : RelH G.K G.T ρ h H) (r : WR G.K ρ H w v) (e : Mi.typeW h w = some t) : ∃ n, tyN t = some n ∧ TyX G.K H v (.type n) := by
  cases r with
  | non => cases (Option.some.inj e); exact ⟨_, rfl, .base .non⟩
  | bl b => cases (Option.some.inj e); exact ⟨_, rfl, .base (.bl b)⟩
  | int i => cases (Option.some.inj e); exact ⟨_, rfl, .base (.int i)⟩
  | str s => cases (Option.some.inj e); exact ⟨_, rfl, .base (.str _)⟩
  | tup q l rs =>
    cases (Option.some.inj e)
    refine ⟨_, rfl, ?_⟩
    rcases q with (q | ⟨o, q⟩) | ⟨o, its, n, q, hc, _⟩
    · exact .base (.tup q)
    · exact .fTuple q
    · exact .kTuple q hc
  | @ref n p hp =>
    cases e1 : h[n]? with
    | none => simp only [Mi.typeW, e1] at e; cases e
    | some ob =>
      cases R.ob n ob p e1 hp with
      | lst q l rs =>
        simp only [Mi.typeW, e1] at e
        cases (Option.some.inj e)
        exact ⟨_, rfl, .base (.lst q)⟩
      | dic q rs =>
        simp only [Mi.typeW, e1] at e
        cases (Option.some.inj e)
        exact ⟨_, rfl, .base (.dK q)⟩
/-- the names of the classes -/
inductive TysN : List Mi.Ty → List String → Prop
  | nil : TysN [] []
  | cons {t : Mi.Ty} {n : String} {ts : List Mi.Ty} {ns : List String} (h : tyN t = some n) (hn : t ≠ .non) (r : TysN ts ns) : TysN (t :: ts) (n :: ns)
theorem kitAny6 {K : PySem.W.Frag} {a : Mi.Ty} {n : String} (ha : tyN a = some n) : ∀ {ts : List Mi.Ty} {ns : List String}, TysN ts ns → PySem.W.kitAny K (.type n) (ns.map Value.type) = some (ts.any (Mi.subTy a))
  | _, _, .nil => kitAny_nil
  | _, _, @TysN.cons t m ts ns h hn r => by
    have k := kit_ty (K := K) (kit6 a t n m ha h hn)
    show PySem.W.kitAny K (.type n) (Value.type m :: ns.map Value.type) = _
    rw [List.any_cons]
    refine kitAny_cons k (fun z => ?_) (fun z => ?_)
    · rw [z, Bool.false_or]; exact kitAny6 ha r
    · rw [z, Bool.true_or]
/-- isinstance(x, T) -/
theorem s_isi {ce : Expr} {p : Pos} {t : Mi.Ty} {n : String} (hK : X.K = G.K) (ht : tyN t = some n) (hn : t ≠ .non) (hg : Gl X "isinstance") (hm : X.mg "isinstance" = none) (ns : nsE e = true) (nc : nsE ce = true)
    (ha : PE X e (SimE G (ev c i) Wx)) (hc : PE X ce (tC (.ty n))) : PE X (.Call (.Name "isinstance" p) [e, ce] [] pos) (SimE G (ev c (.isi i [t])) Wx) := by
  refine PE.weak (pe_callB call_isi hg hm (by decide +kernel) (pa_cons ha (pa_cons hc pa_nil (star_of nc)) (star_of ns)) (by decide) (by decide) (star_of ns) (back_of (by simp [nc]))) fun σ H Q z => ?_
  show SimE G (ev c i) Wx σ H fun x H1 => rIsi X.K [x, .ty n] H1 Q
  refine sim1 (k := fun x h => match Mi.typeW h x with
    | some u => .ok (.bl ([t].any (Mi.subTy u))) h
    | none => .stk) (fun ρ h H x v R w o => ?_) z
  cases e1 : Mi.typeW h x with
  | none => rw [e1] at o; exact (show False from o).elim
  | some u =>
    rw [e1] at o
    obtain ⟨m, hu, tx⟩ := tyX_ok R w e1
    refine ⟨v, .ty n, .type m, .type n, Mi.subTy u t, rfl, .ty n, by rw [hK]; exact tx, kit_ty (kit6 u t m n hu ht hn), ?_⟩
    have o := OutE.ok (Rel := RE G) (w := W.bl ([t].any (Mi.subTy u))) o R (WR.bl _)
    rw [List.any_cons, List.any_nil, Bool.or_false] at o
    exact o
/-- isinstance(x, (T, ..)) -/
theorem s_isiT {cs : List Expr} {p p2 : Pos} {x1 : Nat} {ts : List Mi.Ty} {ns : List String} (hK : X.K = G.K) (ht : TysN ts ns) (hl : ns.length ≤ sizeLine) (hg : Gl X "isinstance") (hm : X.mg "isinstance" = none) (hs : nsE e = true)
    (ha : PE X e (SimE G (ev c i) Wx)) (hc : PA X cs (fun _ H Q => Q (ns.map V.ty) H)) : PE X (.Call (.Name "isinstance" p) [e, .Tuple cs x1 p2] [] pos) (SimE G (ev c (.isi i ts)) Wx) := by
  refine PE.weak (pe_callB call_isiT hg hm (by decide +kernel) (pa_cons ha (pa_cons (pe_tup hc) pa_nil (star_of rfl)) (star_of hs)) (by decide) (by decide) (star_of hs) (back_of (by rfl))) fun σ H Q z => ?_
  show SimE G (ev c i) Wx σ H fun x H1 => (ns.map V.ty).length ≤ sizeLine ∧ ∀ p, H1 p = none → rIsiT X.K [x, .ref p] (upd H1 p (.tup (ns.map V.ty))) Q
  refine sim1 (k := fun x h => match Mi.typeW h x with
    | some u => .ok (.bl (ts.any (Mi.subTy u))) h
    | none => .stk) (fun ρ h H x v R w o => ⟨by rw [List.length_map]; exact hl, fun p np => ?_⟩) z
  cases e1 : Mi.typeW h x with
  | none => rw [e1] at o; exact (show False from o).elim
  | some u =>
    rw [e1] at o
    have R' := R.put (o := .tup (ns.map V.ty)) np
    have s := Stp.put (o := .tup (ns.map V.ty)) np (R.free np)
    obtain ⟨m, hu, tx⟩ := tyX_ok R' (w.mono R s) e1
    refine ⟨v, p, ns.map V.ty, .type m, ns.map Value.type, ts.any (Mi.subTy u), rfl, upd_same, ?_, by rw [hK]; exact tx, kitAny6 hu ht, ?_⟩
    · have : ∀ l : List String, PySem.Paired ClsV (l.map V.ty) (l.map Value.type) := fun l => by
        induction l with
        | nil => exact .nil
        | cons a l ih => exact .cons (.ty a) ih
      exact this ns
    · exact o ρ _ _ s R' (WR.bl _)

/-! ### what is walked -/
theorem si_val (hK : X.K = G.K) {tg : Expr} (ha : PE X e (SimE G (ev c i) Wx)) : PI X tg e (SimI G (evi c (.val i)) Wx) := by
  refine PI.weak (PI.or (pi_list ha) (PI.or (pi_tup ha) (pi_str ha))) fun σ H J ⟨ρ, h, fr, R, F, o⟩ => ?_
  have o : OutE G (IW G) ρ H ((ev c i fr h).bind fun x h => match x with
    | .str s => .ok (s.map fun n => .str [n], fun _ => true) h
    | _ => match Mi.items h x with
      | some ws => .ok (ws, fun h' => Mi.still h h' x) h
      | none => .stk) J (fun c d H' => Wx c d σ H') := o
  cases q : ev c i fr h with
  | exc x h1 =>
    rw [q] at o
    exact .inl ⟨ρ, h, fr, R, F, by rw [q]; exact o⟩
  | stk => rw [q] at o; exact (show False from o).elim
  | ok x h1 =>
    rw [q, Mi.R.bind_ok] at o
    cases x with
    | str s =>
      refine .inr (.inr ⟨ρ, h, fr, R, F, ?_⟩)
      rw [q]
      intro ρ' H' v st R' wv
      cases wv
      exact ⟨tx s, rfl, o ρ' H' _ st R' iw_str⟩
    | tup ws =>
      refine .inr (.inl ⟨ρ, h, fr, R, F, ?_⟩)
      rw [q]
      intro ρ' H' v st R' wv
      cases wv with
      | tup qs l rs =>
        rw [hK]
        exact ⟨_, rfl, ⟨_, qs⟩, o ρ' H' _ st R' (iw_tup R' qs rs)⟩
    | ref n =>
      refine .inl ⟨ρ, h, fr, R, F, ?_⟩
      rw [q]
      intro ρ' H' v st R' wv
      cases wv with
      | @ref _ p hp =>
        have o : OutE G (IW G) ρ H (match Mi.items h1 (.ref n) with
          | some ws => .ok (ws, fun h' => Mi.still h1 h' (.ref n)) h1
          | none => .stk) J (fun c d H' => Wx c d σ H') := o
        cases e1 : h1[n]? with
        | none => rw [show Mi.items h1 (.ref n) = none from by simp only [Mi.items, e1]] at o; exact (show False from o).elim
        | some ob =>
          cases ob with
          | lst ws =>
            rw [show Mi.items h1 (.ref n) = some ws from by simp only [Mi.items, e1]] at o
            cases R'.ob n _ p e1 hp with
            | lst qs l rs =>
              rw [hK]
              exact ⟨_, rfl, ⟨_, .inl (.inl qs)⟩, o ρ' H' _ st R' (iw_list hp e1)⟩
          | dic kvs => rw [show Mi.items h1 (.ref n) = none from by simp only [Mi.items, e1]] at o; exact (show False from o).elim
          | ins cc fs => rw [show Mi.items h1 (.ref n) = none from by simp only [Mi.items, e1]] at o; exact (show False from o).elim
    | non => exact (show False from o).elim
    | bl b => exact (show False from o).elim
    | int z => exact (show False from o).elim
theorem si_enum (hK : X.K = G.K) {elts : List Expr} {kk : Nat} {p tpos : Pos} (hg : Gl X "enumerate") (hm : X.mg "enumerate" = none) (hs : nsE e = true) (ha : PE X e (SimE G (ev c i) Wx)) :
    PI X (.Tuple elts kk tpos) (.Call (.Name "enumerate" p) [e] [] pos) (SimI G (evi c (.enum i)) Wx) := by
  have pa : PA X [e] (tCons (SimE G (ev c i) Wx) tNil) := pa_cons ha pa_nil (star_of hs)
  refine PI.weak (PI.or (pi_enum hg hm pa (star_of hs)) (pi_enumT hg hm pa (star_of hs))) fun σ H J ⟨ρ, h, fr, R, F, o⟩ => ?_
  have o : OutE G (IW G) ρ H ((ev c i fr h).bind fun x h => match Mi.items h x with
      | some ws => .ok (Mi.enumL 0 ws, fun h' => Mi.still h h' x) h
      | none => .stk) J (fun c d H' => Wx c d σ H') := o
  cases q : ev c i fr h with
  | exc x h1 =>
    rw [q] at o
    exact .inl ⟨ρ, h, fr, R, F, by rw [q]; exact o⟩
  | stk => rw [q] at o; exact (show False from o).elim
  | ok x h1 =>
    rw [q, Mi.R.bind_ok] at o
    cases x with
    | tup ws =>
      refine .inr ⟨ρ, h, fr, R, F, ?_⟩
      rw [q]
      intro ρ' H' v st R' wv
      cases wv with
      | tup qs l rs =>
        rw [hK]
        exact ⟨_, _, rfl, qs, o ρ' H' _ st R' (iw_enumT R' qs rs)⟩
    | ref n =>
      refine .inl ⟨ρ, h, fr, R, F, ?_⟩
      rw [q]
      intro ρ' H' v st R' wv
      cases wv with
      | @ref _ p hp =>
        cases e1 : h1[n]? with
        | none => rw [show Mi.items h1 (.ref n) = none from by simp only [Mi.items, e1]] at o; exact (show False from o).elim
        | some ob =>
          cases ob with
          | lst ws =>
            rw [show Mi.items h1 (.ref n) = some ws from by simp only [Mi.items, e1]] at o
            cases R'.ob n _ p e1 hp with
            | lst qs l rs =>
              rw [hK]
              exact ⟨_, _, rfl, .inl (.inl qs), o ρ' H' _ st R' (iw_enum hp e1)⟩
          | dic kvs => rw [show Mi.items h1 (.ref n) = none from by simp only [Mi.items, e1]] at o; exact (show False from o).elim
          | ins cc fs => rw [show Mi.items h1 (.ref n) = none from by simp only [Mi.items, e1]] at o; exact (show False from o).elim
    | str s => exact (show False from o).elim
    | non => exact (show False from o).elim
    | bl b => exact (show False from o).elim
    | int z => exact (show False from o).elim
theorem si_zip (hK : X.K = G.K) {elts : List Expr} {kk : Nat} {p tpos : Pos} {e2 : Expr} (hg : Gl X "zip") (hm : X.mg "zip" = none) (hs : nsE e = true) (hs2 : nsE e2 = true) (ha : PE X e (SimE G (ev c i) Wx)) (hb : PE X e2 (SimE G (ev c j) Wx)) :
    PI X (.Tuple elts kk tpos) (.Call (.Name "zip" p) [e, e2] [] pos) (SimI G (evi c (.zip i j)) Wx) := by
  refine PI.weak (RZ.pi_zipA hg hm (pa_cons ha (pa_cons hb pa_nil (star_of hs2)) (star_of hs)) (star_of hs) (back_of (by simp [hs2]))) fun σ H J ⟨ρ, h, fr, R, F, o⟩ => ?_
  show SimE G (ev c i) Wx σ H fun x H1 => SimE G (ev c j) Wx σ H1 fun y H2 => ∃ a b xs ys, [x, y] = [V.ref a, V.ref b] ∧ _
  have o : OutE G (IW G) ρ H ((ev c i fr h).bind fun x h => (ev c j fr h).bind fun y h => match x, y with
    | .tup xs, .tup ys => .ok (Mi.zipL xs ys, fun _ => true) h
    | .ref n, .ref m => match Mi.items h (.ref n), Mi.items h (.ref m) with
      | some xs, some ys => .ok (Mi.zipL xs ys, fun h' => Mi.still h h' (.ref n) && Mi.still h h' (.ref m)) h
      | _, _ => .stk
    | _, _ => .stk) J (fun c d H' => Wx c d σ H') := o
  refine ⟨ρ, h, fr, R, F, (oBind (Rel := RE G) ⟨h, R⟩ F o).imp (fun v H1 ⟨ρ1, x, h1, s1, R1, F1, w1, o1⟩ => ?_) fun _ _ _ q => q⟩
  refine ⟨ρ1, h1, fr, R1, F1, (oBind (Rel := RE G) ⟨h1, R1⟩ F1 o1).imp (fun u H2 ⟨ρ2, y, h2, s2, R2, F2, w2, o2⟩ => ?_) fun _ _ _ q => q⟩
  have w1 := w1.mono R1 s2
  rw [hK]
  cases w1 with
  | @tup ws a xs q1 l1 r1 =>
    cases w2 with
    | @tup us b ys q2 l2 r2 => exact ⟨a, b, xs, ys, rfl, .inr ⟨q1, q2, OutE.ok (Rel := IW G) (w := (Mi.zipL ws us, fun _ => true)) o2 R2 (iw_zipT R2 q1 r1 q2 r2)⟩⟩
    | _ => exact (show False from o2).elim
  | @ref n a hn =>
    cases w2 with
    | @ref m b hm =>
      have o2 : OutE G (IW G) ρ2 H2 (match Mi.items h2 (.ref n), Mi.items h2 (.ref m) with
        | some xs, some ys => .ok (Mi.zipL xs ys, fun h' => Mi.still h2 h' (.ref n) && Mi.still h2 h' (.ref m)) h2
        | _, _ => .stk) J (fun c d H' => Wx c d σ H') := o2
      have key : ∀ n ws, Mi.items h2 (.ref n) = some ws → h2[n]? = some (.lst ws) := fun n ws e => by
        cases e1 : h2[n]? with
        | none => simp only [Mi.items, e1] at e; cases e
        | some ob =>
          cases ob with
          | lst us => simp only [Mi.items, e1] at e; cases e; rfl
          | dic _ => simp only [Mi.items, e1] at e; cases e
          | ins _ _ => simp only [Mi.items, e1] at e; cases e
      cases en : Mi.items h2 (.ref n) with
      | none => simp only [en] at o2; exact (show False from o2).elim
      | some ws =>
        cases em : Mi.items h2 (.ref m) with
        | none => simp only [en, em] at o2; exact (show False from o2).elim
        | some us =>
          simp only [en, em] at o2
          have k1 := key n ws en
          have k2 := key m us em
          cases R2.ob n _ a k1 hn with
          | lst q1 l1 r1 =>
            cases R2.ob m _ b k2 hm with
            | lst q2 l2 r2 => exact ⟨a, b, _, _, rfl, .inl ⟨.inl (.inl q1), .inl (.inl q2), OutE.ok (Rel := IW G) o2 R2 (iw_zip hn k1 hm k2)⟩⟩
    | _ => exact (show False from o2).elim
  | _ => cases w2 <;> exact (show False from o2).elim
end
end MiS
end
section
set_option Elab.async false
set_option linter.all false
set_option maxRecDepth 100000
set_option maxHeartbeats 2000000
/-! Targets; comprehensions; ranges. -/
namespace MiS
open PySem L2
open Mi (W Ob Hs Fr R Rs Xc Cl E Es It Tg ev evs evi)

def tgLen : Tg → Nat
  | .nm _ => 0
  | .nil => 0
  | .cons _ r => tgLen r + 1
mutual
def tgG (K : PySem.W.Frag) : Tg → TG
  | .nm i => gName i
  | .nil => gTup K 0 gNil
  | .cons a r => gTup K (tgLen r + 1) (gCons (tgG K a) (tgGs K r))
def tgGs (K : PySem.W.Frag) : Tg → TGs
  | .nm _ => fun _ _ _ _ => False
  | .nil => gNil
  | .cons a r => gCons (tgG K a) (tgGs K r)
end
/-- its names are among these -/
def tgIn (vs : List Nat) : Tg → Bool
  | .nm i => vs.contains i
  | .nil => true
  | .cons a r => tgIn vs a && tgIn vs r

theorem wipe_set {σ : L2.St} {i : Nat} {x : Option V} : ∀ {vs : List Nat}, vs.contains i = true → L2.wipe (σ.set i x) vs = L2.wipe σ vs
  | [], h => by simp at h
  | v :: vs, h => by
    show (L2.wipe (σ.set i x) vs).set v none = (L2.wipe σ vs).set v none
    by_cases hv : vs.contains i = true
    · rw [wipe_set hv]
    · have e : i = v := by
        simp only [List.contains_cons, Bool.or_eq_true, beq_iff_eq] at h
        rcases h with h | h
        · exact h
        · exact absurd h hv
      subst e
      have key : ∀ us : List Nat, (L2.wipe (σ.set i x) us).set i none = (L2.wipe σ us).set i none := fun us => by
        induction us with
        | nil => show (σ.set i x).set i none = σ.set i none; rw [List.set_set]
        | cons u us ih =>
          show ((L2.wipe (σ.set i x) us).set u none).set i none = ((L2.wipe σ us).set u none).set i none
          by_cases hu : u = i
          · subst hu; rw [List.set_set, List.set_set, ih]
          · rw [List.set_comm _ _ hu, List.set_comm _ _ hu, ih]
      exact key vs

section
variable {G : Gv} {ρ : List Addr} {H : Hp}
theorem FrR.set {fr : Fr} {σ : L2.St} {i : Nat} {w : W} {v : V} (F : FrR G.K ρ H fr σ) (r : WR G.K ρ H w v) : FrR G.K ρ H (fr.set i (some w)) (σ.set i (some v)) := by
  refine ⟨by rw [List.length_set, List.length_set]; exact F.1, fun j u e => ?_⟩
  by_cases hj : i = j
  · subst hj
    have hl : i < fr.length := by
      have := (List.getElem?_eq_some_iff.mp e).1
      rwa [List.length_set] at this
    rw [List.getElem?_set_self hl] at e
    cases e
    exact ⟨v, by rw [List.getElem?_set_self (by rw [← F.1]; exact hl)], r⟩
  · rw [List.getElem?_set_ne hj] at e ⊢
    exact F.2 j u e
theorem FrR.unset {fr : Fr} {σ : L2.St} {i : Nat} (F : FrR G.K ρ H fr σ) : FrR G.K ρ H (fr.set i none) (σ.set i none) := by
  refine ⟨by rw [List.length_set, List.length_set]; exact F.1, fun j u e => ?_⟩
  by_cases hj : i = j
  · subst hj
    have hl : i < fr.length := by
      have := (List.getElem?_eq_some_iff.mp e).1
      rwa [List.length_set] at this
    rw [List.getElem?_set_self hl] at e
    cases e
  · rw [List.getElem?_set_ne hj] at e ⊢
    exact F.2 j u e
theorem FrR.wipe {fr : Fr} {σ : L2.St} (F : FrR G.K ρ H fr σ) : ∀ vs : List Nat, FrR G.K ρ H (Mi.wipe fr vs) (L2.wipe σ vs)
  | [] => F
  | v :: vs => FrR.unset (FrR.wipe F vs)
theorem bind_cons {a r : Tg} {ws : List W} {fr fr2 : Fr} (e : Mi.bindTg (.cons a r) (.tup ws) fr = some fr2) : ∃ x xs fr', ws = x :: xs ∧ Mi.isNm r = false ∧ Mi.bindTg a x fr = some fr' ∧ Mi.bindTg r (.tup xs) fr' = some fr2 := by
  unfold Mi.bindTg at e
  cases ws with
  | nil => cases e
  | cons x xs =>
    simp only at e
    split at e
    · cases e
    · rename_i hr
      cases q : Mi.bindTg a x fr with
      | none => rw [q] at e; cases e
      | some fr' =>
        rw [q] at e
        exact ⟨x, xs, fr', rfl, by simpa using hr, q, e⟩
theorem bind_nil {ws : List W} {fr fr2 : Fr} (e : Mi.bindTg .nil (.tup ws) fr = some fr2) : ws = [] ∧ fr2 = fr := by
  cases ws with
  | nil => exact ⟨rfl, (Option.some.inj e).symm⟩
  | cons _ _ => have e : (none : Option Fr) = some fr2 := e; cases e
theorem tgs_len : ∀ {g : Tg} {ws : List W} {fr fr2 : Fr}, Mi.isNm g = false → Mi.bindTg g (.tup ws) fr = some fr2 → ws.length = tgLen g
  | .nm i, _, _, _, n, _ => nomatch n
  | .nil, ws, _, _, _, e => by rw [(bind_nil e).1]; rfl
  | .cons a r, ws, _, _, _, e => by
    obtain ⟨x, xs, fr', rfl, hr, _, e2⟩ := bind_cons e
    show xs.length + 1 = tgLen r + 1
    rw [tgs_len hr e2]
mutual
theorem tg_ok : ∀ {g : Tg} {w : W} {v : V} {fr fr2 : Fr} {σ : L2.St} {N : L2.St → Hp → Prop}, FrR G.K ρ H fr σ → WR G.K ρ H w v → Mi.bindTg g w fr = some fr2 →
    (∀ σ2, FrR G.K ρ H fr2 σ2 → (∀ vs, tgIn vs g = true → L2.wipe σ2 vs = L2.wipe σ vs) → N σ2 H) → tgG G.K g v σ H N
  | .nm i, w, v, fr, fr2, σ, N, F, r, e, h => by
    have e : (if i < fr.length then some (fr.set i (some w)) else none) = some fr2 := e
    split at e
    · cases e
      exact h _ (F.set r) fun vs hv => wipe_set hv
    · cases e
  | .nil, w, v, fr, fr2, σ, N, F, r, e, h => by
    cases r with
    | @tup ws a xs q l rs =>
      obtain ⟨rfl, rfl⟩ := bind_nil e
      cases rs
      exact ⟨a, [], rfl, q, rfl, rfl, h σ F fun _ _ => rfl⟩
    | _ => have e : (none : Option Fr) = some fr2 := e; cases e
  | .cons a r, w, v, fr, fr2, σ, N, F, wr, e, h => by
    cases wr with
    | @tup ws p xs q l rs =>
      refine ⟨p, xs, rfl, q, ?_, tgs_ok F rs rfl e h⟩
      rw [← rs.length, tgs_len rfl e]
      rfl
    | _ => have e : (none : Option Fr) = some fr2 := e; cases e
theorem tgs_ok : ∀ {g : Tg} {ws : List W} {xs : List V} {fr fr2 : Fr} {σ : L2.St} {N : L2.St → Hp → Prop}, FrR G.K ρ H fr σ → WRs G.K ρ H ws xs → Mi.isNm g = false → Mi.bindTg g (.tup ws) fr = some fr2 →
    (∀ σ2, FrR G.K ρ H fr2 σ2 → (∀ vs, tgIn vs g = true → L2.wipe σ2 vs = L2.wipe σ vs) → N σ2 H) → tgGs G.K g xs σ H N
  | .nm i, _, _, _, _, _, _, _, _, n, _, _ => nomatch n
  | .nil, ws, xs, fr, fr2, σ, N, F, rs, _, e, h => by
    obtain ⟨rfl, rfl⟩ := bind_nil e
    cases rs
    exact ⟨rfl, h σ F fun _ _ => rfl⟩
  | .cons a r, ws, xs, fr, fr2, σ, N, F, rs, _, e, h => by
    obtain ⟨x, us, fr', rfl, hr, e1, e2⟩ := bind_cons e
    cases rs with
    | cons r1 r2 =>
      refine ⟨_, _, rfl, tg_ok F r1 e1 fun σ1 F1 k1 => tgs_ok F1 r2 hr e2 fun σ2 F2 k2 => h σ2 F2 fun vs hv => ?_⟩
      have hv : (tgIn vs a && tgIn vs r) = true := hv
      rw [Bool.and_eq_true] at hv
      rw [k2 vs hv.2, k1 vs hv.1]
end
end

/-! ### comprehensions -/
section
variable {G : Gv} {X : Cx} {c : Cl} {Wx : WX} {e a b : Expr} {es : List Expr} {pos : Pos} {i j k : E} {is : Es}
/-- a comprehension's tests: none or one -/
def evTs (c : Cl) : Es → Fr → Hs → R Bool
  | .nil, _, h => .ok true h
  | .cons e .nil, fr, h => evT c e fr h
  | _, _, _ => .stk
abbrev noW : WX := fun _ _ _ _ => False
theorem evifs_eq {ifs : Es} (hi : ifs = .nil ∨ ∃ e, ifs = .cons e .nil) (fr : Fr) (h : Hs) (f : Hs → R W) :
    Mi.evifs c ifs fr h f = (evTs c ifs fr h).bind fun t h => if t then (f h).bind fun w h => .ok (some w) h else .ok none h := by
  rcases hi with rfl | ⟨e, rfl⟩
  · rfl
  · show ((ev c e fr h).bind fun x h => match Mi.truth h x with
      | some true => (f h).bind fun w h => .ok (some w) h
      | some false => .ok none h
      | none => .stk) = ((ev c e fr h).bind fun x h => Mi.liftO (Mi.truth h x) h).bind _
    cases ev c e fr h with
    | ok x h1 =>
      simp only [Mi.R.bind_ok]
      cases q : Mi.truth h1 x with
      | none => rfl
      | some t => cases t <;> rfl
    | exc x h1 => rfl
    | stk => rfl
theorem oCalm {α α' β β' : Type} {Rel : List Addr → Hp → α → β → Prop} {Rel' : List Addr → Hp → α' → β' → Prop} {ρ ρ0 : List Addr} {H H0 : Hp} {r : R α} {g : α → Hs → R α'} {Q : β' → Hp → Prop} {Ex Ex' : XK} {fr : Fr} {σ : L2.St}
    (R0 : ∃ h, RelH G.K G.T ρ h H) (F : FrR G.K ρ H fr σ) (o : OutE G Rel' ρ0 H0 (r.calm.bind g) Q Ex) :
    OutE G Rel ρ H r (fun v H1 => ∃ (ρ1 : List Addr) (x : α) (h1 : Hs), Stp ρ H ρ1 H1 ∧ RelH G.K G.T ρ1 h1 H1 ∧ FrR G.K ρ1 H1 fr σ ∧ Rel ρ1 H1 x v ∧ OutE G Rel' ρ0 H0 (g x h1) Q Ex) Ex' := by
  cases r with
  | ok w h =>
    intro ρ' H' v st R q
    obtain ⟨_, R0⟩ := R0
    exact ⟨ρ', w, h, st, R, F.mono R0 st, q, o⟩
  | exc x h => exact (show False from o).elim
  | stk => exact (show False from o).elim
theorem calm_split {α β γ : Type} {A : R α} {B : α → Hs → R β} {K : β → Hs → R γ} : (A.bind B).calm.bind K = A.calm.bind fun t h => (B t h).calm.bind K := by
  cases A <;> rfl
theorem bind_assoc {α β γ : Type} {A : R α} {B : α → Hs → R β} {K : β → Hs → R γ} : (A.bind B).bind K = A.bind fun t h => (B t h).bind K := by
  cases A <;> rfl
theorem lt_of_get {α : Type} {l : List α} {n : Nat} {a : α} (e : l[n]? = some a) : n < l.length := (List.getElem?_eq_some_iff.mp e).1
theorem drop_get {α : Type} {l : List α} {n : Nat} (h : n < l.length) : ∃ a, l[n]? = some a ∧ l.drop n = a :: l.drop (n + 1) := ⟨l[n], List.getElem?_eq_getElem h, List.drop_eq_getElem_cons h⟩

mutual
theorem WR.tups {K : PySem.W.Frag} {ρ : List Addr} {H H' : Hp} (m : ∀ a xs, SqT K H a xs → SqT K H' a xs) : ∀ {w : W} {v : V}, WR K ρ H w v → WR K ρ H' w v
  | _, _, .non => .non
  | _, _, .bl b => .bl b
  | _, _, .int i => .int i
  | _, _, .str x => .str x
  | _, _, .tup h l r => .tup (m _ _ h) l (WRs.tups m r)
  | _, _, .ref h => .ref h
theorem WRs.tups {K : PySem.W.Frag} {ρ : List Addr} {H H' : Hp} (m : ∀ a xs, SqT K H a xs → SqT K H' a xs) : ∀ {ws : List W} {vs : List V}, WRs K ρ H ws vs → WRs K ρ H' ws vs
  | _, _, .nil => .nil
  | _, _, .cons h r => .cons (WR.tups m h) (WRs.tups m r)
end
theorem KvR.tups {K : PySem.W.Frag} {ρ : List Addr} {H H' : Hp} (m : ∀ a xs, SqT K H a xs → SqT K H' a xs) : ∀ {ws : List (W × W)} {vs : List (Key × V)}, KvR K ρ H ws vs → KvR K ρ H' ws vs
  | _, _, .nil => .nil
  | _, _, .cons hk h r => .cons hk (h.tups m) (KvR.tups m r)
/-- an object out of Mi's sight is written -/
theorem sqT_upd {K : PySem.W.Frag} {H : Hp} {D : Addr} {xs ys : List V} (e : H D = some (.lst xs)) : ∀ a zs, SqT K H a zs → SqT K (upd H D (.lst ys)) a zs := by
  rintro a zs ((q | ⟨o, q⟩) | q)
  · exact .inl (.inl (by rw [upd_ne (fun z => by rw [z, e] at q; cases q)]; exact q))
  · exact .inl (.inr ⟨o, by rw [upd_ne (fun z => by rw [z, e] at q; cases q)]; exact q⟩)
  · exact .inr q
theorem RelH.out {K : PySem.W.Frag} {T : List (Addr × Str)} {ρ : List Addr} {h : Hs} {H : Hp} {D : Addr} {xs ys : List V} (R : RelH K T ρ h H) (e : H D = some (.lst xs)) (n : D ∉ ρ) : RelH K T ρ h (upd H D (.lst ys)) where
  len := R.len
  nd := R.nd
  ob := fun i o a e1 e2 => by
    have na : a ≠ D := fun z => n (z ▸ List.mem_of_getElem? e2)
    cases R.ob i o a e1 e2 with
    | lst q l r => exact .lst (by rw [upd_ne na]; exact q) l (r.tups (sqT_upd e))
    | dic q r => exact .dic (by rw [upd_ne na]; exact q) (r.tups (sqT_upd e))
  tabs := fun q hq => by
    obtain ⟨ps, h1, h2, h3⟩ := R.tabs q hq
    have hq1 : q.1 ≠ D := fun z => by rw [z, e] at h1; cases h1
    refine ⟨ps, by rw [upd_ne hq1]; exact h1, h2, fun pos cv hc => ?_⟩
    obtain ⟨c, e1, e2⟩ := h3 pos cv hc
    have hcp : c ≠ D := fun z => by rw [z, e] at e2; unfold LamX.CodeO at e2; cases e2
    exact ⟨c, e1, by rw [upd_ne hcp]; exact e2⟩
theorem Stp.out2 {ρ ρ' : List Addr} {H H' : Hp} {D : Addr} {ys : List V} (s : Stp ρ H ρ' H') (hD : H D = none) : Stp ρ H ρ' (upd H' D (.lst ys)) where
  pre := s.pre
  keep := fun b o e n t => by rw [upd_ne (fun z => by rw [z, hD] at e; cases e)]; exact s.keep b o e n t
  new := s.new
mutual
theorem WR.wide {K : PySem.W.Frag} {ρ ρ' : List Addr} {H : Hp} (m : ρ <+: ρ') : ∀ {w : W} {v : V}, WR K ρ H w v → WR K ρ' H w v
  | _, _, .non => .non
  | _, _, .bl b => .bl b
  | _, _, .int i => .int i
  | _, _, .str x => .str x
  | _, _, .tup h l r => .tup h l (WRs.wide m r)
  | _, _, .ref h => .ref (pre_get m h)
theorem WRs.wide {K : PySem.W.Frag} {ρ ρ' : List Addr} {H : Hp} (m : ρ <+: ρ') : ∀ {ws : List W} {vs : List V}, WRs K ρ H ws vs → WRs K ρ' H ws vs
  | _, _, .nil => .nil
  | _, _, .cons h r => .cons (WR.wide m h) (WRs.wide m r)
end
theorem KvR.wide {K : PySem.W.Frag} {ρ ρ' : List Addr} {H : Hp} (m : ρ <+: ρ') : ∀ {ws : List (W × W)} {vs : List (Key × V)}, KvR K ρ H ws vs → KvR K ρ' H ws vs
  | _, _, .nil => .nil
  | _, _, .cons hk h r => .cons hk (h.wide m) (KvR.wide m r)
/-- .. comes into its sight -/
theorem RelH.take {K : PySem.W.Frag} {T : List (Addr × Str)} {ρ : List Addr} {h : Hs} {H : Hp} {D : Addr} {ws : List W} {xs : List V} (R : RelH K T ρ h H) (e : H D = some (.lst xs)) (n : D ∉ ρ) (r : WRs K ρ H ws xs) (hl : ws.length ≤ sizeLine) : RelH K T (ρ ++ [D]) (h ++ [.lst ws]) H where
  len := by rw [List.length_append, List.length_append, R.len]; rfl
  nd := by
    rw [List.nodup_append]
    exact ⟨R.nd, by simp, fun a ha b hb z => by rw [List.mem_singleton] at hb; subst hb; subst z; exact n ha⟩
  ob := fun i u b e1 e2 => by
    have m : ρ <+: ρ ++ [D] := List.prefix_append _ _
    by_cases hi : i < h.length
    · rw [List.getElem?_append_left hi] at e1
      have hr : i < ρ.length := by rw [R.len]; exact hi
      rw [List.getElem?_append_left hr] at e2
      cases R.ob i u b e1 e2 with
      | lst q l r => exact .lst q l (r.wide m)
      | dic q r => exact .dic q (r.wide m)
    · have hl' := R.len
      have hi1 : i < (h ++ [Ob.lst ws]).length := (List.getElem?_eq_some_iff.mp e1).1
      rw [List.length_append] at hi1
      have he : i = h.length := by
        have : ([Ob.lst ws] : List Ob).length = 1 := rfl
        omega
      subst he
      rw [List.getElem?_append_right (Nat.le_refl _)] at e1
      rw [List.getElem?_append_right (by omega)] at e2
      have z1 : Ob.lst ws = u := by simpa using e1
      have z2 : D = b := by simpa [hl'] using e2
      subst z1 z2
      exact .lst e hl (r.wide m)
  tabs := R.tabs

theorem s_comp {elt tg iter : Expr} {ifs : List Expr} {scope : Scope} {own : List (Str × Nat)} {it : Mi.It} {g : Tg} {ic : Es} {tt : TT} (hc : X.calm = true) (hN : X.N.Nodup) (hi : PI X tg iter (SimI G (evi c it) Wx)) (ok : BlkOk X.N X.env.scope scope own) (hK : X.K = G.K)
    (hg : ∀ (s : Shared) (H : Hp) (C : Addr) (cl : List (Str × Addr)) (fp : List Addr), PG (X.blk s H scope (compEnvC scope cl C X.env) fp) tg (tgG G.K g)) (hin : tgIn (own.map (·.2)) g = true)
    (hic : ic = .nil ∨ ∃ e, ic = .cons e .nil) (ht : ∀ (s : Shared) (H : Hp) (C : Addr) (cl : List (Str × Addr)) (fp : List Addr), PTs (X.blk s H scope (compEnvC scope cl C X.env) fp) ifs tt) (htt : ∀ σ H Q, SimT G (evTs c ic) noW σ H Q → tt σ H Q)
    (he : ∀ (s : Shared) (H : Hp) (C : Addr) (cl : List (Str × Addr)) (fp : List Addr), PE (X.blk s H scope (compEnvC scope cl C X.env) fp) elt (SimE G (ev c i) noW)) (hs : ∀ x, foldedSetIterable iter X.env x = pure x) :
    PE X (.ListComp elt [⟨tg, iter, ifs, 0⟩] scope pos) (SimE G (ev c (.comp (own.map (·.2)) g it ic i)) Wx) ∧
    ∀ σ H Q, SimE G (ev c (.comp (own.map (·.2)) g it ic i)) Wx σ H Q → tLc (SimI G (evi c it) Wx) (tgG G.K g) tt (SimE G (ev c i) noW) (own.map (·.2)) σ H Q := by
  have main : ∀ σ H Q, SimE G (ev c (.comp (own.map (·.2)) g it ic i)) Wx σ H Q → tLc (SimI G (evi c it) Wx) (tgG G.K g) tt (SimE G (ev c i) noW) (own.map (·.2)) σ H Q := by
    intro σ H Q ⟨ρ, h, fr, R, F, o⟩
    have o : OutE G (RE G) ρ H ((evi c it fr h).bind fun ws h => (Mi.compL (fun w h => match Mi.bindTg g w (Mi.wipe fr (own.map (·.2))) with
      | some fr2 => (Mi.evifs c ic fr2 h (fun h => (ev c i fr2 h))).calm
      | none => .stk) ws.2 ws.1 [] h).bind fun acc h => Mi.new (.lst acc) h) Q (fun c d H' => Wx c d σ H') := o
    refine ⟨ρ, h, fr, R, F, (oBind (Rel := IW G) ⟨h, R⟩ F o).imp (fun J H1 ⟨ρ1, ws, h1, s1, R1, F1, wk, o1⟩ => ?_) fun _ _ _ q => q⟩
    intro D hD
    obtain ⟨Gp, Y, wkJ, step⟩ := wk
    have hDρ := R1.free hD
    have Fw := F1.wipe (own.map (·.2))
    refine lc_it wkJ (fun n Hn => ∃ (ρn : List Addr) (hn : Hs) (acc : List W) (accV : List V), Stp ρ1 H1 ρn Hn ∧ RelH G.K G.T ρn hn Hn ∧ D ∉ ρn ∧ Hn D = some (.lst accV) ∧ WRs G.K ρn Hn acc accV ∧ acc.length ≤ Mi.lineW ∧
      OutE G (RE G) ρ1 H1 ((Mi.compL (fun w h => match Mi.bindTg g w (Mi.wipe fr (own.map (·.2))) with
        | some fr2 => (Mi.evifs c ic fr2 h (fun h => (ev c i fr2 h))).calm
        | none => .stk) ws.2 (ws.1.drop n) acc hn).bind fun acc h => Mi.new (.lst acc) h) Q (fun c d H' => Wx c d σ H')) ?_ ?_ ?_ ?_
    · have st := Stp.put (o := .lst []) hD hDρ
      exact ⟨ρ1, h1, [], [], st, R1.put hD, hDρ, upd_same, .nil, Nat.zero_le _, by rw [List.drop_zero]; exact o1⟩
    · rintro n Hn hn ⟨ρn, hhn, acc, accV, st, Rn, dn, eD, wa, la, on⟩
      have g1 : ws.2 hhn = true := by
        cases q : ws.1.drop n with
        | nil =>
          rw [q] at on
          have on : OutE G (RE G) ρ1 H1 ((if ws.2 hhn then .ok acc hhn else .stk : Mi.R (List W)).bind fun acc h => Mi.new (.lst acc) h) Q (fun c d H' => Wx c d σ H') := on
          split at on
          · assumption
          · exact (show False from on).elim
        | cons w r =>
          rw [q] at on
          unfold Mi.compL at on
          split at on
          · assumption
          · exact (show False from on).elim
      exact (step ρn hhn Hn st Rn g1).1
    · rintro n x Hn Hn' hn ⟨ρn, hhn, acc, accV, st, Rn, dn, eD, wa, la, on⟩ y
      obtain ⟨w, ew, ed⟩ := drop_get hn
      rw [ed] at on
      unfold Mi.compL at on
      split at on
      · rename_i g1
        obtain ⟨st2, Rn2, wx⟩ := (step ρn hhn Hn st Rn g1).2 n x Hn' w ew y
        have Fw2 := (Fw.mono R1 (st.trans st2))
        rw [bind_assoc] at on
        cases eb : Mi.bindTg g w (Mi.wipe fr (own.map (·.2))) with
        | none => simp only [eb] at on; exact (show False from on).elim
        | some fr2 =>
          simp only [eb] at on
          refine tg_ok Fw2 wx eb fun σ2 F2 k2 => ⟨(k2 _ hin).trans ?_, ?_⟩
          · have key : ∀ (vs us : List Nat), (∀ v ∈ vs, v ∈ us) → L2.wipe (L2.wipe σ vs) us = L2.wipe σ us := fun vs us hv => by
              induction vs with
              | nil => rfl
              | cons v vs ih =>
                show L2.wipe ((L2.wipe σ vs).set v none) us = L2.wipe σ us
                rw [wipe_set (by simpa using hv v (by simp))]
                exact ih fun u hu => hv u (by simp [hu])
            exact key _ _ fun _ h => h
          · rw [evifs_eq hic, calm_split] at on
            refine htt σ2 Hn' _ ⟨ρn, hhn, fr2, Rn2, F2, ?_⟩
            refine (oCalm (Rel := RT) ⟨_, Rn2⟩ F2 on).imp (fun t H3 ⟨ρ3, t', h3, s3, R3, F3, et, o3⟩ => ?_) fun _ _ _ q => q
            have et : t' = t := et
            subst et
            have d2 : D ∉ ρn := dn
            have eD2 : Hn' D = some (.lst accV) := st2.keep _ _ eD dn fun _ z => by cases z
            have eD3 : H3 D = some (.lst accV) := s3.keep _ _ eD2 dn fun _ z => by cases z
            have d3 : D ∉ ρ3 := s3.out eD2 dn fun _ z => by cases z
            have wa3 := (wa.mono Rn st2).mono Rn2 s3
            have st3 := (st.trans st2).trans s3
            cases t' with
            | false =>
              rw [if_neg Bool.false_ne_true]
              exact ⟨ρ3, h3, acc, accV, st3, R3, d3, eD3, wa3, la, o3⟩
            | true =>
              rw [if_pos rfl]
              have o3 : OutE G (RE G) ρ1 H1 (((ev c i fr2 h3).bind fun w h => .ok (some w) h).calm.bind fun o h => (match o with
                | some x => if acc.length < Mi.lineW then Mi.compL (fun w h => match Mi.bindTg g w (Mi.wipe fr (own.map (·.2))) with
                  | some fr2 => (Mi.evifs c ic fr2 h (fun h => (ev c i fr2 h))).calm
                  | none => .stk) ws.2 (ws.1.drop (n + 1)) (acc ++ [x]) h else .stk
                | none => Mi.compL (fun w h => match Mi.bindTg g w (Mi.wipe fr (own.map (·.2))) with
                  | some fr2 => (Mi.evifs c ic fr2 h (fun h => (ev c i fr2 h))).calm
                  | none => .stk) ws.2 (ws.1.drop (n + 1)) acc h : Mi.R (List W)).bind fun acc h => Mi.new (.lst acc) h) Q (fun c d H' => Wx c d σ H') := o3
              rw [calm_split] at o3
              refine ⟨ρ3, h3, fr2, R3, F3, (oCalm (Rel := RE G) ⟨_, R3⟩ F3 o3).imp (fun v H4 ⟨ρ4, w4, h4, s4, R4, F4, wv, o4⟩ => ?_) fun _ _ _ q => q⟩
              have eD4 : H4 D = some (.lst accV) := s4.keep _ _ eD3 d3 fun _ z => by cases z
              have d4 : D ∉ ρ4 := s4.out eD3 d3 fun _ z => by cases z
              have wa4 := wa3.mono R3 s4
              have o4 : OutE G (RE G) ρ1 H1 ((if acc.length < Mi.lineW then Mi.compL (fun w h => match Mi.bindTg g w (Mi.wipe fr (own.map (·.2))) with
                  | some fr2 => (Mi.evifs c ic fr2 h (fun h => (ev c i fr2 h))).calm
                  | none => .stk) ws.2 (ws.1.drop (n + 1)) (acc ++ [w4]) h4 else .stk : Mi.R (List W)).bind fun acc h => Mi.new (.lst acc) h) Q (fun c d H' => Wx c d σ H') := o4
              split at o4
              · rename_i hl
                refine ⟨accV, eD4, by rw [← wa4.length]; exact lt_line hl, ρ4, h4, acc ++ [w4], accV ++ [v], ?_, ?_, d4, upd_same, ?_, by rw [List.length_append]; exact hl, ?_⟩
                · exact (st3.trans s4).out2 hD
                · exact R4.out eD4 d4
                · exact (WRs.append wa4 (.cons wv .nil)).tups (sqT_upd eD4)
                · exact o4
              · exact (show False from o4).elim
      · exact (show False from on).elim
    · rintro Hn ⟨ρn, hhn, acc, accV, st, Rn, dn, eD, wa, la, on⟩
      rw [List.drop_length] at on
      have on : OutE G (RE G) ρ1 H1 ((if ws.2 hhn then .ok acc hhn else .stk : Mi.R (List W)).bind fun acc h => Mi.new (.lst acc) h) Q (fun c d H' => Wx c d σ H') := on
      split at on
      · have on : OutE G (RE G) ρ1 H1 (.ok (.ref hhn.length) (hhn ++ [Ob.lst acc])) Q (fun c d H' => Wx c d σ H') := on
        refine on (ρn ++ [D]) Hn (.ref D) ⟨st.pre.trans (List.prefix_append _ _), st.keep, fun b hb nb u eu => ?_⟩ (Rn.take eD dn wa (le_line la)) (WR.own Rn)
        rcases List.mem_append.mp hb with z | z
        · exact st.new b z nb u eu
        · rw [List.mem_singleton.mp z, hD] at eu; cases eu
      · exact (show False from on).elim
  refine ⟨PE.weak (pe_lc hc hN hi ok hg ht he hs) main, main⟩
end
end MiS
end
section
set_option Elab.async false
set_option linter.all false
set_option maxRecDepth 100000
set_option maxHeartbeats 2000000
/-! range(..) -/
namespace MiS
open PySem L2
open Mi (W Ob Hs Fr R Rs Xc Cl E Es It Tg ev evs evi)
theorem rgC {i j k : Int} (h : -(2 ^ 30) ≤ i ∧ i < 2 ^ 30 ∧ -(2 ^ 30) ≤ j ∧ j < 2 ^ 30 ∧ 0 < k ∧ k < 2 ^ 30) : RgC i j k (if i < j then ((j - i - 1) / k + 1).toNat else 0) := by
  obtain ⟨h1, h2, h3, h4, h5, h6⟩ := h
  have hq : i < j → 0 ≤ (j - i - 1) / k ∧ (j - i - 1) / k ≤ j - i - 1 := fun hij => by
    have e0 : 0 ≤ j - i - 1 := by omega
    exact ⟨Int.ediv_nonneg e0 (by omega), Int.ediv_le_self _ e0⟩
  have hs : Builtin.Range.rangeSize i j k = ((if i < j then ((j - i - 1) / k + 1).toNat else 0 : Nat) : Int) := by
    unfold Builtin.Range.rangeSize
    rw [if_pos (show k > 0 from h5)]
    by_cases hij : i < j
    · have := hq hij
      rw [if_pos hij, if_pos hij]
      omega
    · rw [if_neg hij, if_neg hij]; rfl
  refine ⟨by omega, by omega, ?_, hs⟩
  unfold Builtin.Range.small
  rw [hs]
  simp only [Builtin.Range.rangeFitsLong, Bool.and_eq_true, Bool.or_eq_true, decide_eq_true_eq, beq_iff_eq]
  by_cases hij : i < j
  · have := hq hij
    rw [if_pos hij]
    rw [if_pos h5]
    simp only [decide_eq_true_eq, Bool.and_eq_true]
    omega
  · rw [if_neg hij, if_pos h5]
    simp only [decide_eq_true_eq, Bool.and_eq_true]
    omega
section
variable {G : Gv} {X : Cx} {c : Cl} {Wx : WX} {a b d : Expr} {pos p : Pos} {is : Es} {tg : Expr}
def esLen : Es → Nat
  | .nil => 0
  | .cons _ r => esLen r + 1
theorem evs_len : ∀ {is : Es} {fr : Fr} {h : Hs} {ws : List W} {h' : Hs}, evs c is fr h = .ok ws h' → ws.length = esLen is
  | .nil, fr, h, ws, h', e => by
    have e : (R.ok [] h : R (List W)) = .ok ws h' := e
    cases e; rfl
  | .cons i r, fr, h, ws, h', e => by
    have e : ((ev c i fr h).bind fun w h => (evs c r fr h).bind fun ws h => .ok (w :: ws) h) = .ok ws h' := e
    cases q : ev c i fr h with
    | ok w h1 =>
      rw [q, Mi.R.bind_ok] at e
      cases q2 : evs c r fr h1 with
      | ok us h2 =>
        rw [q2, Mi.R.bind_ok] at e
        cases e
        show us.length + 1 = _
        rw [evs_len q2]; rfl
      | exc x h2 => rw [q2] at e; cases e
      | stk => rw [q2] at e; cases e
    | exc x h1 => rw [q] at e; cases e
    | stk => rw [q] at e; cases e
theorem simR {g : List W → Hs → R (List W × (Hs → Bool))} {σ : L2.St} {H : Hp} {J : L2.It → Hp → Prop} {P : List V → Hp → Prop}
    (z : SimI G (fun fr h => (evs c is fr h).bind fun ws h => g ws h) Wx σ H J)
    (hP : ∀ ρ h H1 ws vs, ws.length = esLen is → RelH G.K G.T ρ h H1 → WRs G.K ρ H1 ws vs → OutE G (IW G) ρ H1 (g ws h) J (fun c d H' => Wx c d σ H') → P vs H1) : SimA G (evs c is) Wx σ H P := by
  obtain ⟨ρ, h, fr, R, F, o⟩ := z
  refine ⟨ρ, h, fr, R, F, ?_⟩
  have o : OutE G (IW G) ρ H ((evs c is fr h).bind fun ws h => g ws h) J (fun c d H' => Wx c d σ H') := o
  cases q : evs c is fr h with
  | ok ws h1 =>
    rw [q] at o
    intro ρ' H' v st R' r
    exact hP ρ' h1 H' ws v (evs_len q) R' r (OutE.shift (r := g ws h1) o st)
  | exc x h1 => rw [q] at o; exact o
  | stk => rw [q] at o; exact o
abbrev rngK : List W → Hs → R (List W × (Hs → Bool)) := fun ws h => match ws with
    | [.int j] => if -(2 ^ 62) ≤ j ∧ j < 2 ^ 62 then .ok (Mi.rangeL 0 1 j.toNat, fun _ => true) h else .stk
    | [.int i, .int j] => if -(2 ^ 62) ≤ i ∧ i < 2 ^ 62 ∧ -(2 ^ 62) ≤ j ∧ j < 2 ^ 62 then .ok (Mi.rangeL i 1 (j - i).toNat, fun _ => true) h else .stk
    | [.int i, .int j, .int k] => if -(2 ^ 30) ≤ i ∧ i < 2 ^ 30 ∧ -(2 ^ 30) ≤ j ∧ j < 2 ^ 30 ∧ 0 < k ∧ k < 2 ^ 30 then .ok (Mi.rangeL i k (if i < j then ((j - i - 1) / k + 1).toNat else 0), fun _ => true) h else .stk
    | _ => .stk
theorem si_rng1 {i : E} (hg : Gl X "range") (hm : X.mg "range" = none) (hs : nsE a = true) (ha : PA X [a] (SimA G (evs c (.cons i .nil)) Wx)) :
    PI X tg (.Call (.Name "range" p) [a] [] pos) (SimI G (evi c (.rng (.cons i .nil))) Wx) := by
  refine PI.weak (pi_range1 hg hm ha (by rw [star_of hs]; rfl)) fun σ H J z => simR (g := rngK) z fun ρ h H1 ws vs l R w o => ?_
  cases w with
  | nil => cases l
  | cons w r =>
    cases r with
    | cons _ _ => simp [esLen] at l
    | nil =>
      cases w with
      | int j =>
        have o : OutE G (IW G) ρ H1 (if -(2 ^ 62) ≤ j ∧ j < 2 ^ 62 then .ok (Mi.rangeL 0 1 j.toNat, fun _ => true) h else .stk) J (fun c d H' => Wx c d σ H') := o
        split at o
        · rename_i b
          exact ⟨j, rfl, b.1, b.2, OutE.ok (Rel := IW G) o R iw_range⟩
        · exact (show False from o).elim
      | _ => exact (show False from o).elim
theorem si_rng2 {i j : E} (hg : Gl X "range") (hm : X.mg "range" = none) (hs : nsE a = true) (hs2 : nsE b = true) (ha : PA X [a, b] (SimA G (evs c (.cons i (.cons j .nil))) Wx)) :
    PI X tg (.Call (.Name "range" p) [a, b] [] pos) (SimI G (evi c (.rng (.cons i (.cons j .nil)))) Wx) := by
  refine PI.weak (pi_range2 hg hm ha (by rw [star_of hs, star_of hs2]; rfl) (by rw [star_of hs2]; rfl)) fun σ H J z => simR (g := rngK) z fun ρ h H1 ws vs l R w o => ?_
  cases w with
  | nil => cases l
  | cons w r =>
    cases r with
    | nil => simp [esLen] at l
    | cons w2 r =>
      cases r with
      | cons _ _ => simp [esLen] at l
      | nil =>
        cases w with
        | int i =>
          cases w2 with
          | int j =>
            have o : OutE G (IW G) ρ H1 (if -(2 ^ 62) ≤ i ∧ i < 2 ^ 62 ∧ -(2 ^ 62) ≤ j ∧ j < 2 ^ 62 then .ok (Mi.rangeL i 1 (j - i).toNat, fun _ => true) h else .stk) J (fun c d H' => Wx c d σ H') := o
            split at o
            · rename_i b
              exact ⟨i, j, rfl, b, OutE.ok (Rel := IW G) o R iw_range⟩
            · exact (show False from o).elim
          | _ => exact (show False from o).elim
        | _ => exact (show False from o).elim
theorem si_rng3 {i j k : E} (hg : Gl X "range") (hm : X.mg "range" = none) (hs : nsE a = true) (hs2 : nsE b = true) (hs3 : nsE d = true) (ha : PA X [a, b, d] (SimA G (evs c (.cons i (.cons j (.cons k .nil)))) Wx)) :
    PI X tg (.Call (.Name "range" p) [a, b, d] [] pos) (SimI G (evi c (.rng (.cons i (.cons j (.cons k .nil))))) Wx) := by
  refine PI.weak (pi_range3 hg hm ha (star_of hs) (back_of (by simp [hs2, hs3]))) fun σ H J z => simR (g := rngK) z fun ρ h H1 ws vs l R w o => ?_
  cases w with
  | nil => cases l
  | cons w r =>
    cases r with
    | nil => simp [esLen] at l
    | cons w2 r =>
      cases r with
      | nil => simp [esLen] at l
      | cons w3 r =>
        cases r with
        | cons _ _ => simp [esLen] at l
        | nil =>
          cases w with
          | int i =>
            cases w2 with
            | int j =>
              cases w3 with
              | int k =>
                have o : OutE G (IW G) ρ H1 (if -(2 ^ 30) ≤ i ∧ i < 2 ^ 30 ∧ -(2 ^ 30) ≤ j ∧ j < 2 ^ 30 ∧ 0 < k ∧ k < 2 ^ 30 then .ok (Mi.rangeL i k (if i < j then ((j - i - 1) / k + 1).toNat else 0), fun _ => true) h else .stk) J (fun c d H' => Wx c d σ H') := o
                split at o
                · rename_i b
                  exact ⟨i, j, k, _, rfl, rgC b, OutE.ok (Rel := IW G) o R iw_rangeC⟩
                · exact (show False from o).elim
              | _ => exact (show False from o).elim
            | _ => exact (show False from o).elim
          | _ => exact (show False from o).elim
end
end MiS
end
section
set_option Elab.async false
set_option linter.all false
set_option maxRecDepth 100000
set_option maxHeartbeats 2000000
/-! Statements by simulation. -/
namespace MiS
open PySem L2
open Mi (W Ob Hs Fr R Rs Xc Cl E Es It Tg S ev evs evi ex)

section
variable {G : Gv}
def OutS (G : Gv) (ρ : List Addr) (H : Hp) (r : Rs) (D : Ends) (Wx : WX) : Prop := match r with
  | .nx fr h => ∀ ρ' H' σ', Stp ρ H ρ' H' → RelH G.K G.T ρ' h H' → FrR G.K ρ' H' fr σ' → D.nx σ' H'
  | .bk fr h => ∀ ρ' H' σ', Stp ρ H ρ' H' → RelH G.K G.T ρ' h H' → FrR G.K ρ' H' fr σ' → D.bk σ' H'
  | .ct fr h => ∀ ρ' H' σ', Stp ρ H ρ' H' → RelH G.K G.T ρ' h H' → FrR G.K ρ' H' fr σ' → D.ct σ' H'
  | .rt w h => ∀ ρ' H' v, Stp ρ H ρ' H' → RelH G.K G.T ρ' h H' → WR G.K ρ' H' w v → D.rt v H'
  | .exc x fr h => ∀ ρ' H' c d σ', Stp ρ H ρ' H' → RelH G.K G.T ρ' h H' → FrR G.K ρ' H' fr σ' → XcR G.K G.cl G.fl ρ' H' x c d → Wx c d σ' H'
  | .stk => False
def SimS (G : Gv) (f : Fr → Hs → Rs) (Wx : WX) : TS := fun D σ H => ∃ (ρ : List Addr) (h : Hs) (fr : Fr), RelH G.K G.T ρ h H ∧ FrR G.K ρ H fr σ ∧ OutS G ρ H (f fr h) D Wx
section
variable {ρ ρ1 : List Addr} {H H1 : Hp} {r : Rs} {D D' : Ends} {Wx : WX}
theorem OutS.shift (o : OutS G ρ H r D Wx) (s : Stp ρ H ρ1 H1) : OutS G ρ1 H1 r D Wx := by
  cases r with
  | nx fr h => exact fun ρ' H' σ' st R w => o ρ' H' σ' (s.trans st) R w
  | bk fr h => exact fun ρ' H' σ' st R w => o ρ' H' σ' (s.trans st) R w
  | ct fr h => exact fun ρ' H' σ' st R w => o ρ' H' σ' (s.trans st) R w
  | rt w h => exact fun ρ' H' v st R w => o ρ' H' v (s.trans st) R w
  | exc x fr h => exact fun ρ' H' c d σ' st R F w => o ρ' H' c d σ' (s.trans st) R F w
  | stk => exact o
theorem OutS.nxT {fr : Fr} {h : Hs} {σ : L2.St} (o : OutS G ρ H (.nx fr h) D Wx) (R : RelH G.K G.T ρ h H) (F : FrR G.K ρ H fr σ) : D.nx σ H := o ρ H σ (Stp.refl _ _) R F
def toS {α : Type} (r : R α) (fr : Fr) (k : α → Hs → Rs) : Rs := match r with
  | .ok w h => k w h
  | .exc x h => .exc x fr h
  | .stk => .stk
theorem to_eq (r : R W) (fr : Fr) (k : W → Hs → Rs) : r.to fr k = toS r fr k := by cases r <;> rfl
theorem OutS.eq {r' : Rs} (o : OutS G ρ H r D Wx) (e : r = r') : OutS G ρ H r' D Wx := e ▸ o
/-- an expression, then the rest -/
theorem oTo {α β : Type} {Rel : List Addr → Hp → α → β → Prop} {r : R α} {k : α → Hs → Rs} {fr : Fr} {h0 : Hs} {σ : L2.St} (R0 : RelH G.K G.T ρ h0 H) (F : FrR G.K ρ H fr σ)
    (o : OutS G ρ H (toS r fr k) D Wx) :
    OutE G Rel ρ H r (fun v H1 => ∃ (ρ1 : List Addr) (x : α) (h1 : Hs), Stp ρ H ρ1 H1 ∧ RelH G.K G.T ρ1 h1 H1 ∧ FrR G.K ρ1 H1 fr σ ∧ Rel ρ1 H1 x v ∧ OutS G ρ1 H1 (k x h1) D Wx) (fun c d H' => Wx c d σ H') := by
  cases r with
  | ok w h => exact fun ρ' H' v st R q => ⟨ρ', w, h, st, R, F.mono R0 st, q, OutS.shift (r := k w h) o st⟩
  | exc x h => exact fun ρ' H' c d st R q => o ρ' H' c d σ st R (F.mono R0 st) q
  | stk => exact o
end
section
variable {X : Cx} {c : Cl} {wf : Nat} {Wx : WX} {e a b : Expr} {pos : Pos} {i j k : E} {is : Es} {st : Stmt} {rest : List Stmt} {s1 s2 : S}
theorem t_bad : PS X st (SimS G (ex c wf .bad) Wx) := ⟨fun _ _ _ _ _ _ ⟨_, _, _, _, _, o⟩ => (show False from o).elim⟩
theorem ts_bad {l : List Stmt} : PSs X l (SimS G (ex c wf .bad) Wx) := ⟨fun _ _ _ _ _ _ ⟨_, _, _, _, _, o⟩ => (show False from o).elim⟩
theorem ts_nil : PSs X [] (SimS G (ex c wf .skip) Wx) := PSs.weak pss_nil fun D σ H ⟨ρ, h, fr, R, F, o⟩ => OutS.nxT (fr := fr) (h := h) o R F
theorem t_skip (h : PS X st tNext) : PS X st (SimS G (ex c wf .skip) Wx) := PS.weak h fun D σ H ⟨ρ, h, fr, R, F, o⟩ => OutS.nxT (fr := fr) (h := h) o R F
theorem t_brk : PS X (.Break pos) (SimS G (ex c wf .brk) Wx) := PS.weak ps_break fun D σ H ⟨ρ, h, fr, R, F, o⟩ => by
  have o : OutS G ρ H (.bk fr h) D Wx := o
  exact o ρ H σ (Stp.refl _ _) R F
theorem t_cnt : PS X (.Continue pos) (SimS G (ex c wf .cnt) Wx) := PS.weak ps_continue fun D σ H ⟨ρ, h, fr, R, F, o⟩ => by
  have o : OutS G ρ H (.ct fr h) D Wx := o
  exact o ρ H σ (Stp.refl _ _) R F
theorem seq_sim {D : Ends} {σ : L2.St} {H : Hp} (z : SimS G (ex c wf (.seq s1 s2)) Wx D σ H) : tSeq (SimS G (ex c wf s1) Wx) (SimS G (ex c wf s2) Wx) D σ H := by
  obtain ⟨ρ, h, fr, R, F, o⟩ := z
  refine ⟨ρ, h, fr, R, F, ?_⟩
  have o : OutS G ρ H (match ex c wf s1 fr h with
    | .nx fr h => ex c wf s2 fr h
    | z => z) D Wx := o
  cases q : ex c wf s1 fr h with
  | nx fr1 h1 =>
    rw [q] at o
    exact fun ρ' H' σ' st R' F' => ⟨ρ', h1, fr1, R', F', OutS.shift (r := ex c wf s2 fr1 h1) o st⟩
  | bk fr1 h1 => rw [q] at o; exact o
  | ct fr1 h1 => rw [q] at o; exact o
  | rt w h1 => rw [q] at o; exact o
  | exc x fr1 h1 => rw [q] at o; exact o
  | stk => rw [q] at o; exact o
theorem ts_cons (h1 : PS X st (SimS G (ex c wf s1) Wx)) (h2 : PSs X rest (SimS G (ex c wf s2) Wx)) : PSs X (st :: rest) (SimS G (ex c wf (.seq s1 s2)) Wx) := PSs.weak (pss_cons h1 h2) fun D σ H z => seq_sim z
theorem t_ex (he : PE X e (SimE G (ev c i) Wx)) (hs : swapsWith e none pos.line X.env = pure false) : PS X (.Expr e pos) (SimS G (ex c wf (.ex i)) Wx) :=
  PS.weak (ps_expr he hs) fun D σ H ⟨ρ, h, fr, R, F, o⟩ => ⟨ρ, h, fr, R, F, (oTo (D := D) (Wx := Wx) (Rel := RE G) R F (r := ev c i fr h) (k := fun _ h => .nx fr h) (OutS.eq (r := (ev c i fr h).to fr fun _ h => .nx fr h) o (to_eq _ _ _))).imp (fun v H1 ⟨ρ1, x, h1, s1, R1, F1, w1, o1⟩ => OutS.nxT o1 R1 F1) fun _ _ _ q => q⟩
theorem t_ret (he : PE X e (SimE G (ev c i) Wx)) : PS X (.Return (some e) pos) (SimS G (ex c wf (.ret i)) Wx) :=
  PS.weak (ps_ret he) fun D σ H ⟨ρ, h, fr, R, F, o⟩ => ⟨ρ, h, fr, R, F, (oTo (D := D) (Wx := Wx) (Rel := RE G) R F (r := ev c i fr h) (k := fun w h => .rt w h) (OutS.eq (r := (ev c i fr h).to fr fun w h => .rt w h) o (to_eq _ _ _))).imp (fun v H1 ⟨ρ1, x, h1, s1, R1, F1, w1, o1⟩ => o1 ρ1 H1 v (Stp.refl _ _) R1 w1) fun _ _ _ q => q⟩
theorem t_retN : PS X (.Return none pos) (SimS G (ex c wf .retN) Wx) := PS.weak ps_retN fun D σ H ⟨ρ, h, fr, R, F, o⟩ => by
  have o : OutS G ρ H (.rt .non h) D Wx := o
  exact o ρ H .non (Stp.refl _ _) R .non
/-- name, (name, ..) = e -/
theorem asg_sim {g : Tg} {D : Ends} {σ : L2.St} {H : Hp} (z : SimS G (ex c wf (.asg g i)) Wx D σ H) : tAsg (SimE G (ev c i) Wx) (tgG G.K g) D σ H := by
  obtain ⟨ρ, h, fr, R, F, o⟩ := z
  refine ⟨ρ, h, fr, R, F, (oTo (D := D) (Wx := Wx) (Rel := RE G) R F (r := ev c i fr h) (k := fun w h => match Mi.bindTg g w fr with
    | some fr => .nx fr h
    | none => .stk) (OutS.eq (r := (ev c i fr h).to fr fun w h => match Mi.bindTg g w fr with
    | some fr => .nx fr h
    | none => .stk) o (to_eq _ _ _))).imp (fun v H1 ⟨ρ1, x, h1, s1, R1, F1, w1, o1⟩ => ?_) fun _ _ _ q => q⟩
  cases eb : Mi.bindTg g x fr with
  | none => rw [eb] at o1; exact (show False from o1).elim
  | some fr2 =>
    rw [eb] at o1
    exact tg_ok F1 w1 eb fun σ2 F2 _ => OutS.nxT o1 R1 F2
theorem t_asg {tg : Expr} {g : Tg} (he : PE X e (SimE G (ev c i) Wx)) (hg : PG X tg (tgG G.K g)) (hs : swapsWithSole [tg] e pos.line X.env = pure false) (hw : swappedStores [tg] e X.env = pure none)
    (h1 : (assignEach [tg] X.env).map (·.2) = [assign tg X.env]) : PS X (.Assign [tg] e pos) (SimS G (ex c wf (.asg g i)) Wx) := PS.weak (ps_asg he hg hs hw h1) fun D σ H z => asg_sim z
theorem t_par {n m : Nat} {x y : Str} {px py pt pt2 : Pos} {kt k2 : Nat} (hc : X.calm = true) (hN : X.N.Nodup) (hi : X.N[n]? = some x) (hj : X.N[m]? = some y) (hij : n ≠ m)
    (hx : X.env.scope.names.lookup x = some .local) (hy : X.env.scope.names.lookup y = some .local) (na : nsE a = true) (nb : nsE b = true) (ha : PE X a (SimE G (ev c i) Wx)) (hb : PE X b (SimE G (ev c j) Wx))
    (hw : swappedStores [.Tuple [.Name x px, .Name y py] kt pt] (.Tuple [a, b] k2 pt2) X.env = pure (some [x, y])) :
    PS X (.Assign [.Tuple [.Name x px, .Name y py] kt pt] (.Tuple [a, b] k2 pt2) pos) (SimS G (ex c wf (.par n m i j)) Wx) := by
  refine PS.weak (ps_par hc hN hi hj hij hx hy (pa_cons ha (pa_cons hb pa_nil (star_of nb)) (star_of na)) hw rfl) fun D σ H ⟨ρ, h, fr, R, F, o⟩ => ?_
  show SimE G (ev c i) Wx σ H fun x H1 => SimE G (ev c j) Wx σ H1 fun y H2 => ∃ v w, [x, y] = [v, w] ∧ D.nx ((σ.set n (some v)).set m (some w)) H2
  refine ⟨ρ, h, fr, R, F, (oTo (D := D) (Wx := Wx) (Rel := RE G) R F (r := ev c i fr h) (k := fun x h => (ev c j fr h).to fr fun y h => if n < fr.length ∧ m < fr.length then .nx ((fr.set n (some x)).set m (some y)) h else .stk) (OutS.eq (r := (ev c i fr h).to fr _) o (to_eq _ _ _))).imp (fun v H1 ⟨ρ1, x, h1, s1, R1, F1, w1, o1⟩ => ?_) fun _ _ _ q => q⟩
  refine ⟨ρ1, h1, fr, R1, F1, (oTo (D := D) (Wx := Wx) (Rel := RE G) R1 F1 (r := ev c j fr h1) (k := fun y h => if n < fr.length ∧ m < fr.length then .nx ((fr.set n (some x)).set m (some y)) h else .stk) (OutS.eq (r := (ev c j fr h1).to fr _) o1 (to_eq _ _ _))).imp (fun u H2 ⟨ρ2, y, h2, s2, R2, F2, w2, o2⟩ => ?_) fun _ _ _ q => q⟩
  split at o2
  · exact ⟨v, u, rfl, OutS.nxT o2 R2 ((F2.set (w1.mono R1 s2)).set w2)⟩
  · exact (show False from o2).elim
theorem if_eq (fr : Fr) (h : Hs) : ex c wf (.iff i s1 s2) fr h = toS (evT c i fr h) fr fun t h => if t then ex c wf s1 fr h else ex c wf s2 fr h := by
  show ((ev c i fr h).to fr fun x h => match Mi.truth h x with
      | some true => ex c wf s1 fr h
      | some false => ex c wf s2 fr h
      | none => .stk) = _
  unfold evT
  cases ev c i fr h with
  | ok x h1 =>
    show (match Mi.truth h1 x with
        | some true => ex c wf s1 fr h1
        | some false => ex c wf s2 fr h1
        | none => .stk) = toS (Mi.liftO (Mi.truth h1 x) h1) _ _
    cases Mi.truth h1 x with
    | none => rfl
    | some t => cases t <;> rfl
  | exc x h1 => rfl
  | stk => rfl
theorem for_eq {g : Tg} {it : Mi.It} (fr : Fr) (h : Hs) : ex c wf (.for g it s1) fr h = toS (evi c it fr h) fr fun ws h => Mi.forL (fun w fr h => match Mi.bindTg g w fr with
      | some fr => ex c wf s1 fr h
      | none => .stk) ws.2 ws.1 fr h := by
  show (match evi c it fr h with
    | .ok ws h => Mi.forL (fun w fr h => match Mi.bindTg g w fr with
      | some fr => ex c wf s1 fr h
      | none => .stk) ws.2 ws.1 fr h
    | .exc x h => .exc x fr h
    | .stk => .stk) = _
  cases evi c it fr h <;> rfl
theorem whl_eq (t : Fr → Hs → R Bool) (f : Fr → Hs → Rs) (m : Nat) (fr : Fr) (h : Hs) : Mi.whlL t f (m + 1) fr h = toS (t fr h) fr fun t' h => if t' then (match f fr h with
      | .nx fr h => Mi.whlL t f m fr h
      | .ct fr h => Mi.whlL t f m fr h
      | .bk fr h => .nx fr h
      | z => z) else .nx fr h := by
  rw [Mi.whlL]
  cases t fr h with
  | ok b h1 => cases b <;> rfl
  | exc x h1 => rfl
  | stk => rfl
theorem t_if {tb fb : List Stmt} (hc : PT X e (SimT G (evT c i) Wx)) (ha : PSs X tb (SimS G (ex c wf s1) Wx)) (hb : PSs X fb (SimS G (ex c wf s2) Wx)) : PS X (.If e tb fb pos) (SimS G (ex c wf (.iff i s1 s2)) Wx) := by
  refine PS.weak (ps_if hc ha hb) fun D σ H ⟨ρ, h, fr, R, F, o⟩ => ?_
  have o := OutS.eq o (if_eq fr h)
  refine ⟨ρ, h, fr, R, F, (oTo (D := D) (Wx := Wx) (Rel := RT) R F (r := evT c i fr h) (k := fun t h => if t then ex c wf s1 fr h else ex c wf s2 fr h) o).imp (fun t H1 ⟨ρ1, x, h1, s1', R1, F1, et, o1⟩ => ?_) fun _ _ _ q => q⟩
  have et : x = t := et
  subst et
  cases x with
  | true => exact ⟨ρ1, h1, fr, R1, F1, o1⟩
  | false => exact ⟨ρ1, h1, fr, R1, F1, o1⟩
theorem t_whl {body : List Stmt} (hp : PassesOwn (model X.prog X.w) X.A X.env X.xe) (hc : PT X e (SimT G (evT c i) Wx)) (hb : PSs X body (SimS G (ex c wf s1) Wx)) : PS X (.While e body [] pos) (SimS G (ex c wf (.whl i s1)) Wx) := by
  refine PS.weak (ps_while hp hc hb) fun D σ H ⟨ρ, h, fr, R, F, o⟩ => ?_
  have o : OutS G ρ H (Mi.whlL (evT c i) (fun fr h => ex c wf s1 fr h) wf fr h) D Wx := o
  refine ⟨fun m σ H => ∃ (ρ : List Addr) (h : Hs) (fr : Fr), RelH G.K G.T ρ h H ∧ FrR G.K ρ H fr σ ∧ OutS G ρ H (Mi.whlL (evT c i) (fun fr h => ex c wf s1 fr h) m fr h) D Wx, ⟨wf, ρ, h, fr, R, F, o⟩, ?_⟩
  rintro m σ H ⟨ρ, h, fr, R, F, o⟩
  cases m with
  | zero => exact (show False from o).elim
  | succ m =>
    refine ⟨ρ, h, fr, R, F, (oTo (D := D) (Wx := Wx) (Rel := RT) R F (r := evT c i fr h) (k := fun t h => if t then (match ex c wf s1 fr h with
      | .nx fr h => Mi.whlL (evT c i) (fun fr h => ex c wf s1 fr h) m fr h
      | .ct fr h => Mi.whlL (evT c i) (fun fr h => ex c wf s1 fr h) m fr h
      | .bk fr h => .nx fr h
      | z => z) else .nx fr h) ?_).imp (fun t H1 ⟨ρ1, x, h1, s1', R1, F1, et, o1⟩ => ?_) fun _ _ _ q => q⟩
    · exact OutS.eq o (whl_eq _ _ m fr h)
    · have et : x = t := et
      subst et
      cases x with
      | false => exact OutS.nxT o1 R1 F1
      | true =>
        refine ⟨fun σ H => ∃ (ρ : List Addr) (h : Hs) (fr : Fr), RelH G.K G.T ρ h H ∧ FrR G.K ρ H fr σ ∧ OutS G ρ H (Mi.whlL (evT c i) (fun fr h => ex c wf s1 fr h) m fr h) D Wx, fun σ' H' n => ⟨m, Nat.lt_succ_self m, n⟩, ρ1, h1, fr, R1, F1, ?_⟩
        have o1 : OutS G ρ1 H1 (match ex c wf s1 fr h1 with
          | .nx fr h => Mi.whlL (evT c i) (fun fr h => ex c wf s1 fr h) m fr h
          | .ct fr h => Mi.whlL (evT c i) (fun fr h => ex c wf s1 fr h) m fr h
          | .bk fr h => .nx fr h
          | z => z) D Wx := o1
        cases q : ex c wf s1 fr h1 with
        | nx fr2 h2 => rw [q] at o1; exact fun ρ' H' σ' st R' F' => ⟨ρ', h2, fr2, R', F', OutS.shift (r := Mi.whlL (evT c i) (fun fr h => ex c wf s1 fr h) m fr2 h2) o1 st⟩
        | ct fr2 h2 => rw [q] at o1; exact fun ρ' H' σ' st R' F' => ⟨ρ', h2, fr2, R', F', OutS.shift (r := Mi.whlL (evT c i) (fun fr h => ex c wf s1 fr h) m fr2 h2) o1 st⟩
        | bk fr2 h2 => rw [q] at o1; exact o1
        | rt w h2 => rw [q] at o1; exact o1
        | exc x fr2 h2 => rw [q] at o1; exact o1
        | stk => rw [q] at o1; exact o1
theorem t_for {tg iter : Expr} {body : List Stmt} {g : Tg} {it : Mi.It} (hp : PassesOwn (model X.prog X.w) X.A X.env X.xe) (hc : X.calm = true) (hi : PI X tg iter (SimI G (evi c it) Wx)) (hg : PG X tg (tgG G.K g)) (hb : PSs X body (SimS G (ex c wf s1) Wx))
    (hs : ∀ x, foldedSetIterable iter X.env x = pure x) : PS X (.For tg iter body [] pos) (SimS G (ex c wf (.for g it s1)) Wx) := by
  refine PS.weak (ps_for hp hc hi hg hb hs) fun D σ H ⟨ρ, h, fr, R, F, o⟩ => ?_
  refine ⟨ρ, h, fr, R, F, (oTo (D := D) (Wx := Wx) (Rel := IW G) R F (r := evi c it fr h) (k := fun ws h => Mi.forL (fun w fr h => match Mi.bindTg g w fr with
      | some fr => ex c wf s1 fr h
      | none => .stk) ws.2 ws.1 fr h) (OutS.eq o (for_eq fr h))).imp (fun J H1 ⟨ρ1, ws, h1, s1', R1, F1, wk, o1⟩ => ?_) fun _ _ _ q => q⟩
  obtain ⟨Gp, Y, wkJ, step⟩ := wk
  refine for_it wkJ (fun n σ H => ∃ (ρn : List Addr) (hn : Hs) (fr : Fr), Stp ρ1 H1 ρn H ∧ RelH G.K G.T ρn hn H ∧ FrR G.K ρn H fr σ ∧ OutS G ρn H (Mi.forL (fun w fr h => match Mi.bindTg g w fr with
      | some fr => ex c wf s1 fr h
      | none => .stk) ws.2 (ws.1.drop n) fr hn) D Wx) ⟨ρ1, h1, fr, Stp.refl _ _, R1, F1, by rw [List.drop_zero]; exact o1⟩ ?_ ?_ ?_
  · rintro n σ Hn hn ⟨ρn, hhn, fr, st, Rn, Fn, on⟩
    have g1 : ws.2 hhn = true := by
      cases q : ws.1.drop n with
      | nil =>
        rw [q] at on
        unfold Mi.forL at on
        split at on
        · assumption
        · exact (show False from on).elim
      | cons w r =>
        rw [q] at on
        unfold Mi.forL at on
        split at on
        · assumption
        · exact (show False from on).elim
    exact (step ρn hhn Hn st Rn g1).1
  · rintro n x σ Hn Hn' hn ⟨ρn, hhn, fr, st, Rn, Fn, on⟩ y
    obtain ⟨w, ew, ed⟩ := drop_get hn
    rw [ed] at on
    unfold Mi.forL at on
    split at on
    · rename_i g1
      obtain ⟨st2, Rn2, wx⟩ := (step ρn hhn Hn st Rn g1).2 n x Hn' w ew y
      have on := on.shift st2
      cases eb : Mi.bindTg g w fr with
      | none => simp only [eb] at on; exact (show False from on).elim
      | some fr2 =>
        simp only [eb] at on
        refine tg_ok (Fn.mono Rn st2) wx eb fun σ2 F2 _ => ⟨ρn, hhn, fr2, Rn2, F2, ?_⟩
        cases q : ex c wf s1 fr2 hhn with
        | nx fr3 h3 => rw [q] at on; exact fun ρ' H' σ' st3 R' F' => ⟨ρ', h3, fr3, (st.trans st2).trans st3, R', F', OutS.shift (r := Mi.forL _ ws.2 (ws.1.drop (n + 1)) fr3 h3) on st3⟩
        | ct fr3 h3 => rw [q] at on; exact fun ρ' H' σ' st3 R' F' => ⟨ρ', h3, fr3, (st.trans st2).trans st3, R', F', OutS.shift (r := Mi.forL _ ws.2 (ws.1.drop (n + 1)) fr3 h3) on st3⟩
        | bk fr3 h3 => rw [q] at on; exact on
        | rt w h3 => rw [q] at on; exact on
        | exc x fr3 h3 => rw [q] at on; exact on
        | stk => rw [q] at on; exact on
    · exact (show False from on).elim
  · rintro σ Hn ⟨ρn, hhn, fr, st, Rn, Fn, on⟩
    rw [List.drop_length] at on
    unfold Mi.forL at on
    split at on
    · exact OutS.nxT on Rn Fn
    · exact (show False from on).elim
end
end
end MiS
end
section
set_option Elab.async false
set_option linter.all false
set_option maxRecDepth 100000
set_option maxHeartbeats 2000000
/-! Stores into lists and dicts, sums in place, dict displays, calls. -/
namespace MiS
open PySem L2
open Mi (W Ob Hs Fr R Rs Xc Cl E Es It Tg S ev evs evi ex)

/-- an object out of Mi's sight that is no tuple, nothing locked, no table, no code object -/
def Plain (o : HO) : Prop := (∀ xs, o ≠ .tup xs) ∧ (∀ ob u, o ≠ .frz ob u) ∧ (∀ ps, o ≠ .tbl ps) ∧ ∀ φ, o ≠ .ext φ
theorem plain_dK {kvs : List (Key × V)} : Plain (.dK kvs) := ⟨fun _ z => (by cases z), fun _ _ z => (by cases z), fun _ z => (by cases z), fun _ z => (by cases z)⟩
section
variable {G : Gv} {ρ ρ' : List Addr} {h : Hs} {H H' : Hp} {D : Addr} {o o2 : HO} {K : PySem.W.Frag} {T : List (Addr × Str)}
theorem sqT_updP (p : Plain o) (e : H D = some o) : ∀ a zs, SqT K H a zs → SqT K (upd H D o2) a zs := by
  rintro a zs ((q | ⟨ob, q⟩) | q)
  · exact .inl (.inl (by rw [upd_ne (fun z => by rw [z, e] at q; exact p.1 _ (Option.some.inj q))]; exact q))
  · exact .inl (.inr ⟨ob, by rw [upd_ne (fun z => by rw [z, e] at q; exact p.2.1 _ _ (Option.some.inj q))]; exact q⟩)
  · exact .inr q
theorem RelH.outP (R : RelH K T ρ h H) (p : Plain o) (e : H D = some o) (n : D ∉ ρ) : RelH K T ρ h (upd H D o2) where
  len := R.len
  nd := R.nd
  ob := fun i u a e1 e2 => by
    have na : a ≠ D := fun z => n (z ▸ List.mem_of_getElem? e2)
    cases R.ob i u a e1 e2 with
    | lst q l r => exact .lst (by rw [upd_ne na]; exact q) l (r.tups (sqT_updP p e))
    | dic q r => exact .dic (by rw [upd_ne na]; exact q) (r.tups (sqT_updP p e))
  tabs := fun q hq => by
    obtain ⟨ps, h1, h2, h3⟩ := R.tabs q hq
    have hq1 : q.1 ≠ D := fun z => by rw [z, e] at h1; exact p.2.2.1 _ (Option.some.inj h1)
    refine ⟨ps, by rw [upd_ne hq1]; exact h1, h2, fun pos cv hc => ?_⟩
    obtain ⟨c, e1, e2⟩ := h3 pos cv hc
    have hcp : c ≠ D := fun z => by rw [z, e] at e2; unfold LamX.CodeO at e2; exact p.2.2.2 _ (Option.some.inj e2)
    exact ⟨c, e1, by rw [upd_ne hcp]; exact e2⟩
theorem Stp.outP (s : Stp ρ H ρ' H') (hD : H D = none) : Stp ρ H ρ' (upd H' D o) where
  pre := s.pre
  keep := fun b o e n t => by rw [upd_ne (fun z => by rw [z, hD] at e; cases e)]; exact s.keep b o e n t
  new := s.new
theorem Stp.see (s : Stp ρ H ρ' H') (hD : H D = none) : Stp ρ H (ρ' ++ [D]) H' where
  pre := s.pre.trans (List.prefix_append _ _)
  keep := s.keep
  new := fun b hb nb u eu => by
    rcases List.mem_append.mp hb with z | z
    · exact s.new b z nb u eu
    · rw [List.mem_singleton.mp z, hD] at eu; cases eu
theorem RelH.see {ob : Ob} (R : RelH K T ρ h H) (n : D ∉ ρ) (r : ObR K (ρ ++ [D]) H D ob) : RelH K T (ρ ++ [D]) (h ++ [ob]) H where
  len := by rw [List.length_append, List.length_append, R.len]; rfl
  nd := by
    rw [List.nodup_append]
    exact ⟨R.nd, by simp, fun a ha b hb z => by rw [List.mem_singleton] at hb; subst hb; subst z; exact n ha⟩
  ob := fun i u b e1 e2 => by
    have m : ρ <+: ρ ++ [D] := List.prefix_append _ _
    by_cases hi : i < h.length
    · rw [List.getElem?_append_left hi] at e1
      have hr : i < ρ.length := by rw [R.len]; exact hi
      rw [List.getElem?_append_left hr] at e2
      cases R.ob i u b e1 e2 with
      | lst q l r => exact .lst q l (r.wide m)
      | dic q r => exact .dic q (r.wide m)
    · have hl' := R.len
      have hi1 : i < (h ++ [ob]).length := (List.getElem?_eq_some_iff.mp e1).1
      rw [List.length_append] at hi1
      have he : i = h.length := by
        have : ([ob] : List Ob).length = 1 := rfl
        omega
      subst he
      rw [List.getElem?_append_right (Nat.le_refl _)] at e1
      rw [List.getElem?_append_right (by omega)] at e2
      have z1 : ob = u := by simpa using e1
      have z2 : D = b := by simpa [hl'] using e2
      subst z1 z2
      exact r
  tabs := R.tabs
/-- .. told at an earlier base -/
theorem oBase {α α' β β' : Type} {Rel : List Addr → Hp → α → β → Prop} {Rel' : List Addr → Hp → α' → β' → Prop} {ρ ρ0 : List Addr} {H H0 : Hp} {r : R α} {g : α → Hs → R α'} {Q : β' → Hp → Prop} {Ex : XK} {fr : Fr} {σ : L2.St}
    (R0 : RelH G.K G.T ρ h H) (F : FrR G.K ρ H fr σ) (s : Stp ρ0 H0 ρ H) (o : OutE G Rel' ρ0 H0 (r.bind g) Q Ex) :
    OutE G Rel ρ H r (fun v H1 => ∃ (ρ1 : List Addr) (x : α) (h1 : Hs), Stp ρ H ρ1 H1 ∧ RelH G.K G.T ρ1 h1 H1 ∧ FrR G.K ρ1 H1 fr σ ∧ Rel ρ1 H1 x v ∧ OutE G Rel' ρ0 H0 (g x h1) Q Ex) Ex := by
  cases r with
  | ok w h => exact fun ρ' H' v st R q => ⟨ρ', w, h, st, R, F.mono R0 st, q, o⟩
  | exc x h => exact fun ρ' H' c d st R q => o ρ' H' c d (s.trans st) R q
  | stk => exact (show False from o).elim

/-! ### dicts -/
theorem kv_put {k w : W} {k' : Key} {x : V} (hk : keyR k = some k') (r : WR K ρ H w x) : ∀ {kvs : List (W × W)} {ks : List (Key × V)}, KvR K ρ H kvs ks → KvR K ρ H (Mi.dput kvs k w) (putK ks k' x) := by
  have any_ : ∀ {kvs : List (W × W)} {ks : List (Key × V)}, KvR K ρ H kvs ks → (kvs.any fun kv => kv.1 == k) = ks.any fun kv => decide (kv.1 = k') := by
    intro kvs ks q
    induction q with
    | nil => rfl
    | @cons a v a' x' r t ha hv rs ih =>
      rw [List.any_cons, List.any_cons, ih]
      congr 1
      exact keyR_iff ha hk
  have map_ : ∀ {kvs : List (W × W)} {ks : List (Key × V)}, KvR K ρ H kvs ks → KvR K ρ H (kvs.map fun kv => if kv.1 == k then (kv.1, w) else kv) (ks.map fun kv => if kv.1 = k' then (kv.1, x) else kv) := by
    intro kvs ks q
    induction q with
    | nil => exact .nil
    | @cons a v a' x' rr t ha hv rs ih =>
      rw [List.map_cons, List.map_cons]
      have e := keyR_iff ha hk
      by_cases z : a' = k'
      · rw [decide_eq_true z] at e
        rw [if_pos e, if_pos z]
        exact .cons ha r ih
      · rw [decide_eq_false z] at e
        rw [if_neg (by rw [e]; decide), if_neg z]
        exact .cons ha hv ih
  have app_ : ∀ {kvs : List (W × W)} {ks : List (Key × V)}, KvR K ρ H kvs ks → KvR K ρ H (kvs ++ [(k, w)]) (ks ++ [(k', x)]) := by
    intro kvs ks q
    induction q with
    | nil => exact .cons hk r .nil
    | cons ha hv rs ih => exact .cons ha hv ih
  intro kvs ks q
  unfold Mi.dput putK
  rw [any_ q]
  split
  · exact map_ q
  · exact app_ q
end

section
variable {G : Gv} {X : Cx} {c : Cl} {wf : Nat} {Wx : WX} {e a b : Expr} {pos : Pos} {i j k : E} {is : Es}
theorem set_any (hu : X.A.units + 1 < cLine) : PSet X (fun o i v H Q => rSetL o i v H Q ∨ rSetD o i v H Q) := by
  intro pins s σ H o i v ov iv u Q I ro ri rv h
  rcases h with h | h
  · exact set_list pins s σ H o i v ov iv u Q I ro ri rv h
  · exact set_dict hu pins s σ H o i v ov iv u Q I ro ri rv h
/-- a[b] = e -/
theorem t_sti {tp : Pos} (nb : nsE b = true) (hu : X.A.units + 1 < cLine) (he : PE X e (SimE G (ev c k) Wx)) (ha : PE X a (SimE G (ev c i) Wx)) (hb : PE X b (SimE G (ev c j) Wx)) (hs : swapsWithSole [.Subscript a b tp] e pos.line X.env = pure false) (hw : swappedStores [.Subscript a b tp] e X.env = pure none) :
    PS X (.Assign [.Subscript a b tp] e pos) (SimS G (ex c wf (.sti i j k)) Wx) := by
  refine PS.weak (ps_asg he (pg_sub ha hb (set_any hu) (by intro v; cases b <;> first | rfl | cases nb)) hs hw rfl) fun D σ H ⟨ρ, h, fr, R, F, o⟩ => ?_
  have o : OutS G ρ H ((ev c k fr h).to fr fun w h => (ev c i fr h).to fr fun x h => (ev c j fr h).to fr fun y h => match x with
    | .ref n => match h[n]? with
      | some (.lst xs) => match (generalizing := false) y with
        | .int k => match Mi.ixN xs.length k with
          | some j => .nx fr (h.set n (.lst (xs.set j w)))
          | none => .stk
        | _ => .stk
      | some (.dic kvs) => if Mi.keyOk y && decide (kvs.length < Mi.lineW) then .nx fr (h.set n (.dic (Mi.dput kvs y w))) else .stk
      | _ => .stk
    | _ => .stk) D Wx := o
  refine ⟨ρ, h, fr, R, F, (oTo (D := D) (Wx := Wx) (Rel := RE G) R F (r := ev c k fr h) (OutS.eq o (to_eq _ _ _))).imp (fun v H1 ⟨ρ1, w, h1, s1, R1, F1, w1, o1⟩ => ?_) fun _ _ _ q => q⟩
  refine ⟨ρ1, h1, fr, R1, F1, (oTo (D := D) (Wx := Wx) (Rel := RE G) R1 F1 (r := ev c i fr h1) (OutS.eq o1 (to_eq _ _ _))).imp (fun vo H2 ⟨ρ2, x, h2, s2, R2, F2, w2, o2⟩ => ?_) fun _ _ _ q => q⟩
  refine ⟨ρ2, h2, fr, R2, F2, (oTo (D := D) (Wx := Wx) (Rel := RE G) R2 F2 (r := ev c j fr h2) (OutS.eq o2 (to_eq _ _ _))).imp (fun vi H3 ⟨ρ3, y, h3, s3, R3, F3, w3, o3⟩ => ?_) fun _ _ _ q => q⟩
  have wv := (w1.mono R1 s2).mono R2 s3
  have wo := w2.mono R2 s3
  cases wo with
  | @ref n p hp =>
    have o3 : OutS G ρ3 H3 (match h3[n]? with
      | some (.lst xs) => match (generalizing := false) y with
        | .int k => match Mi.ixN xs.length k with
          | some j => .nx fr (h3.set n (.lst (xs.set j w)))
          | none => .stk
        | _ => .stk
      | some (.dic kvs) => if Mi.keyOk y && decide (kvs.length < Mi.lineW) then .nx fr (h3.set n (.dic (Mi.dput kvs y w))) else .stk
      | _ => .stk) D Wx := o3
    cases en : h3[n]? with
    | none => rw [en] at o3; exact (show False from o3).elim
    | some ob =>
      rw [en] at o3
      have mp : p ∈ ρ3 := List.mem_of_getElem? hp
      cases R3.ob n ob p en hp with
      | @lst ws xs q l r =>
        cases w3 with
        | int kk =>
          have o3 : OutS G ρ3 H3 (match Mi.ixN ws.length kk with
            | some j => .nx fr (h3.set n (.lst (ws.set j w)))
            | none => .stk) D Wx := o3
          cases ei : Mi.ixN ws.length kk with
          | none => rw [ei] at o3; exact (show False from o3).elim
          | some jj =>
            rw [ei] at o3
            refine .inl ⟨p, xs, kk, jj, rfl, rfl, q, by rw [← r.length]; exact ei, ?_⟩
            have st := Stp.write R3 mp (o := .lst (xs.set jj v))
            refine o3 ρ3 _ σ st (R3.write hp (.lst upd_same (by rw [List.length_set]; exact l) ((r.set wv jj).mono R3 st))) (F3.mono R3 st)
        | _ => exact (show False from o3).elim
      | @dic kvs ks q r =>
        have o3 : OutS G ρ3 H3 (if Mi.keyOk y && decide (kvs.length < Mi.lineW) then .nx fr (h3.set n (.dic (Mi.dput kvs y w))) else .stk) D Wx := o3
        split at o3
        · rename_i hk
          rw [Bool.and_eq_true] at hk
          obtain ⟨k', ek⟩ := keyR_ok hk.1
          have ev' := keyR_V ek w3
          subst ev'
          refine .inr ⟨p, _, rfl, DPut.k q (by rw [← r.length]; exact lt_line (of_decide_eq_true hk.2)), ?_⟩
          have st := Stp.write R3 mp (o := .dK (putK ks k' v))
          exact o3 ρ3 _ σ st (R3.write hp (.dic upd_same ((kv_put ek wv r).mono R3 st))) (F3.mono R3 st)
        · exact (show False from o3).elim
  | _ => exact (show False from o3).elim
/-- name += e, of numbers -/
theorem t_aug {n : Nat} {x : Str} {px : Pos} (hN : X.N.Nodup) (hi : X.N[n]? = some x) (hx : Loc X.env.scope x) (hf : X.fn x = true ∨ X.env.scope.names.lookup x = some .local) (he : PE X e (SimE G (ev c i) Wx)) :
    PS X (.AugAssign (.Name x px) .Add e pos) (SimS G (ex c wf (.aug n .add i)) Wx) := by
  refine PS.weak (ps_aug hN hi hx he ip_add hf) fun D σ H ⟨ρ, h, fr, R, F, o⟩ => ?_
  have o : OutS G ρ H (match fr[n]? with
    | some (some x) => (ev c i fr h).to fr fun y h => match Mi.Bo.add, x, y with
      | .add, .int _, .int _ => (Mi.binV .add x y h).to fr fun z h => .nx (fr.set n (some z)) h
      | _, _, _ => .stk
    | _ => .stk) D Wx := o
  split at o
  · rename_i w ew
    obtain ⟨v, e1, wr⟩ := F.2 n w ew
    refine ⟨v, e1, ρ, h, fr, R, F, (oTo (D := D) (Wx := Wx) (Rel := RE G) R F (r := ev c i fr h) (OutS.eq o (to_eq _ _ _))).imp (fun u H1 ⟨ρ1, y, h1, s1, R1, F1, w1, o1⟩ => ?_) fun _ _ _ q => q⟩
    cases wr with
    | int m =>
      cases w1 with
      | int m2 =>
        refine ⟨m, m2, rfl, rfl, ?_⟩
        have o1 : OutS G ρ1 H1 (.nx (fr.set n (some (.int (m + m2)))) h1) D Wx := o1
        exact o1.nxT R1 (F1.set (.int _))
      | _ => exact (show False from o1).elim
    | _ => exact (show False from o1).elim
  · exact (show False from o).elim

/-! ### dict displays with written keys -/
theorem s_dis {ks : List (Option Expr)} {vs : List Expr} {kc : List W} {trs : List (TE × TE)} (hp : PPs X pos ks vs trs) (hall : ks.all (·.isSome) = true) (hl : ks.length = vs.length) (h0 : ks ≠ []) (h15 : ks.length ≤ 15)
    (red : ∀ (σ : L2.St) (H : Hp) (ρ0 : List Addr) (H0 : Hp) (ρ : List Addr) (h : Hs) (fr : Fr) (Q : List (V × V) → Hp → Prop) (Q2 : VK) (g : List W → Hs → R W), RelH G.K G.T ρ h H → FrR G.K ρ H fr σ → Stp ρ0 H0 ρ H → OutE G (RE G) ρ0 H0 ((evs c is fr h).bind g) Q2 (fun c d H' => Wx c d σ H') →
      (∀ ρ1 h1 H1 us (kxs : List (Key × V)), us.length = kc.length → Stp ρ H ρ1 H1 → RelH G.K G.T ρ1 h1 H1 → KvR G.K ρ1 H1 (kc.zip us) kxs → OutE G (RE G) ρ0 H0 (g us h1) Q2 (fun c d H' => Wx c d σ H') → Q (kxs.map fun kv => (kV kv.1, kv.2)) H1) → tPairs trs σ H Q) :
    PE X (.Dict ks vs pos) (SimE G (ev c (.dis kc is)) Wx) := by
  refine PE.weak (pe_disp hp hall hl h0 h15) fun σ H Q ⟨ρ, h, fr, R, F, o⟩ => ?_
  intro p np
  have dp := R.free np
  refine red σ _ ρ H ρ h fr _ Q (fun us h => if kc.all Mi.keyOk && decide (kc.length ≤ 15) && decide (us.length = kc.length) then Mi.new (.dic ((kc.zip us).foldl (fun (kvs : List (W × W)) (kv : W × W) => Mi.dput kvs kv.1 kv.2) [])) h else .stk) (R.put np) (F.mono R (Stp.put np dp)) (Stp.put np dp) o
    fun ρ1 h1 H1 us kxs lu st R1 kr o1 => ?_
  have ep : H1 p = some (.dK []) := st.keep _ _ upd_same dp fun _ z => by cases z
  have dp1 : p ∉ ρ1 := st.out upd_same dp fun _ z => by cases z
  split at o1
  · rename_i hk
    simp only [Bool.and_eq_true, decide_eq_true_eq] at hk
    have lk : kxs.length ≤ 15 := by
      rw [← kr.length, List.length_zip]
      omega
    refine ⟨ep, kxs, rfl, lk, ?_⟩
    have R2 := R1.outP (o2 := .dK (mergeK [] kxs)) plain_dK ep dp1
    have merge : ∀ (more : List (W × W)) (mks : List (Key × V)) (kvs : List (W × W)) (ks : List (Key × V)), KvR G.K ρ1 H1 more mks → KvR G.K ρ1 H1 kvs ks → KvR G.K ρ1 H1 (more.foldl (fun kvs kv => Mi.dput kvs kv.1 kv.2) kvs) (mergeK ks mks) := by
      intro more
      induction more with
      | nil => intro mks kvs ks m q; cases m; exact q
      | cons a r ih =>
        intro mks kvs ks m q
        cases m with
        | @cons k v k' x _ t hk hv rs => exact ih t (Mi.dput kvs k v) (putK ks k' x) rs (kv_put hk hv q)
    have kd := ((merge _ _ [] [] kr .nil).tups (sqT_updP (o2 := .dK (mergeK [] kxs)) plain_dK ep)).wide (List.prefix_append ρ1 [p])
    exact o1 (ρ1 ++ [p]) _ (.ref p) ((((Stp.put (o := .dK []) np dp).trans st).outP np).see np) (R2.see dp1 (.dic upd_same kd)) (WR.own R1)
  · exact (show False from o1).elim
end
end MiS
end
section
set_option Elab.async false
set_option linter.all false
set_option maxRecDepth 100000
set_option maxHeartbeats 2000000
/-! What a call made is forgotten at its end. -/
namespace MiS
open PySem L2
open Mi (W Ob Hs Fr R Rs Xc)

section
variable {K : PySem.W.Frag} {T : List (Addr × Str)} {ρ ρ' : List Addr} {H H' : Hp} {h h' h0 : Hs}
mutual
theorem WR.narrow {n : Nat} : ∀ {w : W} {v : V}, WR K ρ' H w v → Mi.W.under n w = true → WR K (ρ'.take n) H w v
  | _, _, .non, _ => .non
  | _, _, .bl b, _ => .bl b
  | _, _, .int i, _ => .int i
  | _, _, .str x, _ => .str x
  | _, _, .tup q l r, u => .tup q l (WRs.narrow r u)
  | _, _, .ref (n := k) e, u => .ref (by rw [List.getElem?_take_of_lt (of_decide_eq_true u)]; exact e)
theorem WRs.narrow {n : Nat} : ∀ {ws : List W} {vs : List V}, WRs K ρ' H ws vs → Mi.W.unders n ws = true → WRs K (ρ'.take n) H ws vs
  | _, _, .nil, _ => .nil
  | _, _, @WRs.cons _ _ _ w ws x xs hw r, u => by
    have u : (w.under n && Mi.W.unders n ws) = true := u
    rw [Bool.and_eq_true] at u
    exact .cons (WR.narrow hw u.1) (WRs.narrow r u.2)
end
theorem KvR.narrow {n : Nat} : ∀ {kvs : List (W × W)} {vs : List (Key × V)}, KvR K ρ' H kvs vs → (kvs.all fun kv => kv.1.under n && kv.2.under n) = true → KvR K (ρ'.take n) H kvs vs
  | _, _, .nil, _ => .nil
  | _, _, .cons hk hw r, u => by
    rw [List.all_cons, Bool.and_eq_true, Bool.and_eq_true] at u
    exact .cons hk (hw.narrow u.1.2) (KvR.narrow r u.2)
theorem ObR.narrow {n : Nat} {a : Addr} {o : Ob} (r : ObR K ρ' H a o) (u : o.under n = true) : ObR K (ρ'.take n) H a o := by
  cases r with
  | lst q l r => exact .lst q l (r.narrow u)
  | dic q r => exact .dic q (r.narrow u)
mutual
theorem WR.low : ∀ {w : W} {v : V}, WR K ρ H w v → Mi.W.under ρ.length w = true
  | _, _, .non => rfl
  | _, _, .bl b => rfl
  | _, _, .int i => rfl
  | _, _, .str x => rfl
  | _, _, .tup q l r => WRs.low r
  | _, _, .ref (n := k) e => decide_eq_true (List.getElem?_eq_some_iff.mp e).1
theorem WRs.low : ∀ {ws : List W} {vs : List V}, WRs K ρ H ws vs → Mi.W.unders ρ.length ws = true
  | _, _, .nil => rfl
  | _, _, @WRs.cons _ _ _ w ws x xs hw r => by
    show (w.under ρ.length && Mi.W.unders ρ.length ws) = true
    rw [WR.low hw, WRs.low r]; rfl
end
theorem KvR.low : ∀ {kvs : List (W × W)} {vs : List (Key × V)}, KvR K ρ H kvs vs → (kvs.all fun kv => kv.1.under ρ.length && kv.2.under ρ.length) = true
  | _, _, .nil => rfl
  | _, _, @KvR.cons _ _ _ k v k' x r t hk hw rs => by
    rw [List.all_cons, KvR.low rs, hw.low]
    have : k.under ρ.length = true := by cases k <;> simp only [keyR, reduceCtorEq] at hk <;> rfl
    rw [this]; rfl
theorem ObR.low {a : Addr} {o : Ob} (r : ObR K ρ H a o) : o.under ρ.length = true := by
  cases r with
  | lst q l r => exact r.low
  | dic q r => exact r.low
theorem take_pre (s : ρ <+: ρ') : ρ'.take ρ.length = ρ := by
  obtain ⟨t, rfl⟩ := s
  rw [List.take_append_of_le_length (Nat.le_refl _), List.take_length]
/-- the old part alone -/
theorem RelH.old (R0 : RelH K T ρ h0 H) (s : Stp ρ H ρ' H') (R' : RelH K T ρ' h' H') (c : h'.take h0.length = h0 ∨ (h'.take h0.length).all (Ob.under h0.length) = true) : RelH K T ρ (h'.take h0.length) H' := by
  have e := take_pre s.pre
  have l0 := R0.len
  have l1 := R'.len
  have lp := s.pre.length_le
  refine ⟨by rw [List.length_take]; omega, R0.nd, fun i o a e1 e2 => ?_, R'.tabs⟩
  have hi : i < h0.length := by
    have := (List.getElem?_eq_some_iff.mp e1).1
    rw [List.length_take] at this
    omega
  have e1' : h'[i]? = some o := by
    rw [List.getElem?_take_of_lt hi] at e1
    exact e1
  have r := R'.ob i o a e1' (pre_get s.pre e2)
  have u : o.under h0.length = true := by
    rcases c with c | c
    · have e3 : h0[i]? = some o := by rw [c] at e1; exact e1
      obtain ⟨b, eb, rb⟩ := R0.at_ e3
      have := rb.low
      rw [l0] at this
      exact this
    · exact List.all_eq_true.mp c o (List.mem_of_getElem? e1)
  have z := r.narrow u
  rw [← l0, e] at z
  exact z
theorem Stp.old (s : Stp ρ H ρ' H') : Stp ρ H ρ H' := ⟨List.prefix_refl _, s.keep, fun b m n => absurd m n⟩
theorem WR.oldv (R0 : RelH K T ρ h0 H) (s : Stp ρ H ρ' H') {w : W} {v : V} (r : WR K ρ' H' w v) (u : w.under h0.length = true) : WR K ρ H' w v := by
  have z := r.narrow u
  rw [← R0.len, take_pre s.pre] at z
  exact z
theorem WRs.oldv (R0 : RelH K T ρ h0 H) (s : Stp ρ H ρ' H') {w : List W} {v : List V} (r : WRs K ρ' H' w v) (u : Mi.W.unders h0.length w = true) : WRs K ρ H' w v := by
  have z := r.narrow u
  rw [← R0.len, take_pre s.pre] at z
  exact z
end
section
variable {G : Gv} {ρ ρ' : List Addr} {H H' : Hp} {h h' h0 : Hs} {Q : VK} {E : XK}
theorem gc_ok (R0 : RelH G.K G.T ρ h0 H) {w : W} (o : OutE G (RE G) ρ H (Mi.gc h0 w h) Q E) : OutE G (RE G) ρ H (.ok w h) Q E := by
  intro ρ' H' v s R' wv
  unfold Mi.gc at o
  simp only at o
  split at o
  · rename_i c
    have Ro := RelH.old R0 s R' c
    split at o
    · rename_i u
      exact o ρ H' v s.old Ro (wv.oldv R0 s u)
    · split at o
      · rename_i k hu
        split at o
        · rename_i ob ek
          split at o
          · rename_i u
            cases wv with
            | @ref _ a ha =>
              have hk : ¬ (k < h0.length) := fun z => hu (decide_eq_true z)
              have l0 := R0.len
              have na : a ∉ ρ := fun m => by
                obtain ⟨j, hj, ej⟩ := List.mem_iff_getElem.mp m
                have e1 : ρ'[j]? = some a := pre_get s.pre (by rw [List.getElem?_eq_getElem hj, ej])
                have := nodup_idx R'.nd ha e1
                omega
              have ma : a ∈ ρ' := List.mem_of_getElem? ha
              have r := R'.ob k ob a ek ha
              have z := r.narrow u
              rw [← R0.len, take_pre s.pre] at z
              have ob1 : ObR G.K (ρ ++ [a]) H' a ob := by
                cases z with
                | lst q l rr => exact .lst q l (WRs.wide (List.prefix_append _ _) rr)
                | dic q rr => exact .dic q (KvR.wide (List.prefix_append _ _) rr)
              have Rs := Ro.see na ob1
              have lt : (h.take h0.length).length = h0.length := by
                have := Ro.len
                omega
              refine o (ρ ++ [a]) H' (.ref a) ⟨List.prefix_append _ _, s.keep, fun b m n u eu => ?_⟩ Rs ?_
              · rcases List.mem_append.mp m with m | m
                · exact absurd m n
                · rw [List.mem_singleton.mp m] at eu; exact s.new a ma na u eu
              · refine .ref ?_
                rw [List.getElem?_append_right (by omega), l0, Nat.sub_self]; rfl
          · exact o ρ' H' v s R' wv
        · exact o ρ' H' v s R' wv
      · exact o ρ' H' v s R' wv
  · exact o ρ' H' v s R' wv
theorem gcX_ok (R0 : RelH G.K G.T ρ h0 H) {x : Xc} (o : OutE G (RE G) ρ H (Mi.gcX h0 x h) Q E) : OutE G (RE G) ρ H (.exc x h) Q E := by
  intro ρ' H' c d s R' xr
  unfold Mi.gcX at o
  simp only at o
  split at o
  · rename_i cu
    refine o ρ H' c d s.old (RelH.old R0 s R' cu.1) ?_
    obtain ⟨h1, dd, fs, e1, e2, e3, e4, e5⟩ := xr
    refine ⟨h1, dd, fs, e1, e2, fun m => e3 (s.pre.subset m), e4, fun i f w ef ew => ?_⟩
    obtain ⟨v, ev, wr⟩ := e5 i f w ef ew
    have un : ∀ (l : List W) (n : Nat), Mi.W.unders n l = true → ∀ w ∈ l, w.under n = true := by
      intro l n
      induction l with
      | nil => intro _ w hw; cases hw
      | cons a l ih =>
        intro u w hw
        have u : (a.under n && Mi.W.unders n l) = true := u
        rw [Bool.and_eq_true] at u
        rcases List.mem_cons.mp hw with z | z
        · rw [z]; exact u.1
        · exact ih u.2 w z
    exact ⟨v, ev, wr.oldv R0 s (un _ _ cu.2 w (List.mem_of_getElem? ew))⟩
  · exact o ρ' H' c d s R' xr
/-- a body's end -/
theorem end_ok (R0 : RelH G.K G.T ρ h0 H) {r : Rs} (o : OutE G (RE G) ρ H (Mi.endOf h0 r) Q E) : OutS G ρ H r { nx := fun _ H' => Q .non H', rt := Q } (fun c d _ H' => E c d H') := by
  cases r with
  | nx fr h =>
    have o := gc_ok R0 (w := .non) (h := h) o
    exact fun ρ' H' σ' s R' F' => o ρ' H' .non s R' .non
  | rt w h =>
    have o := gc_ok R0 (w := w) (h := h) o
    exact fun ρ' H' v s R' wv => o ρ' H' v s R' wv
  | bk fr h => exact (show False from o).elim
  | ct fr h => exact (show False from o).elim
  | exc x fr h =>
    have o := gcX_ok R0 (x := x) (h := h) o
    exact fun ρ' H' c d σ' s R' F' xr => o ρ' H' c d s R' xr
  | stk => exact (show False from o).elim
end
end MiS
end
section
set_option Elab.async false
set_option linter.all false
set_option maxRecDepth 100000
set_option maxHeartbeats 2000000
/-! try with several except clauses, with and without names (the proof follows HandS.TryMany and HandS.Exc). -/
namespace MiS
open PySem PySem.Spec PyProof.Rows L2
/-- a clause: its class, the slot of its name, its suite's reading -/
structure HdR where
  c : Value
  i : Option Nat
  ts : Addr → Value → Option Addr → TS
def HdR.go (r : HdR) (D : Ends) (a : Addr) (cls : Value) (d : Option Addr) (σ : L2.St) (H : Hp) : Prop := match r.i with
  | none => r.ts a cls d D σ H
  | some i => r.ts a cls d { nx := fun σ' H' => D.nx (σ'.set i none) H', rt := D.rt, bk := fun σ' H' => D.bk (σ'.set i none) H', ct := fun σ' H' => D.ct (σ'.set i none) H' } (σ.set i (some (.ref a))) H
def wMas (K : PySem.W.Frag) (Wout : WX) (D : Ends) : List HdR → WX
  | [] => Wout
  | r :: l => fun cls d σ H => ∃ b, PySem.W.exmOne K cls r.c = some b ∧ (b = true → ∀ a, H a = none → r.go D a cls d σ H) ∧ (b = false → wMas K Wout D l cls d σ H)
inductive HdsA (X : Cx) : List ExceptHandler → List HdR → Prop
  | nil : HdsA X [] []
  | cons {x : Str} {c : Value} {ts : Addr → Value → Option Addr → TS} {b₀ : Stmt} {suite : List Stmt} {np pos' : Pos} {hds : List ExceptHandler} {l : List HdR} (hc : Names X x c)
      (hsu : ∀ (a : Addr) (oe : Obj) (cls : Value) (d : Option Addr) (pn : List (Addr × Obj)), Zc cls d oe → (∃ vs, oe.data = .fields vs) → PSs (X.suite a ((a, oe) :: pn)) (b₀ :: suite) (ts a cls d)) (r : HdsA X hds l) :
      HdsA X (.ExceptHandler (some (.Name x np)) none (b₀ :: suite) pos' :: hds) (⟨c, none, ts⟩ :: l)
  | consA {x : Str} {c : Value} {i : Nat} {n : Str} {ts : Addr → Value → Option Addr → TS} {b₀ : Stmt} {suite : List Stmt} {np pos' : Pos} {hds : List ExceptHandler} {l : List HdR} (hi : X.N[i]? = some n) (hln : X.env.kindOf n = some .local) (hc : Names X x c)
      (hsu : ∀ (a : Addr) (oe : Obj) (cls : Value) (d : Option Addr) (pn : List (Addr × Obj)), Zc cls d oe → (∃ vs, oe.data = .fields vs) → PSs (X.suite a ((a, oe) :: pn)) (b₀ :: suite) (ts a cls d)) (r : HdsA X hds l) :
      HdsA X (.ExceptHandler (some (.Name x np)) (some n) (b₀ :: suite) pos' :: hds) (⟨c, some i, ts⟩ :: l)
section
variable {X : Cx} {body : List Stmt} {h₀ : ExceptHandler} {hds : List ExceptHandler} {l : List HdR} {pos : Pos} {tb : WX → TS} {Wout : WX}
theorem ps_try_mas (hs : X.stack = X.env :: X.outer) (hf : X.env.frame = some X.env.locals) (hN : X.N.Nodup) (tk : Takes X Wout)
    (hb : ∀ (W : WX) (pn : List (Addr × Obj)) (xe : Value → Shared → Prop), Takes (X.tr pn xe) W → PassesOwn (model X.prog X.w) X.A X.env xe → PSs (X.tr pn xe) body (tb W))
    (hh : HdsA X (h₀ :: hds) l) : PS X (.Try body (h₀ :: hds) [] [] pos) (fun D σ H => tb (wMas X.K Wout D l) D σ H) := by
  refine ⟨fun pins s σ H D I h => ?_⟩
  have ok := I.ok
  have hfr : X.A.frames = some (X.env :: X.outer) := by rw [ok.frames, hs]
  refine wpAny_Try_except ?_
  refine wpAny_mono ((hb (wMas X.K Wout D l) (X.pn ++ pins) (fun e s₁ => wpAny (model X.prog X.w) X.A (noteFrame e X.env) (fun _ s₂ => wpAny (model X.prog X.w) X.A (setFlight e none) (fun _ s₃ =>
    wpAny (model X.prog X.w) X.A (handleBy e X.env (h₀ :: hds)) (SP X pins D) X.xe s₃) X.xe s₂) X.xe s₁) (fun u s' xx => ?_) PassesOwn.looking).run [] s σ H D (I.toTry _) h) (fun f s1 hsp => ?_) (fun e s1 he => he)
  · -- the catch
    obtain ⟨a, B, sI, pins', σ', H', cls, d, rfl, J', nb, up, sky, na, os, ag, w⟩ := xx
    have J : Inv X pins σ' H' sI := J'.ofTry ok
    have sky' : Sky B (X.env :: X.outer) a (Zc cls d) X.env.locals s'.heap := by rw [← hs]; exact sky
    show wpAny (model X.prog X.w) X.A (noteFrame (.ref a) X.env) _ _ _
    refine Sky.land Zc.steady hfr hf sky' fun h3 fl3 up3 => ?_
    have J3 : Inv X pins σ' H' { s' with heap := h3 } := J.landed nb fl3.1 (up.trans up3) os ag
    obtain ⟨oe3, vs3, he3, hz3, hd3⟩ := fl3.there
    have notFr : ∀ {h : Heap} {o : Obj} {vs : Array Value}, h.FunFrames B (X.env :: X.outer) → h.get? a = some o → o.data = .fields vs → a ∉ frs (X.env :: X.outer) := fun {h o vs} ff e dd hm => by
      obtain ⟨_, o', e', hnf⟩ := ff.mem hm
      rw [e] at e'; cases e'
      exact hnf _ dd
    have nfr := notFr fl3.2.2.1 he3 hd3
    have nL : a ≠ X.env.locals := fun z => nfr (List.mem_filterMap.mpr ⟨X.env, List.mem_cons_self, by rw [hf, z]⟩)
    have nF : a ∉ X.fs := fun hm => by
      obtain ⟨e, he, q⟩ := List.mem_filterMap.mp hm
      exact nfr (List.mem_filterMap.mpr ⟨e, List.mem_cons_of_mem _ he, q⟩)
    have S3 := J3.suite he3 hd3 na nL nF
    have go : ∀ {hds' : List ExceptHandler} {l' : List HdR}, HdsA X hds' l' → wMas X.K Wout D l' cls d σ' H' →
        wpAny (model X.prog X.w) X.A (handleBy (.ref a) X.env hds') (SP X pins D) X.xe { s' with heap := h3 } := by
      intro hds' l' hk
      induction hk with
      | nil =>
        intro w
        refine wpAny_handleBy_nil ?_
        obtain ⟨k1, k2, k3, oe, vs, T, oT, ts', he, hz, hd, h1, hr⟩ := id fl3
        unfold PySem.passOn
        refine wpAny_bind (wpAny_field he hd h1 ?_)
        rw [if_neg (show ¬ ((Value.ref T == Value.none) = true) from by simp)]
        have fin : wpAny (model X.prog X.w) X.A (setFlight (.ref a) X.env.frame) (fun _ s4 => wpAny (model X.prog X.w) X.A (throw (.ref a) : Sem Flow) (SP X pins D) X.xe s4) X.xe { s' with heap := h3 } := by
          rw [hf]
          refine HandSPX.setFlight_upZ fl3 fun h4 hh4 up4 => wpAny_throw (tk _ _ ?_)
          exact ⟨a, B, sI, pins, σ', H', cls, d, rfl, J, nb, (up.trans up3).trans up4, .inr (.inr (by rw [hs]; exact hh4)), na, os, ag, w⟩
        first
          | exact wpAny_bind (wpAny_pure (wpAny_bind fin))
          | exact wpAny_bind fin
      | @cons x c ts b₀ suite np pos' hds2 l2 hc hsu r ih =>
        intro w
        obtain ⟨b, hb1, hyes, hno⟩ := w
        refine wpAny_handleBy_cons (codeAny_handlers_test ?_) (by intro q; cases q)
        have LT : PySem.W.Looks (model X.prog X.w) h3 (typeOf (.ref a)) cls := fun A Q E s k q => wpAny_typeOf_ref (k _ _ he3) (by rw [hz3.1]; exact q)
        have LM := PySem.W.exm_one (M := model X.prog X.w) (J3.kIn) LT hb1
        have test : ∀ {Q : Value → Shared → Prop} {E : Value → Shared → Prop}, Q c { s' with heap := h3 } → wpAny (model X.prog X.w) (X.A.mark (some (.ref a))) (eval (.Name x np) X.env) Q E { s' with heap := h3 } := fun {Q E} q => by
          obtain ⟨hg, hdbg, hm | ⟨hm, hv, hnn⟩⟩ := hc
          · exact ld_glob (X := X.suite a ((a, oe3) :: (X.pn ++ pins))) S3 hg hm q hdbg
          · exact ld_blt (X := X.suite a ((a, oe3) :: (X.pn ++ pins))) S3 hg hm hv q hnn hdbg
        refine test (LM.here ?_)
        cases b with
        | true =>
          refine codeAny_handlers_suite ?_
          refine HandSPX.lands_againZ fl3 fun h4 fl4 up4 => ?_
          have J4 : Inv X pins σ' H' { s' with heap := h4 } := J.landed nb fl4.1 ((up.trans up3).trans up4) os ag
          obtain ⟨oe4, vs4, he4, hz4, hd4⟩ := fl4.there
          have S4 := J4.suite he4 hd4 na nL nF
          refine wpAny_mono ((hsu a oe4 cls d (X.pn ++ pins) hz4 ⟨_, hd4⟩).run [] _ _ H' _ S4 (hyes rfl a na)) (fun f s6 hsp => ?_) (fun _ _ z => False.elim z)
          cases f with
          | next =>
            obtain ⟨σ6, H6, S6, q6⟩ := hsp
            exact ⟨_, _, S6.unsuite ok, q6⟩
          | brk =>
            obtain ⟨σ6, H6, S6, q6⟩ := hsp
            exact ⟨_, _, S6.unsuite ok, q6⟩
          | cont =>
            obtain ⟨σ6, H6, S6, q6⟩ := hsp
            exact ⟨_, _, S6.unsuite ok, q6⟩
          | ret u =>
            obtain ⟨v6, σ6, H6, S6, r6, q6⟩ := hsp
            exact ⟨_, _, _, S6.unsuite ok, r6, q6⟩
        | false =>
          show wpAny _ X.A (handleBy (.ref a) X.env hds2) _ _ _
          exact ih (hno rfl)
      | @consA x c i n ts b₀ suite np pos' hds2 l2 hi hln hc hsu r ih =>
        intro w
        obtain ⟨b, hb1, hyes, hno⟩ := w
        refine wpAny_handleBy_cons (codeAny_handlers_test ?_) (by intro q; cases q)
        have LT : PySem.W.Looks (model X.prog X.w) h3 (typeOf (.ref a)) cls := fun A Q E s k q => wpAny_typeOf_ref (k _ _ he3) (by rw [hz3.1]; exact q)
        have LM := PySem.W.exm_one (M := model X.prog X.w) (J3.kIn) LT hb1
        have test : ∀ {Q : Value → Shared → Prop} {E : Value → Shared → Prop}, Q c { s' with heap := h3 } → wpAny (model X.prog X.w) (X.A.mark (some (.ref a))) (eval (.Name x np) X.env) Q E { s' with heap := h3 } := fun {Q E} q => by
          obtain ⟨hg, hdbg, hm | ⟨hm, hv, hnn⟩⟩ := hc
          · exact ld_glob (X := X.suite a ((a, oe3) :: (X.pn ++ pins))) S3 hg hm q hdbg
          · exact ld_blt (X := X.suite a ((a, oe3) :: (X.pn ++ pins))) S3 hg hm hv q hnn hdbg
        refine test (LM.here ?_)
        cases b with
        | true =>
          refine codeAny_handlers_suite_as ?_
          refine HandSPX.lands_againZ fl3 fun h4 fl4 up4 => ?_
          have J4 : Inv X pins σ' H' { s' with heap := h4 } := J.landed nb fl4.1 ((up.trans up3).trans up4) os ag
          obtain ⟨oe4, vs4, he4, hz4, hd4⟩ := fl4.there
          have S4 := J4.suite he4 hd4 na nL nF
          refine store_ok (X := X.suite a ((a, oe4) :: (X.pn ++ pins))) (v := .ref a) S4 hN hi (.inl hln) rfl (fun s5 S5 => ?_) (.inr hln)
          refine wpAny_mono ((hsu a oe4 cls d (X.pn ++ pins) hz4 ⟨_, hd4⟩).run [] s5 _ H' _ S5 (hyes rfl a na)) (fun f s6 hsp => ?_) (fun _ _ z => False.elim z)
          have end_ : ∀ {σ6 : L2.St} {H6 : Hp} {Q : Shared → Prop}, Inv (X.suite a ((a, oe4) :: (X.pn ++ pins))) [] σ6 H6 s6 → (∀ s7, Inv X pins (σ6.set i none) H6 s7 → Q s7) →
              wpAny (model X.prog X.w) X.A (do bindName X.env n .none; unbindBehindTheSuite X.env n pos') (fun _ s7 => Q s7) X.xe s6 := fun {σ6 H6 Q} S6 hq => gone_ok (S6.unsuite ok) hN hi hln hq
          cases f with
          | next =>
            obtain ⟨σ6, H6, S6, q6⟩ := hsp
            exact end_ S6 fun s7 J7 => ⟨_, _, J7, q6⟩
          | brk =>
            obtain ⟨σ6, H6, S6, q6⟩ := hsp
            exact end_ S6 fun s7 J7 => ⟨_, _, J7, q6⟩
          | cont =>
            obtain ⟨σ6, H6, S6, q6⟩ := hsp
            exact end_ S6 fun s7 J7 => ⟨_, _, J7, q6⟩
          | ret u =>
            obtain ⟨v6, σ6, H6, S6, r6, q6⟩ := hsp
            exact end_ S6 fun s7 J7 => ⟨_, _, _, J7, r6, q6⟩
        | false =>
          show wpAny _ X.A (handleBy (.ref a) X.env hds2) _ _ _
          exact ih (hno rfl)
    exact go hh w
  · cases f with
    | next =>
      obtain ⟨σ', H', J', q⟩ := hsp
      exact wpAny_execs_nil ⟨σ', H', J'.ofTry ok, q⟩
    | brk =>
      obtain ⟨σ', H', J', q⟩ := hsp
      exact ⟨σ', H', J'.ofTry ok, q⟩
    | cont =>
      obtain ⟨σ', H', J', q⟩ := hsp
      exact ⟨σ', H', J'.ofTry ok, q⟩
    | ret u =>
      obtain ⟨v, σ', H', J', r, q⟩ := hsp
      exact ⟨v, σ', H', J'.ofTry ok, r, q⟩
end
end MiS
end
section
set_option Elab.async false
set_option linter.all false
set_option maxRecDepth 100000
set_option maxHeartbeats 2000000
/-! Calls; own exceptions raised. -/
namespace MiS
open PySem L2 PySem.Spec PyProof.Rows
open Mi (W Ob Hs Fr R Rs Xc Cl E Es It Tg S ev evs evi ex)

/-- what a def promises: that Mi's call tells it -/
def SpM (G : Gv) (call : List W → Hs → R W) : Sp := fun vs H Q E => ∃ (ρ : List Addr) (h : Hs) (ws : List W), RelH G.K G.T ρ h H ∧ WRs G.K ρ H ws vs ∧ OutE G (RE G) ρ H (call ws h) Q E
section
variable {G : Gv} {X : Cx} {c : Cl} {wf : Nat} {Wx : WX} {e a b : Expr} {es : List Expr} {pos : Pos} {i j k : E} {is : Es}
theorem s_call {x : Str} {n m : Nat} {f : Addr} {fd : FuncData} {ps : List Str} {p : Pos} (F : FnOk X.prog X.w X.K X.mg X.base (L2.CX X.prog X.w) m f fd ps (SpM G (c.call n))) (hr : Room m X.A) (hg : Gl X x) (hm : X.mg x = some (.ref f)) (hk : PySem.W.keepIn X.K (.ref f) = true)
    (hb : Binds X.K fd ps []) (tk : Takes X Wx) (hs : (e :: es).all nsE = true) (ha : PA X (e :: es) (SimA G (evs c is) Wx)) (hdb : (x == ("__debug__" : Str)) = false) : PE X (.Call (.Name x p) (e :: es) [] pos) (SimE G (ev c (.call n is)) Wx) := by
  have hs2 : nsE e = true ∧ es.all nsE = true := by rw [List.all_cons, Bool.and_eq_true] at hs; exact hs
  refine PE.weak (pe_callS F hr hg hm hk hb (passAt tk) ha hdb (star_of hs2.1) (back_of hs2.2)) fun σ H Q z => ?_
  exact simA (g := c.call n) z fun ρ h H1 ws vs R w o => ⟨ρ, h, ws, R, w, o⟩
/-- the FnOk of a compiled def -/
theorem fn_ok {P : Program} {w : World} {K : PySem.W.Frag} {mg : Str → Option Value} {base : Heap} {x qual : Str} {st : Stmt} {f : Addr} {fd : FuncData} {N ps : List Str} {m n : Nat} {s : S} {Pr : Mi.Prog} {idx : Nat} {d : Mi.Def}
    (F : Fun K x qual st f fd) (Sc : FnScope N ps (defScope st)) (hd : Pr.fns idx = some d) (ha : d.arity = ps.length) (hsl : d.slots = N.length)
    (hst : ∀ vs : List V, vs.length = ps.length → L2.start N vs = vs.map some ++ List.replicate (N.length - vs.length) none)
    (hbody : ∀ (cdv : Value) (A : Around) (outer : List Env) (s : Shared) (H : Hp) (E : XK), Room m (A.deeper (envOfC qual (defScope st) s.heap.objs.size f cdv)) →
      PSs (cxOf (L2.CX P w) P w K mg base N qual (defScope st) f cdv A outer s H E) (defBody st) (SimS G (ex (Mi.clOf Pr wf n) wf d.body) (fun c d _ H => E c d H))) :
    FnOk P w K mg base (L2.CX P w) (m + 1) f fd ps (SpM G (Mi.lev Pr wf (n + 1) idx)) := by
  have key : ∀ {ρ : List Addr} {H : Hp} {h : Hs} {ws : List W} {Q : VK} {E : XK}, OutE G (RE G) ρ H (Mi.lev Pr wf (n + 1) idx ws h) Q E → ws.length = ps.length ∧ OutE G (RE G) ρ H (Mi.endOf h (ex (Mi.clOf Pr wf n) wf d.body (Mi.startFr d.slots ws) h)) Q E := by
    intro ρ H h ws Q E o
    have o : OutE G (RE G) ρ H (match Pr.fns idx with
      | some d => if ws.length = d.arity then Mi.endOf h (ex (Mi.clOf Pr wf n) wf d.body (Mi.startFr d.slots ws) h) else .stk
      | none => .stk) Q E := o
    rw [hd] at o
    have o : OutE G (RE G) ρ H (if ws.length = d.arity then Mi.endOf h (ex (Mi.clOf Pr wf n) wf d.body (Mi.startFr d.slots ws) h) else .stk) Q E := o
    split at o
    · rename_i hl
      exact ⟨hl.trans ha, o⟩
    · exact (show False from o).elim
  refine F.okX Sc (fun vs H Q E ⟨ρ, h, ws, R, wr, o⟩ => by rw [← wr.length]; exact (key o).1) fun cdv A outer s H vs Q E hr ⟨ρ, h, ws, R, wr, o⟩ => ⟨_, hbody cdv A outer s H E hr, ?_⟩
  obtain ⟨hl, o⟩ := key o
  have lv : vs.length = ps.length := by rw [← wr.length]; exact hl
  refine ⟨ρ, h, Mi.startFr d.slots ws, R, ?_, end_ok R o⟩
  rw [hst vs lv]
  unfold Mi.startFr
  rw [hsl]
  have lw := wr.length
  refine ⟨by simp only [List.length_append, List.length_map, List.length_replicate, lw], fun i w ew => ?_⟩
  by_cases hi : i < ws.length
  · rw [List.getElem?_append_left (by simpa using hi), List.getElem?_map] at ew
    cases q : ws[i]? with
    | none => rw [q] at ew; cases ew
    | some w' =>
      rw [q] at ew
      cases ew
      obtain ⟨v, ev', r⟩ := wr.get q
      exact ⟨v, by rw [List.getElem?_append_left (by simp; omega), List.getElem?_map, ev']; rfl, r⟩
  · rw [List.getElem?_append_right (by simp; omega)] at ew
    rw [List.getElem?_replicate] at ew
    split at ew <;> cases ew

/-! ### raise C(e) -/
/-- an __init__ that keeps its one argument under the name f -/
def SpI (C : Addr) (f : Str) : Sp := fun vs H Q _ => ∃ (a : Addr) (x : V), vs = [.ref a, x] ∧ H a = some (exo a C none) ∧ ∀ dx, H dx = none → dx ≠ a → Q .non (upd (upd H dx (exd dx [(f, x)])) a (exo a C (some dx)))
theorem t_rais {x f : Str} {n m : Nat} {fI : Addr} {fd : FuncData} {ps : List Str} {p : Pos} (hc : X.calm = true) (tk : Takes X Wx) (hK : X.K = G.K) (T : OexC X.K (G.cl n)) (iC : PySem.W.findIn X.K (.ref (G.cl n)) "__init__" = some (some (.ref fI))) (tI : PySem.W.typeIn X.K (.ref fI) = some (.type "function"))
    (F1 : FnOk X.prog X.w X.K X.mg X.base (L2.CX X.prog X.w) m fI fd ps (SpI (G.cl n) f)) (hr : Room (m + 1) X.A) (hb : Binds X.K fd ps []) (hg : Gl X x) (hm : X.mg x = some (.ref (G.cl n))) (hfl : G.fl n = [f])
    (hs : nsE e = true) (ha : PE X e (SimE G (ev c i) Wx)) (hdb : (x == ("__debug__" : Str)) = false) {pos2 : Pos} : PS X (.Raise (some (.Call (.Name x p) [e] [] pos)) none pos2) (SimS G (ex c wf (.rais n (.cons i .nil))) Wx) := by
  have pa : PA X [e] (tCons (SimE G (ev c i) Wx) tNil) := pa_cons ha pa_nil (star_of hs)
  have hx : Passes (L2.CX X.prog X.w) X (fun _ _ _ => False) := fun _ _ _ _ _ _ _ h => by
    obtain ⟨_, _, _, _, _, _, _, _, _, _, _, _, z⟩ := h
    exact z.elim
  refine PS.weak (ps_raise hc tk (pmk_oex T iC tI F1 hr hb (.nil : Vals [] []) hx hg hm pa hdb (star_of hs) (back_of (by rfl)))) fun D σ H ⟨ρ, h, fr, R, F, o⟩ => ?_
  show SimE G (ev c i) Wx σ H fun x H1 => [x].length ≤ 1000 ∧ ∀ a, H1 a = none → SpI (G.cl n) f (.ref a :: ([x] ++ [])) (upd H1 a (exo a (G.cl n) none)) _ _
  have o : OutS G ρ H (match (ev c i fr h).bind fun w h => .ok [w] h with
    | .ok ws h => .exc ⟨n, ws⟩ fr h
    | .exc x h => .exc x fr h
    | .stk => .stk) D Wx := o
  have o : OutS G ρ H (toS (ev c i fr h) fr fun w h => .exc ⟨n, [w]⟩ fr h) D Wx := by
    cases q : ev c i fr h with
    | ok w h1 => rw [q] at o; exact o
    | exc x h1 => rw [q] at o; exact o
    | stk => rw [q] at o; exact o
  refine ⟨ρ, h, fr, R, F, (oTo (D := D) (Wx := Wx) (Rel := RE G) R F (r := ev c i fr h) o).imp (fun v H1 ⟨ρ1, w, h1, s1, R1, F1, w1, o1⟩ => ?_) fun _ _ _ q => q⟩
  refine ⟨by show 1 ≤ 1000; decide, fun a na => ⟨a, v, rfl, upd_same, fun dx nd ne => ⟨rfl, dx, [(f, v)], upd_same, ?_, ?_, ?_⟩⟩⟩
  · rw [upd_ne ne, upd_same]
  · rw [upd_ne ne] at nd; exact nd
  · rw [upd_ne ne] at nd
    have e1 : upd (del (upd (upd (upd H1 a (exo a (G.cl n) none)) dx (exd dx [(f, v)])) a (exo a (G.cl n) (some dx))) a) dx (.xd [(f, v)]) = upd H1 dx (.xd [(f, v)]) := by
      funext b
      by_cases hb : b = dx
      · subst hb; rw [upd_same, upd_same]
      · rw [upd_ne hb, upd_ne hb]
        by_cases hb2 : b = a
        · subst hb2; rw [del_same, na]
        · rw [del_ne hb2, upd_ne hb2, upd_ne hb, upd_ne hb2]
    rw [e1]
    have st := Stp.put (o := .xd [(f, v)]) nd (R1.free nd)
    refine o1 ρ1 _ _ _ σ st (R1.put nd) (F1.mono R1 st) ⟨rfl, dx, _, rfl, upd_same, R1.free nd, by rw [hfl]; rfl, fun m g w' eg ew => ?_⟩
    rw [hfl] at eg
    cases m with
    | zero =>
      cases (Option.some.inj eg)
      cases (Option.some.inj ew)
      exact ⟨v, by simp [List.lookup], w1.mono R1 st⟩
    | succ m =>
      have : ([] : List Str)[m]? = some g := eg
      simp at this
end
end MiS
end
section
set_option Elab.async false
set_option linter.all false
set_option maxRecDepth 100000
set_option maxHeartbeats 2000000
/-! A def that calls the lambda that it gets and catches. -/
namespace MiS
open PySem L2 PySem.Spec PyProof.Rows
open Mi (W Ob Hs Fr R Rs Xc Cl E Es It Tg S XE ev evs evi ex)

section
variable {G : Gv}
/-- an except clause's answer: k the class that it names, i the slot of its name -/
def SimX (G : Gv) (k i : Nat) (xe : XE) (a : Addr) (cls : Value) (d : Option Addr) : TE := fun σ H Q => ∃ (ρ : List Addr) (h : Hs) (x : Xc) (w : W), RelH G.K G.T ρ h H ∧ XcR G.K G.cl G.fl ρ H x cls d ∧ x.cls = k ∧ σ[i]? = some (some (.ref a)) ∧ Mi.xeV x.args xe = some w ∧
  ∀ H' v, Stp ρ H ρ H' → RelH G.K G.T ρ h H' → WR G.K ρ H' w v → Q v H'
def SimXs (G : Gv) (k i : Nat) (xe : XE) (a : Addr) (cls : Value) (d : Option Addr) : TA := fun σ H Q => ∃ (ρ : List Addr) (h : Hs) (x : Xc) (ws : List W), RelH G.K G.T ρ h H ∧ XcR G.K G.cl G.fl ρ H x cls d ∧ x.cls = k ∧ σ[i]? = some (some (.ref a)) ∧ Mi.xeV x.args xe = some (.tup ws) ∧
  ∀ H' vs, Stp ρ H ρ H' → RelH G.K G.T ρ h H' → WRs G.K ρ H' ws vs → Q vs H'
theorem XcR.mono {ρ ρ' : List Addr} {h : Hs} {H H' : Hp} {x : Xc} {c : Value} {d : Option Addr} (R : RelH G.K G.T ρ h H) (s : Stp ρ H ρ' H') (r : XcR G.K G.cl G.fl ρ H x c d) : XcR G.K G.cl G.fl ρ' H' x c d := by
  obtain ⟨e, dd, fs, e1, e2, e3, e4, e5⟩ := r
  exact ⟨e, dd, fs, e1, s.keep _ _ e2 e3 (fun _ z => by cases z), s.out e2 e3 (fun _ z => by cases z), e4, fun i f w a b => let ⟨v, h1, h2⟩ := e5 i f w a b; ⟨v, h1, h2.mono R s⟩⟩
section
variable {X : Cx} {k i : Nat} {xe xr : XE} {a : Addr} {cls : Value} {d : Option Addr} {e : Expr} {es : List Expr} {pos : Pos} {oe : Obj} {pn : List (Addr × Obj)}
theorem x_con {w : W} {v : V} (h : PE X e (tC v)) (r : ∀ ρ H, WR G.K ρ H w v) : PE X e (SimX G k i (.con w) a cls d) :=
  PE.weak h fun σ H Q ⟨ρ, hh, x, w', R, xr, ek, es, ew, q⟩ => by
    cases (Option.some.inj ew)
    exact q H v (Stp.refl _ _) R (r ρ H)
theorem x_fld {m : Nat} {f n : Str} {p : Pos} (hK : X.K = G.K) (T : XfC X.K (G.cl k)) (hno : PySem.W.findIn X.K (.ref (G.cl k)) f = some none) (hz : Zc cls d oe) (hf : ∃ vs, oe.data = .fields vs) (hfl : (G.fl k)[m]? = some f)
    (hN : X.N[i]? = some n) (hv : Vis X.env.scope n) (hd : (n == ("__debug__" : Str)) = false) (hcd : (n == ("__classdict__" : Str)) = false) : PE (X.suite a ((a, oe) :: pn)) (.Attribute (.Name n p) f pos) (SimX G k i (.fld m) a cls d) := by
  refine PE.weak (pe_xf T hno hz hf (pe_var (X := X.suite a ((a, oe) :: pn)) hN hv hd hcd) rfl) fun σ H Q ⟨ρ, hh, x, w, R, xr, ek, es, ew, q⟩ => ?_
  obtain ⟨ec, dd, fs, e1, e2, e3, e4, e5⟩ := xr
  subst ek
  have ew : x.args[m]? = some w := ew
  obtain ⟨v, l, wr⟩ := e5 m f w hfl ew
  exact ⟨.ref a, es, rfl, ec, dd, fs, v, e1, e2, l, q H v (Stp.refl _ _) R wr⟩
theorem x_nil : PA X [] (SimXs G k i .nil a cls d) :=
  PA.weak pa_nil fun σ H Q ⟨ρ, hh, x, ws, R, xr, ek, es, ew, q⟩ => by
    cases (Option.some.inj ew)
    exact q H [] (Stp.refl _ _) R .nil
theorem x_cons (hs : nsE e = true) (ha : PE X e (SimX G k i xe a cls d)) (hr : PA X es (SimXs G k i xr a cls d)) : PA X (e :: es) (SimXs G k i (.cons xe xr) a cls d) := by
  refine PA.weak (pa_cons ha hr (star_of hs)) fun σ H Q ⟨ρ, hh, x, ws, R, xr', ek, es', ew, q⟩ => ?_
  have ew : (match Mi.xeV x.args xe, Mi.xeV x.args xr with
    | some w, some (.tup ws) => some (W.tup (w :: ws))
    | _, _ => none) = some (.tup ws) := ew
  split at ew
  · rename_i w us e1 e2
    cases ew
    refine ⟨ρ, hh, x, w, R, xr', ek, es', e1, fun H1 v s1 R1 w1 => ⟨ρ, hh, x, us, R1, xr'.mono R s1, ek, es', e2, fun H2 vs s2 R2 w2 => ?_⟩⟩
    exact q H2 (v :: vs) (s1.trans s2) R2 (.cons (w1.mono R1 s2) w2)
  · cases ew
theorem x_tup {x1 : Nat} (hl : es.length ≤ 100) (h : PA X es (SimXs G k i (.cons xe xr) a cls d)) (lenW : ∀ args ws, Mi.xeV args (.cons xe xr) = some (.tup ws) → ws.length = es.length) : PE X (.Tuple es x1 pos) (SimX G k i (.cons xe xr) a cls d) := by
  refine PE.weak (pe_tup h) fun σ H Q ⟨ρ, hh, x, w, R, xr', ek, es', ew, q⟩ => ?_
  have : ∃ ws, w = .tup ws := by
    have ew : (match Mi.xeV x.args xe, Mi.xeV x.args xr with
      | some w, some (.tup ws) => some (W.tup (w :: ws))
      | _, _ => none) = some w := ew
    split at ew
    · exact ⟨_, (Option.some.inj ew).symm⟩
    · cases ew
  obtain ⟨ws, rfl⟩ := this
  have lw := lenW _ _ ew
  have l2 : ws.length ≤ sizeLine := by rw [lw, sizeLine_eq]; omega
  refine ⟨ρ, hh, x, ws, R, xr', ek, es', ew, fun H1 vs s1 R1 w1 => ⟨by rw [← w1.length]; exact l2, fun p np => ?_⟩⟩
  exact q _ _ (s1.trans (Stp.put np (R1.free np))) (R1.put np) (tup_put R1 np w1 l2)
end

/-- the clauses, as told to the layer -/
def hdsR (G : Gv) : List (Nat × Nat × XE) → List HdR
  | [] => []
  | (k, i, xe) :: r => ⟨.ref (G.cl k), some i, fun a cls d => tRet (SimX G k i xe a cls d)⟩ :: hdsR G r
/-- what a told def makes of the lambda's reading -/
def TTm (G : Gv) (tag : Mi.Tx) (n : Nat) (hs : List (Nat × Nat × XE)) : (XK → Hp → VK → Prop) → Hp → VK → Prop := fun tl H Q =>
  tl (fun cls d H' => ∀ σ' : L2.St, σ'.length = n → wMas G.K (fun _ _ _ _ => False) { nx := fun _ H' => Q .non H', rt := Q } (hdsR G hs) cls d σ' H') H (fun v H1 => ([V.str (tx tag), v] : List V).length ≤ sizeLine ∧ ∀ p, H1 p = none → Q (.ref p) (upd H1 p (.tup [.str (tx tag), v])))
section
variable {X : Cx}
theorem toldm_gives {Ng : List Str} {x a q : Str} {sg : Scope} {g : Addr} {cdg : Value} {tag : Mi.Tx} {j kk : Nat} {hds : List ExceptHandler} {h₀ : ExceptHandler} {hs : List (Nat × Nat × XE)} {p1 p2 p3 p4 pt p8 : Pos} (hNd : Ng.Nodup) (h0 : ∀ f : Addr, (L2.start Ng [V.ref f])[0]? = some (some (V.ref f))) (hK : X.K = G.K)
    (hh : ∀ (s : Shared) (H : Hp), HdsA (cxOf C8.CX0 X.prog X.w X.K X.mg X.base Ng x sg g cdg X.A X.stack s H C8.E0).nox (h₀ :: hds) (hdsR G hs)) :
    LamX.GivesTo X Ng x sg g cdg [.Try [.Return (some (.Tuple [.Constant (.str (tx tag)) j p4, .Call (.Name a p1) [] [] p2] kk pt)) p3] (h₀ :: hds) [] [] p8] a q (TTm G tag Ng.length hs) := by
  intro f c' s H Q tl act hc h
  refine ⟨_, pss_one (ps_try_mas (X := (cxOf C8.CX0 X.prog X.w X.K X.mg X.base Ng x sg g cdg X.A X.stack s H C8.E0).nox) (Wout := fun _ _ _ _ => False)
      (tb := fun W D σ H => ∃ Ech : XK, (∀ cls d σ' H', Ech cls d H' → σ'.length = Ng.length → W cls d σ' H') ∧ σ[0]? = some (some (.ref f)) ∧ H c' = some (LamX.CodeO c' q) ∧ tl Ech H (fun v H1 => ([V.str (tx tag), v] : List V).length ≤ sizeLine ∧ ∀ p, H1 p = none → D.rt (.ref p) (upd H1 p (.tup [.str (tx tag), v]))))
      rfl rfl hNd LamX.takes0 (fun W pn xe tk _ => ?_) (hh s H)), ?_⟩
  · refine ⟨fun pins s' σ H' D I h' => ?_⟩
    obtain ⟨Ech, hW, h1, h2, h3⟩ := h'
    have tk' : Takes ((cxOf C8.CX0 X.prog X.w X.K X.mg X.base Ng x sg g cdg X.A X.stack s H C8.E0).tr pn xe) (fun cls d σ H => σ.length = Ng.length → W cls d σ H) := fun u s' xx => by
      obtain ⟨a, B, sI, pins', σ', H', cls, d, e1, J, nb, up, sky, na, os, ag, w⟩ := xx
      exact tk u s' ⟨a, B, sI, pins', σ', H', cls, d, e1, J, nb, up, sky, na, os, ag, w J.len⟩
    have hp := act (fun cls d σ H => σ.length = Ng.length → W cls d σ H) pn xe Ech p1 p2 tk' fun cls d σ' H' e => hW cls d σ' H' e
    have hq := pss_one (ps_ret (pos := p3) (pe_tup (x1 := kk) (pos := pt) (pa_cons (pe_str (j := j) (pos := p4) (x := tx tag)) (pa_cons hp pa_nil rfl) rfl)))
    exact hq.run pins s' σ H' D I ⟨h1, h2, h3⟩
  · unfold TTm at h
    rw [← hK] at h
    exact ⟨fun cls d H' => ∀ σ' : L2.St, σ'.length = Ng.length → wMas X.K (fun _ _ _ _ => False) { nx := fun _ H' => Q .non H', rt := Q } (hdsR G hs) cls d σ' H', fun cls d σ' H' e hl => e σ' hl, h0 f, hc, h⟩
/-- which classes a clause catches -/
def SubR (G : Gv) (sub : Nat → Nat → Bool) (ks : List Nat) : Prop := ∀ a ∈ ks, ∀ b ∈ ks, PySem.W.exmOne G.K (.ref (G.cl a)) (.ref (G.cl b)) = some (sub a b)
theorem pick_some {sub : Nat → Nat → Bool} {x : Xc} : ∀ {l : List (Nat × XE)} {e : XE}, Mi.pick sub x l = some e → ∃ c, (c, e) ∈ l ∧ x.cls = c
  | [], _, h => by cases h
  | (c, e') :: r, e, h => by
    unfold Mi.pick at h
    split at h
    · split at h
      · rename_i q
        cases h
        exact ⟨c, List.mem_cons_self, q⟩
      · cases h
    · obtain ⟨c', h1, h2⟩ := pick_some h
      exact ⟨c', List.mem_cons_of_mem _ h1, h2⟩
/-- Mi's clause and the layer's -/
theorem pick_ok {sub : Nat → Nat → Bool} {x : Xc} {ρ : List Addr} {h : Hs} {H : Hp} {d : Option Addr} {Q : VK} {n : Nat} {σ : L2.St} {e : XE} {w : W} (R : RelH G.K G.T ρ h H) (xr : XcR G.K G.cl G.fl ρ H x (.ref (G.cl x.cls)) d) (hs : L2.St) (hσ : σ.length = n)
    (hw : Mi.xeV x.args e = some w) (q : ∀ H' v, Stp ρ H ρ H' → RelH G.K G.T ρ h H' → WR G.K ρ H' w v → Q v H') :
    ∀ (l : List (Nat × Nat × XE)), (∀ p ∈ l, p.2.1 < n) → (∀ p ∈ l, PySem.W.exmOne G.K (.ref (G.cl x.cls)) (.ref (G.cl p.1)) = some (sub x.cls p.1)) → Mi.pick sub x (l.map fun p => (p.1, p.2.2)) = some e →
      wMas G.K (fun _ _ _ _ => False) { nx := fun _ H' => Q .non H', rt := Q } (hdsR G l) (.ref (G.cl x.cls)) d σ H
  | [], _, _, hp => by cases hp
  | (k, i, xe) :: r, hn, hs', hp => by
    have s1 := hs' (k, i, xe) List.mem_cons_self
    have n1 := hn (k, i, xe) List.mem_cons_self
    refine ⟨sub x.cls k, s1, fun hb a na => ?_, fun hb => ?_⟩
    · have hp : (if sub x.cls k then (if x.cls = k then some xe else none) else Mi.pick sub x (r.map fun p => (p.1, p.2.2))) = some e := hp
      rw [if_pos hb] at hp
      split at hp
      · rename_i ek
        cases hp
        show SimX G k i e a (.ref (G.cl x.cls)) d (σ.set i (some (.ref a))) H Q
        exact ⟨ρ, h, x, w, R, xr, ek, by rw [List.getElem?_set_self (by rw [hσ]; exact n1)], hw, q⟩
      · cases hp
    · have hp : (if sub x.cls k then (if x.cls = k then some xe else none) else Mi.pick sub x (r.map fun p => (p.1, p.2.2))) = some e := hp
      rw [if_neg (by rw [hb]; decide)] at hp
      exact pick_ok R xr hs hσ hw q r (fun p m => hn p (List.mem_cons_of_mem _ m)) (fun p m => hs' p (List.mem_cons_of_mem _ m)) hp
/-- x(lambda: body) -/
theorem s_told {Pr : Mi.Prog} {wf lv : Nat} {c : Cl} (hcl : c = Mi.clOf Pr wf lv) {Wx : WX} {t : Mi.Told} {idx : Nat} {i : E} {x a : Str} {g cc P : Addr} {k : Nat} {pg : Arguments} {bg : List Stmt} {sg : Scope} {dV kV doc pm cdv ct oc : Value} {an od : Option Addr} {osl : Array (Option Value)} {Ng : List Str}
    {params : Arguments} {body : Expr} {scope : Scope} {p lpos pos : Pos} {hs : List (Nat × Nat × XE)} {dom : List Nat} (hK : X.K = G.K) (hg : Gl X x) (hm : X.mg x = some (.ref g)) (hk : PySem.W.keepIn X.K (.ref g) = true)
    (lk : X.K.lookup g = some ⟨oc, od, .func (PySem.W.fnOf x x pg bg sg dV kV doc pm an cdv ct), osl⟩) (hcg : PySem.W.codeIn X.K cdv x = true) (hb : L2.Binds X.K (PySem.W.fnOf x x pg bg sg dV kV doc pm an cdv ct) [a] []) (Sg : FnScope Ng [a] sg) (hNg : Ng[0]? = some a) (hva : Vis sg a)
    (ht : Pr.tolds idx = some t) (hth : t.hs = hs.map fun p => (p.1, p.2.2)) (hin : ∀ p ∈ hs, p.2.1 < Ng.length) (hsub : ∀ c : Nat, ∀ p ∈ hs, PySem.W.exmOne G.K (.ref (G.cl c)) (.ref (G.cl p.1)) = some (Pr.sub c p.1))
    (hG : LamX.GivesTo X Ng x sg g cdv bg a (X.env.qual ++ "<lambda>") (TTm G t.tag Ng.length hs))
    (TB : LamX.TabB X.base X.mg cc P) (hcode : X.env.code = .ref cc) (hmT : (P, X.env.qual ++ "<lambda>") ∈ G.T) (hu : ∀ p ∈ G.T, p.1 = P → p.2 = X.env.qual ++ "<lambda>") (hr : Room (k + 2) X.A) (L : LamX.LamS X.env.scope scope) (hdef : defaultsOf params X.env = ([], []))
    (hbind : ∀ (q : Str) (cl : List (Str × Addr)) (pm cv ctv : Value), bindArgs (PySem.W.kla_fn "<lambda>" q params body scope cl pm cv ctv) ⟨[], []⟩ = pure [])
    (hbody : ∀ (A : Around) (outer : List Env) (s : Shared) (H : Hp) (E : XK) (f c' : Addr), Room k (A.deeper (LamX.lamEnv X scope s.heap.objs.size f c')) → PE (LamX.lamCx X A outer s H E scope f c') body (SimE G (ev c i) (fun c d _ H => E c d H)))
    (hdb : (x == ("__debug__" : Str)) = false) (hd : (a == ("__debug__" : Str)) = false) (hcd : (a == ("__classdict__" : Str)) = false) :
    PE X (.Call (.Name x p) [.Lambda params body scope lpos] [] pos) (SimE G (ev c (.told idx i)) Wx) := by
  refine PE.weak (LamX.pe_lamcall (T := G.T) hg hm hk lk hcg hb Sg hNg hva hG TB hcode hmT hu hr L hdef hbind hbody hdb hd hcd) fun σ H Q ⟨ρ, h, fr, R, F, o⟩ => ?_
  refine ⟨R.tabs, fun H1 eN T1 => ?_⟩
  have o : OutE G (RE G) ρ H (match Pr.tolds idx with
      | some t => Mi.toldV Pr t (ev c i fr h)
      | none => .stk) Q (fun c d H' => Wx c d σ H') := by
    have o : OutE G (RE G) ρ H (c.told idx (fun h => ev c i fr h) h) Q (fun c d H' => Wx c d σ H') := o
    rw [hcl] at o
    rw [hcl]
    exact o
  rw [ht] at o
  have o : OutE G (RE G) ρ H (Mi.toldV Pr t (ev c i fr h)) Q (fun c d H' => Wx c d σ H') := o
  have s0 : Stp ρ H ρ H1 := ⟨List.prefix_refl _, fun b ob e _ n => eN b ob e n, fun b m n => absurd m n⟩
  have R1 : RelH G.K G.T ρ h H1 := ⟨R.len, R.nd, fun n ob a e1 e2 => by
    cases R.ob n ob a e1 e2 with
    | lst q l r => exact .lst (eN _ _ q fun _ z => by cases z) l (WRs.mono R s0 r)
    | dic q r => exact .dic (eN _ _ q fun _ z => by cases z) (KvR.mono R s0 r), T1⟩
  refine ⟨ρ, h, fr, R1, F.mono R s0, ?_⟩
  cases q : ev c i fr h with
  | stk => rw [q] at o; exact (show False from o).elim
  | ok w h1 =>
    rw [q] at o
    intro ρ2 H2 v s2 R2 wv
    refine ⟨by show 2 ≤ sizeLine; decide, fun p' np => ?_⟩
    have o : OutE G (RE G) ρ H (.ok (.tup [.str t.tag, w]) h1) Q (fun c d H' => Wx c d σ H') := o
    exact o ρ2 _ (.ref p') ((s0.trans s2).trans (Stp.put np (R2.free np))) (R2.put np) (tup_put R2 np (.cons (.str _) (.cons wv .nil)) (by show 2 ≤ sizeLine; decide))
  | exc x' h1 =>
    rw [q] at o
    have o : OutE G (RE G) ρ H (match Mi.pick Pr.sub x' t.hs with
      | some e => match Mi.xeV x'.args e with
        | some w => .ok w h1
        | none => .stk
      | none => .stk) Q (fun c d H' => Wx c d σ H') := o
    cases ep : Mi.pick Pr.sub x' t.hs with
    | none => rw [ep] at o; exact (show False from o).elim
    | some e =>
      rw [ep] at o
      have o : OutE G (RE G) ρ H (match Mi.xeV x'.args e with
        | some w => .ok w h1
        | none => .stk) Q (fun c d H' => Wx c d σ H') := o
      cases ew : Mi.xeV x'.args e with
      | none => rw [ew] at o; exact (show False from o).elim
      | some w =>
        rw [ew] at o
        intro ρ2 H2 cls d s2 R2 xr σ' hσ'
        obtain ⟨ec, z⟩ := id xr
        subst ec
        rw [hth] at ep
        exact pick_ok (n := Ng.length) R2 xr σ hσ' ew (fun H3 v s3 R3 w3 => o ρ2 H3 v ((s0.trans s2).trans s3) R3 w3) hs hin (fun p m => hsub x'.cls p m) ep
end
end
end MiS
end
section
set_option Elab.async false
set_option linter.all false
set_option maxRecDepth 100000
set_option maxHeartbeats 2000000
/-! Dicts of a module, written keys that are texts. -/
namespace MiS
open PySem L2 PySem.Spec PyProof.Rows
open Mi (W Ob Hs Fr R Rs Xc Cl E Es It Tg S XE ev evs evi ex)

structure TabOk (K : PySem.W.Frag) (w : World) (a : Addr) (kvs : List (W × W)) : Prop where
  kd : ∃ es n, KDict K w a es n
  get : ∀ z : List Nat, (PySem.W.nsIn K a (tx z) = some none ∧ Mi.dget kvs (.str z) = none) ∨ ∃ u w v, PySem.W.nsIn K a (tx z) = some (some u) ∧ Mi.dget kvs (.str z) = some w ∧ RelV v u ∧ ∀ (K' : PySem.W.Frag) (ρ : List Addr) (H : Hp), WR K' ρ H w v
section
variable {G : Gv} {X : Cx} {c : Cl} {Wx : WX} {e : Expr} {pos p : Pos} {i : E} {d : Nat} {a : Addr} {t : Str}
theorem s_kin (hg : Gl X t) (hm : X.mg t = some (.ref a)) (T : TabOk X.K X.w a (c.tab d)) (neg : Bool) (he : PE X e (SimE G (ev c i) Wx)) (hdb : (t == ("__debug__" : Str)) = false) :
    PE X (.Compare e [if neg then .NotIn else .In] [.Name t p] pos) (SimE G (ev c (.kin d neg i)) Wx) ∧ PT X (.Compare e [if neg then .NotIn else .In] [.Name t p] pos) (SimT G (evT c (.kin d neg i)) Wx) := by
  obtain ⟨es, n, D⟩ := T.kd
  have fin : ∀ (r : R2), (∀ (z : Str) (rr : Option Value) (Q : VK) (H : Hp), PySem.W.nsIn X.K a z = some rr → Q (.bl (if neg then !rr.isSome else rr.isSome)) H → r (.str z) (.ref a) H Q) →
      ∀ σ H Q, SimE G (ev c (.kin d neg i)) Wx σ H Q → tOp r (SimE G (ev c i) Wx) (tC (.ref a)) σ H Q := by
    intro r hr σ H Q z
    show SimE G (ev c i) Wx σ H fun x H1 => r x (.ref a) H1 Q
    refine sim1 (k := fun x h => match x with
      | .str _ => .ok (.bl (if neg then !(Mi.dget (c.tab d) x).isSome else (Mi.dget (c.tab d) x).isSome)) h
      | _ => .stk) (fun ρ h H x v R w o => ?_) z
    cases w with
    | str s =>
      have o := OutE.ok (Rel := RE G) (w := W.bl (if neg then !(Mi.dget (c.tab d) (.str s)).isSome else (Mi.dget (c.tab d) (.str s)).isSome)) o R (WR.bl _)
      rcases T.get s with ⟨e1, e2⟩ | ⟨u, w, v, e1, e2, _⟩
      · rw [e2] at o
        exact hr _ _ Q H e1 o
      · rw [e2] at o
        exact hr _ _ Q H e1 o
    | _ => exact (show False from o).elim
  have bls : ∀ fr h, Bls (ev c (.kin d neg i) fr h) := fun fr h => by
    show Bls ((ev c i fr h).bind fun x h => match x with
      | .str _ => .ok (.bl (if neg then !(Mi.dget (c.tab d) x).isSome else (Mi.dget (c.tab d) x).isSome)) h
      | _ => .stk)
    cases ev c i fr h with
    | ok x h1 =>
      rw [Mi.R.bind_ok]
      cases x <;> first | exact ⟨_, rfl⟩ | exact True.intro
    | exc _ _ => exact True.intro
    | stk => exact True.intro
  cases neg with
  | false =>
    have f2 := fin (fun x y H Q => ∃ (z : Str) (r : Option Value), x = .str z ∧ y = .ref a ∧ PySem.W.nsIn X.K a z = some r ∧ Q (.bl r.isSome) H) fun z rr Q H e q => ⟨z, rr, rfl, rfl, e, q⟩
    exact ⟨PE.weak (pe_cmpR (op_in_kd D) he (pe_glob (v := .ref a) hg hm rfl hdb) rfl) f2, PT.weak (pt_cmpR (op_in_kd D) he (pe_glob (v := .ref a) hg hm rfl hdb) rfl) fun σ H Q z => sT_bl f2 bls z⟩
  | true =>
    have f2 := fin (fun x y H Q => ∃ (z : Str) (r : Option Value), x = .str z ∧ y = .ref a ∧ PySem.W.nsIn X.K a z = some r ∧ Q (.bl (!r.isSome)) H) fun z rr Q H e q => ⟨z, rr, rfl, rfl, e, q⟩
    exact ⟨PE.weak (pe_cmpR (op_notIn_kd D) he (pe_glob (v := .ref a) hg hm rfl hdb) rfl) f2, PT.weak (pt_cmpR (op_notIn_kd D) he (pe_glob (v := .ref a) hg hm rfl hdb) rfl) fun σ H Q z => sT_bl f2 bls z⟩
theorem s_kget (hg : Gl X t) (hm : X.mg t = some (.ref a)) (T : TabOk X.K X.w a (c.tab d)) (hs : nsE e = true) (he : PE X e (SimE G (ev c i) Wx)) (hdb : (t == ("__debug__" : Str)) = false) :
    PE X (.Subscript (.Name t p) e pos) (SimE G (ev c (.kget d i)) Wx) := by
  obtain ⟨es, n, D⟩ := T.kd
  have base : PE X (.Subscript (.Name t p) e pos) (tOp (fun x y H Q => ∃ (z : Str) (u0 : Value) (v0 : V), x = .ref a ∧ y = .str z ∧ PySem.W.nsIn X.K a z = some (some u0) ∧ RelV v0 u0 ∧ Q v0 H) (tC (.ref a)) (SimE G (ev c i) Wx)) := by
    refine ⟨fun pins s σ H Q I h => ?_⟩
    refine Subscript_ (binT (pe_glob hg hm (v := .ref a) rfl hdb) he I h fun v u s2 x y H2 I2 rx ry q => ?_)
    obtain ⟨z, u0, v0, e1, e2, e3⟩ := id q
    subst e1
    cases rx
    exact tail_any (kd_type D I2) slot_dict_getitem.lookup (op_item_kd D pins s2 σ H2 (.ref a) y _ u Q I2 rfl ry q) (plainIx_of hs _ _)
  refine PE.weak base fun σ H Q z => ?_
  show SimE G (ev c i) Wx σ H fun y H1 => ∃ (z : Str) (u0 : Value) (v0 : V), V.ref a = .ref a ∧ y = .str z ∧ PySem.W.nsIn X.K a z = some (some u0) ∧ RelV v0 u0 ∧ Q v0 H1
  refine sim1 (k := fun x h => match x with
    | .str _ => Mi.liftO (Mi.dget (c.tab d) x) h
    | _ => .stk) (fun ρ h H x v R w o => ?_) z
  cases w with
  | str s =>
    have o : OutE G (RE G) ρ H (Mi.liftO (Mi.dget (c.tab d) (.str s)) h) Q (fun c d H' => Wx c d σ H') := o
    rcases T.get s with ⟨e1, e2⟩ | ⟨u, w, v, e1, e2, r, wr⟩
    · rw [e2] at o; exact (show False from o).elim
    · rw [e2] at o
      exact ⟨tx s, u, v, rfl, rfl, e1, r, OutE.ok (Rel := RE G) (w := w) o R (wr _ _ _)⟩
  | _ => exact (show False from o).elim
end
end MiS
end
section
set_option Elab.async false
set_option linter.all false
set_option maxRecDepth 100000
set_option maxHeartbeats 2000000
/-! From the program's form to Mi's: expressions. -/
namespace MiS
open PySem L2 PySem.Spec PyProof.Rows
open Mi (W Ob Hs Fr R Rs Xc Cl E Es It Tg S XE ev evs evi ex)

/-- what is compiled against -/
structure Pe where
  fn : List (Str × Nat)
  told : List (Str × Nat)
  tab : List (Str × Nat)
  con : List (Str × W)
  cls : List (Str × Nat)
structure CCx where
  N : List Str
  sc : Scope
  lam : Bool
abbrev Rec := CCx → Expr → E

def ixOf (N : List Str) (x : Str) : Option Nat := N.findIdx? (fun y => decide (y = x))
def visB (sc : Scope) (x : Str) : Bool := match sc.names.lookup x with
  | some .local => true
  | some .cell => true
  | some .free => true
  | _ => false
def locB (sc : Scope) (x : Str) : Bool := match sc.names.lookup x with
  | some .local => true
  | some .cell => true
  | _ => false
def glB (sc : Scope) (x : Str) : Bool := match sc.names.lookup x with
  | some .globalImplicit => true
  | _ => false
def okN (x : Str) : Bool := !(x == ("__debug__" : Str)) && !(x == ("__classdict__" : Str))
def cName (p : Pe) (cx : CCx) (x : Str) : E :=
  if visB cx.sc x && okN x then (match ixOf cx.N x with
    | some i => .var i
    | none => .bad)
  else if glB cx.sc x && okN x then (match p.con.lookup x with
    | some w => .con w
    | none => .bad)
  else .bad
def cCon : Const → E
  | .none => .con .non
  | .bool b => .con (.bl b)
  | .int i => .con (.int i)
  | .str s => .con (.str s.cps.toList)
  | _ => .bad
def boOf : Operator → Option Mi.Bo
  | .Add => some .add
  | .Sub => some .sub
  | .Mult => some .mul
  | .FloorDiv => some .fdiv
  | .Mod => some .mod
  | .Pow => some .pow
  | _ => none
def coOf : CmpOp → Mi.Co
  | .Eq => .eq
  | .NotEq => .ne
  | .Lt => .lt
  | .LtE => .le
  | .Gt => .gt
  | .GtE => .ge
  | .Is => .is
  | .IsNot => .isnot
  | .In => .isin
  | .NotIn => .notin
def toEs : List E → Es
  | [] => .nil
  | a :: r => .cons a (toEs r)
def andL : List E → E
  | [] => .bad
  | [a] => a
  | a :: b :: r => .and a (andL (b :: r))
def orL : List E → E
  | [] => .bad
  | [a] => a
  | a :: b :: r => .or a (orL (b :: r))
def noSet : Expr → Bool
  | .Set _ _ _ => false
  | _ => true
def cCmp (p : Pe) (r : Rec) (cx : CCx) (a : Expr) (op : CmpOp) (b : Expr) : E :=
  match (match b with
    | .Name t _ => if glB cx.sc t && okN t && (op == CmpOp.In || op == CmpOp.NotIn) then p.tab.lookup t else none
    | _ => none) with
  | some d => .kin d (op == CmpOp.NotIn) (r cx a)
  | none => if noSet b then .cmp (coOf op) (r cx a) (r cx b) else .bad

/-- the code object of the code that runs, for its lambdas -/
def LamF (G : Gv) (X : Cx) : Prop := ∃ cc P, X.env.code = .ref cc ∧ LamX.TabB X.base X.mg cc P ∧ (P, X.env.qual ++ "<lambda>") ∈ G.T ∧ ∀ q ∈ G.T, q.1 = P → q.2 = X.env.qual ++ "<lambda>"
def noArgs : Arguments := ⟨[], [], none, [], [], none, []⟩
/-- the rule for x(lambda: ..) -/
def ToldR (G : Gv) (c : Cl) (P : Program) (w : World) (K : PySem.W.Frag) (mg : Str → Option Value) (base : Heap) (x : Str) (idx : Nat) : Prop :=
  ∀ (X : Cx) (Wx : WX) (k : Nat) (body : Expr) (scope : Scope) (i : E) (p lpos pos : Pos), X.prog = P → X.w = w → X.K = K → X.mg = mg → X.base = base → Gl X x → LamF G X → Room (k + 2) X.A → LamX.LamS X.env.scope scope →
    (∀ (A : Around) (outer : List Env) (s : Shared) (H : Hp) (E : XK) (f c' : Addr), Room k (A.deeper (LamX.lamEnv X scope s.heap.objs.size f c')) → PE (LamX.lamCx X A outer s H E scope f c') body (SimE G (ev c i) (fun c d _ H => E c d H))) →
    PE X (.Call (.Name x p) [.Lambda noArgs body scope lpos] [] pos) (SimE G (ev c (.told idx i)) Wx)
/-- the facts of the module's names -/
structure PeOk (G : Gv) (p : Pe) (c : Cl) (m : Nat) (P : Program) (w : World) (K : PySem.W.Frag) (mg : Str → Option Value) (base : Heap) : Prop where
  fn : ∀ x n, p.fn.lookup x = some n → ∃ f fd ps, mg x = some (.ref f) ∧ PySem.W.keepIn K (.ref f) = true ∧ Binds K fd ps [] ∧ FnOk P w K mg base (L2.CX P w) m f fd ps (SpM G (c.call n))
  con : ∀ x v, p.con.lookup x = some v → ∃ y u, mg x = some u ∧ RelV y u ∧ ∀ K ρ H, WR K ρ H v y
  tab : ∀ x d, p.tab.lookup x = some d → ∃ a, mg x = some (.ref a) ∧ TabOk K w a (c.tab d)
  told : ∀ x n, p.told.lookup x = some n → ToldR G c P w K mg base x n
  m2 : 2 ≤ m
  cls : ∀ x n, p.cls.lookup x = some n → mg x = some (.ref (G.cl n)) ∧ OexC K (G.cl n) ∧ ∃ fI fd ps f, PySem.W.findIn K (.ref (G.cl n)) "__init__" = some (some (.ref fI)) ∧ PySem.W.typeIn K (.ref fI) = some (.type "function") ∧ FnOk P w K mg base (L2.CX P w) 1 fI fd ps (SpI (G.cl n) f) ∧ Binds K fd ps [] ∧ G.fl n = [f]
  blt : ∀ x ∈ (["len", "int", "str", "list", "tuple", "sorted", "all", "any", "sum", "isinstance", "range", "enumerate", "zip", "bool", "dict"] : List String), mg (Str.ofString x) = none
/-- a context of code, compiled as cx -/
structure Good (G : Gv) (p : Pe) (c : Cl) (m : Nat) (X : Cx) (cx : CCx) (Wx : WX) : Prop where
  pe : PeOk G p c m X.prog X.w X.K X.mg X.base
  K : X.K = G.K
  N : X.N = cx.N
  nd : X.N.Nodup
  calm : X.calm = true
  room : Room (if cx.lam then m + 2 else m) X.A
  lam : cx.lam = true → LamF G X
  tk : Takes X Wx
  same : ∀ x k, cx.sc.names.lookup x = some k → k ≠ .free → X.env.scope.names.lookup x = some k
  free : ∀ x, cx.sc.names.lookup x = some .free → X.env.scope.names.lookup x = some .free ∨ X.env.scope.names.lookup x = some .cell
  fnc : ∀ x, cx.sc.names.lookup x = some .cell → X.fn x = true
section
variable {G : Gv} {p : Pe} {c : Cl} {m : Nat} {X : Cx} {cx : CCx} {Wx : WX}
theorem Good.rm (g : Good G p c m X cx Wx) : Room m X.A := g.room.mono (by split <;> omega)
theorem Good.units (g : Good G p c m X cx Wx) : X.A.units + 65 < cLine := by have := g.rm.un; omega
theorem Good.vis (g : Good G p c m X cx Wx) {x : Str} (h : visB cx.sc x = true) : Vis X.env.scope x := by
  unfold visB at h
  split at h
  · rename_i e; exact .inl (g.same x _ e (by decide))
  · rename_i e; exact .inr (.inl (g.same x _ e (by decide)))
  · rename_i e
    rcases g.free x e with q | q
    · exact .inr (.inr q)
    · exact .inr (.inl q)
  · cases h
theorem Good.gl (g : Good G p c m X cx Wx) {x : Str} (h : glB cx.sc x = true) : Gl X x := by
  unfold glB at h
  split at h
  · rename_i e; exact g.same x _ e (by decide)
  · cases h
theorem ixOf_ok {N : List Str} {x : Str} {i : Nat} (h : ixOf N x = some i) : N[i]? = some x := by
  unfold ixOf at h
  obtain ⟨hi, e, _⟩ := List.findIdx?_eq_some_iff_getElem.mp h
  rw [List.getElem?_eq_getElem hi]
  exact congrArg some (of_decide_eq_true e)
theorem okN_ok {x : Str} (h : okN x = true) : (x == ("__debug__" : Str)) = false ∧ (x == ("__classdict__" : Str)) = false := by
  unfold okN at h
  simpa using h

def SndR (G : Gv) (p : Pe) (c : Cl) (m : Nat) (r : Rec) : Prop := ∀ (X : Cx) (cx : CCx) (Wx : WX) (e : Expr), Good G p c m X cx Wx → PE X e (SimE G (ev c (r cx e)) Wx) ∧ PT X e (SimT G (evT c (r cx e)) Wx)

theorem c_name (g : Good G p c m X cx Wx) {x : Str} {pos : Pos} : PE X (.Name x pos) (SimE G (ev c (cName p cx x)) Wx) := by
  unfold cName
  split
  · rename_i h
    rw [Bool.and_eq_true] at h
    split
    · rename_i i e
      exact s_var (by rw [g.N]; exact ixOf_ok e) (g.vis h.1) (okN_ok h.2).1 (okN_ok h.2).2
    · exact s_bad
  · split
    · rename_i h
      rw [Bool.and_eq_true] at h
      split
      · rename_i w e
        obtain ⟨y, u, e1, e2, e3⟩ := g.pe.con x w e
        exact s_con (pe_glob (g.gl h.1) e1 e2 (okN_ok h.2).1) fun ρ H => e3 _ _ _
      · exact s_bad
    · exact s_bad
theorem c_con {k : Const} {j : Nat} {pos : Pos} : PE X (.Constant k j pos) (SimE G (ev c (cCon k)) Wx) := by
  cases k with
  | none => exact s_con pe_non fun _ _ => .non
  | bool b => exact s_con pe_bl fun _ _ => .bl b
  | int i => exact s_con pe_int fun _ _ => .int i
  | str s => exact s_con (pe_str (x := s)) fun _ _ => .str s.cps.toList
  | _ => exact s_bad
theorem c_args {r : Rec} (hr : SndR G p c m r) (g : Good G p c m X cx Wx) : ∀ {es : List Expr}, es.all nsE = true → PA X es (SimA G (evs c (toEs (es.map (r cx)))) Wx)
  | [], _ => sa_nil
  | e :: es, h => by
    rw [List.all_cons, Bool.and_eq_true] at h
    exact sa_cons h.1 (hr X cx Wx e g).1 (c_args hr g h.2)
theorem c_bin {r : Rec} (hr : SndR G p c m r) (g : Good G p c m X cx Wx) {a b : Expr} {op : Operator} {o : Mi.Bo} (h : boOf op = some o) {pos : Pos} : PE X (.BinOp a op b pos) (SimE G (ev c (.bin o (r cx a) (r cx b))) Wx) := by
  have ha := (hr X cx Wx a g).1
  have hb := (hr X cx Wx b g).1
  cases op <;> simp only [boOf, Option.some.injEq, reduceCtorEq] at h <;> subst h
  · exact s_op (opr_add g.K) (fun x y h => noX_bin _ x y h) ha hb
  · exact s_op opr_sub (fun x y h => noX_bin _ x y h) ha hb
  · exact s_op opr_mul (fun x y h => noX_bin _ x y h) ha hb
  · exact s_op opr_mod (fun x y h => noX_bin _ x y h) ha hb
  · exact s_op opr_pow (fun x y h => noX_bin _ x y h) ha hb
  · exact s_op opr_fdiv (fun x y h => noX_bin _ x y h) ha hb
theorem opr_co (hK : X.K = G.K) (hu : X.A.units + 65 < cLine) (op : CmpOp) : OpR X (compareOp op) (rSim G fun a b h => Mi.liftO ((Mi.cmpV (coOf op) h a b).map .bl) h) := by
  cases op with
  | Eq => exact opr_eq hK (by omega)
  | NotEq => exact opr_ne hK (by omega)
  | Lt => exact opr_lt
  | LtE => exact opr_le
  | Gt => exact opr_gt
  | GtE => exact opr_ge
  | Is => exact opr_is
  | IsNot => exact opr_isnot
  | In => exact opr_in hK hu
  | NotIn => exact opr_notin hK hu
theorem mark_of {op : CmpOp} {b : Expr} (h : noSet b = true) : behindInMarks op b = false := by
  cases b <;> first | rfl | cases h
theorem bls_cmp (o : Mi.Co) (i j : E) (fr : Fr) (h : Hs) : Bls (ev c (.cmp o i j) fr h) := by
  show Bls ((ev c i fr h).bind fun x h => (ev c j fr h).bind fun y h => Mi.liftO ((Mi.cmpV o h x y).map .bl) h)
  cases ev c i fr h with
  | ok x h1 =>
    rw [Mi.R.bind_ok]
    cases ev c j fr h1 with
    | ok y h2 =>
      rw [Mi.R.bind_ok]
      cases Mi.cmpV o h2 x y with
      | none => exact True.intro
      | some t => exact ⟨t, rfl⟩
    | exc _ _ => exact True.intro
    | stk => exact True.intro
  | exc _ _ => exact True.intro
  | stk => exact True.intro
theorem c_cmp {r : Rec} (hr : SndR G p c m r) (g : Good G p c m X cx Wx) {a b : Expr} {op : CmpOp} {pos : Pos} :
    PE X (.Compare a [op] [b] pos) (SimE G (ev c (cCmp p r cx a op b)) Wx) ∧ PT X (.Compare a [op] [b] pos) (SimT G (evT c (cCmp p r cx a op b)) Wx) := by
  have ha := (hr X cx Wx a g).1
  have hb := (hr X cx Wx b g).1
  unfold cCmp
  split
  · rename_i d e
    split at e
    · rename_i t pt
      split at e
      · rename_i hc
        simp only [Bool.and_eq_true, Bool.or_eq_true, beq_iff_eq] at hc
        obtain ⟨a', e1, e2⟩ := g.pe.tab t d e
        rcases hc.2 with ho | ho
        · subst ho
          exact s_kin (g.gl hc.1.1) e1 e2 false ha (okN_ok hc.1.2).1
        · subst ho
          exact s_kin (g.gl hc.1.1) e1 e2 true ha (okN_ok hc.1.2).1
      · cases e
    · cases e
  · split
    · rename_i hn
      refine ⟨s_cmp (opr_co g.K g.units op) (fun x y h => NoX.liftO) ha hb (mark_of hn), ?_⟩
      refine PT.weak (pt_cmpR (opr_co (G := G) g.K g.units op) ha hb (mark_of hn)) fun σ H Q z => ?_
      exact sT_bl (f := ev c (.cmp (coOf op) (r cx a) (r cx b))) (fun σ H Q z => sim2 (fun ρ h H x y v u R wv wu o => ⟨ρ, h, x, y, R, wv, wu, o.noX NoX.liftO⟩) z) (bls_cmp _ _ _) z
    · exact ⟨s_bad, s_badT⟩
end
end MiS
end
section
set_option Elab.async false
set_option linter.all false
set_option maxRecDepth 100000
set_option maxHeartbeats 2000000
/-! From the program's form to Mi's: calls, methods, subscripts, displays. -/
namespace MiS
open PySem L2 PySem.Spec PyProof.Rows
open Mi (W Ob Hs Fr R Rs Xc Cl E Es It Tg S XE ev evs evi ex)

def biOf (x : Str) : Option Mi.Bi :=
  if x = "len" then some .len else if x = "int" then some .int else if x = "str" then some .str else if x = "list" then some .list else if x = "tuple" then some .tuple else
  if x = "sorted" then some .sorted else if x = "all" then some .all else if x = "any" then some .any else if x = "sum" then some .sum else none
def tyOf (x : Str) : Option Mi.Ty :=
  if x = "bool" then some .bl else if x = "int" then some .int else if x = "str" then some .str else if x = "list" then some .lst else if x = "tuple" then some .tup else if x = "dict" then some .dic else none
def clsTy (cx : CCx) : Expr → Option Mi.Ty
  | .Name x _ => if glB cx.sc x && okN x then tyOf x else none
  | _ => none
def clsTys (cx : CCx) : List Expr → Option (List Mi.Ty)
  | [] => some []
  | e :: r => match clsTy cx e, clsTys cx r with
    | some t, some ts => some (t :: ts)
    | _, _ => none
def cIsi (r : Rec) (cx : CCx) (e ce : Expr) : E := match ce with
  | .Tuple cs _ _ => match clsTys cx cs with
    | some ts => if ts.length ≤ 100 then .isi (r cx e) ts else .bad
    | none => .bad
  | ce => match clsTy cx ce with
    | some t => .isi (r cx e) [t]
    | none => .bad
def cCall (p : Pe) (r : Rec) (cx : CCx) (x : Str) (args : List Expr) : E :=
  if glB cx.sc x && okN x && args.all nsE then (match args with
    | [] => .bad
    | a :: as => match p.fn.lookup x with
      | some n => .call n (toEs ((a :: as).map (r cx)))
      | none => if x = "isinstance" then (match as with
          | [b] => cIsi r cx a b
          | _ => .bad)
        else match biOf x with
          | some f => .bi f (toEs ((a :: as).map (r cx)))
          | none => .bad)
  else .bad
section
variable {G : Gv} {p : Pe} {c : Cl} {m : Nat} {X : Cx} {cx : CCx} {Wx : WX} {r : Rec} {pos pn : Pos}
theorem Good.blt (g : Good G p c m X cx Wx) {x : String} (h : x ∈ (["len", "int", "str", "list", "tuple", "sorted", "all", "any", "sum", "isinstance", "range", "enumerate", "zip", "bool", "dict"] : List String)) : X.mg (Str.ofString x) = none := g.pe.blt x h
theorem c_and (hr : SndR G p c m r) (g : Good G p c m X cx Wx) : ∀ vs : List Expr, PE X (.BoolOp .And vs pos) (SimE G (ev c (andL (vs.map (r cx)))) Wx) ∧ PT X (.BoolOp .And vs pos) (SimT G (evT c (andL (vs.map (r cx)))) Wx) := by
  have hw : ∀ vs : List Expr, PE X (.BoolOp .And vs pos) (SimE G (ev c (andL (vs.map (r cx)))) Wx) ∧ PW X (.BoolOp .And vs pos) (SimT G (evT c (andL (vs.map (r cx)))) Wx) := by
    intro vs
    induction vs with
    | nil => exact ⟨s_bad, ⟨fun _ _ _ _ _ _ _ ⟨_, _, _, _, _, o⟩ => (show False from o).elim⟩⟩
    | cons a l ih =>
      cases l with
      | nil => exact ⟨pe_one (hr X cx Wx a g).1, sT_and1 (hr X cx Wx a g).2⟩
      | cons b l => exact ⟨s_and g.K (hr X cx Wx a g).1 ih.1, sT_and (hr X cx Wx a g).2 ih.2⟩
  exact fun vs => ⟨(hw vs).1, (hw vs).2.pt⟩
theorem c_or (hr : SndR G p c m r) (g : Good G p c m X cx Wx) : ∀ vs : List Expr, PE X (.BoolOp .Or vs pos) (SimE G (ev c (orL (vs.map (r cx)))) Wx) ∧ PT X (.BoolOp .Or vs pos) (SimT G (evT c (orL (vs.map (r cx)))) Wx) := by
  have hw : ∀ vs : List Expr, PE X (.BoolOp .Or vs pos) (SimE G (ev c (orL (vs.map (r cx)))) Wx) ∧ PW X (.BoolOp .Or vs pos) (SimT G (evT c (orL (vs.map (r cx)))) Wx) := by
    intro vs
    induction vs with
    | nil => exact ⟨s_bad, ⟨fun _ _ _ _ _ _ _ ⟨_, _, _, _, _, o⟩ => (show False from o).elim⟩⟩
    | cons a l ih =>
      cases l with
      | nil => exact ⟨pe_one (hr X cx Wx a g).1, sT_or1 (hr X cx Wx a g).2⟩
      | cons b l => exact ⟨s_or g.K (hr X cx Wx a g).1 ih.1, sT_or (hr X cx Wx a g).2 ih.2⟩
  exact fun vs => ⟨(hw vs).1, (hw vs).2.pt⟩
theorem tyOf_ok (g : Good G p c m X cx Wx) {x : Str} {t : Mi.Ty} (hg : Gl X x) (h : tyOf x = some t) : ∃ n, tyN t = some n ∧ t ≠ .non ∧ PE X (.Name x pos) (tC (.ty n)) := by
  unfold tyOf at h
  repeat' (split at h)
  all_goals first
    | (rename_i e; subst e; cases h; exact ⟨_, rfl, by decide, pe_bltn hg (g.blt (x := "bool") (by decide)) (by decide +kernel) rfl⟩)
    | (rename_i e; subst e; cases h; exact ⟨_, rfl, by decide, pe_bltn hg (g.blt (x := "int") (by decide)) boot_int rfl⟩)
    | (rename_i e; subst e; cases h; exact ⟨_, rfl, by decide, pe_bltn hg (g.blt (x := "str") (by decide)) boot_str rfl⟩)
    | (rename_i e; subst e; cases h; exact ⟨_, rfl, by decide, pe_bltn hg (g.blt (x := "list") (by decide)) boot_list rfl⟩)
    | (rename_i e; subst e; cases h; exact ⟨_, rfl, by decide, pe_bltn hg (g.blt (x := "tuple") (by decide)) boot_tuple rfl⟩)
    | (rename_i e; subst e; cases h; exact ⟨_, rfl, by decide, pe_bltn hg (g.blt (x := "dict") (by decide)) boot_dict rfl⟩)
    | cases h
theorem clsTy_ok (g : Good G p c m X cx Wx) {e : Expr} {t : Mi.Ty} (h : clsTy cx e = some t) : ∃ n, tyN t = some n ∧ t ≠ .non ∧ PE X e (tC (.ty n)) ∧ nsE e = true := by
  unfold clsTy at h
  split at h
  · split at h
    · rename_i hc
      rw [Bool.and_eq_true] at hc
      obtain ⟨n, h1, h2, h3⟩ := tyOf_ok g (g.gl hc.1) h
      exact ⟨n, h1, h2, h3, rfl⟩
    · cases h
  · cases h
theorem clsTys_ok (g : Good G p c m X cx Wx) : ∀ {es : List Expr} {ts : List Mi.Ty}, clsTys cx es = some ts → ∃ ns, TysN ts ns ∧ PA X es (fun _ H Q => Q (ns.map V.ty) H) ∧ ns.length = ts.length
  | [], ts, h => by
    cases h
    exact ⟨[], .nil, pa_nil, rfl⟩
  | e :: es, ts, h => by
    unfold clsTys at h
    split at h
    · rename_i t us e1 e2
      cases h
      obtain ⟨n, h1, h2, h3, h4⟩ := clsTy_ok g e1
      obtain ⟨ns, k1, k2, k3⟩ := clsTys_ok g e2
      exact ⟨n :: ns, .cons h1 h2 k1, PA.weak (pa_cons h3 k2 (star_of h4)) fun σ H Q z => z, by rw [List.length_cons, List.length_cons, k3]⟩
    · cases h
theorem c_isi (hr : SndR G p c m r) (g : Good G p c m X cx Wx) {e ce : Expr} (hg : Gl X "isinstance") (ns : nsE e = true) : PE X (.Call (.Name "isinstance" pn) [e, ce] [] pos) (SimE G (ev c (cIsi r cx e ce)) Wx) := by
  have he := (hr X cx Wx e g).1
  have hm := g.blt (x := "isinstance") (by decide)
  unfold cIsi
  split
  · split
    · rename_i ts e1
      split
      · rename_i hl
        obtain ⟨nl, k1, k2, k3⟩ := clsTys_ok g e1
        exact s_isiT g.K k1 (by rw [k3, sizeLine_eq]; omega) hg hm ns he k2
      · exact s_bad
    · exact s_bad
  · split
    · rename_i t e1
      obtain ⟨n, h1, h2, h3, h4⟩ := clsTy_ok g e1
      exact s_isi g.K h1 h2 hg hm ns h4 he h3
    · exact s_bad
theorem c_bi (hr : SndR G p c m r) (g : Good G p c m X cx Wx) {x : Str} {f : Mi.Bi} {a : Expr} {as : List Expr} (hg : Gl X x) (hf : biOf x = some f) (hs : (a :: as).all nsE = true) (ha : PA X (a :: as) (SimA G (evs c (toEs ((a :: as).map (r cx)))) Wx)) :
    PE X (.Call (.Name x pn) (a :: as) [] pos) (SimE G (ev c (.bi f (toEs ((a :: as).map (r cx))))) Wx) := by
  unfold biOf at hf
  split at hf
  · rename_i e; subst e; cases hf
    exact s_bi (callr_len g.K) hg (g.blt (x := "len") (by decide)) boot_len (by decide) (by decide) hs ha
  split at hf
  · rename_i e; subst e; cases hf
    exact s_biT callr_int hg (g.blt (x := "int") (by decide)) boot_int (by decide) (by decide) hs ha
  split at hf
  · rename_i e; subst e; cases hf
    exact s_biT callr_str hg (g.blt (x := "str") (by decide)) boot_str (by decide) (by decide) hs ha
  split at hf
  · rename_i e; subst e; cases hf
    exact s_biT (callr_list g.K g.calm) hg (g.blt (x := "list") (by decide)) boot_list (by decide) (by decide) hs ha
  split at hf
  · rename_i e; subst e; cases hf
    exact s_biT (callr_tuple g.K) hg (g.blt (x := "tuple") (by decide)) boot_tuple (by decide) (by decide) hs ha
  split at hf
  · rename_i e; subst e; cases hf
    exact s_bi callr_sorted hg (g.blt (x := "sorted") (by decide)) boot_sorted (by decide) (by decide) hs ha
  split at hf
  · rename_i e; subst e; cases hf
    exact s_bi (callr_all g.calm) hg (g.blt (x := "all") (by decide)) boot_all (by decide) (by decide) hs ha
  split at hf
  · rename_i e; subst e; cases hf
    exact s_bi (callr_any g.calm) hg (g.blt (x := "any") (by decide)) boot_any (by decide) (by decide) hs ha
  split at hf
  · rename_i e; subst e; cases hf
    exact s_bi (callr_sum g.calm) hg (g.blt (x := "sum") (by decide)) boot_sum (by decide) (by decide) hs ha
  · cases hf
theorem c_call (hr : SndR G p c m r) (g : Good G p c m X cx Wx) {x : Str} {args : List Expr} : PE X (.Call (.Name x pn) args [] pos) (SimE G (ev c (cCall p r cx x args)) Wx) := by
  unfold cCall
  split
  · rename_i h
    rw [Bool.and_eq_true, Bool.and_eq_true] at h
    have hg := g.gl h.1.1
    split
    · exact s_bad
    · rename_i a as
      have ha := c_args hr g h.2
      split
      · rename_i n e
        obtain ⟨f, fd, ps, e1, e2, e3, F⟩ := g.pe.fn x n e
        exact s_call F g.rm hg e1 e2 e3 g.tk h.2 ha (okN_ok h.1.2).1
      · split
        · rename_i ex
          subst ex
          split
          · have ns := h.2
            rw [List.all_cons, Bool.and_eq_true] at ns
            exact c_isi hr g hg ns.1
          · exact s_bad
        · split
          · rename_i f e
            exact c_bi hr g hg e h.2 ha
          · exact s_bad
  · exact s_bad
end
end MiS
end
section
set_option Elab.async false
set_option linter.all false
set_option maxRecDepth 100000
set_option maxHeartbeats 2000000
/-! From the program's form to Mi's: methods, subscripts, displays of dicts. -/
namespace MiS
open PySem L2 PySem.Spec PyProof.Rows
open Mi (W Ob Hs Fr R Rs Xc Cl E Es It Tg S XE ev evs evi ex)

def meOf (x : Str) : Option Mi.Me :=
  if x = "append" then some .append else if x = "extend" then some .extend else if x = "pop" then some .pop else if x = "split" then some .split else if x = "join" then some .join else
  if x = "count" then some .count else if x = "index" then some .index else none
def cMeth (r : Rec) (cx : CCx) (o : Expr) (name : Str) (args : List Expr) (apos cpos : Pos) : E :=
  if baseE o && args.all nsE && (apos.endLine == cpos.line) && decide (args.length < 30) then (match meOf name, args with
    | some f, a :: as => .me f (r cx o) (toEs ((a :: as).map (r cx)))
    | _, _ => .bad)
  else .bad
def cPart (r : Rec) (cx : CCx) : Option Expr → Es
  | none => .nil
  | some e => .cons (r cx e) .nil
def cSub (p : Pe) (r : Rec) (cx : CCx) (a i : Expr) : E := match i with
  | .Slice lo hi none _ => .slc (r cx a) (cPart r cx lo) (cPart r cx hi)
  | i => if nsE i then (match (match a with
      | .Name t _ => if glB cx.sc t && okN t then p.tab.lookup t else none
      | _ => none) with
    | some d => .kget d (r cx i)
    | none => .idx (r cx a) (r cx i)) else .bad
def keyC : Option Expr → Option W
  | some (.Constant (.str s) _ _) => some (.str s.cps.toList)
  | some (.Constant (.int i) _ _) => some (.int i)
  | _ => none
def keysC : List (Option Expr) → Option (List W)
  | [] => some []
  | k :: r => match keyC k, keysC r with
    | some w, some ws => some (w :: ws)
    | _, _ => none
def cDict (r : Rec) (cx : CCx) (ks : List (Option Expr)) (vs : List Expr) : E := match keysC ks with
  | some kc => if ks.length = vs.length ∧ ks ≠ [] ∧ ks.length ≤ 15 then .dis kc (toEs (vs.map (r cx))) else if ks = [] ∧ vs = [] then .dis [] .nil else .bad
  | none => .bad
section
variable {G : Gv} {p : Pe} {c : Cl} {m : Nat} {X : Cx} {cx : CCx} {Wx : WX} {r : Rec} {pos pn apos : Pos}
theorem mtr_pop' : MtR X "list.pop" (mSim G .pop) := by
  intro pins s σ H x xs v us Q I rx rs ⟨ρ, h, w, ws, R, wr, wrs, o⟩
  cases w with
  | ref n =>
    cases e : h[n]? with
    | none =>
      have : Mi.meV .pop (.ref n) ws h = .stk := by
        unfold Mi.meV
        cases ws with
        | nil => simp only [e]
        | cons a l => cases a <;> cases l <;> simp only [e]
      rw [this] at o
      exact (show False from o).elim
    | some ob =>
      cases ob with
      | lst l => exact mtr_pop pins s σ H x xs v us Q I rx rs ⟨ρ, h, n, l, ws, R, e, wr, wrs, o⟩
      | dic l =>
        have : Mi.meV .pop (.ref n) ws h = .stk := by
          unfold Mi.meV
          cases ws with
          | nil => simp only [e]
          | cons a l => cases a <;> cases l <;> simp only [e]
        rw [this] at o
        exact (show False from o).elim
      | ins k l =>
        have : Mi.meV .pop (.ref n) ws h = .stk := by
          unfold Mi.meV
          cases ws with
          | nil => simp only [e]
          | cons a l => cases a <;> cases l <;> simp only [e]
        rw [this] at o
        exact (show False from o).elim
  | _ => exact (show False from o).elim
theorem c_meth (hr : SndR G p c m r) (g : Good G p c m X cx Wx) {o : Expr} {name : Str} {args : List Expr} : PE X (.Call (.Attribute o name apos) args [] pos) (SimE G (ev c (cMeth r cx o name args apos pos)) Wx) := by
  unfold cMeth
  split
  · rename_i h
    simp only [Bool.and_eq_true, decide_eq_true_eq] at h
    obtain ⟨⟨⟨h1, h2⟩, h3⟩, h4⟩ := h
    split
    · rename_i f a as hf
      have ho := (hr X cx Wx o g).1
      have ha := c_args hr g h2
      unfold meOf at hf
      split at hf
      · rename_i e; subst e; cases hf
        exact s_me1 g.K F.plainAttrs_list F.slot_list_append F.type_list_append mtr_append (.inl ⟨rfl, rfl⟩) rfl ho h1 h3 h2 h4 ha
      split at hf
      · rename_i e; subst e; cases hf
        exact s_me1 g.K F.plainAttrs_list F.slot_list_extend F.type_list_extend mtr_extend (.inl ⟨rfl, rfl⟩) rfl ho h1 h3 h2 h4 ha
      split at hf
      · rename_i e; subst e; cases hf
        exact s_me1 g.K F.plainAttrs_list F.slot_list_pop F.type_list_pop mtr_pop' (.inl ⟨rfl, rfl⟩) rfl ho h1 h3 h2 h4 ha
      split at hf
      · rename_i e; subst e; cases hf
        exact s_me1 g.K F.plainAttrs_str F.slot_str_split F.type_str_split mtr_split (.inr (.inl ⟨rfl, rfl⟩)) rfl ho h1 h3 h2 h4 ha
      split at hf
      · rename_i e; subst e; cases hf
        exact s_me1 g.K F.plainAttrs_str F.slot_str_join F.type_str_join (mtr_join g.K) (.inr (.inl ⟨rfl, rfl⟩)) rfl ho h1 h3 h2 h4 ha
      split at hf
      · rename_i e; subst e; cases hf
        exact s_me1 g.K F.plainAttrs_list F.slot_list_count F.type_list_count (mtr_count g.K g.units) (.inl ⟨rfl, rfl⟩) rfl ho h1 h3 h2 h4 ha
      split at hf
      · rename_i e; subst e; cases hf
        exact s_me1 g.K F.plainAttrs_list F.slot_list_index F.type_list_index (mtr_index g.K g.units) (.inl ⟨rfl, rfl⟩) rfl ho h1 h3 h2 h4 ha
      · cases hf
    · exact s_bad
  · exact s_bad
theorem c_part (hr : SndR G p c m r) (g : Good G p c m X cx Wx) (o : Option Expr) : (o = none ∧ cPart r cx o = .nil) ∨ ∃ l k, o = some l ∧ cPart r cx o = .cons k .nil ∧ PE X l (SimE G (ev c k) Wx) := by
  cases o with
  | none => exact .inl ⟨rfl, rfl⟩
  | some e => exact .inr ⟨e, _, rfl, rfl, (hr X cx Wx e g).1⟩
theorem c_sub (hr : SndR G p c m r) (g : Good G p c m X cx Wx) {a i : Expr} : PE X (.Subscript a i pos) (SimE G (ev c (cSub p r cx a i)) Wx) := by
  have ha := (hr X cx Wx a g).1
  unfold cSub
  split
  · exact s_slc (tl := fun _ _ _ => True) (th := fun _ _ _ => True) g.K ha (c_part hr g _) (c_part hr g _)
  · split
    · rename_i hn
      have hi := (hr X cx Wx i g).1
      split
      · rename_i d e
        split at e
        · rename_i t pt
          split at e
          · rename_i hc
            rw [Bool.and_eq_true] at hc
            obtain ⟨a', e1, e2⟩ := g.pe.tab t d e
            exact s_kget (g.gl hc.1) e1 e2 hn hi (okN_ok hc.2).1
          · cases e
        · cases e
      · exact s_ix (ixr g.K g.units) (fun x y h => NoX.liftO) ha hi (plainIx_of hn)
    · exact s_bad
/-- the readings of a display's pairs -/
def disT (G : Gv) (c : Cl) (Wx : WX) : List V → List E → List (TE × TE)
  | v :: vs, i :: is => (tC v, SimE G (ev c i) Wx) :: disT G c Wx vs is
  | _, _ => []
theorem dis_red {σ : L2.St} {fr : Fr} {Q2 : VK} {ρ0 : List Addr} {H0 : Hp} : ∀ (is : List E) (kc : List W) (ks : List Key), is.length = kc.length → kc.length = ks.length → (∀ (j : Nat) (k : W) (k' : Key), kc[j]? = some k → ks[j]? = some k' → keyR k = some k') →
    ∀ (H : Hp) (ρ : List Addr) (h : Hs) (Q : List (V × V) → Hp → Prop) (g : List W → Hs → R W), RelH G.K G.T ρ h H → FrR G.K ρ H fr σ → Stp ρ0 H0 ρ H → OutE G (RE G) ρ0 H0 ((evs c (toEs is) fr h).bind g) Q2 (fun c d H' => Wx c d σ H') →
      (∀ ρ1 h1 H1 us (kxs : List (Key × V)), us.length = kc.length → Stp ρ H ρ1 H1 → RelH G.K G.T ρ1 h1 H1 → KvR G.K ρ1 H1 (kc.zip us) kxs → OutE G (RE G) ρ0 H0 (g us h1) Q2 (fun c d H' => Wx c d σ H') → Q (kxs.map fun kv => (kV kv.1, kv.2)) H1) → tPairs (disT G c Wx (ks.map kV) is) σ H Q
  | [], [], [], _, _, _ => fun H ρ h Q g R F s o q => q ρ h H [] [] rfl (Stp.refl _ _) R .nil o
  | [], _ :: _, _, e, _, _ => by cases e
  | _ :: _, [], _, e, _, _ => by cases e
  | _, [], _ :: _, _, e, _ => by cases e
  | _, _ :: _, [], _, e, _ => by cases e
  | i :: is, k :: kc, k' :: ks, e1, e2, hk => fun H ρ h Q g R F s o q => by
    have o : OutE G (RE G) ρ0 H0 (((ev c i fr h).bind fun w h => (evs c (toEs is) fr h).bind fun ws h => .ok (w :: ws) h).bind g) Q2 (fun c d H' => Wx c d σ H') := o
    rw [bind_assoc] at o
    show SimE G (ev c i) Wx σ H fun y H2 => tPairs (disT G c Wx (ks.map kV) is) σ H2 fun ps H3 => Q ((kV k', y) :: ps) H3
    refine ⟨ρ, h, fr, R, F, (oBase (Rel := RE G) R F s o).imp (fun y H2 ⟨ρ2, w, h2, s2, R2, F2, wy, o2⟩ => ?_) fun _ _ _ q => q⟩
    rw [bind_assoc] at o2
    refine dis_red is kc ks (Nat.succ.inj e1) (Nat.succ.inj e2) (fun j a b ea eb => hk (j + 1) a b ea eb) H2 ρ2 h2 _ _ R2 F2 (s.trans s2) o2 fun ρ3 h3 H3 us kxs lu s3 R3 kr o3 => ?_
    exact q ρ3 h3 H3 (w :: us) ((k', y) :: kxs) (by rw [List.length_cons, List.length_cons, lu]) (s2.trans s3) R3 (.cons (hk 0 k k' rfl rfl) (wy.mono R2 s3) kr) o3
theorem keyC_ok {k : Option Expr} {w : W} (h : keyC k = some w) : ∃ e k', k = some e ∧ keyR w = some k' ∧ PE X e (tC (kV k')) := by
  unfold keyC at h
  split at h
  · rename_i s j p'
    cases h
    exact ⟨_, .inr s, rfl, rfl, pe_str⟩
  · rename_i n j p'
    cases h
    exact ⟨_, .inl n, rfl, rfl, pe_int⟩
  · cases h
theorem keysC_ok : ∀ {ks : List (Option Expr)} {kc : List W}, keysC ks = some kc → ∀ (vs : List Expr) (is : List E), ks.length = vs.length → is.length = vs.length →
    (∀ (j : Nat) (e : Expr) (i : E), vs[j]? = some e → is[j]? = some i → PE X e (SimE G (ev c i) Wx)) → ∃ kk : List Key, kc.length = kk.length ∧ kc.length = ks.length ∧ (∀ (j : Nat) (k : W) (k' : Key), kc[j]? = some k → kk[j]? = some k' → keyR k = some k') ∧ ks.all (·.isSome) = true ∧ PPs X pos ks vs (disT G c Wx (kk.map kV) is)
  | [], kc, h => fun vs is l1 l2 hp => by
    cases h
    cases vs with
    | nil => exact ⟨[], rfl, rfl, fun j k k' e => by simp at e, rfl, pps_nil⟩
    | cons _ _ => cases l1
  | k :: ks, kc, h => fun vs is l1 l2 hp => by
    unfold keysC at h
    split at h
    · rename_i w ws e1 e2
      cases h
      cases vs with
      | nil => cases l1
      | cons e vs =>
        cases is with
        | nil => cases l2
        | cons i is =>
          obtain ⟨ek, k', rfl, hk', pk⟩ := keyC_ok (X := X) e1
          obtain ⟨kk, a1, a2, a3, a4, a5⟩ := keysC_ok e2 vs is (Nat.succ.inj l1) (Nat.succ.inj l2) fun j e i a b => hp (j + 1) e i a b
          refine ⟨k' :: kk, by rw [List.length_cons, List.length_cons, a1], by rw [List.length_cons, List.length_cons, a2], fun j a b ea eb => ?_, by rw [List.all_cons, a4]; rfl, pps_cons pk (hp 0 e i rfl rfl) a5⟩
          cases j with
          | zero => cases ea; cases eb; exact hk'
          | succ j => exact a3 j a b ea eb
    · cases h
theorem toEs_get (hr : SndR G p c m r) (g : Good G p c m X cx Wx) (vs : List Expr) : ∀ (j : Nat) (e : Expr) (i : E), vs[j]? = some e → (vs.map (r cx))[j]? = some i → PE X e (SimE G (ev c i) Wx) := fun j e i a b => by
  rw [List.getElem?_map, a] at b
  cases b
  exact (hr X cx Wx e g).1
theorem s_dis0 : PE X (.Dict [] [] pos) (SimE G (ev c (.dis [] .nil)) Wx) :=
  PE.weak pe_dnewK fun σ H Q ⟨ρ, h, fr, R, F, o⟩ p np => by
    have o : OutE G (RE G) ρ H (.ok (.ref h.length) (h ++ [Ob.dic []])) Q (fun c d H' => Wx c d σ H') := o
    exact o (ρ ++ [p]) _ (.ref p) (Stp.own np) (R.own np (.dic upd_same .nil)) (WR.own R)
theorem c_dict (hr : SndR G p c m r) (g : Good G p c m X cx Wx) {ks : List (Option Expr)} {vs : List Expr} : PE X (.Dict ks vs pos) (SimE G (ev c (cDict r cx ks vs)) Wx) := by
  unfold cDict
  split
  · rename_i kc e
    split
    · rename_i h
      obtain ⟨kk, a1, a2, a3, a4, a5⟩ := keysC_ok (ks := ks) (pos := pos) e vs (vs.map (r cx)) h.1 (by simp) (toEs_get hr g vs)
      exact s_dis a5 a4 h.1 h.2.1 h.2.2 fun σ H ρ0 H0 ρ h' fr Q Q2 gg R F s o q => dis_red (vs.map (r cx)) kc kk (by rw [List.length_map, a2, h.1]) a1 a3 H ρ h' Q gg R F s o q
    · split
      · rename_i h
        obtain ⟨h1, h2⟩ := h
        subst h1 h2
        exact s_dis0
      · exact s_bad
  · exact s_bad
end
end MiS
end
section
set_option Elab.async false
set_option linter.all false
set_option maxRecDepth 100000
set_option maxHeartbeats 2000000
/-! From the program's form to Mi's: targets, what is walked, comprehensions, lambdas; all expressions. -/
namespace MiS
open PySem L2 PySem.Spec PyProof.Rows
open Mi (W Ob Hs Fr R Rs Xc Cl E Es It Tg S XE ev evs evi ex)

def cTgs (f : Expr → Option Tg) : List Expr → Option Tg
  | [] => some .nil
  | e :: r => if nsE e then (match f e, cTgs f r with
    | some a, some b => some (.cons a b)
    | _, _ => none) else none
def cTg : Nat → CCx → Expr → Option Tg
  | 0, _, _ => none
  | n + 1, cx, e => match e with
    | .Name x _ => if locB cx.sc x then (ixOf cx.N x).map .nm else none
    | .Tuple es _ _ => cTgs (cTg n cx) es
    | _ => none
def isTup : Expr → Bool
  | .Tuple _ _ _ => true
  | _ => false
def cIt (r : Rec) (cx : CCx) (tg e : Expr) : Mi.It := match e with
  | .Call (.Name x _) args [] _ =>
    if x = "range" then (if glB cx.sc x then (match args with
      | [a] => if nsE a then .rng (.cons (r cx a) .nil) else .val .bad
      | [a, b] => if nsE a && nsE b then .rng (.cons (r cx a) (.cons (r cx b) .nil)) else .val .bad
      | [a, b, d] => if nsE a && nsE b && nsE d then .rng (.cons (r cx a) (.cons (r cx b) (.cons (r cx d) .nil))) else .val .bad
      | _ => .val .bad) else .val .bad)
    else if x = "enumerate" then (if glB cx.sc x && isTup tg then (match args with
      | [a] => if nsE a then .enum (r cx a) else .val .bad
      | _ => .val .bad) else .val .bad)
    else if x = "zip" then (if glB cx.sc x && isTup tg then (match args with
      | [a, b] => if nsE a && nsE b then .zip (r cx a) (r cx b) else .val .bad
      | _ => .val .bad) else .val .bad)
    else .val (r cx e)
  | e => .val (r cx e)
def ownOf (N : List Str) (sc : Scope) : List (Str × Nat) := sc.names.filterMap fun y => match y.2 with
  | .local => (ixOf N y.1).map fun i => (y.1, i)
  | .cell => (ixOf N y.1).map fun i => (y.1, i)
  | _ => none
def cComp (r : Rec) (cx : CCx) (elt : Expr) (gs : List Comprehension) (scope : Scope) : E := match gs with
  | [⟨tg, it, ifs, 0⟩] =>
    let cx' : CCx := ⟨cx.N, scope, cx.lam⟩
    let own := ownOf cx.N scope
    match cTg 5 cx' tg with
    | some g => if blkC cx.N cx.sc scope own && tgIn (own.map (·.2)) g && noSet it then (match ifs with
      | [] => .comp (own.map (·.2)) g (cIt r cx tg it) .nil (r cx' elt)
      | [e] => .comp (own.map (·.2)) g (cIt r cx tg it) (.cons (r cx' e) .nil) (r cx' elt)
      | _ => .bad) else .bad
    | none => .bad
  | _ => .bad
def cTold (p : Pe) (r : Rec) (cx : CCx) (x : Str) (args : List Expr) : Option E := match args with
  | [.Lambda ⟨[], [], none, [], [], none, []⟩ body scope _] => if cx.lam && glB cx.sc x && LamX.lamSB cx.sc scope then (match p.told.lookup x with
    | some n => some (.told n (r ⟨cx.N, scope, false⟩ body))
    | none => none) else none
  | _ => none

section
variable {G : Gv} {p : Pe} {c : Cl} {m : Nat} {X : Cx} {cx : CCx} {Wx : WX} {r : Rec} {pos pn apos : Pos}
theorem Good.loc (g : Good G p c m X cx Wx) {x : Str} (h : locB cx.sc x = true) : Loc X.env.scope x ∧ (X.fn x = true ∨ X.env.scope.names.lookup x = some .local) := by
  unfold locB at h
  split at h
  · rename_i e
    have := g.same x _ e (by decide)
    exact ⟨.inl this, .inr this⟩
  · rename_i e
    exact ⟨.inr (g.same x _ e (by decide)), .inl (g.fnc x e)⟩
  · cases h
theorem cTgs_ok {f : Expr → Option Tg} (hf : ∀ e g, f e = some g → PG X e (tgG G.K g)) : ∀ {es : List Expr} {g : Tg}, cTgs f es = some g → PGs X es (tgGs G.K g) ∧ (assignEach es X.env).length = tgLen g ∧ (assignEach es X.env).findIdx? (·.1) = none ∧ Mi.isNm g = false
  | [], g, h => by
    cases h
    exact ⟨pgs_nil, rfl, rfl, rfl⟩
  | e :: es, g, h => by
    unfold cTgs at h
    split at h
    · rename_i ns
      split at h
      · rename_i a b e1 e2
        cases h
        obtain ⟨h1, h2, h3, h4⟩ := cTgs_ok hf e2
        have ae : assignEach (e :: es) X.env = (false, assign e X.env) :: assignEach es X.env := by cases e <;> first | rfl | cases ns
        refine ⟨pgs_cons (hf e a e1) h1 (by rw [ae]; rfl), by rw [ae, List.length_cons, h2]; rfl, ?_, rfl⟩
        rw [ae, List.findIdx?_cons, h3]; rfl
      · cases h
    · cases h
theorem c_tg (g : Good G p c m X cx Wx) : ∀ (n : Nat) (e : Expr) (t : Tg), cTg n cx e = some t → PG X e (tgG G.K t)
  | 0, _, _, h => by cases h
  | n + 1, e, t, h => by
    unfold cTg at h
    split at h
    · rename_i x px
      split at h
      · rename_i hl
        cases hi : ixOf cx.N x with
        | none => rw [hi] at h; cases h
        | some i =>
          rw [hi] at h
          cases h
          obtain ⟨h1, h2⟩ := g.loc hl
          exact pg_name g.nd (by rw [g.N]; exact ixOf_ok hi) h1 h2
      · cases h
    · rename_i es k pt
      obtain ⟨h1, h2, h3, h4⟩ := cTgs_ok (fun e t => c_tg g n e t) h
      rw [← g.K] at h1 ⊢
      cases t with
      | nm i => cases h4
      | nil => exact pg_tup g.calm h1 h2 h3
      | cons a b => exact pg_tup g.calm (show PGs X es (gCons (tgG X.K a) (tgGs X.K b)) from h1) h2 h3
    · cases h
theorem si_bad {tg e : Expr} (hK : X.K = G.K) : PI X tg e (SimI G (evi c (.val .bad)) Wx) := si_val hK s_bad
theorem c_it (hr : SndR G p c m r) (g : Good G p c m X cx Wx) (tg e : Expr) : PI X tg e (SimI G (evi c (cIt r cx tg e)) Wx) := by
  unfold cIt
  split
  · rename_i x px args pos
    split
    · rename_i ex
      subst ex
      split
      · rename_i hg
        have hg := g.gl hg
        have hm := g.blt (x := "range") (by decide)
        split
        · rename_i a
          split
          · rename_i ns
            exact si_rng1 hg hm ns (sa_cons ns (hr X cx Wx a g).1 sa_nil)
          · exact si_bad g.K
        · rename_i a b
          split
          · rename_i ns
            rw [Bool.and_eq_true] at ns
            exact si_rng2 hg hm ns.1 ns.2 (sa_cons ns.1 (hr X cx Wx a g).1 (sa_cons ns.2 (hr X cx Wx b g).1 sa_nil))
          · exact si_bad g.K
        · rename_i a b d
          split
          · rename_i ns
            rw [Bool.and_eq_true, Bool.and_eq_true] at ns
            exact si_rng3 hg hm ns.1.1 ns.1.2 ns.2 (sa_cons ns.1.1 (hr X cx Wx a g).1 (sa_cons ns.1.2 (hr X cx Wx b g).1 (sa_cons ns.2 (hr X cx Wx d g).1 sa_nil)))
          · exact si_bad g.K
        · exact si_bad g.K
      · exact si_bad g.K
    · split
      · rename_i ex
        subst ex
        split
        · rename_i hg
          rw [Bool.and_eq_true] at hg
          have hm := g.blt (x := "enumerate") (by decide)
          split
          · rename_i a
            split
            · rename_i ns
              cases tg <;> first | exact si_enum g.K (g.gl hg.1) hm ns (hr X cx Wx a g).1 | (have := hg.2; cases this)
            · exact si_bad g.K
          · exact si_bad g.K
        · exact si_bad g.K
      · split
        · rename_i ex
          subst ex
          split
          · rename_i hg
            rw [Bool.and_eq_true] at hg
            have hm := g.blt (x := "zip") (by decide)
            split
            · rename_i a b
              split
              · rename_i ns
                rw [Bool.and_eq_true] at ns
                cases tg <;> first | exact si_zip g.K (g.gl hg.1) hm ns.1 ns.2 (hr X cx Wx a g).1 (hr X cx Wx b g).1 | (have := hg.2; cases this)
              · exact si_bad g.K
            · exact si_bad g.K
          · exact si_bad g.K
        · exact si_val g.K (hr X cx Wx _ g).1
  · exact si_val g.K (hr X cx Wx _ g).1
theorem lookup_rel_free {sc : Scope} : ∀ {names : List (Str × NameKind)} {x : Str}, names.lookup x = some .free →
    (names.map fun (n, k) => if (k == NameKind.free && sc.kind == .function && sc.names.lookup n == some .cell) then (n, NameKind.cell) else (n, k)).lookup x = some .free ∨ (names.map fun (n, k) => if (k == NameKind.free && sc.kind == .function && sc.names.lookup n == some .cell) then (n, NameKind.cell) else (n, k)).lookup x = some .cell
  | [], _, h => by simp at h
  | (n, k₀) :: r, x, h => by
    have ih := @lookup_rel_free sc r x
    show List.lookup x ((if (k₀ == NameKind.free && sc.kind == .function && sc.names.lookup n == some .cell) = true then (n, NameKind.cell) else (n, k₀)) :: (r.map _)) = some .free ∨ List.lookup x ((if (k₀ == NameKind.free && sc.kind == .function && sc.names.lookup n == some .cell) = true then (n, NameKind.cell) else (n, k₀)) :: (r.map _)) = some .cell
    cases hx : x == n with
    | true =>
      simp only [List.lookup_cons, hx] at h
      cases h
      split
      · right; simp only [List.lookup_cons, hx]
      · left; simp only [List.lookup_cons, hx]
    | false =>
      simp only [List.lookup_cons, hx] at h
      split
      · simp only [List.lookup_cons, hx]; exact ih h
      · simp only [List.lookup_cons, hx]; exact ih h
theorem BlkOk.up {N : List Str} {sc sc' scope : Scope} {own : List (Str × Nat)} (b : BlkOk N sc scope own) (h : ∀ x, sc.names.lookup x = some .cell ∨ sc.names.lookup x = some .free → sc'.names.lookup x = some .cell ∨ sc'.names.lookup x = some .free) : BlkOk N sc' scope own :=
  ⟨b.kind, b.uniq, b.ix, fun y hy e => h _ (b.free y hy e), b.own⟩
theorem Good.blk (g : Good G p c m X cx Wx) {scope : Scope} (s : Shared) (H : Hp) (C : Addr) (cl : List (Str × Addr)) (fp : List Addr) :
    Good G p c m (X.blk s H scope (compEnvC scope cl C X.env) fp) ⟨cx.N, scope, cx.lam⟩ noW where
  pe := g.pe
  K := g.K
  N := g.N
  nd := g.nd
  calm := g.calm
  room := g.room
  lam := g.lam
  tk := LamX.takes0
  same := fun x k h n => lookup_relS_keep (sc := X.env.scope) n h
  free := fun x h => lookup_rel_free (sc := X.env.scope) h
  fnc := fun x h => by
    show (scope.names.lookup x == some NameKind.cell) = true
    rw [h]; rfl
theorem folded_of {e : Expr} {env : Env} (h : noSet e = true) (x : Value) : foldedSetIterable e env x = pure x := by
  cases e <;> first | rfl | cases h
theorem comp_bad {elt : Expr} {gs : List Comprehension} {scope : Scope} :
    PE X (.ListComp elt gs scope pos) (SimE G (ev c .bad) Wx) ∧ (∀ {i : Nat} {y : Str} {py spos : Pos}, X.N[i]? = some y → X.env.scope.names.lookup y = some .local → swapsWith (.ListComp elt gs scope pos) (some (.Name y py)) spos.line X.env = pure true →
      ∀ wf, PS X (.Assign [.Name y py] (.ListComp elt gs scope pos) spos) (SimS G (ex c wf (.asg (.nm i) .bad)) Wx)) := by
  refine ⟨s_bad, ?_⟩
  intro i y py spos _ _ _ wf
  exact ⟨fun _ _ _ _ _ _ ⟨_, _, _, _, _, o⟩ => (show False from o).elim⟩
theorem c_comp (hr : SndR G p c m r) (g : Good G p c m X cx Wx) {elt : Expr} {gs : List Comprehension} {scope : Scope} :
    PE X (.ListComp elt gs scope pos) (SimE G (ev c (cComp r cx elt gs scope)) Wx) ∧ (∀ {i : Nat} {y : Str} {py spos : Pos}, X.N[i]? = some y → X.env.scope.names.lookup y = some .local → swapsWith (.ListComp elt gs scope pos) (some (.Name y py)) spos.line X.env = pure true →
      ∀ wf, PS X (.Assign [.Name y py] (.ListComp elt gs scope pos) spos) (SimS G (ex c wf (.asg (.nm i) (cComp r cx elt gs scope))) Wx)) := by
  unfold cComp
  split
  · rename_i tg it ifs
    dsimp only
    split
    · rename_i t et
      split
      · rename_i hc
        rw [Bool.and_eq_true, Bool.and_eq_true] at hc
        obtain ⟨⟨h1, h2⟩, h3⟩ := hc
        have ok : BlkOk X.N X.env.scope scope (ownOf cx.N scope) := by
          rw [g.N]
          refine BlkOk.up (blkOk_by h1) fun x hx => ?_
          rcases hx with q | q
          · exact .inl (g.same x _ q (by decide))
          · exact (g.free x q).symm
        have hg := fun s H C cl fp => c_tg (g.blk (scope := scope) s H C cl fp) 5 tg t et
        have he := fun s H C cl fp => (hr _ _ _ elt (g.blk (scope := scope) s H C cl fp)).1
        have hit := c_it hr g tg it
        split
        · have z := s_comp (c := c) (pos := pos) (ic := .nil) (tt := tYes) g.calm g.nd hit ok g.K hg h2 (.inl rfl) (fun _ _ _ _ _ => pts_nil) (fun σ H Q ⟨ρ, h, fr, R, F, o⟩ => OutE.ok (Rel := RT) (w := true) o R rfl) he (folded_of h3)
          exact ⟨z.1, fun hy hl hs wf => PS.weak (ps_setLc g.calm g.nd hy hl hs hit ok hg (fun _ _ _ _ _ => pts_nil) he (folded_of h3)) fun D σ H q => (z.2 σ H _ (asg_sim q))⟩
        · rename_i e1
          have ht := fun s H C cl fp => pts_one (hr _ _ _ e1 (g.blk (scope := scope) s H C cl fp)).2
          have z := s_comp (c := c) (pos := pos) (ic := .cons (r ⟨cx.N, scope, cx.lam⟩ e1) .nil) g.calm g.nd hit ok g.K hg h2 (.inr ⟨_, rfl⟩) ht (fun σ H Q q => q) he (folded_of h3)
          exact ⟨z.1, fun hy hl hs wf => PS.weak (ps_setLc g.calm g.nd hy hl hs hit ok hg ht he (folded_of h3)) fun D σ H q => (z.2 σ H _ (asg_sim q))⟩
        · exact comp_bad
      · exact comp_bad
    · exact comp_bad
  · exact comp_bad
theorem c_told (hr : SndR G p c m r) (g : Good G p c m X cx Wx) {x : Str} {args : List Expr} {i : E} (h : cTold p r cx x args = some i) : PE X (.Call (.Name x pn) args [] pos) (SimE G (ev c i) Wx) := by
  unfold cTold at h
  split at h
  · rename_i body scope lpos
    split at h
    · rename_i hc
      rw [Bool.and_eq_true, Bool.and_eq_true] at hc
      obtain ⟨⟨h1, h2⟩, h3⟩ := hc
      split at h
      · rename_i n e
        cases h
        have L0 := LamX.lamS_by h3
        have L : LamX.LamS X.env.scope scope := ⟨L0.kind, L0.co, L0.gen, L0.own, fun y hy ey => by
          rcases L0.free y hy ey with q | q
          · exact .inl (g.same _ _ q (by decide))
          · exact (g.free _ q).symm⟩
        have rm := g.room
        rw [if_pos h1] at rm
        refine g.pe.told x n e X Wx m body scope _ pn lpos pos rfl rfl rfl rfl rfl (g.gl h2) (g.lam h1) rm L fun A outer s H E f c' hroom => ?_
        have gl : Good G p c m (LamX.lamCx X A outer s H E scope f c') ⟨cx.N, scope, false⟩ (fun c d _ H => E c d H) :=
          { pe := g.pe, K := g.K, N := g.N, nd := g.nd, calm := rfl, room := hroom, lam := (fun z => by cases z), tk := takes_of (X := LamX.lamCx X A outer s H E scope f c') rfl rfl rfl rfl,
            same := fun x k h _ => h, free := fun x h => .inl h, fnc := fun x h => absurd rfl (L0.own _ (PySem.mem_of_lookup h)).2 }
        exact (hr _ _ _ body gl).1
      · cases h
    · cases h
  · cases h
end
end MiS
end
section
set_option Elab.async false
set_option linter.all false
set_option maxRecDepth 100000
set_option maxHeartbeats 2000000
/-! From the program's form to Mi's: all expressions. -/
namespace MiS
open PySem L2 PySem.Spec PyProof.Rows
open Mi (W Ob Hs Fr R Rs Xc Cl E Es It Tg S XE ev evs evi ex)

def cE (p : Pe) : Nat → Rec
  | 0 => fun _ _ => .bad
  | n + 1 => fun cx e => match e with
    | .Name x _ => cName p cx x
    | .Constant k _ _ => cCon k
    | .BoolOp .And vs _ => andL (vs.map (cE p n cx))
    | .BoolOp .Or vs _ => orL (vs.map (cE p n cx))
    | .UnaryOp .Not a _ => .not (cE p n cx a)
    | .UnaryOp .USub a _ => .neg (cE p n cx a)
    | .BinOp a op b _ => (match boOf op with
      | some o => .bin o (cE p n cx a) (cE p n cx b)
      | none => .bad)
    | .Compare a [op] [b] _ => cCmp p (cE p n) cx a op b
    | .Compare a [o1, o2] [b, d] _ => if noSet d then .chain (coOf o1) (coOf o2) (cE p n cx a) (cE p n cx b) (cE p n cx d) else .bad
    | .IfExp t a b _ => .ite (cE p n cx t) (cE p n cx a) (cE p n cx b)
    | .Tuple es _ _ => if es.all nsE then .tup (toEs (es.map (cE p n cx))) else .bad
    | .List es _ => if es.all nsE then .lst (toEs (es.map (cE p n cx))) else .bad
    | .Dict ks vs _ => cDict (cE p n) cx ks vs
    | .Call (.Name x _) args [] _ => (match cTold p (cE p n) cx x args with
      | some i => i
      | none => cCall p (cE p n) cx x args)
    | .Call (.Attribute o name apos) args [] cpos => cMeth (cE p n) cx o name args apos cpos
    | .Subscript a i _ => cSub p (cE p n) cx a i
    | .ListComp elt gs scope _ => cComp (cE p n) cx elt gs scope
    | _ => .bad
section
variable {G : Gv} {p : Pe} {c : Cl} {m : Nat} {X : Cx} {cx : CCx} {Wx : WX} {r : Rec} {pos pn apos : Pos} {a b d e : Expr} {i j k : E}
theorem s_neg (ha : PE X a (SimE G (ev c i) Wx)) : PE X (.UnaryOp .USub a pos) (SimE G (ev c (.neg i)) Wx) :=
  PE.weak (pe_un un_neg ha) fun σ H Q z => sim1 (k := fun x h => match x with
    | .int n => .ok (.int (-n)) h
    | _ => .stk) (fun ρ h H x v R w o => by
      cases w with
      | int n => exact ⟨n, rfl, OutE.ok (Rel := RE G) (w := W.int (-n)) o R (WR.int _)⟩
      | _ => exact (show False from o).elim) z
theorem s_chain {c1 c2 : CmpOp} (hK : X.K = G.K) (hu : X.A.units + 65 < cLine) (ha : PE X a (SimE G (ev c i) Wx)) (hb : PE X b (SimE G (ev c j) Wx)) (hd : PE X d (SimE G (ev c k) Wx)) (hm : noSet d = true) :
    PE X (.Compare a [c1, c2] [b, d] pos) (SimE G (ev c (.chain (coOf c1) (coOf c2) i j k)) Wx) ∧ PT X (.Compare a [c1, c2] [b, d] pos) (SimT G (evT c (.chain (coOf c1) (coOf c2) i j k)) Wx) := by
  have lm : lastMarks [c1, c2] [b, d] = false := mark_of hm
  have red : ∀ σ H Q, SimE G (ev c (.chain (coOf c1) (coOf c2) i j k)) Wx σ H Q → tChain (rSim G fun a b h => Mi.liftO ((Mi.cmpV (coOf c1) h a b).map .bl) h) (rSim G fun a b h => Mi.liftO ((Mi.cmpV (coOf c2) h a b).map .bl) h) (SimE G (ev c i) Wx) (SimE G (ev c j) Wx) (SimE G (ev c k) Wx) σ H Q := by
    intro σ H Q ⟨ρ, h, fr, R, F, o⟩
    have o : OutE G (RE G) ρ H ((ev c i fr h).bind fun x h => (ev c j fr h).bind fun y h => match Mi.cmpV (coOf c1) h x y with
      | some true => (ev c k fr h).bind fun z h => Mi.liftO ((Mi.cmpV (coOf c2) h y z).map .bl) h
      | some false => .ok (.bl false) h
      | none => .stk) Q (fun c d H' => Wx c d σ H') := o
    refine ⟨ρ, h, fr, R, F, (oBind (Rel := RE G) ⟨h, R⟩ F o).imp (fun v H1 ⟨ρ1, x, h1, s1, R1, F1, w1, o1⟩ => ?_) fun _ _ _ q => q⟩
    refine ⟨ρ1, h1, fr, R1, F1, (oBind (Rel := RE G) ⟨h1, R1⟩ F1 o1).imp (fun u H2 ⟨ρ2, y, h2, s2, R2, F2, w2, o2⟩ => ?_) fun _ _ _ q => q⟩
    have o2 : OutE G (RE G) ρ2 H2 (match Mi.cmpV (coOf c1) h2 x y with
      | some true => (ev c k fr h2).bind fun z h => Mi.liftO ((Mi.cmpV (coOf c2) h y z).map .bl) h
      | some false => .ok (.bl false) h2
      | none => .stk) Q (fun c d H' => Wx c d σ H') := o2
    refine ⟨ρ2, h2, x, y, R2, w1.mono R1 s2, w2, ?_⟩
    cases q : Mi.cmpV (coOf c1) h2 x y with
    | none => rw [q] at o2; exact (show False from o2).elim
    | some t =>
      rw [q] at o2
      show OutE G (RE G) ρ2 H2 (Mi.liftO ((Mi.cmpV (coOf c1) h2 x y).map .bl) h2) _ _
      rw [q]
      show OutE G (RE G) ρ2 H2 (.ok (.bl t) h2) _ _
      intro ρ3 H3 v3 s3 R3 w3
      cases w3
      refine ⟨t, rfl, ?_⟩
      cases t with
      | false => exact o2 ρ3 H3 _ s3 R3 (WR.bl _)
      | true =>
        have o2 : OutE G (RE G) ρ2 H2 ((ev c k fr h2).bind fun z h => Mi.liftO ((Mi.cmpV (coOf c2) h y z).map W.bl) h) Q (fun c d H' => Wx c d σ H') := o2
        refine ⟨ρ3, h2, fr, R3, F2.mono R2 s3, (oBind (Rel := RE G) ⟨h2, R3⟩ (F2.mono R2 s3) (o2.shift s3)).imp (fun u4 H4 ⟨ρ4, z, h4, s4, R4, F4, w4, o4⟩ => ?_) fun _ _ _ q => q⟩
        exact ⟨ρ4, h4, y, z, R4, (w2.mono R2 s3).mono R3 s4, w4, o4.noX NoX.liftO⟩
  have bls : ∀ fr h, Bls (ev c (.chain (coOf c1) (coOf c2) i j k) fr h) := fun fr h => by
    show Bls ((ev c i fr h).bind fun x h => (ev c j fr h).bind fun y h => match Mi.cmpV (coOf c1) h x y with
      | some true => (ev c k fr h).bind fun z h => Mi.liftO ((Mi.cmpV (coOf c2) h y z).map .bl) h
      | some false => .ok (.bl false) h
      | none => .stk)
    cases ev c i fr h with
    | exc _ _ => exact True.intro
    | stk => exact True.intro
    | ok x h1 =>
      rw [Mi.R.bind_ok]
      cases ev c j fr h1 with
      | exc _ _ => exact True.intro
      | stk => exact True.intro
      | ok y h2 =>
        rw [Mi.R.bind_ok]
        cases Mi.cmpV (coOf c1) h2 x y with
        | none => exact True.intro
        | some t =>
          cases t with
          | false => exact ⟨_, rfl⟩
          | true =>
            show Bls ((ev c k fr h2).bind fun z h => Mi.liftO ((Mi.cmpV (coOf c2) h y z).map .bl) h)
            cases ev c k fr h2 with
            | exc _ _ => exact True.intro
            | stk => exact True.intro
            | ok z h3 =>
              rw [Mi.R.bind_ok]
              cases Mi.cmpV (coOf c2) h3 y z with
              | none => exact True.intro
              | some t => exact ⟨_, rfl⟩
  exact ⟨PE.weak (pe_chain (opr_co hK hu c1) (opr_co hK hu c2) ha hb hd lm) red, PT.weak (pt_chain (opr_co (G := G) hK hu c1) (opr_co (G := G) hK hu c2) ha hb hd lm) fun σ H Q z => sT_bl red bls z⟩
theorem sT_ite {t : Expr} (hc : PT X t (SimT G (evT c i) Wx)) (ha : PT X a (SimT G (evT c j) Wx)) (hb : PT X b (SimT G (evT c k) Wx)) : PT X (.IfExp t a b pos) (SimT G (evT c (.ite i j k)) Wx) := by
  refine ⟨fun pins s σ H Q I ⟨ρ, h, fr, R, F, o⟩ => ?_⟩
  rw [evT_ite] at o
  refine isTrue_IfExp (thn (hc.run pins s σ H (fun t H1 => if t = true then SimT G (evT c j) Wx σ H1 Q else SimT G (evT c k) Wx σ H1 Q) I ?_) fun t s1 ⟨H1, I1, q1⟩ => ?_)
  · refine simTb (g := fun fr t h => if t then evT c j fr h else evT c k fr h) ⟨ρ, h, fr, R, F, o⟩ fun t H1 ⟨ρ1, h1, fr1, R1, F1, o1⟩ => ?_
    cases t with
    | true => exact ⟨ρ1, h1, fr1, R1, F1, o1⟩
    | false => exact ⟨ρ1, h1, fr1, R1, F1, o1⟩
  · cases t with
    | true => exact ha.run pins s1 σ H1 Q I1 q1
    | false => exact hb.run pins s1 σ H1 Q I1 q1
theorem both (hK : X.K = G.K) (h : PE X e (SimE G (ev c i) Wx)) (he : ∀ whole, isTrue e X.env whole = (do let v ← whole; standAt e.pos; holding [v] (truthy v))) : PE X e (SimE G (ev c i) Wx) ∧ PT X e (SimT G (evT c i) Wx) := ⟨h, s_truth hK h he⟩
theorem cE_ok (G : Gv) (p : Pe) (c : Cl) (m : Nat) : ∀ n, SndR G p c m (cE p n)
  | 0 => fun X cx Wx e g => ⟨s_bad, s_badT⟩
  | n + 1 => fun X cx Wx e g => by
    have hr := cE_ok G p c m n
    unfold cE
    split
    · exact both g.K (c_name g) fun _ => rfl
    · exact both g.K c_con fun _ => rfl
    · exact c_and hr g _
    · exact c_or hr g _
    · exact ⟨s_not g.K (hr X cx Wx _ g).1, sT_not (hr X cx Wx _ g).2⟩
    · exact both g.K (s_neg (hr X cx Wx _ g).1) fun _ => rfl
    · split
      · rename_i o ho
        exact both g.K (c_bin hr g ho) fun _ => rfl
      · exact ⟨s_bad, s_badT⟩
    · exact c_cmp hr g
    · split
      · rename_i hn
        exact s_chain g.K g.units (hr X cx Wx _ g).1 (hr X cx Wx _ g).1 (hr X cx Wx _ g).1 hn
      · exact ⟨s_bad, s_badT⟩
    · exact ⟨s_ite (hr X cx Wx _ g).2 (hr X cx Wx _ g).1 (hr X cx Wx _ g).1, sT_ite (hr X cx Wx _ g).2 (hr X cx Wx _ g).2 (hr X cx Wx _ g).2⟩
    · split
      · rename_i hn
        exact both g.K (s_tup (c_args hr g hn)) fun _ => rfl
      · exact ⟨s_bad, s_badT⟩
    · split
      · rename_i hn
        exact both g.K (s_lst (c_args hr g hn)) fun _ => rfl
      · exact ⟨s_bad, s_badT⟩
    · exact both g.K (c_dict hr g) fun _ => rfl
    · split
      · rename_i ht
        exact both g.K (c_told hr g ht) fun _ => rfl
      · exact both g.K (c_call hr g) fun _ => rfl
    · exact both g.K (c_meth hr g) fun _ => rfl
    · exact both g.K (c_sub hr g) fun _ => rfl
    · exact both g.K (c_comp hr g).1 fun _ => rfl
    · exact ⟨s_bad, s_badT⟩
end
end MiS
end
section
set_option Elab.async false
set_option linter.all false
set_option maxRecDepth 100000
set_option maxHeartbeats 2000000
/-! From the program's form to Mi's: statements. -/
namespace MiS
open PySem L2 PySem.Spec PyProof.Rows
open Mi (W Ob Hs Fr R Rs Xc Cl E Es It Tg S XE ev evs evi ex)

def notComp : Expr → Bool
  | .ListComp _ _ _ _ => false
  | .SetComp _ _ _ _ => false
  | .DictComp _ _ _ _ _ => false
  | _ => true
def isTupE : Expr → Bool
  | .Tuple _ _ _ => true
  | _ => false
/-- a, b = x, y stored from the right -/
def parB (sc : Scope) (x y : Str) (px py : Pos) (a b : Expr) : Bool :=
  (sc.names.lookup x == some .local) && (sc.names.lookup y == some .local) && (px.line == py.line) && !(x == y) && nsE a && nsE b && !([a, b].all (foldedForSure 8)) && !([a, b].all (constantsAlone 8))
/-- .. surely in order -/
def ordB (sc : Scope) (x y : Str) (a b : Expr) : Bool := nsE a && nsE b && (!(sc.names.lookup x == some .local) || !(sc.names.lookup y == some .local))
def cAsg (p : Pe) (ne : Nat) (cx : CCx) (tg e : Expr) : S := match tg with
  | .Name y py => (match ixOf cx.N y with
    | some i => if locB cx.sc y then (match e with
      | .ListComp elt gs scope lpos => if (cx.sc.names.lookup y == some .local) && (py.line == lpos.line) && !(scope.names.any fun (n, k) => n == y && (k == .local || k == .cell)) then .asg (.nm i) (cComp (cE p ne) cx elt gs scope)
          else .asg (.nm i) (cE p (ne + 1) cx e)
      | e => if notComp e then .asg (.nm i) (cE p ne cx e) else .bad) else .bad
    | none => .bad)
  | .Subscript a b _ => if nsE b then .sti (cE p ne cx a) (cE p ne cx b) (cE p ne cx e) else .bad
  | .Tuple [.Name x px, .Name y py] _ _ => (match e with
    | .Tuple [a, b] _ _ => if parB cx.sc x y px py a b then (match ixOf cx.N x, ixOf cx.N y with
        | some i, some j => if i ≠ j then .par i j (cE p ne cx a) (cE p ne cx b) else .bad
        | _, _ => .bad)
      else if ordB cx.sc x y a b then (match cTg 5 cx tg with
        | some g => .asg g (cE p ne cx e)
        | none => .bad) else .bad
    | e => if isTupE e then .bad else (match cTg 5 cx tg with
        | some g => .asg g (cE p ne cx e)
        | none => .bad))
  | _ => .bad
def sqL : List S → S
  | [] => .skip
  | s :: r => .seq s (sqL r)
def cS (p : Pe) (ne : Nat) : Nat → CCx → Stmt → S
  | 0, _, _ => .bad
  | n + 1, cx, st => match st with
    | .Expr e _ => (match e with
      | .Constant (.str _) _ _ => .skip
      | e => if notComp e then .ex (cE p ne cx e) else .bad)
    | .Return (some e) _ => .ret (cE p ne cx e)
    | .Return none _ => .retN
    | .Assign [tg] e _ => cAsg p ne cx tg e
    | .AugAssign (.Name x _) .Add e _ => (match ixOf cx.N x with
      | some i => if locB cx.sc x then .aug i .add (cE p ne cx e) else .bad
      | none => .bad)
    | .If t a b _ => .iff (cE p ne cx t) (sqL (a.map (cS p ne n cx))) (sqL (b.map (cS p ne n cx)))
    | .For tg it body [] _ => (match cTg 5 cx tg with
      | some g => if noSet it then .for g (cIt (cE p ne) cx tg it) (sqL (body.map (cS p ne n cx))) else .bad
      | none => .bad)
    | .While t body [] _ => .whl (cE p ne cx t) (sqL (body.map (cS p ne n cx)))
    | .Raise (some (.Call (.Name x _) [e] [] _)) none _ => if glB cx.sc x && okN x && nsE e then (match p.cls.lookup x with
      | some k => .rais k (.cons (cE p ne cx e) .nil)
      | none => .bad) else .bad
    | .Pass _ => .skip
    | .Break _ => .brk
    | .Continue _ => .cnt
    | _ => .bad
section
variable {G : Gv} {p : Pe} {c : Cl} {m wf : Nat} {X : Cx} {cx : CCx} {Wx : WX} {r : Rec} {pos pn apos : Pos} {a b d e tg : Expr} {i j k : E}
theorem sw_non {t : Option Expr} {l : Nat} {env : Env} (h : notComp e = true) : swapsWith e t l env = pure false := by
  cases e <;> first | rfl | cases h
theorem sw_no {elt : Expr} {gs : List Comprehension} {scope : Scope} {lpos py : Pos} {y : Str} {l : Nat} {env : Env} (h : ((env.scope.names.lookup y == some .local) && (py.line == lpos.line) && !(scope.names.any fun (n, k) => n == y && (k == .local || k == .cell))) = false) :
    swapsWith (.ListComp elt gs scope lpos) (some (.Name y py)) l env = pure false := by
  show pure (env.blockKind == .function && env.kindOf y == some .local && py.line == lpos.line && !(scope.names.any fun (n, k) => n == y && (k == .local || k == .cell))) = pure false
  have : (env.blockKind == .function && env.kindOf y == some .local && py.line == lpos.line && !(scope.names.any fun (n, k) => n == y && (k == .local || k == .cell))) = false := by
    show (env.blockKind == .function && (env.scope.names.lookup y == some .local) && py.line == lpos.line && !(scope.names.any fun (n, k) => n == y && (k == .local || k == .cell))) = false
    cases h1 : (env.scope.names.lookup y == some .local) <;> cases h2 : (py.line == lpos.line) <;> cases h3 : (scope.names.any fun (n, k) => n == y && (k == .local || k == .cell)) <;> simp_all
  rw [this]
theorem swT_no {ts : List Expr} {kt : Nat} {pt : Pos} {l : Nat} {env : Env} : swapsWithSole [.Tuple ts kt pt] e l env = pure false := by
  cases e <;> rfl
def starB : Expr → Bool
  | .Starred _ _ => true
  | _ => false
theorem star_no {a : Expr} (h : nsE a = true) : starB a = false := by cases a <;> first | rfl | cases h
theorem sw_eq {x y : Str} {px py pt pt2 : Pos} {kt k2 : Nat} {env : Env} (hb : (env.blockKind != .function) = false) (h5 : starB a = false) (h6 : starB b = false) (names : List Str)
    (hn : ([(Expr.Name x px), (Expr.Name y py)].filterMap fun z => match z with
      | .Name id pos => if env.kindOf id == some .local && pos.line == px.line then some id else none
      | _ => none) = names) :
    swappedStores [.Tuple [.Name x px, .Name y py] kt pt] (.Tuple [a, b] k2 pt2) env = (if names.length != 2 || names.eraseDups.length != names.length then pure none else if [a, b].all (foldedForSure 8) then pure none else if [a, b].all (constantsAlone 8) then (unsupported "assign.tuple-of-constant-expressions:order-of-the-stores" >>= fun _ : Unit => pure (some names)) else pure (some names)) := by
  subst hn
  show (if (!(2 == 2 || 2 == 3) || (2 != 2) || env.blockKind != .function) = true then pure none else if (starB a || (starB b || false)) = true then pure none else _) = _
  rw [hb, h5, h6]
  rfl
theorem par_yes {x y : Str} {px py pt pt2 : Pos} {kt k2 : Nat} {env : Env} (hk : env.scope.kind = .function) (h : parB env.scope x y px py a b = true) : swappedStores [.Tuple [.Name x px, .Name y py] kt pt] (.Tuple [a, b] k2 pt2) env = pure (some [x, y]) := by
  unfold parB at h
  simp only [Bool.and_eq_true, beq_iff_eq, Bool.not_eq_true', Bool.not_eq_eq_eq_not] at h
  obtain ⟨⟨⟨⟨⟨⟨⟨h1, h2⟩, h3⟩, h4⟩, h5⟩, h6⟩, h7⟩, h8⟩ := h
  have kx : env.kindOf x = some .local := h1
  have ky : env.kindOf y = some .local := h2
  have hb : (env.blockKind != .function) = false := by unfold Env.blockKind; rw [hk]; rfl
  have hn : (y == x) = false := by
    cases q : (y == x) with
    | false => rfl
    | true =>
      have := eq_of_beq q
      subst this
      simp at h4
  rw [sw_eq hb (star_no h5) (star_no h6) [x, y] (by simp [kx, ky, h3]), if_neg, if_neg, if_neg]
  · rw [h8]; decide
  · rw [h7]; decide
  · simp [List.eraseDups, List.eraseDupsBy, List.eraseDupsBy.loop, hn]
theorem ord_no {x y : Str} {px py pt pt2 : Pos} {kt k2 : Nat} {env : Env} (hk : env.scope.kind = .function) (h : ordB env.scope x y a b = true) : swappedStores [.Tuple [.Name x px, .Name y py] kt pt] (.Tuple [a, b] k2 pt2) env = pure none := by
  unfold ordB at h
  simp only [Bool.and_eq_true, Bool.or_eq_true, Bool.not_eq_true', beq_eq_false_iff_ne] at h
  obtain ⟨⟨h5, h6⟩, h1⟩ := h
  have hb : (env.blockKind != .function) = false := by unfold Env.blockKind; rw [hk]; rfl
  rw [sw_eq hb (star_no h5) (star_no h6) _ rfl, if_pos]
  have : ∀ l : List Str, l.length ≠ 2 → (l.length != 2 || l.eraseDups.length != l.length) = true := fun l hl => by simp [hl]
  refine this _ ?_
  have k1 : ∀ z : Str, env.kindOf z = env.scope.names.lookup z := fun _ => rfl
  rcases h1 with h1 | h1
  · have e1 : (env.kindOf x == some .local) = false := by simpa [k1] using h1
    simp only [List.filterMap_cons, e1, Bool.false_and]
    simp only [List.filterMap_nil]
    by_cases q : (env.kindOf y == some NameKind.local && py.line == px.line) = true
    · simp [q]
    · simp [q]
  · have e1 : (env.kindOf y == some .local) = false := by simpa [k1] using h1
    simp only [List.filterMap_cons, e1, Bool.false_and]
    simp only [List.filterMap_nil]
    by_cases q : env.kindOf x = some NameKind.local
    · simp [q]
    · simp [q]
theorem c_asg (hks : X.env.scope.kind = .function) (hsc : X.env.scope = cx.sc) (g : Good G p c m X cx Wx) (ne : Nat) : PS X (.Assign [tg] e pos) (SimS G (ex c wf (cAsg p ne cx tg e)) Wx) := by
  have hr := cE_ok G p c m ne
  have he := (hr X cx Wx e g).1
  unfold cAsg
  split
  · rename_i y py
    split
    · rename_i i hi
      split
      · rename_i hl
        obtain ⟨h1, h2⟩ := g.loc hl
        have hN : X.N[i]? = some y := by rw [g.N]; exact ixOf_ok hi
        have pg := pg_name (pos := py) g.nd hN h1 h2
        split
        · rename_i elt gs scope lpos
          split
          · rename_i hb
            rw [Bool.and_eq_true, Bool.and_eq_true, beq_iff_eq] at hb
            have hyl : X.env.scope.names.lookup y = some .local := by rw [hsc]; exact hb.1.1
            exact (c_comp hr g).2 hN hyl (sw_true hks hyl hb.1.2 (by simpa using hb.2)) wf
          · rename_i hb
            have he2 := (cE_ok G p c m (ne + 1) X cx Wx (.ListComp elt gs scope lpos) g).1
            exact t_asg (g := .nm i) he2 pg (show swapsWith _ (some (.Name y py)) pos.line _ = _ from sw_no (by rw [hsc]; exact Bool.eq_false_iff.mpr hb)) rfl rfl
        · split
          · rename_i hn
            exact t_asg (g := .nm i) he pg (show swapsWith e (some (.Name y py)) pos.line _ = _ from sw_non hn) (by cases e <;> rfl) rfl
          · exact t_bad
      · exact t_bad
    · exact t_bad
  · rename_i a b tp
    split
    · rename_i nb
      exact t_sti nb (by have := g.units; omega) he (hr X cx Wx a g).1 (hr X cx Wx b g).1 (by cases e <;> rfl) (by cases e <;> rfl)
    · exact t_bad
  · rename_i x px y py kt pt
    split
    · rename_i a b k2 pt2
      split
      · rename_i hp
        split
        · rename_i i j hi hj
          split
          · rename_i hij
            have hp' := hp
            unfold parB at hp'
            simp only [Bool.and_eq_true, beq_iff_eq] at hp'
            exact t_par g.calm g.nd (by rw [g.N]; exact ixOf_ok hi) (by rw [g.N]; exact ixOf_ok hj) hij (by rw [hsc]; exact hp'.1.1.1.1.1.1.1) (by rw [hsc]; exact hp'.1.1.1.1.1.1.2) hp'.1.1.1.2 hp'.1.1.2 (hr X cx Wx a g).1 (hr X cx Wx b g).1 (par_yes hks (by rw [hsc]; exact hp))
          · exact t_bad
        · exact t_bad
      · split
        · rename_i ho
          split
          · rename_i t et
            exact t_asg he (c_tg g 5 _ t et) swT_no (ord_no hks (by rw [hsc]; exact ho)) rfl
          · exact t_bad
        · exact t_bad
    · split
      · exact t_bad
      · rename_i ht
        split
        · rename_i t et
          exact t_asg he (c_tg g 5 _ t et) swT_no (by cases e <;> first | rfl | exact absurd rfl ht) rfl
        · exact t_bad
  · exact t_bad
theorem cS_ok (hks : X.env.scope.kind = .function) (hsc : X.env.scope = cx.sc) (hpo : PassesOwn (model X.prog X.w) X.A X.env X.xe) (g : Good G p c m X cx Wx) (ne : Nat) : ∀ (n : Nat) (st : Stmt), PS X st (SimS G (ex c wf (cS p ne n cx st)) Wx)
  | 0, _ => t_bad
  | n + 1, st => by
    have hr := cE_ok G p c m ne
    have ss : ∀ l : List Stmt, PSs X l (SimS G (ex c wf (sqL (l.map (cS p ne n cx)))) Wx) := fun l => by
      induction l with
      | nil => exact ts_nil
      | cons a l ih => exact ts_cons (cS_ok hks hsc hpo g ne n a) ih
    unfold cS
    split
    · split
      · exact t_skip ps_doc
      · split
        · rename_i hn
          exact t_ex (hr X cx Wx _ g).1 (sw_non hn)
        · exact t_bad
    · exact t_ret (hr X cx Wx _ g).1
    · exact t_retN
    · exact c_asg hks hsc g ne
    · split
      · rename_i i hi
        split
        · rename_i hl
          obtain ⟨h1, h2⟩ := g.loc hl
          exact t_aug g.nd (by rw [g.N]; exact ixOf_ok hi) h1 h2 (hr X cx Wx _ g).1
        · exact t_bad
      · exact t_bad
    · exact t_if (hr X cx Wx _ g).2 (ss _) (ss _)
    · split
      · rename_i t et
        split
        · rename_i hn
          exact t_for hpo g.calm (c_it hr g _ _) (c_tg g 5 _ t et) (ss _) (folded_of hn)
        · exact t_bad
      · exact t_bad
    · exact t_whl hpo (hr X cx Wx _ g).2 (ss _)
    · split
      · rename_i hc
        rw [Bool.and_eq_true, Bool.and_eq_true] at hc
        split
        · rename_i k ek
          obtain ⟨e1, e2, fI, fd, ps, f, e3, e4, e5, e6, e7⟩ := g.pe.cls _ k ek
          exact t_rais g.calm g.tk g.K e2 e3 e4 e5 (g.rm.mono g.pe.m2) e6 (g.gl hc.1.1) e1 e7 hc.2 (hr X cx Wx _ g).1 (okN_ok hc.1.2).1
        · exact t_bad
      · exact t_bad
    · exact t_skip ps_pass
    · exact t_brk
    · exact t_cnt
    · exact t_bad
end
end MiS
end
section
set_option Elab.async false
set_option linter.all false
set_option maxRecDepth 100000
set_option maxHeartbeats 2000000
/-! All defs of a program keep what Mi's calls tell. -/
namespace MiS
open PySem L2 PySem.Spec PyProof.Rows
open Mi (W Ob Hs Fr R Rs Xc Cl E Es It Tg S XE ev evs evi ex)

/-- a def: its name, its parameters, its slots, whether it makes lambdas -/
structure DE where
  at_ : Nat
  name : Str
  ps : List Str
  N : List Str
  lam : Bool
def cxD (d : DE) (st : Stmt) : CCx := ⟨d.N, defScope st, d.lam⟩
def bodyC (p : Pe) (ne ns : Nat) (d : DE) (st : Stmt) : S := sqL ((defBody st).map (cS p ne ns (cxD d st)))

structure FnE (K : PySem.W.Frag) (mg : Str → Option Value) (d : DE) (st : Stmt) (f : Addr) (fd : FuncData) : Prop where
  F : FunD K d.name d.name (defArgs st) (defBody st) (defScope st) [] [] f fd
  g : mg d.name = some (.ref f)
  b : Binds K fd d.ps []
  sc : FnScope d.N d.ps (defScope st)
def LamD (G : Gv) (mg : Str → Option Value) (base : Heap) (d : DE) (fd : FuncData) : Prop := ∃ cc Pt, fd.code = .ref cc ∧ LamX.TabB base mg cc Pt ∧ (Pt, d.name ++ ".<locals>." ++ "<lambda>") ∈ G.T ∧ ∀ q ∈ G.T, q.1 = Pt → q.2 = d.name ++ ".<locals>." ++ "<lambda>"
structure Wld (G : Gv) (p : Pe) (Pr : Mi.Prog) (wf ne ns : Nat) (P : Program) (w : World) (K : PySem.W.Frag) (mg : Str → Option Value) (base : Heap) (En : Nat → Option (DE × Stmt)) : Prop where
  eK : K = G.K
  ent : ∀ i d st, En i = some (d, st) → ∃ f fd, FnE K mg d st f fd ∧ Pr.fns i = some ⟨d.ps.length, d.N.length, bodyC p ne ns d st⟩ ∧ (d.lam = true → LamD G mg base d fd)
  fn : ∀ x i, p.fn.lookup x = some i → ∃ d st, En i = some (d, st) ∧ d.name = x
  con : ∀ x v, p.con.lookup x = some v → ∃ y u, mg x = some u ∧ RelV y u ∧ ∀ K ρ H, WR K ρ H v y
  tab : ∀ x d, p.tab.lookup x = some d → ∃ a, mg x = some (.ref a) ∧ TabOk K w a (Pr.tab d)
  told : ∀ n x i, p.told.lookup x = some i → ToldR G (Mi.clOf Pr wf n) P w K mg base x i
  cls : ∀ x n, p.cls.lookup x = some n → mg x = some (.ref (G.cl n)) ∧ OexC K (G.cl n) ∧ ∃ fI fd ps f, PySem.W.findIn K (.ref (G.cl n)) "__init__" = some (some (.ref fI)) ∧ PySem.W.typeIn K (.ref fI) = some (.type "function") ∧ FnOk P w K mg base (L2.CX P w) 1 fI fd ps (SpI (G.cl n) f) ∧ Binds K fd ps [] ∧ G.fl n = [f]
  blt : ∀ x ∈ (["len", "int", "str", "list", "tuple", "sorted", "all", "any", "sum", "isinstance", "range", "enumerate", "zip", "bool", "dict"] : List String), mg (Str.ofString x) = none

section
variable {G : Gv} {p : Pe} {Pr : Mi.Prog} {wf ne ns : Nat} {P : Program} {w : World} {K : PySem.W.Frag} {mg : Str → Option Value} {base : Heap} {En : Nat → Option (DE × Stmt)}
/-- the body's context -/
theorem good_of {c : Cl} {m : Nat} {d : DE} {st : Stmt} {f : Addr} {fd : FuncData} (hK : K = G.K) (pe : PeOk G p c m P w K mg base) (sc : FnScope d.N d.ps (defScope st)) (lam : d.lam = true → LamD G mg base d fd) {A : Around} {outer : List Env} {s : Shared} {H : Hp} {E : XK}
    (hr : Room (m + 2) (A.deeper (envOfC d.name (defScope st) s.heap.objs.size f fd.code))) : Good G p c m (cxOf (L2.CX P w) P w K mg base d.N d.name (defScope st) f fd.code A outer s H E) (cxD d st) (fun c d _ H => E c d H) where
  pe := pe
  K := hK
  N := rfl
  nd := sc.nd
  calm := rfl
  room := hr.mono (by split <;> omega)
  lam := fun h => lam h
  tk := takes_of (X := cxOf (L2.CX P w) P w K mg base d.N d.name (defScope st) f fd.code A outer s H E) rfl rfl rfl rfl
  same := fun x k h _ => h
  free := fun x h => .inl h
  fnc := fun x h => rfl
theorem body_ok {c : Cl} {m : Nat} {d : DE} {st : Stmt} {f : Addr} {fd : FuncData} (hK : K = G.K) (pe : PeOk G p c m P w K mg base) (sc : FnScope d.N d.ps (defScope st)) (lam : d.lam = true → LamD G mg base d fd) {A : Around} {outer : List Env} {s : Shared} {H : Hp} {E : XK}
    (hr : Room (m + 2) (A.deeper (envOfC d.name (defScope st) s.heap.objs.size f fd.code))) (l : List Stmt) :
    PSs (cxOf (L2.CX P w) P w K mg base d.N d.name (defScope st) f fd.code A outer s H E) l (SimS G (ex c wf (sqL (l.map (cS p ne ns (cxD d st))))) (fun c d _ H => E c d H)) := by
  have g := good_of hK pe sc lam hr (outer := outer) (H := H) (E := E)
  induction l with
  | nil => exact ts_nil
  | cons a l ih => exact ts_cons (cS_ok sc.kind rfl (passes_of (X := cxOf (L2.CX P w) P w K mg base d.N d.name (defScope st) f fd.code A outer s H E) rfl) g ne ns a) ih
theorem FnOk.never {CX : CXT} {k : Nat} {f : Addr} {fd : FuncData} {ps : List Str} {sp : Sp} (h : ∀ vs H Q E, ¬ sp vs H Q E) : FnOk P w K mg base CX k f fd ps sp := ⟨fun vs H Q E z => (h vs H Q E z).elim, fun A outer s H args us vs Q E _ _ _ _ z => (h vs H Q E z).elim⟩
/-- a def by its body, its code object told -/
theorem fn_okD {x qual : Str} {params : Arguments} {body : List Stmt} {scope : Scope} {f : Addr} {fd : FuncData} {N ps : List Str} {k : Nat} {sp : Sp} (F : FunD K x qual params body scope [] [] f fd) (S : FnScope N ps scope) (len : ∀ vs H Q E, sp vs H Q E → vs.length = ps.length)
    (hbody : ∀ (A : Around) (outer : List Env) (s : Shared) (H : Hp) (vs : List V) (Q : VK) (E : XK), Room k (A.deeper (envOfC qual scope s.heap.objs.size f fd.code)) → sp vs H Q E →
      ∃ t, PSs (cxOf (L2.CX P w) P w K mg base N qual scope f fd.code A outer s H E) body t ∧ t { nx := fun _ H' => Q .non H', rt := Q } (L2.start N vs) H) : FnOk P w K mg base (L2.CX P w) (k + 1) f fd ps sp := by
  obtain ⟨oc, od, dV, kV, doc, pm, an, cdv, ct, osl, rfl, lk, hcd, _, _⟩ := F.ex
  exact fn_of lk hcd S len fun A outer s H vs Q E hr hsp => hbody A outer s H vs Q E hr hsp
theorem frR_start {ρ : List Addr} {H : Hp} {N : List Str} {ws : List W} {vs : List V} (wr : WRs G.K ρ H ws vs) : FrR G.K ρ H (Mi.startFr N.length ws) (L2.start N vs) := by
  unfold Mi.startFr L2.start
  have lw := wr.length
  refine ⟨by simp only [List.length_append, List.length_map, List.length_replicate, lw], fun i w ew => ?_⟩
  by_cases hi : i < ws.length
  · rw [List.getElem?_append_left (by simpa using hi), List.getElem?_map] at ew
    cases q : ws[i]? with
    | none => rw [q] at ew; cases ew
    | some w' =>
      rw [q] at ew
      cases ew
      obtain ⟨v, ev', r⟩ := wr.get q
      exact ⟨v, by rw [List.getElem?_append_left (by simp; omega), List.getElem?_map, ev']; rfl, r⟩
  · rw [List.getElem?_append_right (by simp; omega)] at ew
    rw [List.getElem?_replicate] at ew
    split at ew <;> cases ew
theorem all_ok (Wd : Wld G p Pr wf ne ns P w K mg base En) : ∀ n i d st, En i = some (d, st) → ∃ f fd, mg d.name = some (.ref f) ∧ PySem.W.keepIn K (.ref f) = true ∧ Binds K fd d.ps [] ∧ FnOk P w K mg base (L2.CX P w) (3 * n + 2) f fd d.ps (SpM G (Mi.lev Pr wf n i))
  | 0, i, d, st, e => by
    obtain ⟨f, fd, F, hd, lam⟩ := Wd.ent i d st e
    exact ⟨f, fd, F.g, F.F.kp, F.b, FnOk.never fun vs H Q E ⟨ρ, h, ws, R, wr, o⟩ => o⟩
  | n + 1, i, d, st, e => by
    obtain ⟨f, fd, F, hd, lam⟩ := Wd.ent i d st e
    have pe : PeOk G p (Mi.clOf Pr wf n) (3 * n + 2) P w K mg base :=
      { fn := fun x j hx => by
          obtain ⟨d', st', e', hn⟩ := Wd.fn x j hx
          subst hn
          obtain ⟨f', fd', h1, h2, h3, h4⟩ := all_ok Wd n j d' st' e'
          exact ⟨f', fd', d'.ps, h1, h2, h3, h4⟩
        con := Wd.con
        tab := Wd.tab
        told := Wd.told n
        m2 := by omega
        cls := Wd.cls
        blt := Wd.blt }
    refine ⟨f, fd, F.g, F.F.kp, F.b, ?_⟩
    have key : ∀ {ρ : List Addr} {H : Hp} {h : Hs} {ws : List W} {Q : VK} {E : XK}, OutE G (RE G) ρ H (Mi.lev Pr wf (n + 1) i ws h) Q E → ws.length = d.ps.length ∧ OutE G (RE G) ρ H (Mi.endOf h (ex (Mi.clOf Pr wf n) wf (bodyC p ne ns d st) (Mi.startFr d.N.length ws) h)) Q E := by
      intro ρ H h ws Q E o
      have o : OutE G (RE G) ρ H (match Pr.fns i with
        | some d => if ws.length = d.arity then Mi.endOf h (ex (Mi.clOf Pr wf n) wf d.body (Mi.startFr d.slots ws) h) else .stk
        | none => .stk) Q E := o
      rw [hd] at o
      have o : OutE G (RE G) ρ H (if ws.length = d.ps.length then Mi.endOf h (ex (Mi.clOf Pr wf n) wf (bodyC p ne ns d st) (Mi.startFr d.N.length ws) h) else .stk) Q E := o
      split at o
      · rename_i hl
        exact ⟨hl, o⟩
      · exact (show False from o).elim
    refine fn_okD (k := 3 * n + 4) F.F F.sc (fun vs H Q E ⟨ρ, h, ws, R, wr, o⟩ => by rw [← wr.length]; exact (key o).1) fun A outer s H vs Q E hr ⟨ρ, h, ws, R, wr, o⟩ => ⟨_, body_ok (wf := wf) (ne := ne) (ns := ns) Wd.eK pe F.sc lam hr (defBody st), ?_⟩
    exact ⟨ρ, h, Mi.startFr d.N.length ws, R, frR_start wr, end_ok R (key o).2⟩
/-- .. the facts at a level -/
theorem pe_at (Wd : Wld G p Pr wf ne ns P w K mg base En) (n : Nat) : PeOk G p (Mi.clOf Pr wf n) (3 * n + 2) P w K mg base where
  fn := fun x j hx => by
    obtain ⟨d', st', e', hn⟩ := Wd.fn x j hx
    subst hn
    obtain ⟨f', fd', h1, h2, h3, h4⟩ := all_ok Wd n j d' st' e'
    exact ⟨f', fd', d'.ps, h1, h2, h3, h4⟩
  con := Wd.con
  tab := Wd.tab
  told := Wd.told n
  m2 := by omega
  cls := Wd.cls
  blt := Wd.blt

/-! ### an __init__ with one thing to keep -/
theorem init_ok {x qual a b f : Str} {params : Arguments} {scope : Scope} {fI C : Addr} {fd : FuncData} {p1 p2 p3 p4 : Pos} (F : FunD K x qual params [.Assign [.Attribute (.Name a p1) f p2] (.Name b p3) p4] scope [] [] fI fd) (Sc : FnScope [a, b] [a, b] scope) (T : OexC K C) (hno : PySem.W.findIn K (.ref C) f = some none)
    (ha : visB scope a = true) (hb : visB scope b = true) (oa : okN a = true) (ob : okN b = true) : FnOk P w K mg base (L2.CX P w) 1 fI fd [a, b] (SpI C f) := by
  refine fn_okD (k := 0) F Sc (fun vs H Q E ⟨_, _, e, _⟩ => by rw [e]; rfl) fun A outer s H vs Q E hr ⟨a', x', ev', e1, q⟩ => ?_
  have vis : ∀ y, visB scope y = true → Vis scope y := fun y h => by
    unfold visB at h
    split at h
    · rename_i e; exact .inl e
    · rename_i e; exact .inr (.inl e)
    · rename_i e; exact .inr (.inr e)
    · cases h
  refine ⟨_, pss_one (ps_ost (pe_var (i := 0) rfl (vis _ ha) (okN_ok oa).1 (okN_ok oa).2) (pe_var (i := 1) rfl (vis _ hb) (okN_ok ob).1 (okN_ok ob).2) rfl), ?_⟩
  subst ev'
  refine ⟨x', rfl, .ref a', rfl, a', C, rfl, T, hno, .inl ⟨e1, fun dx nd ne => q dx nd ne⟩⟩
end
end MiS
end
section
set_option Elab.async false
set_option linter.all false
set_option maxRecDepth 100000
set_option maxHeartbeats 2000000
/-! What the head tells: classes of exceptions, dicts, the told def; the law's start. -/
namespace MiS
open PySem L2 PySem.Spec PyProof.Rows
open Mi (W Ob Hs Fr R Rs Xc Cl E Es It Tg S XE ev evs evi ex)

/-! ### own exceptions -/
def oexB (K : PySem.W.Frag) (C : Addr) : Bool := (match K.lookup C with
  | some ⟨.type ty, _, .cls cd, sl⟩ => (match cd.mro, sl.toList with
    | .ref C' :: bm, [_, _, _, _, some (.builtin n), _] => decide (ty = "type") && (decide (C' = C) && (decide (n = "ValueError.__new__") && (!cd.hasDel && (cd.hasDict && PySem.HandSPX.refsVE bm))))
    | _, _ => false)
  | _ => false) && (He.eqO (PySem.W.findIn K (.ref C) "__setattr__") (some (some (.builtin "object.__setattr__"))) && (decide (PySem.W.subIn K (.ref C) (.type "BaseException") = some true) && (decide (PySem.W.typeIn K (.ref C) = some (.type "type")) && PySem.W.keepIn K (.ref C))))
theorem oexB_ok {K : PySem.W.Frag} {C : Addr} (h : oexB K C = true) : OexC K C := by
  unfold oexB at h
  obtain ⟨h1, h⟩ := He.ba h
  obtain ⟨h2, h⟩ := He.ba h
  obtain ⟨h3, h⟩ := He.ba h
  obtain ⟨h4, h5⟩ := He.ba h
  refine ⟨?_, He.eqO_ok h2, of_decide_eq_true h3, of_decide_eq_true h4, h5⟩
  split at h1
  · rename_i ty dd cd sl ho
    split at h1
    · rename_i C' bm k0 k1 k2 k3 n k5 hm hs
      obtain ⟨a1, h1⟩ := He.ba h1
      obtain ⟨a2, h1⟩ := He.ba h1
      obtain ⟨a3, h1⟩ := He.ba h1
      obtain ⟨a4, h1⟩ := He.ba h1
      obtain ⟨a5, a6⟩ := He.ba h1
      have a1 := of_decide_eq_true a1
      have a2 := of_decide_eq_true a2
      have a3 := of_decide_eq_true a3
      subst a1 a2 a3
      obtain ⟨nm, bs, mro, nsA, qn, hd, sn, sub, ab, col, del⟩ := cd
      have hm : mro = .ref C' :: bm := hm
      have b4 : (!del) = true := a4
      have b5 : hd = true := a5
      have b6 : del = false := by simpa using b4
      clear a4 a5 b4
      subst hm b5 b6
      have hsl : sl = #[k0, k1, k2, k3, some (.builtin "ValueError.__new__"), k5] := by
        obtain ⟨l⟩ := sl
        have hs : l = [k0, k1, k2, k3, some (.builtin "ValueError.__new__"), k5] := hs
        rw [hs]
      subst hsl
      exact ⟨nm, qn, nsA, bs, bm, sn, sub, ab, col, dd, k0, k1, k2, k3, k5, ho, a6⟩
    · cases h1
  · cases h1

/-! ### a dict of texts and numbers -/
def entB (e : DictEntry) (kv : W × W) : Bool := match e.key, e.val, kv with
  | .str s _, .int i _, (.str k, .int j) => decide (s = tx k) && decide (i = j)
  | _, _, _ => false
def entsB : List DictEntry → List (W × W) → Bool
  | [], [] => true
  | e :: es, kv :: kvs => entB e kv && entsB es kvs
  | _, _ => false
def tabC (K : PySem.W.Frag) (a : Addr) (kvs : List (W × W)) : Bool := match K.lookup a with
  | some ⟨_, _, .dict es _, _⟩ => entsB es.toList kvs
  | _ => false
theorem entsB_get : ∀ {es : List DictEntry} {kvs : List (W × W)}, entsB es kvs = true → es.any (·.refKey) = false ∧ ∀ z : List Nat, (es.find? (·.key.isStr (tx z)) = none ∧ Mi.dget kvs (.str z) = none) ∨ ∃ e i t, es.find? (·.key.isStr (tx z)) = some e ∧ e.val = .int i t ∧ Mi.dget kvs (.str z) = some (.int i)
  | [], [], _ => ⟨rfl, fun z => .inl ⟨rfl, rfl⟩⟩
  | [], _ :: _, h => by cases h
  | _ :: _, [], h => by cases h
  | e :: es, kv :: kvs, h => by
    obtain ⟨h1, h2⟩ := He.ba (show (entB e kv && entsB es kvs) = true from h)
    obtain ⟨r1, r2⟩ := entsB_get h2
    obtain ⟨hs, ky, vl⟩ := e
    obtain ⟨k, v⟩ := kv
    unfold entB at h1
    split at h1
    · rename_i s t i t' k' j e1 e2 e3
      obtain ⟨b1, b2⟩ := He.ba h1
      have b1 := of_decide_eq_true b1
      have b2 := of_decide_eq_true b2
      have e1 : ky = .str s t := e1
      have e2 : vl = .int i t' := e2
      cases e3
      subst e1 e2 b1 b2
      refine ⟨by rw [List.any_cons, r1]; rfl, fun z => ?_⟩
      by_cases hz : k' = z
      · subst hz
        refine .inr ⟨⟨hs, .str (tx k') t, .int i t'⟩, i, t', ?_, rfl, ?_⟩
        · have : (Value.str (tx k') t).isStr (tx k') = true := by simp [Value.isStr]
          simp [List.find?_cons, this]
        · unfold Mi.dget
          simp [List.find?_cons]
      · have n1 : (Value.str (tx k') t).isStr (tx z) = false := by
          simp only [Value.isStr]
          exact decide_eq_false fun q => hz (tx_inj q)
        have n2 : ((W.str k' : W) == W.str z) = false := by
          cases q : ((W.str k' : W) == W.str z) with
          | false => rfl
          | true => exact absurd (W.str.inj (eq_of_beq q)) hz
        have f1 : (⟨hs, .str (tx k') t, .int i t'⟩ :: es).find? (·.key.isStr (tx z)) = es.find? (·.key.isStr (tx z)) := by
          rw [List.find?_cons]; simp only [n1]
        have f2 : Mi.dget ((W.str k', W.int i) :: kvs) (.str z) = Mi.dget kvs (.str z) := by
          unfold Mi.dget
          rw [List.find?_cons]; simp only [n2]
        rw [f1, f2]
        exact r2 z
    · cases h1
theorem tabC_ok {K : PySem.W.Frag} {w : World} {a : Addr} {kvs : List (W × W)} (kd : ∃ es n, KDict K w a es n) (h : tabC K a kvs = true) : TabOk K w a kvs := by
  refine ⟨kd, fun z => ?_⟩
  unfold tabC at h
  split at h
  · rename_i oc od es n sl lk
    obtain ⟨r1, r2⟩ := entsB_get h
    have e : PySem.W.nsIn K a (tx z) = (match es.toList.find? (·.key.isStr (tx z)) with
      | some e => some (some e.val)
      | none => if es.toList.any (·.refKey) then none else some none) := by
      unfold PySem.W.nsIn
      rw [lk] <;> rfl
    rcases r2 z with ⟨q1, q2⟩ | ⟨en, i, t, q1, q2, q3⟩
    · exact .inl ⟨by rw [e, q1, r1]; rfl, q2⟩
    · exact .inr ⟨_, .int i, .int i, by rw [e, q1], q3, by rw [q2]; exact ⟨t, rfl⟩, fun _ _ _ => .int i⟩
  · cases h

/-! ### the told def -/
section
variable {G : Gv} {p : Pe} {Pr : Mi.Prog} {wf : Nat} {P : Program} {w : World} {K : PySem.W.Frag} {mg : Str → Option Value} {base : Heap}
/-- except C as n: return (tag, n.f) -/
theorem hd_tag {Z : Cx} {k i : Nat} {tag : Str} {f n : Str} {a : Addr} {oe : Obj} {cls : Value} {d : Option Addr} {pn : List (Addr × Obj)} {j kk : Nat} {p1 p2 p3 p4 p5 : Pos} (hK : Z.K = G.K) (T : XfC Z.K (G.cl k)) (hno : PySem.W.findIn Z.K (.ref (G.cl k)) f = some none) (hz : Zc cls d oe) (hf : ∃ vs, oe.data = .fields vs) (hfl : (G.fl k)[0]? = some f)
    (hN : Z.N[i]? = some n) (hv : Vis Z.env.scope n) (ok : okN n = true) : PSs (Z.suite a ((a, oe) :: pn)) [.Return (some (.Tuple [.Constant (.str tag) j p1, .Attribute (.Name n p2) f p3] kk p4)) p5] (tRet (SimX G k i (.cons (.con (.str tag.cps.toList)) (.cons (.fld 0) .nil)) a cls d)) := by
  have x1 : PE (Z.suite a ((a, oe) :: pn)) (.Constant (.str tag) j p1) (SimX G k i (.con (.str tag.cps.toList)) a cls d) := x_con (v := .str tag) pe_str fun ρ H => .str tag.cps.toList
  have x2 : PE (Z.suite a ((a, oe) :: pn)) (.Attribute (.Name n p2) f p3) (SimX G k i (.fld 0) a cls d) := x_fld hK T hno hz hf hfl hN hv (okN_ok ok).1 (okN_ok ok).2
  refine pss_one (ps_ret (x_tup (by show 2 ≤ 100; decide) (x_cons rfl x1 (x_cons rfl x2 x_nil)) fun args ws e => ?_))
  have e : (match some (W.str tag.cps.toList), (match args[0]?, some (W.tup []) with
      | some w, some (.tup ws) => some (W.tup (w :: ws))
      | _, _ => none) with
    | some w, some (.tup ws) => some (W.tup (w :: ws))
    | _, _ => none) = some (.tup ws) := e
  cases q : args[0]? with
  | none => rw [q] at e; cases e
  | some v => rw [q] at e; cases e; rfl
/-- the rule for x(lambda: ..) from x's def -/
theorem toldR_of {n : Nat} {x a : Str} {g : Addr} {fd : FuncData} {pg : Arguments} {bg : List Stmt} {sg : Scope} {Ng : List Str} {idx : Nat} {t : Mi.Told} {hs : List (Nat × Nat × XE)} (hK : K = G.K) (F : FunD K x x pg bg sg [] [] g fd) (hm : mg x = some (.ref g)) (hb : L2.Binds K fd [a] []) (Sg : FnScope Ng [a] sg) (hNg : Ng[0]? = some a) (hva : visB sg a = true)
    (okx : okN x = true) (oka : okN a = true) (ht : Pr.tolds idx = some t) (hth : t.hs = hs.map fun p => (p.1, p.2.2)) (hin : ∀ p ∈ hs, p.2.1 < Ng.length) (hsub : ∀ c : Nat, ∀ p ∈ hs, PySem.W.exmOne G.K (.ref (G.cl c)) (.ref (G.cl p.1)) = some (Pr.sub c p.1))
    (hG : ∀ (X : Cx) (q : Str) (cdg : Value), X.K = K → X.mg = mg → LamX.GivesTo X Ng x sg g cdg bg a q (TTm G t.tag Ng.length hs)) : ToldR G (Mi.clOf Pr wf n) P w K mg base x idx := by
  intro X Wx k body scope i p1 lpos pos e1 e2 e3 e4 e5 hg lam hr L hbody
  obtain ⟨cc, Pt, hcode, TB, hmT, hu⟩ := lam
  obtain ⟨oc, od, dV, kV, doc, pm, an, cdv, ct, osl, rfl, lk, hcd, _, _⟩ := F.ex
  have vis : Vis sg a := by
    unfold visB at hva
    split at hva
    · rename_i e; exact .inl e
    · rename_i e; exact .inr (.inl e)
    · rename_i e; exact .inr (.inr e)
    · cases hva
  exact s_told (Pr := Pr) (wf := wf) (lv := n) rfl (dom := []) (e3.trans hK) hg (by rw [e4]; exact hm) (by rw [e3]; exact F.kp) (by rw [e3]; exact lk) (by rw [e3]; exact hcd) (by rw [e3]; exact hb) Sg hNg vis ht hth hin hsub (hG X _ cdv e3 e4) TB hcode hmT hu hr L rfl (fun _ _ _ _ _ => rfl) hbody (okN_ok okx).1 (okN_ok oka).1 (okN_ok oka).2
end
end MiS
end
section
set_option Elab.async false
set_option linter.all false
set_option maxRecDepth 100000
set_option maxHeartbeats 2000000
/-! The law's own def: its stream from the script, then Mi's word. -/
namespace MiS
open PySem L2 PySem.Spec PyProof.Rows
open Mi (W Ob Hs Fr R Rs Xc Cl E Es It Tg S XE ev evs evi ex)

/-- [list(script), 0, 0, c0] -/
def SpSt (K : PySem.W.Frag) (c0 : Int) : Sp := fun vs H Q _ => ∃ (a : Addr) (ns : List Int), vs = [.ref a] ∧ SqL K H a (ns.map V.int) ∧ ∀ l1 l2, H l1 = none → upd H l1 (.lst (ns.map V.int)) l2 = none → Q (.ref l2) (upd (upd H l1 (.lst (ns.map V.int))) l2 (.lst [.ref l1, .int 0, .int 0, .int c0]))
section
variable {G : Gv} {p : Pe} {Pr : Mi.Prog} {wf ne ns : Nat} {P : Program} {w : World} {K : PySem.W.Frag} {mg : Str → Option Value} {base : Heap} {En : Nat → Option (DE × Stmt)}
theorem vis_of {sc : Scope} {y : Str} (h : visB sc y = true) : Vis sc y := by
  unfold visB at h
  split at h
  · rename_i e; exact .inl e
  · rename_i e; exact .inr (.inl e)
  · rename_i e; exact .inr (.inr e)
  · cases h
theorem start_ok {x qual s : Str} {params : Arguments} {scope : Scope} {f : Addr} {fd : FuncData} {c0 : Int} {j1 j2 j3 : Nat} {p1 p2 p3 p4 p5 q1 q2 q3 : Pos}
    (F : FunD K x qual params [.Return (some (.List [.Call (.Name "list" p1) [.Name s p2] [] p3, .Constant (.int 0) j1 q1, .Constant (.int 0) j2 q2, .Constant (.int c0) j3 q3] p4)) p5] scope [] [] f fd) (Sc : FnScope [s] [s] scope) (hl : scope.names.lookup ("list" : Str) = some .globalImplicit) (hm : mg "list" = none)
    (hs : visB scope s = true) (ok : okN s = true) : FnOk P w K mg base (L2.CX P w) 1 f fd [s] (SpSt K c0) := by
  refine fn_okD (k := 0) F Sc (fun vs H Q E ⟨_, _, e, _⟩ => by rw [e]; rfl) fun A outer s' H vs Q E hr ⟨a, ns, ev', hS, q⟩ => ?_
  have pv := pe_var (X := cxOf (L2.CX P w) P w K mg base [s] qual scope f fd.code A outer s' H E) (i := 0) (x := s) (pos := p2) rfl (vis_of hs) (okN_ok ok).1 (okN_ok ok).2
  have pc := pe_callTy (X := cxOf (L2.CX P w) P w K mg base [s] qual scope f fd.code A outer s' H E) (p := p1) (pos := p3) call_list_of (x := "list") hl hm boot_list (pa_cons pv pa_nil)
  refine ⟨_, pss_one (ps_ret (pe_lst (pa_cons pc (pa_cons pe_int (pa_cons pe_int (pa_cons pe_int pa_nil)))))), ?_⟩
  subst ev'
  refine ⟨.ref a, rfl, a, _, rfl, .inl hS, fun l1 n1 => ⟨by show 4 ≤ sizeLine; decide, fun l2 n2 => q l1 l2 n1 n2⟩⟩
/-- what the law's def promises -/
def SpLaw (G : Gv) (K : PySem.W.Frag) (most : Nat) : Sp := fun vs H Q _ => ∃ (a : Addr) (ns : List Int), vs = [.ref a] ∧ ns.length ≤ most ∧ SqL K H a (ns.map V.int) ∧ LamX.Tabs G.T H ∧ ∀ H', Q (.bl true) H'
/-- the heap and the frame behind the first statement -/
def heap0 (ns : List Int) (c0 : Int) : Hs := [.lst (ns.map W.int), .lst [.ref 0, .int 0, .int 0, .int c0]]
def fr0 (n : Nat) : Fr := (List.replicate n none).set 1 (some (.ref 1))
theorem law_ok (Wd : Wld G p Pr wf ne ns P w K mg base En) {n : Nat} {d : DE} {st : Stmt} {f fS : Addr} {fd fdS : FuncData} {xs xS : Str} {c0 : Int} {most : Nat} {p1 p2 p3 p4 p5 : Pos} {rest : List Stmt} {s0 : Str} (hmost : most ≤ sizeLine) (F : FnE K mg d st f fd) (lam : d.lam = true → LamD G mg base d fd)
    (hbd : defBody st = .Assign [.Name xs p1] (.Call (.Name xS p2) [.Name s0 p3] [] p4) p5 :: rest) (hps : d.ps = [s0]) (hN0 : d.N[0]? = some s0) (hN1 : d.N[1]? = some xs) (hv0 : visB (defScope st) s0 = true) (hl1 : locB (defScope st) xs = true) (ok0 : okN s0 = true) (hgS : glB (defScope st) xS = true) (okS : okN xS = true)
    (gS : mg xS = some (.ref fS)) (kS : PySem.W.keepIn K (.ref fS) = true) (bS : Binds K fdS [s0] []) (FS : FnOk P w K mg base (L2.CX P w) 1 fS fdS [s0] (SpSt K c0))
    (pure_ : ∀ l : List Int, l.length ≤ most → ∃ hf, ex (Mi.clOf Pr wf n) wf (sqL (rest.map (cS p ne ns (cxD d st)))) (fr0 d.N.length) (heap0 l c0) = .rt (.bl true) hf) :
    FnOk P w K mg base (L2.CX P w) (3 * n + 5) f fd d.ps (SpLaw G K most) := by
  have pe := pe_at Wd n
  refine fn_okD (k := 3 * n + 4) F.F F.sc (fun vs H Q E ⟨_, _, e, _⟩ => by rw [e, hps]; rfl) fun A outer s H vs Q E hr ⟨a, ls, ev', hlen, hS, hT, q⟩ => ?_
  have g := good_of Wd.eK pe F.sc lam hr (outer := outer) (H := H) (E := E)
  have lc := g.loc (x := xs) hl1
  have hK := Wd.eK
  have gl : Gl (cxOf (L2.CX P w) P w K mg base d.N d.name (defScope st) f fd.code A outer s H E) xS := g.gl hgS
  have pv := pe_var (X := cxOf (L2.CX P w) P w K mg base d.N d.name (defScope st) f fd.code A outer s H E) (i := 0) (x := s0) (pos := p3) hN0 (vis_of hv0) (okN_ok ok0).1 (okN_ok ok0).2
  have pc := pe_callS (X := cxOf (L2.CX P w) P w K mg base d.N d.name (defScope st) f fd.code A outer s H E) (p := p2) (pos := p4) FS (hr.mono (by omega)) gl gS kS bS (passAt g.tk) (pa_cons pv pa_nil) (okN_ok okS).1
  rw [hbd]
  refine ⟨_, pss_cons (ps_set (i := 1) (x := xs) (pos := p5) (pos' := p1) F.sc.nd hN1 lc.1 pc rfl lc.2) (body_ok (wf := wf) (ne := ne) (ns := ns) Wd.eK pe F.sc lam hr rest), ?_⟩
  subst ev'
  obtain ⟨hf, eh⟩ := pure_ ls hlen
  have hN : 1 < d.N.length := (List.getElem?_eq_some_iff.mp hN1).1
  refine ⟨.ref a, ?_, a, ls, rfl, hS, fun l1 l2 n1 n2 => ?_⟩
  · show (L2.start d.N [.ref a])[0]? = some (some (.ref a))
    rfl
  have ne12 : l2 ≠ l1 := fun z => by rw [z, upd_same] at n2; cases n2
  have e1 : upd (upd H l1 (.lst (ls.map V.int))) l2 (.lst [.ref l1, .int 0, .int 0, .int c0]) l1 = some (.lst (ls.map V.int)) := by rw [upd_ne (Ne.symm ne12), upd_same]
  have wInts : ∀ (ρ : List Addr) (H : Hp) (l : List Int), WRs G.K ρ H (l.map W.int) (l.map V.int) := fun ρ H l => by
    induction l with
    | nil => exact .nil
    | cons a l ih => exact .cons (.int a) ih
  refine ⟨[l1, l2], heap0 ls c0, fr0 d.N.length, ⟨rfl, by simp [Ne.symm ne12], fun i o b h1 h2 => ?_, tabs_put (tabs_put hT n1) n2⟩, ⟨?_, fun i v ev2 => ?_⟩, ?_⟩
  · match i, h1, h2 with
    | 0, h1, h2 =>
      cases (Option.some.inj h1)
      cases (Option.some.inj h2)
      exact .lst e1 (by rw [List.length_map]; exact Nat.le_trans hlen hmost) (wInts _ _ ls)
    | 1, h1, h2 =>
      cases (Option.some.inj h1)
      cases (Option.some.inj h2)
      exact .lst upd_same (by show 4 ≤ sizeLine; decide) (.cons (.ref rfl) (.cons (.int 0) (.cons (.int 0) (.cons (.int c0) .nil))))
    | i + 2, h1, h2 =>
      have h2 : ([] : List Addr)[i]? = some b := h2
      simp at h2
  · unfold fr0 L2.start
    simp only [List.length_set, List.length_replicate, List.length_append, List.length_map]
    simp
    omega
  · unfold fr0 at ev2
    by_cases hi : 1 = i
    · subst hi
      rw [List.getElem?_set_self (by simpa using hN)] at ev2
      cases ev2
      exact ⟨.ref l2, by rw [List.getElem?_set_self (by unfold L2.start; simp; omega)], .ref rfl⟩
    · rw [List.getElem?_set_ne hi, List.getElem?_replicate] at ev2
      split at ev2 <;> cases ev2
  · rw [eh]
    intro ρ' H' v s' R' wv
    cases wv
    exact q H'
end
end MiS
end
section
set_option Elab.async false
set_option linter.all false
set_option maxRecDepth 100000
set_option maxHeartbeats 2000000
/-! Checks by Bools for the end of a law. -/
namespace MiS
open PySem L2 PySem.Spec PyProof.Rows
open Mi (W Ob Hs Fr R Rs Xc Cl E Es It Tg S XE ev evs evi ex)

def nodB : List Str → Bool
  | [] => true
  | x :: r => !(r.any fun y => decide (x = y)) && nodB r
theorem nodB_ok : ∀ {l : List Str}, nodB l = true → l.Nodup
  | [], _ => List.nodup_nil
  | x :: r, h => by
    obtain ⟨h1, h2⟩ := He.ba (show (!(r.any fun y => decide (x = y)) && nodB r) = true from h)
    refine List.nodup_cons.mpr ⟨fun m => ?_, nodB_ok h2⟩
    have : (r.any fun y => decide (x = y)) = true := List.any_eq_true.mpr ⟨x, m, decide_eq_true rfl⟩
    rw [this] at h1
    cases h1
/-- FnScope by a Bool -/
def scB (N ps : List Str) (sc : Scope) : Bool := decide (sc.kind = .function) && (!sc.isCoroutine && (!sc.isGenerator && (nodB N && (decide (N.take ps.length = ps) && ((ps.all fun x => decide (sc.names.lookup x = some .local) || decide (sc.names.lookup x = some .cell)) && sc.names.all fun y => !decide (y.2 = .free))))))
theorem scB_ok {N ps : List Str} {sc : Scope} (h : scB N ps sc = true) : FnScope N ps sc := by
  obtain ⟨h1, h⟩ := He.ba h
  obtain ⟨h2, h⟩ := He.ba h
  obtain ⟨h3, h⟩ := He.ba h
  obtain ⟨h4, h⟩ := He.ba h
  obtain ⟨h5, h⟩ := He.ba h
  obtain ⟨h6, h7⟩ := He.ba h
  refine ⟨of_decide_eq_true h1, by simpa using h2, by simpa using h3, nodB_ok h4, of_decide_eq_true h5, fun x hx => ?_, fun y hy z => ?_⟩
  · have := List.all_eq_true.mp h6 x hx
    rcases Bool.or_eq_true_iff.mp this with q | q
    · exact .inl (of_decide_eq_true q)
    · exact .inr (of_decide_eq_true q)
  · have := List.all_eq_true.mp h7 y hy
    rw [decide_eq_true z] at this
    cases this
/-- the names of the defs -/
def fnB (l : List (Str × Nat)) (des : List DE) : Bool := l.all fun q => match des[q.2]? with
  | some d => decide (d.name = q.1)
  | none => false
theorem fnB_ok {l : List (Str × Nat)} {des : List DE} {tp : Nat → Stmt} (h : fnB l des = true) {x : Str} {i : Nat} (e : l.lookup x = some i) : ∃ d st, (des[i]?).map (fun d => (d, tp d.at_)) = some (d, st) ∧ d.name = x := by
  have m := PySem.mem_of_lookup e
  have := List.all_eq_true.mp h _ m
  simp only at this
  split at this
  · rename_i d ed
    exact ⟨d, tp d.at_, by rw [ed]; rfl, of_decide_eq_true this⟩
  · cases this
end MiS
end
section
set_option Elab.async false
set_option linter.all false
set_option maxRecDepth 100000
set_option maxHeartbeats 0
/-! The law k74: its defs, compiled. -/
namespace K74
open PySem L2 PySem.Spec PyProof.Rows MiS
open Mi (W E Es It Tg S XE Bo Co Bi Me)
abbrev LR : PySem.W.OpenLaw := PySem.Challenge.rw_mendsnear_k74_whole_texts_of_deeds
abbrev PR : Program := PySem.Challenge.pw_mendsnear_k74_whole_texts_of_deeds
def top (i : Nat) : Stmt := PR.main.body.getD i (.Pass ⟨0, 0, 0, 0⟩)
def pe : Pe where
  fn := [("is_row", 0), ("is_between", 1), ("is_name", 2), ("number_in", 3), ("steps_in", 4), ("plan_deed", 5), ("deed_in", 6), ("words_of", 7), ("deeds_text", 8), ("pairs_in", 9), ("line_in", 10), ("deeds_fault", 11), ("read_deeds", 12), ("_law_mname", 13), ("_law_mnames", 14), ("_law_start", 15), ("_law_below", 16), ("_law_pick", 17), ("_law_mixed", 18), ("_law_same", 19), ("_law_loose", 20), ("_law_spoilt", 21), ("_law_is_once", 22), ("_law_apart", 23), ("_law_mform", 24), ("_law_msaid", 25), ("_law_mis_name", 26), ("_law_mread", 27), ("_law_mbent", 28), ("law", 29)]
  told := [("_law_mtold", 0)]
  tab := [("NAMED", 0)]
  con := [("SMALL", .str [97, 98, 99, 100, 101, 102, 103, 104, 105, 106, 107, 108, 109, 110, 111, 112, 113, 114, 115, 116, 117, 118, 119, 120, 121, 122]), ("SIGNS", .str [97, 98, 99, 100, 101, 102, 103, 104, 105, 106, 107, 108, 109, 110, 111, 112, 113, 114, 115, 116, 117, 118, 119, 120, 121, 122, 48, 49, 50, 51, 52, 53, 54, 55, 56, 57]), ("FIGURES", .str [48, 49, 50, 51, 52, 53, 54, 55, 56, 57])]
  cls := [("BadDeed", 1), ("BadText", 2)]

def des : List DE := [
  ⟨7, "is_row", ["thing"], ["thing"], false⟩,
  ⟨8, "is_between", ["thing", "low", "high"], ["thing", "low", "high"], false⟩,
  ⟨9, "is_name", ["thing"], ["thing", "sign"], false⟩,
  ⟨12, "number_in", ["word"], ["word", "sign"], false⟩,
  ⟨15, "steps_in", ["thing"], ["thing", "found", "one"], false⟩,
  ⟨16, "plan_deed", ["thing"], ["thing", "many", "steps", "word"], false⟩,
  ⟨17, "deed_in", ["thing"], ["thing", "word", "place", "one"], false⟩,
  ⟨18, "words_of", ["deed"], ["deed", "word", "found", "place", "value"], false⟩,
  ⟨19, "deeds_text", ["deeds"], ["deeds", "lines", "index", "thing", "deed", "line"], false⟩,
  ⟨20, "pairs_in", ["words"], ["words", "at"], false⟩,
  ⟨21, "line_in", ["line"], ["line", "words", "word", "number", "at", "pairs"], false⟩,
  ⟨22, "deeds_fault", ["text"], ["text", "lines", "index", "line"], false⟩,
  ⟨23, "read_deeds", ["text"], ["text", "place", "line"], false⟩,
  ⟨25, "_law_mname", ["stream"], ["stream", "signs", "name", "turn"], false⟩,
  ⟨26, "_law_mnames", ["stream", "many"], ["stream", "many", "found", "turn", "free", "k", "name"], false⟩,
  ⟨27, "_law_start", ["script"], ["script"], false⟩,
  ⟨28, "_law_below", ["stream", "many"], ["stream", "many", "mixed", "cell", "digit"], false⟩,
  ⟨29, "_law_pick", ["stream", "some"], ["stream", "some"], false⟩,
  ⟨30, "_law_mixed", ["stream", "some"], ["stream", "some", "left", "k"], false⟩,
  ⟨31, "_law_same", ["found", "due"], ["found", "due", "x", "y"], false⟩,
  ⟨32, "_law_loose", ["stream", "thing"], ["stream", "thing", "found", "part", "key"], false⟩,
  ⟨33, "_law_spoilt", ["thing"], ["thing", "key", "part"], false⟩,
  ⟨34, "_law_is_once", ["thing"], ["thing", "many", "key", "part"], false⟩,
  ⟨35, "_law_apart", ["thing"], ["thing"], false⟩,
  ⟨36, "_law_mform", ["stream"], ["stream", "names", "word", "plan", "k"], false⟩,
  ⟨37, "_law_msaid", ["deed"], ["deed", "words", "place", "value"], false⟩,
  ⟨38, "_law_mis_name", ["word"], ["word", "signs", "sign"], false⟩,
  ⟨39, "_law_mread", ["line"], ["line", "words", "many", "at", "plan", "word", "rest", "figures", "good", "sign", "k", "one"], false⟩,
  ⟨41, "_law_mbent", ["stream", "text"], ["stream", "text", "lines", "words", "place", "bent", "at", "kind", "spot", "line"], false⟩,
  ⟨42, "law", ["script"], ["script", "stream", "turn", "deeds", "text", "told", "again", "at", "bad", "odd", "bent", "read", "due", "asked", "k", "deed", "line"], true⟩]
def bodyOf (d : DE) : S := bodyC pe 30 20 d (top d.at_)
end K74
end
section
set_option Elab.async false
set_option linter.all false
set_option maxRecDepth 100000
set_option maxHeartbeats 0
/-! k74: the head. -/
namespace K74
open PySem L2 PySem.Spec PyProof.Rows MiS
open Mi (W E Es It Tg S XE Bo Co Bi Me)
abbrev R : PySem.W.OpenRow := PySem.W.OpenLaw.row LR
abbrev qv : Program := PySem.W.view R.prog [42]
def tTold : Stmt := top 40
def clsAt (i : Nat) : Stmt := inClass (top i) 0
def dOf (d : DE) : He.DefD := ⟨(d.name, none), d.name, d.name, defArgs (top d.at_), defBody (top d.at_), defScope (top d.at_), [], []⟩
def dTold : He.DefD := ⟨("_law_mtold", none), "_law_mtold", "_law_mtold", defArgs tTold, defBody tTold, defScope tTold, [], []⟩
def dInit (c : Str) (i : Nat) : He.DefD := ⟨(c, some "__init__"), "__init__", c ++ ".__init__", defArgs (clsAt i), defBody (clsAt i), defScope (clsAt i), [], []⟩
def fn : List He.DefD := dTold :: dInit "BadDeed" 2 :: dInit "BadText" 3 :: des.map dOf
def clsN (c : Nat) : Str := if c = 1 then "BadDeed" else if c = 2 then "BadText" else "MendError"
def subT (c k : Nat) : Bool := (k == 0) || ((if c = 1 then 1 else if c = 2 then 2 else 0) == k)
def fa : List He.Fa := [.glo "_law_mtold", .glo "NAMED", .glo "MendError", .glo "BadDeed", .glo "BadText"] ++ (pe.con.map fun q => match q.2 with
  | .str s => He.Fa.str q.1 (tx s)
  | _ => .free q.1) ++
  (["len", "int", "str", "list", "tuple", "sorted", "all", "any", "sum", "isinstance", "range", "enumerate", "zip", "bool", "dict"] : List String).map (fun x => .free (Str.ofString x)) ++ des.map (fun d => .glo d.name)
def named : List (W × W) := [(.str [99, 104, 97, 110, 103, 101], .int 2), (.str [112, 105, 110], .int 1), (.str [117, 110, 112, 105, 110], .int 1), (.str [97, 100, 100], .int 2), (.str [108, 101, 97, 118, 101], .int 1)]
def ts : List He.Tab := [(fun K => He.ga K "NAMED", ["change", "pin", "unpin", "add", "leave"])]
def tf : List He.Defn := [("law", none)]
def exC (K : PySem.W.Frag) (c f : Str) : Bool := oexB K (He.ga K c) && (He.eqO (PySem.W.findIn K (.ref (He.ga K c)) "__init__") (some (some (.ref (He.ma K (He.ga K c) "__init__")))) &&
  (decide (PySem.W.typeIn K (.ref (He.ma K (He.ga K c) "__init__")) = some (.type "function")) && (He.eqO (PySem.W.findIn K (.ref (He.ga K c)) f) (some none) && xfB K (He.ga K c))))
def exS (K : PySem.W.Frag) : Bool := ([0, 1, 2] : List Nat).all fun a => ([1, 2] : List Nat).all fun b => decide (PySem.W.exmOne K (.ref (He.ga K (clsN a))) (.ref (He.ga K (clsN b))) = some (subT a b))
def exB (K : PySem.W.Frag) : Bool := exC K "BadDeed" "index" && (exC K "BadText" "line" && (exS K && tabC K (He.ga K "NAMED") named))
abbrev hk : PySem.W.Hook := He.hookX 6 fa fn ts tf exB
def ob (s : PySem.W.SharedT) : He.AlX := He.obsX 6 fa fn ts tf exB (HandSHeadRun.getT s)
theorem ob_eq (s : PySem.W.SharedT) : ob s = hk.obs s.abs := He.obsX_eq (HandSHeadRun.getT_eq s)
def names1 : List Str := ["MendError", "BadDeed", "BadText", "SMALL", "SIGNS", "is_row", "is_between", "is_name", "FIGURES", "number_in", "NAMED", "steps_in", "plan_deed", "deed_in", "words_of", "deeds_text", "pairs_in", "line_in", "deeds_fault", "read_deeds"]
def names2 : List Str := ["_law_mname", "_law_mnames", "_law_start", "_law_below", "_law_pick", "_law_mixed", "_law_same", "_law_loose", "_law_spoilt", "_law_is_once", "_law_apart", "_law_mform", "_law_msaid", "_law_mis_name", "_law_mread", "_law_mtold", "_law_mbent"]
def names : List Str := names1 ++ names2
theorem run (w : World) : HandSHeadRun.RunEq R qv hk ob 4000 names w :=
  PySem.W.byRow2 "special-get-raises" (P := fun w => HandSHeadRun.RunEq R qv hk ob 4000 names w) (fun w => by intro os; kernel_rfl) (fun w => by intro os; kernel_rfl) w
end K74
end
section
set_option Elab.async false
set_option linter.all false
set_option maxRecDepth 100000
set_option maxHeartbeats 0
/-! k74: the end, the plain law aside. -/
namespace K74
open PySem L2 PySem.Spec PyProof.Rows MiS
open Mi (W E Es It Tg S XE Bo Co Bi Me)
/-- how a def's arguments bind -/
def BindD (d : DE) : Prop := ∀ (kV doc pm : Value) (an : Option Addr) (cdv ct : Value) (us : List Value), us.length = d.ps.length → bindArgs (PySem.W.fnOf d.name d.name (defArgs (top d.at_)) (defBody (top d.at_)) (defScope (top d.at_)) .none kV doc pm an cdv ct) ⟨us, []⟩ = pure (d.ps.zip us)
theorem bd0 : BindD (des.getD 0 ⟨0, "", [], [], false⟩) := fun _ _ _ _ _ _ us hl => match us, hl with | [_], _ => rfl
theorem bd1 : BindD (des.getD 1 ⟨0, "", [], [], false⟩) := fun _ _ _ _ _ _ us hl => match us, hl with | [_, _, _], _ => rfl
theorem bd2 : BindD (des.getD 2 ⟨0, "", [], [], false⟩) := fun _ _ _ _ _ _ us hl => match us, hl with | [_], _ => rfl
theorem bd3 : BindD (des.getD 3 ⟨0, "", [], [], false⟩) := fun _ _ _ _ _ _ us hl => match us, hl with | [_], _ => rfl
theorem bd4 : BindD (des.getD 4 ⟨0, "", [], [], false⟩) := fun _ _ _ _ _ _ us hl => match us, hl with | [_], _ => rfl
theorem bd5 : BindD (des.getD 5 ⟨0, "", [], [], false⟩) := fun _ _ _ _ _ _ us hl => match us, hl with | [_], _ => rfl
theorem bd6 : BindD (des.getD 6 ⟨0, "", [], [], false⟩) := fun _ _ _ _ _ _ us hl => match us, hl with | [_], _ => rfl
theorem bd7 : BindD (des.getD 7 ⟨0, "", [], [], false⟩) := fun _ _ _ _ _ _ us hl => match us, hl with | [_], _ => rfl
theorem bd8 : BindD (des.getD 8 ⟨0, "", [], [], false⟩) := fun _ _ _ _ _ _ us hl => match us, hl with | [_], _ => rfl
theorem bd9 : BindD (des.getD 9 ⟨0, "", [], [], false⟩) := fun _ _ _ _ _ _ us hl => match us, hl with | [_], _ => rfl
theorem bd10 : BindD (des.getD 10 ⟨0, "", [], [], false⟩) := fun _ _ _ _ _ _ us hl => match us, hl with | [_], _ => rfl
theorem bd11 : BindD (des.getD 11 ⟨0, "", [], [], false⟩) := fun _ _ _ _ _ _ us hl => match us, hl with | [_], _ => rfl
theorem bd12 : BindD (des.getD 12 ⟨0, "", [], [], false⟩) := fun _ _ _ _ _ _ us hl => match us, hl with | [_], _ => rfl
theorem bd13 : BindD (des.getD 13 ⟨0, "", [], [], false⟩) := fun _ _ _ _ _ _ us hl => match us, hl with | [_], _ => rfl
theorem bd14 : BindD (des.getD 14 ⟨0, "", [], [], false⟩) := fun _ _ _ _ _ _ us hl => match us, hl with | [_, _], _ => rfl
theorem bd15 : BindD (des.getD 15 ⟨0, "", [], [], false⟩) := fun _ _ _ _ _ _ us hl => match us, hl with | [_], _ => rfl
theorem bd16 : BindD (des.getD 16 ⟨0, "", [], [], false⟩) := fun _ _ _ _ _ _ us hl => match us, hl with | [_, _], _ => rfl
theorem bd17 : BindD (des.getD 17 ⟨0, "", [], [], false⟩) := fun _ _ _ _ _ _ us hl => match us, hl with | [_, _], _ => rfl
theorem bd18 : BindD (des.getD 18 ⟨0, "", [], [], false⟩) := fun _ _ _ _ _ _ us hl => match us, hl with | [_, _], _ => rfl
theorem bd19 : BindD (des.getD 19 ⟨0, "", [], [], false⟩) := fun _ _ _ _ _ _ us hl => match us, hl with | [_, _], _ => rfl
theorem bd20 : BindD (des.getD 20 ⟨0, "", [], [], false⟩) := fun _ _ _ _ _ _ us hl => match us, hl with | [_, _], _ => rfl
theorem bd21 : BindD (des.getD 21 ⟨0, "", [], [], false⟩) := fun _ _ _ _ _ _ us hl => match us, hl with | [_], _ => rfl
theorem bd22 : BindD (des.getD 22 ⟨0, "", [], [], false⟩) := fun _ _ _ _ _ _ us hl => match us, hl with | [_], _ => rfl
theorem bd23 : BindD (des.getD 23 ⟨0, "", [], [], false⟩) := fun _ _ _ _ _ _ us hl => match us, hl with | [_], _ => rfl
theorem bd24 : BindD (des.getD 24 ⟨0, "", [], [], false⟩) := fun _ _ _ _ _ _ us hl => match us, hl with | [_], _ => rfl
theorem bd25 : BindD (des.getD 25 ⟨0, "", [], [], false⟩) := fun _ _ _ _ _ _ us hl => match us, hl with | [_], _ => rfl
theorem bd26 : BindD (des.getD 26 ⟨0, "", [], [], false⟩) := fun _ _ _ _ _ _ us hl => match us, hl with | [_], _ => rfl
theorem bd27 : BindD (des.getD 27 ⟨0, "", [], [], false⟩) := fun _ _ _ _ _ _ us hl => match us, hl with | [_], _ => rfl
theorem bd28 : BindD (des.getD 28 ⟨0, "", [], [], false⟩) := fun _ _ _ _ _ _ us hl => match us, hl with | [_, _], _ => rfl
theorem bd29 : BindD (des.getD 29 ⟨0, "", [], [], false⟩) := fun _ _ _ _ _ _ us hl => match us, hl with | [_], _ => rfl
theorem bds : ∀ d ∈ des, BindD d := by
  intro d hd
  simp only [des, List.mem_cons, List.not_mem_nil, or_false] at hd
  rcases hd with rfl | rfl | rfl | rfl | rfl | rfl | rfl | rfl | rfl | rfl | rfl | rfl | rfl | rfl | rfl | rfl | rfl | rfl | rfl | rfl | rfl | rfl | rfl | rfl | rfl | rfl | rfl | rfl | rfl | rfl
  · exact bd0
  · exact bd1
  · exact bd2
  · exact bd3
  · exact bd4
  · exact bd5
  · exact bd6
  · exact bd7
  · exact bd8
  · exact bd9
  · exact bd10
  · exact bd11
  · exact bd12
  · exact bd13
  · exact bd14
  · exact bd15
  · exact bd16
  · exact bd17
  · exact bd18
  · exact bd19
  · exact bd20
  · exact bd21
  · exact bd22
  · exact bd23
  · exact bd24
  · exact bd25
  · exact bd26
  · exact bd27
  · exact bd28
  · exact bd29
end K74
end
section
set_option Elab.async false
set_option linter.all false
set_option maxRecDepth 100000
set_option maxHeartbeats 0
/-! k74: the end, the plain law aside. -/
namespace K74
open PySem L2 PySem.Spec PyProof.Rows MiS
open Mi (W E Es It Tg S XE Bo Co Bi Me)
def wf : Nat := 100
def lvN : Nat := 25
def toldT : Mi.Told := ⟨[116, 111, 108, 100], [(2, .cons (.con (.str [116, 101, 120, 116])) (.cons (.fld 0) .nil)), (1, .cons (.con (.str [100, 101, 101, 100])) (.cons (.fld 0) .nil))]⟩
def toldH : List (Nat × Nat × XE) := [(2, 1, .cons (.con (.str [116, 101, 120, 116])) (.cons (.fld 0) .nil)), (1, 1, .cons (.con (.str [100, 101, 101, 100])) (.cons (.fld 0) .nil))]
def Pr : Mi.Prog where
  fns := fun i => (des[i]?).map fun d => ⟨d.ps.length, d.N.length, bodyOf d⟩
  tolds := fun i => if i = 0 then some toldT else none
  tab := fun _ => named
  sub := subT
def En (i : Nat) : Option (DE × Stmt) := (des[i]?).map fun d => (d, top d.at_)
def GK (K : PySem.W.Frag) : Gv := ⟨K, [((He.cT K ("law", none)).2, "law" ++ ".<locals>." ++ "<lambda>")], fun c => He.ga K (clsN c), fun c => if c = 1 then ["index"] else if c = 2 then ["line"] else []⟩
theorem scAll : (des.all fun d => scB d.N d.ps (defScope (top d.at_))) = true := by decide +kernel
theorem fnAll : fnB pe.fn des = true := by decide +kernel
theorem lamOne : ∀ d ∈ des, d.lam = true → d = ⟨42, "law", ["script"], ["script", "stream", "turn", "deeds", "text", "told", "again", "at", "bad", "odd", "bent", "read", "due", "asked", "k", "deed", "line"], true⟩ := by
  intro d hd
  simp only [des, List.mem_cons, List.not_mem_nil, or_false] at hd
  rcases hd with rfl | rfl | rfl | rfl | rfl | rfl | rfl | rfl | rfl | rfl | rfl | rfl | rfl | rfl | rfl | rfl | rfl | rfl | rfl | rfl | rfl | rfl | rfl | rfl | rfl | rfl | rfl | rfl | rfl | rfl <;> intro h <;> first | rfl | cases h
section
variable {w : World} {K : PySem.W.Frag} {h base : Heap} {mg : Str → Option Value}
theorem fa_in {f : He.Fa} (hf : f ∈ fa) (c : He.SaysX fa fn ts tf exB w h K) : f.ok K = true := c.t.d.facts hf
theorem glo_des (X : K.In h) (Gm : h.Ns mainGlobals mg) (c : He.SaysX fa fn ts tf exB w h K) {d : DE} (hd : d ∈ des) : mg d.name = some (.ref (He.ga K d.name)) :=
  He.glo_ok X Gm (fa_in (List.mem_append_right _ (List.mem_map.mpr ⟨d, hd, rfl⟩)) c)
theorem exc_of {c f : Str} (h : exC K c f = true) : OexC K (He.ga K c) ∧ PySem.W.findIn K (.ref (He.ga K c)) "__init__" = some (some (.ref (He.ma K (He.ga K c) "__init__"))) ∧ PySem.W.typeIn K (.ref (He.ma K (He.ga K c) "__init__")) = some (.type "function") ∧ PySem.W.findIn K (.ref (He.ga K c)) f = some none ∧ XfC K (He.ga K c) := by
  obtain ⟨h1, h⟩ := He.ba h
  obtain ⟨h2, h⟩ := He.ba h
  obtain ⟨h3, h⟩ := He.ba h
  obtain ⟨h4, h5⟩ := He.ba h
  exact ⟨oexB_ok h1, He.eqO_ok h2, of_decide_eq_true h3, He.eqO_ok h4, xfB_ok h5⟩
theorem subs (h : exS K = true) (a b : Nat) (hb : b = 1 ∨ b = 2) : PySem.W.exmOne K (.ref (He.ga K (clsN a))) (.ref (He.ga K (clsN b))) = some (subT a b) := by
  have key : ∀ a ∈ ([0, 1, 2] : List Nat), ∀ b ∈ ([1, 2] : List Nat), PySem.W.exmOne K (.ref (He.ga K (clsN a))) (.ref (He.ga K (clsN b))) = some (subT a b) := fun a ha b hb => of_decide_eq_true (List.all_eq_true.mp (List.all_eq_true.mp h a ha) b hb)
  have hb' : b ∈ ([1, 2] : List Nat) := by rcases hb with rfl | rfl <;> simp
  by_cases h1 : a = 1
  · subst h1; exact key 1 (by simp) b hb'
  · by_cases h2 : a = 2
    · subst h2; exact key 2 (by simp) b hb'
    · have e1 : clsN a = clsN 0 := by unfold clsN; simp [h1, h2]
      have e2 : subT a b = subT 0 b := by unfold subT; simp [h1, h2]
      rw [e1, e2]
      exact key 0 (by simp) b hb'
theorem init_fn {P : Program} {i : Nat} {c f : Str} {fd : FuncData} {a b : Str} {p1 p2 p3 p4 : Pos} (F : FunD K (dInit c i).name (dInit c i).qual (dInit c i).params (dInit c i).body (dInit c i).scope [] [] (He.fAd K (c, some "__init__")) fd) (hbd : defBody (clsAt i) = [.Assign [.Attribute (.Name a p1) f p2] (.Name b p3) p4])
    (sc : scB [a, b] [a, b] (defScope (clsAt i)) = true) (ha : visB (defScope (clsAt i)) a = true) (hb : visB (defScope (clsAt i)) b = true) (oa : okN a = true) (ob : okN b = true) (e : exC K c f = true) : FnOk P w K mg base (L2.CX P w) 1 (He.fAd K (c, some "__init__")) fd [a, b] (SpI (He.ga K c) f) := by
  obtain ⟨T, _, _, hno, _⟩ := exc_of e
  have F' : FunD K (dInit c i).name (dInit c i).qual (dInit c i).params [.Assign [.Attribute (.Name a p1) f p2] (.Name b p3) p4] (dInit c i).scope [] [] (He.fAd K (c, some "__init__")) fd := by
    rw [← hbd]; exact F
  exact init_ok F' (scB_ok sc) T hno ha hb oa ob
theorem told_wd {X : K.In h} (Gm : h.Ns mainGlobals mg) (c : He.SaysX fa fn ts tf exB w h K) (n : Nat) : ToldR (GK K) (Mi.clOf Pr wf n) PR w K mg base "_law_mtold" 0 := by
  obtain ⟨fd, F⟩ := c.t.d.defs (d := dTold) (List.mem_cons_self ..)
  have g : mg "_law_mtold" = some (.ref (He.ga K "_law_mtold")) := He.glo_ok X Gm (fa_in (f := .glo "_law_mtold") (List.mem_append_left _ (List.mem_append_left _ (List.mem_append_left _ (by simp)))) c)
  have hb : L2.Binds K fd ["call"] [] := F.bindsN fun _ _ _ _ _ _ us hl => match us, hl with | [_], _ => rfl
  obtain ⟨m1, m2⟩ := He.ba c.more
  obtain ⟨m2, m3⟩ := He.ba m2
  obtain ⟨m3, m4⟩ := He.ba m3
  obtain ⟨_, _, _, no1, x1⟩ := exc_of m1
  obtain ⟨_, _, _, no2, x2⟩ := exc_of m2
  have gD : mg "BadDeed" = some (.ref (He.ga K "BadDeed")) := He.glo_ok X Gm (fa_in (f := .glo "BadDeed") (List.mem_append_left _ (List.mem_append_left _ (List.mem_append_left _ (by simp)))) c)
  have gT : mg "BadText" = some (.ref (He.ga K "BadText")) := He.glo_ok X Gm (fa_in (f := .glo "BadText") (List.mem_append_left _ (List.mem_append_left _ (List.mem_append_left _ (by simp)))) c)
  have Sc : FnScope ["call", "e"] ["call"] (defScope tTold) := scB_ok (by decide +kernel)
  refine toldR_of (Ng := ["call", "e"]) (a := "call") (t := toldT) (hs := toldH) rfl F g hb Sc rfl (by decide +kernel) (by decide +kernel) (by decide +kernel) rfl rfl (by decide) (fun a p hp => ?_) fun Z q cdg e1 e2 => ?_
  · have : p.1 = 1 ∨ p.1 = 2 := by
      simp only [toldH, List.mem_cons, List.not_mem_nil, or_false] at hp
      rcases hp with rfl | rfl
      · exact .inr rfl
      · exact .inl rfl
    exact subs m3 a p.1 this
  · refine toldm_gives (G := GK K) (tag := toldT.tag) (hs := toldH) (by decide +kernel) (fun _ => rfl) e1 fun s H => ?_
    refine .consA (i := 1) rfl rfl ⟨rfl, by decide +kernel, .inl (by show Z.mg "BadText" = _; rw [e2]; exact gT)⟩ (fun a oe cls d pn hz hf => hd_tag (G := GK K) (k := 2) (tag := "text") e1 (show XfC Z.K ((GK K).cl 2) from by rw [e1]; exact x2) (show PySem.W.findIn Z.K (.ref ((GK K).cl 2)) "line" = some none from by rw [e1]; exact no2) hz hf rfl rfl (show Vis (defScope tTold) "e" from vis_of (by decide +kernel)) (by decide +kernel)) ?_
    refine .consA (i := 1) rfl rfl ⟨rfl, by decide +kernel, .inl (by show Z.mg "BadDeed" = _; rw [e2]; exact gD)⟩ (fun a oe cls d pn hz hf => hd_tag (G := GK K) (k := 1) (tag := "deed") e1 (show XfC Z.K ((GK K).cl 1) from by rw [e1]; exact x1) (show PySem.W.findIn Z.K (.ref ((GK K).cl 1)) "index" = some none from by rw [e1]; exact no1) hz hf rfl rfl (show Vis (defScope tTold) "e" from vis_of (by decide +kernel)) (by decide +kernel)) .nil
theorem wld (X : K.In h) (Gm : h.Ns mainGlobals mg) (c : He.SaysX fa fn ts tf exB w h K) (hT : ∀ p ∈ [He.cT K ("law", none)], LamX.TabB base mg p.1 p.2) : Wld (GK K) pe Pr wf 30 20 PR w K mg base En := by
  obtain ⟨m1, m2⟩ := He.ba c.more
  obtain ⟨m2, m3⟩ := He.ba m2
  obtain ⟨m3, m4⟩ := He.ba m3
  refine { eK := rfl, ent := ?ent, fn := ?fn, con := ?con, tab := ?tab, told := ?told, cls := ?cls, blt := ?blt }
  case ent =>
    intro i d st e
    unfold En at e
    cases hd : des[i]? with
    | none => rw [hd] at e; cases e
    | some d' =>
      rw [hd] at e
      cases e
      have md : d ∈ des := List.mem_of_getElem? hd
      obtain ⟨fd, F⟩ := c.t.d.defs (d := dOf d) (List.mem_cons_of_mem _ (List.mem_cons_of_mem _ (List.mem_cons_of_mem _ (List.mem_map.mpr ⟨d, md, rfl⟩))))
      refine ⟨He.ga K d.name, fd, ⟨F, glo_des X Gm c md, FunD.bindsN F (bds d md), scB_ok (List.all_eq_true.mp scAll d md)⟩, by show (des[i]?).map _ = _; rw [hd]; rfl, fun hl => ?_⟩
      have ed := lamOne d md hl
      subst ed
      obtain ⟨oc, od, dV, kV, doc, pm, an, cdv, ct, osl, rfl, lk, hcd, _, _⟩ := F.ex
      obtain ⟨cc, ec⟩ := He.codeIn_ref hcd
      have e1 : He.codeOf K ("law", none) = cc := He.codeOf_eq (p := ("law", none)) lk ec
      refine ⟨cc, (He.cT K ("law", none)).2, ec, ?_, by simp [GK], fun q hq hp => ?_⟩
      · have := hT _ (List.mem_cons_self ..)
        rw [show (He.cT K ("law", none)).1 = cc from e1] at this
        exact this
      · have : q ∈ ([((He.cT K ("law", none)).2, ("law" : Str) ++ ".<locals>." ++ "<lambda>")] : List (Addr × Str)) := hq
        rw [List.mem_singleton.mp this]
  case fn =>
    intro x i e
    exact fnB_ok fnAll e
  case con =>
    intro x v e
    have m := PySem.mem_of_lookup e
    have sl : ∃ s, v = .str s := by
      have q : (pe.con.all fun q => match q.2 with | .str _ => true | _ => false) = true := by decide
      have := List.all_eq_true.mp q _ m
      simp only at this
      split at this
      · exact ⟨_, rfl⟩
      · cases this
    obtain ⟨s, rfl⟩ := sl
    obtain ⟨t, ht⟩ := He.str_ok X Gm (fa_in (f := .str x (tx s)) (List.mem_append_left _ (List.mem_append_left _ (List.mem_append_right _ (List.mem_map.mpr ⟨_, m, rfl⟩)))) c)
    exact ⟨.str (tx s), _, ht, ⟨t, rfl⟩, fun _ _ _ => .str s⟩
  case tab =>
    intro x d e
    have m := PySem.mem_of_lookup e
    have : (x, d) = (("NAMED" : Str), (0 : Nat)) := List.mem_singleton.mp m
    cases this
    have g : mg "NAMED" = some (.ref (He.ga K "NAMED")) := He.glo_ok X Gm (fa_in (f := .glo "NAMED") (List.mem_append_left _ (List.mem_append_left _ (List.mem_append_left _ (by simp)))) c)
    exact ⟨_, g, tabC_ok (c.t.tab 0 rfl) m4⟩
  case told =>
    intro n x i e
    have m := PySem.mem_of_lookup e
    have : (x, i) = (("_law_mtold" : Str), (0 : Nat)) := List.mem_singleton.mp m
    cases this
    exact told_wd (X := X) Gm c n
  case cls =>
    intro x n e
    have m := PySem.mem_of_lookup e
    simp only [pe, List.mem_cons, List.not_mem_nil, or_false] at m
    rcases m with m | m
    · cases m
      obtain ⟨fd, F⟩ := c.t.d.defs (d := dInit "BadDeed" 2) (List.mem_cons_of_mem _ (List.mem_cons_self ..))
      obtain ⟨T, f1, f2, _, _⟩ := exc_of m1
      exact ⟨He.glo_ok X Gm (fa_in (f := .glo "BadDeed") (List.mem_append_left _ (List.mem_append_left _ (List.mem_append_left _ (by simp)))) c), T, _, fd, ["self", "index"], "index", f1, f2, init_fn F rfl (by decide +kernel) (by decide +kernel) (by decide +kernel) (by decide +kernel) (by decide +kernel) m1, F.bindsN (fun _ _ _ _ _ _ us hl => match us, hl with | [_, _], _ => rfl), rfl⟩
    · cases m
      obtain ⟨fd, F⟩ := c.t.d.defs (d := dInit "BadText" 3) (List.mem_cons_of_mem _ (List.mem_cons_of_mem _ (List.mem_cons_self ..)))
      obtain ⟨T, f1, f2, _, _⟩ := exc_of m2
      exact ⟨He.glo_ok X Gm (fa_in (f := .glo "BadText") (List.mem_append_left _ (List.mem_append_left _ (List.mem_append_left _ (by simp)))) c), T, _, fd, ["self", "line"], "line", f1, f2, init_fn F rfl (by decide +kernel) (by decide +kernel) (by decide +kernel) (by decide +kernel) (by decide +kernel) m2, F.bindsN (fun _ _ _ _ _ _ us hl => match us, hl with | [_, _], _ => rfl), rfl⟩
  case blt =>
    intro x hx
    exact He.free_ok X Gm (fa_in (f := .free (Str.ofString x)) (List.mem_append_left _ (List.mem_append_right _ (List.mem_map.mpr ⟨x, hx, rfl⟩))) c)
/-- the law's statements behind the first -/
def rest : List Stmt := (defBody (top 42)).tail
def dLaw : DE := ⟨42, "law", ["script"], ["script", "stream", "turn", "deeds", "text", "told", "again", "at", "bad", "odd", "bent", "read", "due", "asked", "k", "deed", "line"], true⟩
/-- the plain law -/
def Plain74 : Prop := ∀ l : List Int, l.length ≤ 63 → ∃ hf, Mi.ex (Mi.clOf Pr wf lvN) wf (sqL (rest.map (cS pe 30 20 (cxD dLaw (top 42))))) (fr0 17) (heap0 l 43) = .rt (.bl true) hf
theorem law_at (hp : Plain74) (X : K.In h) (Gm : h.Ns mainGlobals mg) (c : He.SaysX fa fn ts tf exB w h K) {f : Addr} (hf : mg "law" = some (.ref f)) : LamX.LawAtS LR w K (L2.CX PR w) (3 * lvN + 5) 63 "script" mg f h := by
  have mL : dLaw ∈ des := by unfold des dLaw; simp
  have mS : (⟨27, "_law_start", ["script"], ["script"], false⟩ : DE) ∈ des := by unfold des; simp
  obtain ⟨fd, F⟩ := c.t.d.defs (d := dOf dLaw) (List.mem_cons_of_mem _ (List.mem_cons_of_mem _ (List.mem_cons_of_mem _ (List.mem_map.mpr ⟨dLaw, mL, rfl⟩))))
  obtain ⟨fdS, FS⟩ := c.t.d.defs (d := dOf ⟨27, "_law_start", ["script"], ["script"], false⟩) (List.mem_cons_of_mem _ (List.mem_cons_of_mem _ (List.mem_cons_of_mem _ (List.mem_map.mpr ⟨_, mS, rfl⟩))))
  have ef : f = He.ga K "law" := by
    have e := hf.symm.trans (glo_des X Gm c mL)
    cases e
    rfl
  subst ef
  have fE : FnE K mg dLaw (top 42) (He.ga K "law") fd := ⟨F, glo_des X Gm c mL, FunD.bindsN F (bds dLaw mL), scB_ok (List.all_eq_true.mp scAll dLaw mL)⟩
  refine ⟨fd, [He.cT K ("law", none)], SpLaw (GK K) K 63, fun p hp => c.empty ("law", none) (List.mem_cons_self ..) |> fun z => by rw [List.mem_singleton.mp hp]; exact z, fun p hp => by rw [List.mem_singleton.mp hp]; exact c.out ("law", none) (List.mem_cons_self ..), fun p hp => by rw [List.mem_singleton.mp hp]; exact PySem.W.codeHd_of_K X (c.hd ("law", none) (List.mem_cons_self ..)), fun s u => ?_, fun H a ns hl _ hH hS => ?_, fun base Xb Gb TB => ?_⟩
  · exact FunD.bindsA (ps := ["script"]) F (bds dLaw mL) s [u] rfl
  · refine ⟨a, ns, rfl, hl, hS, fun p hp => ?_, fun _ => rfl⟩
    have : p ∈ ([((He.cT K ("law", none)).2, ("law" : Str) ++ ".<locals>." ++ "<lambda>")] : List (Addr × Str)) := hp
    rw [List.mem_singleton.mp this]
    exact LamX.TabS.nil (hH _ (List.mem_cons_self ..))
  · have Wd := wld (base := base) X Gm c TB
    have st := start_ok (P := PR) (w := w) (K := K) (mg := mg) (base := base) (c0 := 43) (s := "script") FS (scB_ok (by decide +kernel)) rfl (Wd.blt "list" (by decide)) (by decide +kernel) (by decide +kernel)
    have lam : dLaw.lam = true → LamD (GK K) mg base dLaw fd := by
      intro hl
      obtain ⟨f', fd', F', _, lam⟩ := Wd.ent 29 dLaw (top 42) rfl
      have g1 := F'.g
      have g2 := fE.g
      rw [g1] at g2
      cases g2
      obtain ⟨_, _, _, _, _, _, _, _, _, _, q1, lk1, _⟩ := F'.F.ex
      obtain ⟨_, _, _, _, _, _, _, _, _, _, q2, lk2, _⟩ := F.ex
      have : (He.fAd K (dOf dLaw).at_) = He.ga K "law" := rfl
      rw [this, lk1] at lk2
      cases lk2
      exact lam hl
    exact law_ok Wd (n := lvN) (st := top 42) (c0 := 43) (most := 63) (rest := rest) (by rw [sizeLine_eq]; decide) fE lam rfl rfl rfl rfl (by decide +kernel) (by decide +kernel) (by decide +kernel) (by decide +kernel) (by decide +kernel) (glo_des X Gm c mS) FS.kp (FunD.bindsN FS (bds _ mS)) st hp
end
end K74
open PySem PySem.W PySem.Calls PyProof.Rows
theorem k74_of (hp : K74.Plain74) : PySem.Challenge.rw_mendsnear_k74_whole_texts_of_deeds.Holds := by
  w_on; o_law
  refine HandSHeadRun.head_any (r := K74.R) (q := K74.qv) (H := K74.hk) (ob := K74.ob) (M := 4000) (loose := K74.names) (d := HandSHeadRun.topDef K74.R.prog 42) (kwd := []) K74.ob_eq
    (by kernel_rfl) (fun s => by kernel_rfl) K74.run (by kernel_rfl) (by kernel_rfl) (by kernel_rfl) (by rfl) (by first | assumption | decide +kernel) (by decide +kernel) ⟨rfl, rfl, rfl, rfl, rfl, by decide +kernel⟩ ?hw ?hc
  case hw => w_witness2
  case hc =>
    refine LamX.walk_ofTsE (l := PySem.Challenge.rw_mendsnear_k74_whole_texts_of_deeds) (n := 63) (k := 3 * K74.lvN + 5) (x := "script") (CX := fun w => L2.CX K74.PR w) rfl (by rw [sizeLine_eq]; decide) (by kernel_rfl) ⟨rfl, by decide, by decide⟩ ?F (fun w H s e s' z => ?G)
    case F =>
      intro w mg fa h Y G hmg0
      obtain ⟨K, KX, c⟩ := Y
      have hmg : mg ("law" : PySem.Str) = some (.ref fa) := by
        have e : (HandSHeadRun.topDef K74.R.prog 42).name = ("law" : PySem.Str) := by kernel_rfl
        rw [← e]
        exact hmg0
      exact ⟨K, KX, K74.law_at hp KX G c hmg⟩
    case G =>
      obtain ⟨_, _, _, _, _, _, _, _, _, _, _, _, q⟩ := z
      exact q
end
section
set_option Elab.async false
set_option linter.all false
set_option maxRecDepth 100000
set_option maxHeartbeats 0
/-! k74: the compiled defs, written out. -/
namespace K74
open Mi
def SMALL : Tx := [97, 98, 99, 100, 101, 102, 103, 104, 105, 106, 107, 108, 109, 110, 111, 112, 113, 114, 115, 116, 117, 118, 119, 120, 121, 122]
def SIGNS : Tx := [97, 98, 99, 100, 101, 102, 103, 104, 105, 106, 107, 108, 109, 110, 111, 112, 113, 114, 115, 116, 117, 118, 119, 120, 121, 122, 48, 49, 50, 51, 52, 53, 54, 55, 56, 57]
def FIGS : Tx := [48, 49, 50, 51, 52, 53, 54, 55, 56, 57]
/-- is_row -/
def b0 : S :=
  S.seq (S.ret (E.isi (E.var 0) [Ty.lst, Ty.tup])) S.skip
/-- is_between -/
def b1 : S :=
  S.seq
    (S.ret
      (E.and (E.isi (E.var 0) [Ty.int])
        (E.and (E.not (E.isi (E.var 0) [Ty.bl])) (E.chain Co.le Co.le (E.var 1) (E.var 0) (E.var 2)))))
    S.skip
/-- is_name -/
def b2 : S :=
  S.seq
    (S.iff
      (E.or (E.not (E.isi (E.var 0) [Ty.str]))
        (E.or
          (E.not
            (E.chain Co.le Co.le (E.con (W.int 1)) (E.bi Bi.len (Es.cons (E.var 0) Es.nil))
              (E.con (W.int 8))))
          (E.cmp Co.notin (E.idx (E.var 0) (E.con (W.int 0)))
            (E.con
              (W.str
                SMALL)))))
      (S.seq (S.ret (E.con (W.bl false))) S.skip) S.skip)
    (S.seq
      (S.ret
        (E.bi Bi.all
          (Es.cons
            (E.comp [1] (Tg.nm 1) (It.val (E.var 0)) Es.nil
              (E.cmp Co.isin (E.var 1)
                (E.con
                  (W.str
                    SIGNS))))
            Es.nil)))
      S.skip)
/-- number_in -/
def b3 : S :=
  S.seq
    (S.iff
      (E.or
        (E.not
          (E.chain Co.le Co.le (E.con (W.int 1)) (E.bi Bi.len (Es.cons (E.var 0) Es.nil))
            (E.con (W.int 9))))
        (E.and (E.cmp Co.eq (E.idx (E.var 0) (E.con (W.int 0))) (E.con (W.str [48])))
          (E.cmp Co.gt (E.bi Bi.len (Es.cons (E.var 0) Es.nil)) (E.con (W.int 1)))))
      (S.seq (S.ret (E.con W.non)) S.skip) S.skip)
    (S.seq
      (S.ret
        (E.ite
          (E.bi Bi.all
            (Es.cons
              (E.comp [1] (Tg.nm 1) (It.val (E.var 0)) Es.nil
                (E.cmp Co.isin (E.var 1) (E.con (W.str FIGS))))
              Es.nil))
          (E.bi Bi.int (Es.cons (E.var 0) Es.nil)) (E.con W.non)))
      S.skip)
/-- steps_in -/
def b4 : S :=
  S.seq (S.iff (E.not (E.call 0 (Es.cons (E.var 0) Es.nil))) (S.seq (S.ret (E.con W.non)) S.skip) S.skip)
    (S.seq (S.asg (Tg.nm 1) (E.lst Es.nil))
      (S.seq
        (S.for (Tg.nm 2) (It.val (E.var 0))
          (S.seq
            (S.iff
              (E.or (E.not (E.call 0 (Es.cons (E.var 2) Es.nil)))
                (E.or (E.cmp Co.ne (E.bi Bi.len (Es.cons (E.var 2) Es.nil)) (E.con (W.int 2)))
                  (E.or (E.not (E.call 2 (Es.cons (E.idx (E.var 2) (E.con (W.int 0))) Es.nil)))
                    (E.not (E.call 2 (Es.cons (E.idx (E.var 2) (E.con (W.int 1))) Es.nil))))))
              (S.seq (S.ret (E.con W.non)) S.skip) S.skip)
            (S.seq
              (S.ex
                (E.me Me.append (E.var 1)
                  (Es.cons
                    (E.tup
                      (Es.cons (E.idx (E.var 2) (E.con (W.int 0)))
                        (Es.cons (E.idx (E.var 2) (E.con (W.int 1))) Es.nil)))
                    Es.nil)))
              S.skip)))
        (S.seq (S.ret (E.bi Bi.tuple (Es.cons (E.var 1) Es.nil))) S.skip)))
/-- plan_deed -/
def b5 : S :=
  S.seq
    (S.asg (Tg.nm 1)
      (E.ite (E.cmp Co.eq (E.idx (E.var 0) (E.con (W.int 0))) (E.con (W.str [109, 101, 110, 100])))
        (E.con (W.int 4)) (E.con (W.int 2))))
    (S.seq
      (S.iff
        (E.or (E.cmp Co.ne (E.bi Bi.len (Es.cons (E.var 0) Es.nil)) (E.var 1))
          (E.not
            (E.bi Bi.all
              (Es.cons
                (E.comp [3] (Tg.nm 3)
                  (It.val
                    (E.slc (E.var 0) (Es.cons (E.con (W.int 1)) Es.nil)
                      (Es.cons (E.neg (E.con (W.int 1))) Es.nil)))
                  Es.nil (E.call 2 (Es.cons (E.var 3) Es.nil)))
                Es.nil))))
        (S.seq (S.ret (E.con W.non)) S.skip) S.skip)
      (S.seq (S.asg (Tg.nm 2) (E.call 4 (Es.cons (E.idx (E.var 0) (E.neg (E.con (W.int 1)))) Es.nil)))
        (S.seq
          (S.ret
            (E.ite (E.cmp Co.is (E.var 2) (E.con W.non)) (E.con W.non)
              (E.bin Bo.add
                (E.bi Bi.tuple
                  (Es.cons (E.slc (E.var 0) Es.nil (Es.cons (E.neg (E.con (W.int 1))) Es.nil)) Es.nil))
                (E.tup (Es.cons (E.var 2) Es.nil)))))
          S.skip)))
/-- deed_in -/
def b6 : S :=
  S.seq
    (S.iff
      (E.or (E.not (E.call 0 (Es.cons (E.var 0) Es.nil)))
        (E.or (E.not (E.var 0)) (E.not (E.isi (E.idx (E.var 0) (E.con (W.int 0))) [Ty.str]))))
      (S.seq (S.ret (E.con W.non)) S.skip) S.skip)
    (S.seq (S.asg (Tg.nm 1) (E.idx (E.var 0) (E.con (W.int 0))))
      (S.seq
        (S.iff (E.kin 0 false (E.var 1))
          (S.seq
            (S.iff
              (E.or
                (E.cmp Co.ne (E.bi Bi.len (Es.cons (E.var 0) Es.nil))
                  (E.bin Bo.add (E.kget 0 (E.var 1)) (E.con (W.int 1))))
                (E.not
                  (E.bi Bi.all
                    (Es.cons
                      (E.comp [3] (Tg.nm 3)
                        (It.val (E.slc (E.var 0) (Es.cons (E.con (W.int 1)) Es.nil) Es.nil)) Es.nil
                        (E.call 2 (Es.cons (E.var 3) Es.nil)))
                      Es.nil))))
              (S.seq (S.ret (E.con W.non)) S.skip) S.skip)
            (S.seq (S.ret (E.bi Bi.tuple (Es.cons (E.var 0) Es.nil))) S.skip))
          S.skip)
        (S.seq
          (S.iff (E.cmp Co.eq (E.var 1) (E.con (W.str [116, 97, 107, 101])))
            (S.seq
              (S.ret
                (E.ite
                  (E.and (E.cmp Co.eq (E.bi Bi.len (Es.cons (E.var 0) Es.nil)) (E.con (W.int 2)))
                    (E.call 1
                      (Es.cons (E.idx (E.var 0) (E.con (W.int 1)))
                        (Es.cons (E.con (W.int 0)) (Es.cons (E.con (W.int 999999999)) Es.nil)))))
                  (E.bi Bi.tuple (Es.cons (E.var 0) Es.nil)) (E.con W.non)))
              S.skip)
            S.skip)
          (S.seq
            (S.iff (E.cmp Co.eq (E.var 1) (E.con (W.str [112, 117, 116])))
              (S.seq
                (S.iff
                  (E.or (E.cmp Co.ne (E.bi Bi.len (Es.cons (E.var 0) Es.nil)) (E.con (W.int 3)))
                    (E.or (E.not (E.call 2 (Es.cons (E.idx (E.var 0) (E.con (W.int 1))) Es.nil)))
                      (E.or (E.not (E.call 0 (Es.cons (E.idx (E.var 0) (E.con (W.int 2))) Es.nil)))
                        (E.not
                          (E.chain Co.le Co.le (E.con (W.int 1))
                            (E.bi Bi.len (Es.cons (E.idx (E.var 0) (E.con (W.int 2))) Es.nil))
                            (E.con (W.int 3)))))))
                  (S.seq (S.ret (E.con W.non)) S.skip) S.skip)
                (S.seq
                  (S.ret
                    (E.ite
                      (E.bi Bi.all
                        (Es.cons
                          (E.comp [2] (Tg.nm 2) (It.val (E.idx (E.var 0) (E.con (W.int 2)))) Es.nil
                            (E.call 2 (Es.cons (E.var 2) Es.nil)))
                          Es.nil))
                      (E.tup
                        (Es.cons (E.con (W.str [112, 117, 116]))
                          (Es.cons (E.idx (E.var 0) (E.con (W.int 1)))
                            (Es.cons (E.bi Bi.tuple (Es.cons (E.idx (E.var 0) (E.con (W.int 2))) Es.nil))
                              Es.nil))))
                      (E.con W.non)))
                  S.skip))
              S.skip)
            (S.seq
              (S.ret
                (E.ite
                  (E.cmp Co.isin (E.var 1)
                    (E.tup
                      (Es.cons (E.con (W.str [109, 101, 110, 100]))
                        (Es.cons (E.con (W.str [109, 111, 118, 101])) Es.nil))))
                  (E.call 5 (Es.cons (E.var 0) Es.nil)) (E.con W.non)))
              S.skip)))))
/-- words_of -/
def b7 : S :=
  S.seq (S.asg (Tg.nm 1) (E.idx (E.var 0) (E.con (W.int 0))))
    (S.seq (S.iff (E.kin 0 false (E.var 1)) (S.seq (S.ret (E.bi Bi.list (Es.cons (E.var 0) Es.nil))) S.skip) S.skip)
      (S.seq
        (S.iff (E.cmp Co.eq (E.var 1) (E.con (W.str [116, 97, 107, 101])))
          (S.seq
            (S.ret
              (E.lst
                (Es.cons (E.var 1)
                  (Es.cons (E.bi Bi.str (Es.cons (E.idx (E.var 0) (E.con (W.int 1))) Es.nil)) Es.nil))))
            S.skip)
          S.skip)
        (S.seq
          (S.iff (E.cmp Co.eq (E.var 1) (E.con (W.str [112, 117, 116])))
            (S.seq
              (S.ret
                (E.bin Bo.add (E.lst (Es.cons (E.var 1) (Es.cons (E.idx (E.var 0) (E.con (W.int 1))) Es.nil)))
                  (E.bi Bi.list (Es.cons (E.idx (E.var 0) (E.con (W.int 2))) Es.nil))))
              S.skip)
            S.skip)
          (S.seq
            (S.asg (Tg.nm 2)
              (E.bi Bi.list
                (Es.cons (E.slc (E.var 0) Es.nil (Es.cons (E.neg (E.con (W.int 1))) Es.nil)) Es.nil)))
            (S.seq
              (S.for (Tg.cons (Tg.nm 3) (Tg.cons (Tg.nm 4) Tg.nil))
                (It.val (E.idx (E.var 0) (E.neg (E.con (W.int 1)))))
                (S.seq
                  (S.ex
                    (E.me Me.extend (E.var 2) (Es.cons (E.lst (Es.cons (E.var 3) (Es.cons (E.var 4) Es.nil))) Es.nil)))
                  S.skip))
              (S.seq (S.ret (E.var 2)) S.skip))))))
/-- deeds_text -/
def b8 : S :=
  S.seq
    (S.iff (E.not (E.call 0 (Es.cons (E.var 0) Es.nil)))
      (S.seq (S.rais 1 (Es.cons (E.con (W.int 0)) Es.nil)) S.skip) S.skip)
    (S.seq (S.asg (Tg.nm 1) (E.lst Es.nil))
      (S.seq
        (S.for (Tg.cons (Tg.nm 2) (Tg.cons (Tg.nm 3) Tg.nil)) (It.enum (E.var 0))
          (S.seq (S.asg (Tg.nm 4) (E.call 6 (Es.cons (E.var 3) Es.nil)))
            (S.seq
              (S.iff (E.cmp Co.is (E.var 4) (E.con W.non)) (S.seq (S.rais 1 (Es.cons (E.var 2) Es.nil)) S.skip) S.skip)
              (S.seq
                (S.ex
                  (E.me Me.append (E.var 1)
                    (Es.cons (E.me Me.join (E.con (W.str [32])) (Es.cons (E.call 7 (Es.cons (E.var 4) Es.nil)) Es.nil))
                      Es.nil)))
                S.skip))))
        (S.seq
          (S.ret
            (E.me Me.join (E.con (W.str []))
              (Es.cons (E.comp [5] (Tg.nm 5) (It.val (E.var 1)) Es.nil (E.bin Bo.add (E.var 5) (E.con (W.str [10]))))
                Es.nil)))
          S.skip)))
/-- pairs_in -/
def b9 : S :=
  S.seq
    (S.iff
      (E.cmp Co.eq (E.bin Bo.mod (E.bi Bi.len (Es.cons (E.var 0) Es.nil)) (E.con (W.int 2)))
        (E.con (W.int 1)))
      (S.seq (S.ret (E.con W.non)) S.skip) S.skip)
    (S.seq
      (S.ret
        (E.bi Bi.tuple
          (Es.cons
            (E.comp [1] (Tg.nm 1)
              (It.rng
                (Es.cons (E.con (W.int 0))
                  (Es.cons (E.bi Bi.len (Es.cons (E.var 0) Es.nil)) (Es.cons (E.con (W.int 2)) Es.nil))))
              Es.nil
              (E.tup
                (Es.cons (E.idx (E.var 0) (E.var 1))
                  (Es.cons (E.idx (E.var 0) (E.bin Bo.add (E.var 1) (E.con (W.int 1)))) Es.nil))))
            Es.nil)))
      S.skip)
/-- line_in -/
def b10 : S :=
  S.seq (S.asg (Tg.nm 1) (E.me Me.split (E.var 0) (Es.cons (E.con (W.str [32])) Es.nil)))
    (S.seq (S.asg (Tg.nm 2) (E.idx (E.var 1) (E.con (W.int 0))))
      (S.seq
        (S.iff (E.cmp Co.eq (E.var 2) (E.con (W.str [116, 97, 107, 101])))
          (S.seq
            (S.asg (Tg.nm 3)
              (E.ite (E.cmp Co.eq (E.bi Bi.len (Es.cons (E.var 1) Es.nil)) (E.con (W.int 2)))
                (E.call 3 (Es.cons (E.idx (E.var 1) (E.con (W.int 1))) Es.nil)) (E.con W.non)))
            (S.seq
              (S.ret
                (E.ite (E.cmp Co.isnot (E.var 3) (E.con W.non))
                  (E.tup (Es.cons (E.con (W.str [116, 97, 107, 101])) (Es.cons (E.var 3) Es.nil))) (E.con W.non)))
              S.skip))
          S.skip)
        (S.seq
          (S.iff (E.cmp Co.eq (E.var 2) (E.con (W.str [112, 117, 116])))
            (S.seq
              (S.ret
                (E.ite (E.cmp Co.gt (E.bi Bi.len (Es.cons (E.var 1) Es.nil)) (E.con (W.int 2)))
                  (E.call 6
                    (Es.cons
                      (E.tup
                        (Es.cons (E.con (W.str [112, 117, 116]))
                          (Es.cons (E.idx (E.var 1) (E.con (W.int 1)))
                            (Es.cons
                              (E.bi Bi.tuple
                                (Es.cons (E.slc (E.var 1) (Es.cons (E.con (W.int 2)) Es.nil) Es.nil) Es.nil))
                              Es.nil))))
                      Es.nil))
                  (E.con W.non)))
              S.skip)
            S.skip)
          (S.seq
            (S.iff
              (E.cmp Co.isin (E.var 2)
                (E.tup
                  (Es.cons (E.con (W.str [109, 101, 110, 100])) (Es.cons (E.con (W.str [109, 111, 118, 101])) Es.nil))))
              (S.seq
                (S.asg (Tg.nm 4)
                  (E.ite (E.cmp Co.eq (E.var 2) (E.con (W.str [109, 101, 110, 100]))) (E.con (W.int 3))
                    (E.con (W.int 1))))
                (S.seq
                  (S.asg (Tg.nm 5)
                    (E.ite (E.cmp Co.ge (E.bi Bi.len (Es.cons (E.var 1) Es.nil)) (E.var 4))
                      (E.call 9 (Es.cons (E.slc (E.var 1) (Es.cons (E.var 4) Es.nil) Es.nil) Es.nil)) (E.con W.non)))
                  (S.seq
                    (S.ret
                      (E.ite (E.cmp Co.isnot (E.var 5) (E.con W.non))
                        (E.call 6
                          (Es.cons
                            (E.bin Bo.add
                              (E.bi Bi.tuple (Es.cons (E.slc (E.var 1) Es.nil (Es.cons (E.var 4) Es.nil)) Es.nil))
                              (E.tup (Es.cons (E.var 5) Es.nil)))
                            Es.nil))
                        (E.con W.non)))
                    S.skip)))
              S.skip)
            (S.seq (S.ret (E.call 6 (Es.cons (E.bi Bi.tuple (Es.cons (E.var 1) Es.nil)) Es.nil))) S.skip)))))
/-- deeds_fault -/
def b11 : S :=
  S.seq (S.iff (E.not (E.isi (E.var 0) [Ty.str])) (S.seq (S.ret (E.con (W.int 0))) S.skip) S.skip)
    (S.seq (S.asg (Tg.nm 1) (E.me Me.split (E.var 0) (Es.cons (E.con (W.str [10])) Es.nil)))
      (S.seq
        (S.for (Tg.cons (Tg.nm 2) (Tg.cons (Tg.nm 3) Tg.nil))
          (It.enum (E.slc (E.var 1) Es.nil (Es.cons (E.neg (E.con (W.int 1))) Es.nil)))
          (S.seq
            (S.iff (E.cmp Co.is (E.call 10 (Es.cons (E.var 3) Es.nil)) (E.con W.non))
              (S.seq (S.ret (E.bin Bo.add (E.var 2) (E.con (W.int 1)))) S.skip) S.skip)
            S.skip))
        (S.seq
          (S.ret
            (E.ite (E.cmp Co.eq (E.idx (E.var 1) (E.neg (E.con (W.int 1)))) (E.con (W.str []))) (E.con W.non)
              (E.bi Bi.len (Es.cons (E.var 1) Es.nil))))
          S.skip)))
/-- read_deeds -/
def b12 : S :=
  S.seq (S.asg (Tg.nm 1) (E.call 11 (Es.cons (E.var 0) Es.nil)))
    (S.seq (S.iff (E.cmp Co.isnot (E.var 1) (E.con W.non)) (S.seq (S.rais 2 (Es.cons (E.var 1) Es.nil)) S.skip) S.skip)
      (S.seq
        (S.ret
          (E.comp [2] (Tg.nm 2)
            (It.val
              (E.slc (E.me Me.split (E.var 0) (Es.cons (E.con (W.str [10])) Es.nil)) Es.nil
                (Es.cons (E.neg (E.con (W.int 1))) Es.nil)))
            Es.nil (E.call 10 (Es.cons (E.var 2) Es.nil))))
        S.skip))
/-- _law_mname -/
def b13 : S :=
  S.seq
    (S.asg (Tg.nm 1)
      (E.con
        (W.str
          SIGNS)))
    (S.seq
      (S.asg (Tg.nm 2) (E.idx (E.var 1) (E.call 16 (Es.cons (E.var 0) (Es.cons (E.con (W.int 26)) Es.nil)))))
      (S.seq
        (S.for (Tg.nm 3)
          (It.rng
            (Es.cons
              (E.call 17
                (Es.cons (E.var 0)
                  (Es.cons
                    (E.lst
                      (Es.cons (E.con (W.int 0))
                        (Es.cons (E.con (W.int 0))
                          (Es.cons (E.con (W.int 1))
                            (Es.cons (E.con (W.int 1))
                              (Es.cons (E.con (W.int 2))
                                (Es.cons (E.con (W.int 3))
                                  (Es.cons (E.con (W.int 4))
                                    (Es.cons (E.con (W.int 5))
                                      (Es.cons (E.con (W.int 6))
                                        (Es.cons (E.con (W.int 7)) Es.nil)))))))))))
                    Es.nil)))
              Es.nil))
          (S.seq
            (S.asg (Tg.nm 2)
              (E.bin Bo.add (E.var 2)
                (E.idx (E.var 1) (E.call 16 (Es.cons (E.var 0) (Es.cons (E.con (W.int 36)) Es.nil))))))
            S.skip))
        (S.seq (S.ret (E.var 2)) S.skip)))
/-- _law_mnames -/
def b14 : S :=
  S.seq (S.asg (Tg.nm 2) (E.lst Es.nil))
    (S.seq
      (S.for (Tg.nm 3) (It.rng (Es.cons (E.var 1) Es.nil))
        (S.seq
          (S.asg (Tg.nm 4)
            (E.bin Bo.add (E.lst (Es.cons (E.call 13 (Es.cons (E.var 0) Es.nil)) Es.nil))
              (E.comp [5] (Tg.nm 5) (It.rng (Es.cons (E.con (W.int 300)) Es.nil)) Es.nil
                (E.bin Bo.add (E.con (W.str [118])) (E.bi Bi.str (Es.cons (E.var 5) Es.nil))))))
          (S.seq
            (S.ex
              (E.me Me.append (E.var 2)
                (Es.cons
                  (E.idx
                    (E.comp [6] (Tg.nm 6) (It.val (E.var 4)) (Es.cons (E.cmp Co.notin (E.var 6) (E.var 2)) Es.nil)
                      (E.var 6))
                    (E.con (W.int 0)))
                  Es.nil)))
            S.skip)))
      (S.seq (S.ret (E.bi Bi.sorted (Es.cons (E.var 2) Es.nil))) S.skip))
/-- _law_start -/
def b15 : S :=
  S.seq
    (S.ret
      (E.lst
        (Es.cons (E.bi Bi.list (Es.cons (E.var 0) Es.nil))
          (Es.cons (E.con (W.int 0))
            (Es.cons (E.con (W.int 0)) (Es.cons (E.con (W.int 43)) Es.nil))))))
    S.skip
/-- _law_below -/
def b16 : S :=
  S.seq
    (S.sti (E.var 0) (E.con (W.int 2))
      (E.bin Bo.add (E.idx (E.var 0) (E.con (W.int 2))) (E.con (W.int 1))))
    (S.seq
      (S.whl
        (E.and (E.cmp Co.eq (E.idx (E.var 0) (E.con (W.int 1))) (E.con (W.int 0)))
          (E.cmp Co.ne (E.idx (E.var 0) (E.con (W.int 0))) (E.lst Es.nil)))
        (S.seq
          (S.asg (Tg.nm 3)
            (E.me Me.pop (E.idx (E.var 0) (E.con (W.int 0))) (Es.cons (E.con (W.int 0)) Es.nil)))
          (S.seq
            (S.sti (E.var 0) (E.con (W.int 3))
              (E.bin Bo.mod
                (E.bi Bi.int
                  (Es.cons
                    (E.bin Bo.add
                      (E.bin Bo.add
                        (E.bin Bo.mul (E.idx (E.var 0) (E.con (W.int 3))) (E.con (W.int 69031)))
                        (E.var 3))
                      (E.con (W.int 13)))
                    Es.nil))
                (E.con (W.int 2147483647))))
            (S.seq
              (S.sti (E.var 0) (E.con (W.int 1))
                (E.ite
                  (E.cmp Co.ge (E.var 3) (E.bin Bo.pow (E.con (W.int 10)) (E.con (W.int 18))))
                  (E.var 3) (E.con (W.int 0))))
              S.skip))))
      (S.seq
        (S.iff (E.cmp Co.gt (E.idx (E.var 0) (E.con (W.int 1))) (E.con (W.int 0)))
          (S.seq
            (S.asg (Tg.nm 4)
              (E.bin Bo.mod (E.bi Bi.int (Es.cons (E.idx (E.var 0) (E.con (W.int 1))) Es.nil)) (E.var 1)))
            (S.seq
              (S.sti (E.var 0) (E.con (W.int 1))
                (E.bin Bo.fdiv (E.idx (E.var 0) (E.con (W.int 1))) (E.var 1)))
              (S.seq (S.ret (E.var 4)) S.skip)))
          S.skip)
        (S.seq
          (S.asg (Tg.nm 2)
            (E.bin Bo.mod
              (E.bi Bi.int
                (Es.cons
                  (E.bin Bo.pow
                    (E.bin Bo.add
                      (E.bin Bo.add (E.idx (E.var 0) (E.con (W.int 3)))
                        (E.bin Bo.mul (E.con (W.int 9049)) (E.idx (E.var 0) (E.con (W.int 2)))))
                      (E.con (W.int 130073)))
                    (E.con (W.int 5)))
                  Es.nil))
              (E.con (W.int 2147483629))))
          (S.seq
            (S.ret
              (E.bin Bo.mod
                (E.bin Bo.mod
                  (E.bi Bi.int
                    (Es.cons
                      (E.bin Bo.pow
                        (E.bin Bo.add
                          (E.bin Bo.add (E.bin Bo.mul (E.var 2) (E.con (W.int 44089)))
                            (E.bin Bo.mul (E.con (W.int 60077))
                              (E.idx (E.var 0) (E.con (W.int 2)))))
                          (E.con (W.int 47)))
                        (E.con (W.int 3)))
                      Es.nil))
                  (E.con (W.int 1000000007)))
                (E.var 1)))
            S.skip))))
/-- _law_pick -/
def b17 : S :=
  S.seq
    (S.ret (E.idx (E.var 1) (E.call 16 (Es.cons (E.var 0) (Es.cons (E.bi Bi.len (Es.cons (E.var 1) Es.nil)) Es.nil)))))
    S.skip
/-- _law_mixed -/
def b18 : S :=
  S.seq (S.asg (Tg.nm 2) (E.bi Bi.list (Es.cons (E.var 1) Es.nil)))
    (S.seq
      (S.ret
        (E.comp [3] (Tg.nm 3) (It.rng (Es.cons (E.bi Bi.len (Es.cons (E.var 2) Es.nil)) Es.nil)) Es.nil
          (E.me Me.pop (E.var 2)
            (Es.cons (E.call 16 (Es.cons (E.var 0) (Es.cons (E.bi Bi.len (Es.cons (E.var 2) Es.nil)) Es.nil))) Es.nil))))
      S.skip)
/-- _law_same -/
def b19 : S :=
  S.seq
    (S.iff (E.isi (E.var 1) [Ty.lst, Ty.tup])
      (S.seq
        (S.iff
          (E.or (E.cmp Co.ne (E.isi (E.var 0) [Ty.lst]) (E.isi (E.var 1) [Ty.lst]))
            (E.cmp Co.ne (E.isi (E.var 0) [Ty.tup]) (E.isi (E.var 1) [Ty.tup])))
          (S.seq (S.ret (E.con (W.bl false))) S.skip) S.skip)
        (S.seq
          (S.ret
            (E.and (E.cmp Co.eq (E.bi Bi.len (Es.cons (E.var 0) Es.nil)) (E.bi Bi.len (Es.cons (E.var 1) Es.nil)))
              (E.bi Bi.all
                (Es.cons
                  (E.comp [2, 3] (Tg.cons (Tg.nm 2) (Tg.cons (Tg.nm 3) Tg.nil)) (It.zip (E.var 0) (E.var 1)) Es.nil
                    (E.call 19 (Es.cons (E.var 2) (Es.cons (E.var 3) Es.nil))))
                  Es.nil))))
          S.skip))
      S.skip)
    (S.seq
      (S.iff (E.isi (E.var 1) [Ty.dic])
        (S.seq
          (S.ret
            (E.and (E.isi (E.var 0) [Ty.dic])
              (E.call 19
                (Es.cons (E.bi Bi.list (Es.cons E.bad Es.nil)) (Es.cons (E.bi Bi.list (Es.cons E.bad Es.nil)) Es.nil)))))
          S.skip)
        S.skip)
      (S.seq
        (S.iff (E.isi (E.var 1) [Ty.int])
          (S.seq
            (S.ret
              (E.and (E.isi (E.var 0) [Ty.int])
                (E.and (E.cmp Co.eq (E.isi (E.var 0) [Ty.bl]) (E.isi (E.var 1) [Ty.bl]))
                  (E.cmp Co.eq (E.var 0) (E.var 1)))))
            S.skip)
          S.skip)
        (S.seq
          (S.iff (E.cmp Co.is (E.var 1) (E.con W.non)) (S.seq (S.ret (E.cmp Co.is (E.var 0) (E.con W.non))) S.skip)
            S.skip)
          (S.seq
            (S.iff (E.isi (E.var 1) [Ty.str])
              (S.seq (S.ret (E.and (E.isi (E.var 0) [Ty.str]) (E.cmp Co.eq (E.var 0) (E.var 1)))) S.skip) S.skip)
            (S.seq
              (S.ret
                (E.and (E.not (E.isi (E.var 0) [Ty.int, Ty.str, Ty.lst, Ty.tup, Ty.dic]))
                  (E.cmp Co.eq (E.var 0) (E.var 1))))
              S.skip)))))
/-- _law_loose -/
def b20 : S :=
  S.seq (S.iff (E.isi (E.var 1) [Ty.dic]) (S.seq (S.ret E.bad) S.skip) S.skip)
    (S.seq (S.iff (E.not (E.isi (E.var 1) [Ty.lst, Ty.tup])) (S.seq (S.ret (E.var 1)) S.skip) S.skip)
      (S.seq
        (S.asg (Tg.nm 2)
          (E.comp [3] (Tg.nm 3) (It.val (E.var 1)) Es.nil (E.call 20 (Es.cons (E.var 0) (Es.cons (E.var 3) Es.nil)))))
        (S.seq
          (S.ret
            (E.ite
              (E.cmp Co.eq (E.call 16 (Es.cons (E.var 0) (Es.cons (E.con (W.int 2)) Es.nil)))
                (E.con (W.int 0)))
              (E.var 2) (E.bi Bi.tuple (Es.cons (E.var 2) Es.nil))))
          S.skip)))
/-- _law_spoilt -/
def b21 : S :=
  S.seq
    (S.iff (E.isi (E.var 0) [Ty.dic])
      (S.seq
        (S.for (Tg.nm 1) (It.val (E.bi Bi.list (Es.cons (E.var 0) Es.nil)))
          (S.seq (S.ex (E.call 21 (Es.cons (E.idx (E.var 0) (E.var 1)) Es.nil))) S.skip))
        (S.seq (S.sti (E.var 0) (E.con (W.str [76, 65, 84, 69])) (E.bin Bo.add E.bad (E.con (W.int 1))))
          S.skip))
      S.skip)
    (S.seq
      (S.iff (E.isi (E.var 0) [Ty.lst, Ty.tup])
        (S.seq (S.for (Tg.nm 2) (It.val (E.var 0)) (S.seq (S.ex (E.call 21 (Es.cons (E.var 2) Es.nil))) S.skip)) S.skip)
        S.skip)
      (S.seq
        (S.iff (E.isi (E.var 0) [Ty.lst])
          (S.seq (S.ex (E.me Me.append (E.var 0) (Es.cons (E.con (W.str [76, 65, 84, 69])) Es.nil))) S.skip) S.skip)
        S.skip))
/-- _law_is_once -/
def b22 : S :=
  S.seq
    (S.iff (E.isi (E.var 0) [Ty.dic])
      (S.seq
        (S.ret
          (E.and (E.cmp Co.eq (E.idx (E.var 0) (E.con (W.str [76, 65, 84, 69]))) (E.con (W.int 1)))
            (E.bi Bi.all
              (Es.cons
                (E.comp [2] (Tg.nm 2) (It.val (E.var 0))
                  (Es.cons (E.cmp Co.ne (E.var 2) (E.con (W.str [76, 65, 84, 69]))) Es.nil)
                  (E.call 22 (Es.cons (E.idx (E.var 0) (E.var 2)) Es.nil)))
                Es.nil))))
        S.skip)
      S.skip)
    (S.seq
      (S.iff (E.isi (E.var 0) [Ty.lst, Ty.tup])
        (S.seq (S.asg (Tg.nm 1) (E.bi Bi.int (Es.cons (E.isi (E.var 0) [Ty.lst]) Es.nil)))
          (S.seq
            (S.ret
              (E.and
                (E.cmp Co.eq
                  (E.me Me.count (E.bi Bi.list (Es.cons (E.var 0) Es.nil))
                    (Es.cons (E.con (W.str [76, 65, 84, 69])) Es.nil))
                  (E.var 1))
                (E.bi Bi.all
                  (Es.cons (E.comp [3] (Tg.nm 3) (It.val (E.var 0)) Es.nil (E.call 22 (Es.cons (E.var 3) Es.nil)))
                    Es.nil))))
            S.skip))
        S.skip)
      (S.seq (S.ret (E.con (W.bl true))) S.skip))
/-- _law_apart -/
def b23 : S :=
  S.seq (S.ex (E.call 21 (Es.cons (E.var 0) Es.nil))) (S.seq (S.ret (E.call 22 (Es.cons (E.var 0) Es.nil))) S.skip)
/-- _law_mform -/
def b24 : S :=
  S.seq (S.asg (Tg.nm 1) (E.call 14 (Es.cons (E.var 0) (Es.cons (E.con (W.int 3)) Es.nil))))
    (S.seq
      (S.asg (Tg.nm 2)
        (E.call 17
          (Es.cons (E.var 0)
            (Es.cons
              (E.lst
                (Es.cons (E.con (W.str [99, 104, 97, 110, 103, 101]))
                  (Es.cons (E.con (W.str [112, 105, 110]))
                    (Es.cons (E.con (W.str [117, 110, 112, 105, 110]))
                      (Es.cons (E.con (W.str [112, 117, 116]))
                        (Es.cons (E.con (W.str [116, 97, 107, 101]))
                          (Es.cons (E.con (W.str [97, 100, 100]))
                            (Es.cons (E.con (W.str [108, 101, 97, 118, 101]))
                              (Es.cons (E.con (W.str [109, 101, 110, 100]))
                                (Es.cons (E.con (W.str [109, 111, 118, 101])) Es.nil))))))))))
              Es.nil))))
      (S.seq
        (S.asg (Tg.nm 3)
          (E.bi Bi.tuple
            (Es.cons
              (E.comp [4] (Tg.nm 4)
                (It.rng (Es.cons (E.call 16 (Es.cons (E.var 0) (Es.cons (E.con (W.int 4)) Es.nil))) Es.nil))
                Es.nil
                (E.tup
                  (Es.cons (E.call 17 (Es.cons (E.var 0) (Es.cons (E.var 1) Es.nil)))
                    (Es.cons (E.call 17 (Es.cons (E.var 0) (Es.cons (E.var 1) Es.nil))) Es.nil))))
              Es.nil)))
        (S.seq
          (S.iff
            (E.or (E.cmp Co.eq (E.var 2) (E.con (W.str [99, 104, 97, 110, 103, 101])))
              (E.cmp Co.eq (E.var 2) (E.con (W.str [97, 100, 100]))))
            (S.seq
              (S.ret
                (E.tup
                  (Es.cons (E.var 2)
                    (Es.cons (E.idx (E.var 1) (E.con (W.int 0)))
                      (Es.cons (E.idx (E.var 1) (E.con (W.int 1))) Es.nil)))))
              S.skip)
            S.skip)
          (S.seq
            (S.iff (E.cmp Co.eq (E.var 2) (E.con (W.str [112, 117, 116])))
              (S.seq
                (S.ret
                  (E.tup
                    (Es.cons (E.var 2)
                      (Es.cons (E.idx (E.var 1) (E.con (W.int 0)))
                        (Es.cons
                          (E.bi Bi.tuple
                            (Es.cons
                              (E.comp [4] (Tg.nm 4)
                                (It.rng
                                  (Es.cons
                                    (E.bin Bo.add (E.con (W.int 1))
                                      (E.call 16 (Es.cons (E.var 0) (Es.cons (E.con (W.int 3)) Es.nil))))
                                    Es.nil))
                                Es.nil (E.call 17 (Es.cons (E.var 0) (Es.cons (E.var 1) Es.nil))))
                              Es.nil))
                          Es.nil)))))
                S.skip)
              S.skip)
            (S.seq
              (S.iff (E.cmp Co.eq (E.var 2) (E.con (W.str [116, 97, 107, 101])))
                (S.seq
                  (S.ret
                    (E.tup
                      (Es.cons (E.var 2)
                        (Es.cons
                          (E.call 17
                            (Es.cons (E.var 0)
                              (Es.cons
                                (E.lst
                                  (Es.cons (E.con (W.int 0))
                                    (Es.cons (E.con (W.int 7))
                                      (Es.cons (E.con (W.int 999999999))
                                        (Es.cons
                                          (E.call 16
                                            (Es.cons (E.var 0) (Es.cons (E.con (W.int 3000)) Es.nil)))
                                          Es.nil)))))
                                Es.nil)))
                          Es.nil))))
                  S.skip)
                S.skip)
              (S.seq
                (S.iff (E.cmp Co.eq (E.var 2) (E.con (W.str [109, 101, 110, 100])))
                  (S.seq
                    (S.ret
                      (E.tup
                        (Es.cons (E.var 2)
                          (Es.cons (E.idx (E.var 1) (E.con (W.int 0)))
                            (Es.cons (E.idx (E.var 1) (E.con (W.int 1))) (Es.cons (E.var 3) Es.nil))))))
                    S.skip)
                  S.skip)
                (S.seq
                  (S.ret
                    (E.ite (E.cmp Co.eq (E.var 2) (E.con (W.str [109, 111, 118, 101])))
                      (E.tup (Es.cons (E.var 2) (Es.cons (E.var 3) Es.nil)))
                      (E.tup (Es.cons (E.var 2) (Es.cons (E.idx (E.var 1) (E.con (W.int 2))) Es.nil)))))
                  S.skip)))))))
/-- _law_msaid -/
def b25 : S :=
  S.seq (S.asg (Tg.nm 1) (E.lst (Es.cons (E.idx (E.var 0) (E.con (W.int 0))) Es.nil)))
    (S.seq
      (S.iff (E.cmp Co.eq (E.idx (E.var 0) (E.con (W.int 0))) (E.con (W.str [116, 97, 107, 101])))
        (S.seq
          (S.ret
            (E.bin Bo.add (E.con (W.str [116, 97, 107, 101, 32]))
              (E.bi Bi.str (Es.cons (E.idx (E.var 0) (E.con (W.int 1))) Es.nil))))
          S.skip)
        S.skip)
      (S.seq
        (S.iff (E.cmp Co.eq (E.idx (E.var 0) (E.con (W.int 0))) (E.con (W.str [112, 117, 116])))
          (S.seq
            (S.ret
              (E.me Me.join (E.con (W.str [32]))
                (Es.cons
                  (E.bin Bo.add
                    (E.lst
                      (Es.cons (E.idx (E.var 0) (E.con (W.int 0)))
                        (Es.cons (E.idx (E.var 0) (E.con (W.int 1))) Es.nil)))
                    (E.bi Bi.list (Es.cons (E.idx (E.var 0) (E.con (W.int 2))) Es.nil)))
                  Es.nil)))
            S.skip)
          S.skip)
        (S.seq
          (S.iff
            (E.cmp Co.notin (E.idx (E.var 0) (E.con (W.int 0)))
              (E.tup
                (Es.cons (E.con (W.str [109, 101, 110, 100])) (Es.cons (E.con (W.str [109, 111, 118, 101])) Es.nil))))
            (S.seq (S.ret (E.me Me.join (E.con (W.str [32])) (Es.cons (E.var 0) Es.nil))) S.skip) S.skip)
          (S.seq
            (S.asg (Tg.nm 1)
              (E.bi Bi.list
                (Es.cons (E.slc (E.var 0) Es.nil (Es.cons (E.neg (E.con (W.int 1))) Es.nil)) Es.nil)))
            (S.seq
              (S.for (Tg.cons (Tg.nm 2) (Tg.cons (Tg.nm 3) Tg.nil))
                (It.val (E.idx (E.var 0) (E.neg (E.con (W.int 1)))))
                (S.seq (S.asg (Tg.nm 1) (E.bin Bo.add (E.var 1) (E.lst (Es.cons (E.var 2) (Es.cons (E.var 3) Es.nil)))))
                  S.skip))
              (S.seq (S.ret (E.me Me.join (E.con (W.str [32])) (Es.cons (E.var 1) Es.nil))) S.skip))))))
/-- _law_mis_name -/
def b26 : S :=
  S.seq
    (S.asg (Tg.nm 1)
      (E.comp [2] (Tg.nm 2) (It.val (E.var 0))
        (Es.cons
          (E.cmp Co.notin (E.var 2)
            (E.con
              (W.str
                SIGNS)))
          Es.nil)
        (E.var 2)))
    (S.seq
      (S.ret
        (E.and
          (E.chain Co.lt Co.lt (E.con (W.int 0)) (E.bi Bi.len (Es.cons (E.var 0) Es.nil))
            (E.con (W.int 9)))
          (E.and (E.cmp Co.eq (E.var 1) (E.lst Es.nil))
            (E.cmp Co.notin (E.idx (E.var 0) (E.con (W.int 0)))
              (E.con (W.str FIGS))))))
      S.skip)
/-- _law_mread -/
def b27 : S :=
  S.seq (S.asg (Tg.nm 1) (E.me Me.split (E.var 0) (Es.cons (E.con (W.str [32])) Es.nil)))
    (S.seq
      (S.asg (Tg.cons (Tg.nm 5) (Tg.cons (Tg.nm 6) Tg.nil))
        (E.tup
          (Es.cons (E.idx (E.var 1) (E.con (W.int 0)))
            (Es.cons (E.slc (E.var 1) (Es.cons (E.con (W.int 1)) Es.nil) Es.nil) Es.nil))))
      (S.seq
        (S.iff (E.cmp Co.eq (E.var 5) (E.con (W.str [116, 97, 107, 101])))
          (S.seq
            (S.asg (Tg.nm 7)
              (E.comp [9] (Tg.nm 9) (It.val (E.me Me.join (E.con (W.str [])) (Es.cons (E.var 6) Es.nil)))
                (Es.cons (E.cmp Co.notin (E.var 9) (E.con (W.str FIGS))) Es.nil)
                (E.var 9)))
            (S.seq
              (S.asg (Tg.nm 8)
                (E.and (E.cmp Co.eq (E.bi Bi.len (Es.cons (E.var 6) Es.nil)) (E.con (W.int 1)))
                  (E.and (E.cmp Co.eq (E.var 7) (E.lst Es.nil))
                    (E.and
                      (E.chain Co.lt Co.lt (E.con (W.int 0))
                        (E.bi Bi.len (Es.cons (E.idx (E.var 6) (E.con (W.int 0))) Es.nil))
                        (E.con (W.int 10)))
                      (E.or (E.cmp Co.eq (E.idx (E.var 6) (E.con (W.int 0))) (E.con (W.str [48])))
                        (E.cmp Co.ne (E.idx (E.idx (E.var 6) (E.con (W.int 0))) (E.con (W.int 0)))
                          (E.con (W.str [48]))))))))
              (S.seq
                (S.ret
                  (E.ite (E.var 8)
                    (E.tup
                      (Es.cons (E.con (W.str [116, 97, 107, 101]))
                        (Es.cons (E.bi Bi.int (Es.cons (E.idx (E.var 6) (E.con (W.int 0))) Es.nil)) Es.nil)))
                    (E.con W.non)))
                S.skip)))
          S.skip)
        (S.seq
          (S.iff
            (E.not
              (E.bi Bi.all
                (Es.cons (E.comp [11] (Tg.nm 11) (It.val (E.var 6)) Es.nil (E.call 26 (Es.cons (E.var 11) Es.nil)))
                  Es.nil)))
            (S.seq (S.ret (E.con W.non)) S.skip) S.skip)
          (S.seq
            (S.asg (Tg.nm 2)
              (E.dis
                [W.str [99, 104, 97, 110, 103, 101], W.str [112, 105, 110], W.str [117, 110, 112, 105, 110],
                  W.str [97, 100, 100], W.str [108, 101, 97, 118, 101]]
                (Es.cons (E.con (W.int 2))
                  (Es.cons (E.con (W.int 1))
                    (Es.cons (E.con (W.int 1))
                      (Es.cons (E.con (W.int 2)) (Es.cons (E.con (W.int 1)) Es.nil)))))))
            (S.seq
              (S.iff (E.cmp Co.isin (E.var 5) (E.var 2))
                (S.seq
                  (S.ret
                    (E.ite (E.cmp Co.eq (E.bi Bi.len (Es.cons (E.var 6) Es.nil)) (E.idx (E.var 2) (E.var 5)))
                      (E.bi Bi.tuple (Es.cons (E.var 1) Es.nil)) (E.con W.non)))
                  S.skip)
                S.skip)
              (S.seq
                (S.iff (E.cmp Co.eq (E.var 5) (E.con (W.str [112, 117, 116])))
                  (S.seq
                    (S.ret
                      (E.ite
                        (E.chain Co.lt Co.lt (E.con (W.int 1)) (E.bi Bi.len (Es.cons (E.var 6) Es.nil))
                          (E.con (W.int 5)))
                        (E.tup
                          (Es.cons (E.var 5)
                            (Es.cons (E.idx (E.var 6) (E.con (W.int 0)))
                              (Es.cons
                                (E.bi Bi.tuple
                                  (Es.cons (E.slc (E.var 6) (Es.cons (E.con (W.int 1)) Es.nil) Es.nil)
                                    Es.nil))
                                Es.nil))))
                        (E.con W.non)))
                    S.skip)
                  S.skip)
                (S.seq
                  (S.asg (Tg.nm 3)
                    (E.ite (E.cmp Co.eq (E.var 5) (E.con (W.str [109, 101, 110, 100]))) (E.con (W.int 2))
                      (E.con (W.int 0))))
                  (S.seq
                    (S.iff
                      (E.or
                        (E.cmp Co.notin (E.var 5)
                          (E.tup
                            (Es.cons (E.con (W.str [109, 101, 110, 100]))
                              (Es.cons (E.con (W.str [109, 111, 118, 101])) Es.nil))))
                        (E.or (E.cmp Co.lt (E.bi Bi.len (Es.cons (E.var 6) Es.nil)) (E.var 3))
                          (E.cmp Co.eq
                            (E.bin Bo.mod (E.bin Bo.sub (E.bi Bi.len (Es.cons (E.var 6) Es.nil)) (E.var 3))
                              (E.con (W.int 2)))
                            (E.con (W.int 1)))))
                      (S.seq (S.ret (E.con W.non)) S.skip) S.skip)
                    (S.seq
                      (S.asg (Tg.nm 4)
                        (E.bi Bi.tuple
                          (Es.cons
                            (E.comp [10] (Tg.nm 10)
                              (It.rng
                                (Es.cons (E.var 3)
                                  (Es.cons (E.bi Bi.len (Es.cons (E.var 6) Es.nil))
                                    (Es.cons (E.con (W.int 2)) Es.nil))))
                              Es.nil
                              (E.tup
                                (Es.cons (E.idx (E.var 6) (E.var 10))
                                  (Es.cons (E.idx (E.var 6) (E.bin Bo.add (E.var 10) (E.con (W.int 1))))
                                    Es.nil))))
                            Es.nil)))
                      (S.seq
                        (S.ret
                          (E.bin Bo.add
                            (E.bin Bo.add (E.tup (Es.cons (E.var 5) Es.nil))
                              (E.bi Bi.tuple (Es.cons (E.slc (E.var 6) Es.nil (Es.cons (E.var 3) Es.nil)) Es.nil)))
                            (E.tup (Es.cons (E.var 4) Es.nil))))
                        S.skip))))))))))
/-- _law_mbent -/
def b28 : S :=
  S.seq
    (S.asg (Tg.nm 2)
      (E.bin Bo.add
        (E.slc (E.me Me.split (E.var 1) (Es.cons (E.con (W.str [10])) Es.nil)) Es.nil
          (Es.cons (E.neg (E.con (W.int 1))) Es.nil))
        (E.lst
          (Es.cons
            (E.call 17
              (Es.cons (E.var 0)
                (Es.cons
                  (E.lst
                    (Es.cons (E.con (W.str [112, 105, 110, 32, 97]))
                      (Es.cons (E.con (W.str [116, 97, 107, 101, 32, 49]))
                        (Es.cons (E.con (W.str [109, 111, 118, 101])) Es.nil))))
                  Es.nil)))
            Es.nil))))
    (S.seq
      (S.par 6 7 (E.call 16 (Es.cons (E.var 0) (Es.cons (E.bi Bi.len (Es.cons (E.var 2) Es.nil)) Es.nil)))
        (E.call 16 (Es.cons (E.var 0) (Es.cons (E.con (W.int 6)) Es.nil))))
      (S.seq (S.asg (Tg.nm 3) (E.me Me.split (E.idx (E.var 2) (E.var 6)) (Es.cons (E.con (W.str [32])) Es.nil)))
        (S.seq (S.asg (Tg.nm 4) (E.call 16 (Es.cons (E.var 0) (Es.cons (E.bi Bi.len (Es.cons (E.var 3) Es.nil)) Es.nil))))
          (S.seq
            (S.iff (E.cmp Co.eq (E.var 7) (E.con (W.int 0)))
              (S.seq
                (S.asg (Tg.nm 3)
                  (E.bin Bo.add (E.slc (E.var 3) Es.nil (Es.cons (E.var 4) Es.nil))
                    (E.slc (E.var 3) (Es.cons (E.bin Bo.add (E.var 4) (E.con (W.int 1))) Es.nil) Es.nil)))
                S.skip)
              S.skip)
            (S.seq
              (S.iff (E.cmp Co.eq (E.var 7) (E.con (W.int 1)))
                (S.seq
                  (S.asg (Tg.nm 3)
                    (E.bin Bo.add
                      (E.bin Bo.add (E.slc (E.var 3) Es.nil (Es.cons (E.var 4) Es.nil))
                        (E.lst
                          (Es.cons
                            (E.call 17
                              (Es.cons (E.var 0)
                                (Es.cons
                                  (E.lst
                                    (Es.cons (E.con (W.str [97]))
                                      (Es.cons (E.con (W.str [48]))
                                        (Es.cons (E.con (W.str [48, 49]))
                                          (Es.cons (E.con (W.str [116, 97, 107, 101]))
                                            (Es.cons (E.con (W.str [112, 105, 110]))
                                              (Es.cons (E.con (W.str []))
                                                (Es.cons (E.con (W.str [65]))
                                                  (Es.cons (E.con (W.str [109, 101, 110, 100]))
                                                    (Es.cons (E.con (W.str [109, 111, 118, 101]))
                                                      (Es.cons (E.con (W.str [49, 97])) Es.nil)))))))))))
                                  Es.nil)))
                            Es.nil)))
                      (E.slc (E.var 3) (Es.cons (E.var 4) Es.nil) Es.nil)))
                  S.skip)
                S.skip)
              (S.seq
                (S.asg (Tg.nm 2)
                  (E.bin Bo.add
                    (E.bin Bo.add (E.slc (E.var 2) Es.nil (Es.cons (E.var 6) Es.nil))
                      (E.lst (Es.cons (E.me Me.join (E.con (W.str [32])) (Es.cons (E.var 3) Es.nil)) Es.nil)))
                    (E.slc (E.var 2) (Es.cons (E.bin Bo.add (E.var 6) (E.con (W.int 1))) Es.nil) Es.nil)))
                (S.seq
                  (S.asg (Tg.nm 5)
                    (E.me Me.join (E.con (W.str []))
                      (Es.cons
                        (E.comp [9] (Tg.nm 9) (It.val (E.var 2)) Es.nil (E.bin Bo.add (E.var 9) (E.con (W.str [10]))))
                        Es.nil)))
                  (S.seq
                    (S.iff (E.cmp Co.eq (E.var 7) (E.con (W.int 2)))
                      (S.seq
                        (S.asg (Tg.nm 8)
                          (E.call 16
                            (Es.cons (E.var 0)
                              (Es.cons
                                (E.bin Bo.add (E.bi Bi.len (Es.cons (E.var 5) Es.nil)) (E.con (W.int 1)))
                                Es.nil))))
                        (S.seq
                          (S.ret
                            (E.bin Bo.add
                              (E.bin Bo.add (E.slc (E.var 5) Es.nil (Es.cons (E.var 8) Es.nil))
                                (E.call 17
                                  (Es.cons (E.var 0)
                                    (Es.cons
                                      (E.bin Bo.add
                                        (E.bi Bi.list (Es.cons (E.con (W.str [32, 10, 97, 98, 122, 48, 49, 65])) Es.nil))
                                        (E.lst (Es.cons (E.con (W.str [])) Es.nil)))
                                      Es.nil))))
                              (E.slc (E.var 5)
                                (Es.cons
                                  (E.bin Bo.add (E.var 8)
                                    (E.call 16 (Es.cons (E.var 0) (Es.cons (E.con (W.int 2)) Es.nil))))
                                  Es.nil)
                                Es.nil)))
                          S.skip))
                      S.skip)
                    (S.seq
                      (S.ret
                        (E.ite (E.cmp Co.eq (E.var 7) (E.con (W.int 3)))
                          (E.slc (E.var 5) Es.nil
                            (Es.cons (E.bin Bo.sub (E.bi Bi.len (Es.cons (E.var 5) Es.nil)) (E.con (W.int 1)))
                              Es.nil))
                          (E.var 5)))
                      S.skip)))))))))
/-- law -/
def b29 : S :=
  S.seq (S.asg (Tg.nm 1) (E.call 15 (Es.cons (E.var 0) Es.nil)))
    (S.seq
      (S.for (Tg.nm 2) (It.rng (Es.cons (E.con (W.int 3)) Es.nil))
        (S.seq
          (S.asg (Tg.nm 3)
            (E.comp [14] (Tg.nm 14)
              (It.rng (Es.cons (E.call 16 (Es.cons (E.var 1) (Es.cons (E.con (W.int 9)) Es.nil))) Es.nil))
              Es.nil (E.call 24 (Es.cons (E.var 1) Es.nil))))
          (S.seq
            (S.asg (Tg.nm 4)
              (E.me Me.join (E.con (W.str []))
                (Es.cons
                  (E.comp [15] (Tg.nm 15) (It.val (E.var 3)) Es.nil
                    (E.bin Bo.add (E.call 25 (Es.cons (E.var 15) Es.nil)) (E.con (W.str [10]))))
                  Es.nil)))
            (S.seq (S.asg (Tg.nm 5) (E.told 0 (E.call 12 (Es.cons (E.var 4) Es.nil))))
              (S.seq
                (S.iff
                  (E.or
                    (E.not
                      (E.call 19
                        (Es.cons (E.var 5)
                          (Es.cons (E.tup (Es.cons (E.con (W.str [116, 111, 108, 100])) (Es.cons (E.var 3) Es.nil)))
                            Es.nil))))
                    (E.or
                      (E.not
                        (E.call 23
                          (Es.cons (E.lst (Es.cons (E.idx (E.var 5) (E.con (W.int 1))) Es.nil)) Es.nil)))
                      (E.cmp Co.isnot (E.call 11 (Es.cons (E.var 4) Es.nil)) (E.con W.non))))
                  (S.seq (S.ret (E.con (W.bl false))) S.skip) S.skip)
                (S.seq
                  (S.iff
                    (E.not
                      (E.call 19
                        (Es.cons
                          (E.told 0
                            (E.call 8 (Es.cons (E.call 20 (Es.cons (E.var 1) (Es.cons (E.var 3) Es.nil))) Es.nil)))
                          (Es.cons (E.tup (Es.cons (E.con (W.str [116, 111, 108, 100])) (Es.cons (E.var 4) Es.nil)))
                            Es.nil))))
                    (S.seq (S.ret (E.con (W.bl false))) S.skip) S.skip)
                  (S.seq
                    (S.for (Tg.nm 6) (It.rng (Es.cons (E.con (W.int 10)) Es.nil))
                      (S.seq (S.asg (Tg.nm 10) (E.call 28 (Es.cons (E.var 1) (Es.cons (E.var 4) Es.nil))))
                        (S.seq
                          (S.asg (Tg.nm 11)
                            (E.comp [16] (Tg.nm 16)
                              (It.val
                                (E.slc (E.me Me.split (E.var 10) (Es.cons (E.con (W.str [10])) Es.nil)) Es.nil
                                  (Es.cons (E.neg (E.con (W.int 1))) Es.nil)))
                              Es.nil (E.call 27 (Es.cons (E.var 16) Es.nil))))
                          (S.seq
                            (S.asg (Tg.nm 12)
                              (E.ite
                                (E.cmp Co.isin
                                  (E.slc (E.var 10) (Es.cons (E.neg (E.con (W.int 1))) Es.nil) Es.nil)
                                  (E.tup (Es.cons (E.con (W.str [])) (Es.cons (E.con (W.str [10])) Es.nil))))
                                (E.con W.non)
                                (E.bin Bo.add (E.bi Bi.len (Es.cons (E.var 11) Es.nil)) (E.con (W.int 1)))))
                            (S.seq
                              (S.asg (Tg.nm 12)
                                (E.ite (E.cmp Co.isin (E.con W.non) (E.var 11))
                                  (E.bin Bo.add (E.me Me.index (E.var 11) (Es.cons (E.con W.non) Es.nil))
                                    (E.con (W.int 1)))
                                  (E.var 12)))
                              (S.seq
                                (S.iff
                                  (E.not
                                    (E.call 19
                                      (Es.cons (E.call 11 (Es.cons (E.var 10) Es.nil)) (Es.cons (E.var 12) Es.nil))))
                                  (S.seq (S.ret (E.con (W.bl false))) S.skip) S.skip)
                                (S.seq
                                  (S.iff
                                    (E.not
                                      (E.call 19
                                        (Es.cons (E.told 0 (E.call 12 (Es.cons (E.var 10) Es.nil)))
                                          (Es.cons
                                            (E.ite (E.cmp Co.is (E.var 12) (E.con W.non))
                                              (E.tup
                                                (Es.cons (E.con (W.str [116, 111, 108, 100]))
                                                  (Es.cons (E.var 11) Es.nil)))
                                              (E.tup
                                                (Es.cons (E.con (W.str [116, 101, 120, 116]))
                                                  (Es.cons (E.var 12) Es.nil))))
                                            Es.nil))))
                                    (S.seq (S.ret (E.con (W.bl false))) S.skip) S.skip)
                                  S.skip)))))))
                    (S.seq
                      (S.asg (Tg.nm 7)
                        (E.call 16
                          (Es.cons (E.var 1)
                            (Es.cons (E.bin Bo.add (E.bi Bi.len (Es.cons (E.var 3) Es.nil)) (E.con (W.int 1)))
                              Es.nil))))
                      (S.seq
                        (S.asg (Tg.nm 8)
                          (E.lst
                            (Es.cons (E.con W.non)
                              (Es.cons (E.con (W.int 5))
                                (Es.cons (E.con (W.str [112, 105, 110]))
                                  (Es.cons (E.tup (Es.cons (E.con (W.str [112, 105, 110])) Es.nil))
                                    (Es.cons
                                      (E.tup
                                        (Es.cons (E.con (W.str [112, 105, 110])) (Es.cons (E.con (W.str [65])) Es.nil)))
                                      (Es.cons
                                        (E.tup
                                          (Es.cons (E.con (W.str [112, 105, 110]))
                                            (Es.cons (E.con (W.int 5)) Es.nil)))
                                        (Es.cons
                                          (E.tup
                                            (Es.cons (E.con (W.str [115, 116, 111, 112]))
                                              (Es.cons (E.con (W.str [97])) Es.nil)))
                                          (Es.cons
                                            (E.tup
                                              (Es.cons (E.con (W.str [116, 97, 107, 101]))
                                                (Es.cons (E.con (W.bl true)) Es.nil)))
                                            (Es.cons
                                              (E.tup
                                                (Es.cons (E.con (W.str [116, 97, 107, 101]))
                                                  (Es.cons (E.neg (E.con (W.int 1))) Es.nil)))
                                              (Es.cons
                                                (E.tup
                                                  (Es.cons (E.con (W.str [116, 97, 107, 101]))
                                                    (Es.cons (E.con (W.str [49])) Es.nil)))
                                                Es.nil))))))))))))
                        (S.seq
                          (S.asg (Tg.nm 8)
                            (E.bin Bo.add (E.var 8)
                              (E.lst
                                (Es.cons
                                  (E.tup
                                    (Es.cons (E.con (W.str [112, 117, 116]))
                                      (Es.cons (E.con (W.str [97])) (Es.cons (E.tup Es.nil) Es.nil))))
                                  (Es.cons
                                    (E.tup
                                      (Es.cons (E.con (W.str [112, 117, 116]))
                                        (Es.cons (E.con (W.str [97])) (Es.cons (E.con (W.str [97, 98])) Es.nil))))
                                    (Es.cons
                                      (E.tup
                                        (Es.cons (E.con (W.str [112, 117, 116]))
                                          (Es.cons (E.con (W.str [97]))
                                            (Es.cons
                                              (E.tup
                                                (Es.cons (E.con (W.str [97]))
                                                  (Es.cons (E.con (W.str [98]))
                                                    (Es.cons (E.con (W.str [99]))
                                                      (Es.cons (E.con (W.str [100])) Es.nil)))))
                                              Es.nil))))
                                      (Es.cons
                                        (E.tup
                                          (Es.cons (E.con (W.str [109, 111, 118, 101]))
                                            (Es.cons
                                              (E.tup (Es.cons (E.tup (Es.cons (E.con (W.str [97])) Es.nil)) Es.nil))
                                              Es.nil)))
                                        (Es.cons
                                          (E.tup
                                            (Es.cons (E.con (W.str [109, 111, 118, 101])) (Es.cons (E.con W.non) Es.nil)))
                                          Es.nil))))))))
                          (S.seq
                            (S.asg (Tg.nm 8)
                              (E.bin Bo.add (E.var 8)
                                (E.lst
                                  (Es.cons
                                    (E.tup
                                      (Es.cons (E.con (W.str [109, 101, 110, 100]))
                                        (Es.cons (E.con (W.str [97])) (Es.cons (E.con (W.str [98])) Es.nil))))
                                    (Es.cons
                                      (E.tup
                                        (Es.cons (E.con (W.str [109, 101, 110, 100]))
                                          (Es.cons (E.con (W.str [97]))
                                            (Es.cons (E.con (W.str [98]))
                                              (Es.cons
                                                (E.tup
                                                  (Es.cons
                                                    (E.tup
                                                      (Es.cons (E.con (W.str [97]))
                                                        (Es.cons (E.con (W.str [66])) Es.nil)))
                                                    Es.nil))
                                                Es.nil)))))
                                      (Es.cons
                                        (E.tup
                                          (Es.cons (E.con (W.str [99, 104, 97, 110, 103, 101]))
                                            (Es.cons (E.con (W.str [97])) (Es.cons (E.con W.non) Es.nil))))
                                        (Es.cons (E.tup Es.nil)
                                          (Es.cons
                                            (E.tup
                                              (Es.cons (E.con (W.str [108, 101, 97, 118, 101]))
                                                (Es.cons (E.con (W.str [97])) (Es.cons (E.con (W.str [98])) Es.nil))))
                                            Es.nil))))))))
                            (S.seq
                              (S.for (Tg.nm 9) (It.val (E.var 8))
                                (S.seq
                                  (S.asg (Tg.nm 13)
                                    (E.bin Bo.add
                                      (E.bin Bo.add (E.slc (E.var 3) Es.nil (Es.cons (E.var 7) Es.nil))
                                        (E.lst (Es.cons (E.var 9) Es.nil)))
                                      (E.slc (E.var 3) (Es.cons (E.var 7) Es.nil) Es.nil)))
                                  (S.seq
                                    (S.iff
                                      (E.not
                                        (E.call 19
                                          (Es.cons (E.told 0 (E.call 8 (Es.cons (E.var 13) Es.nil)))
                                            (Es.cons
                                              (E.tup
                                                (Es.cons (E.con (W.str [100, 101, 101, 100])) (Es.cons (E.var 7) Es.nil)))
                                              Es.nil))))
                                      (S.seq (S.ret (E.con (W.bl false))) S.skip) S.skip)
                                    S.skip)))
                              (S.seq
                                (S.for (Tg.nm 9)
                                  (It.val
                                    (E.lst
                                      (Es.cons (E.con W.non)
                                        (Es.cons (E.con (W.int 3))
                                          (Es.cons (E.con (W.str [])) (Es.cons (E.dis [] Es.nil) Es.nil))))))
                                  (S.seq
                                    (S.iff
                                      (E.not
                                        (E.call 19
                                          (Es.cons (E.told 0 (E.call 8 (Es.cons (E.var 9) Es.nil)))
                                            (Es.cons
                                              (E.tup
                                                (Es.cons (E.con (W.str [100, 101, 101, 100]))
                                                  (Es.cons (E.con (W.int 0)) Es.nil)))
                                              Es.nil))))
                                      (S.seq (S.ret (E.con (W.bl false))) S.skip) S.skip)
                                    S.skip))
                                (S.seq
                                  (S.for (Tg.nm 9)
                                    (It.val
                                      (E.lst
                                        (Es.cons (E.con W.non)
                                          (Es.cons (E.con (W.int 5))
                                            (Es.cons (E.lst (Es.cons (E.var 4) Es.nil)) Es.nil)))))
                                    (S.seq
                                      (S.iff
                                        (E.or
                                          (E.not
                                            (E.call 19
                                              (Es.cons (E.call 11 (Es.cons (E.var 9) Es.nil))
                                                (Es.cons (E.con (W.int 0)) Es.nil))))
                                          (E.not
                                            (E.call 19
                                              (Es.cons (E.told 0 (E.call 12 (Es.cons (E.var 9) Es.nil)))
                                                (Es.cons
                                                  (E.tup
                                                    (Es.cons (E.con (W.str [116, 101, 120, 116]))
                                                      (Es.cons (E.con (W.int 0)) Es.nil)))
                                                  Es.nil)))))
                                        (S.seq (S.ret (E.con (W.bl false))) S.skip) S.skip)
                                      S.skip))
                                  S.skip))))))))))))))
      (S.seq (S.ret (E.con (W.bl true))) S.skip))
theorem e0 : bodyOf (⟨7, "is_row", ["thing"], ["thing"], false⟩) = b0 := by kernel_rfl
theorem e1 : bodyOf (⟨8, "is_between", ["thing", "low", "high"], ["thing", "low", "high"], false⟩) = b1 := by kernel_rfl
theorem e2 : bodyOf (⟨9, "is_name", ["thing"], ["thing", "sign"], false⟩) = b2 := by kernel_rfl
theorem e3 : bodyOf (⟨12, "number_in", ["word"], ["word", "sign"], false⟩) = b3 := by kernel_rfl
theorem e4 : bodyOf (⟨15, "steps_in", ["thing"], ["thing", "found", "one"], false⟩) = b4 := by kernel_rfl
theorem e5 : bodyOf (⟨16, "plan_deed", ["thing"], ["thing", "many", "steps", "word"], false⟩) = b5 := by kernel_rfl
theorem e6 : bodyOf (⟨17, "deed_in", ["thing"], ["thing", "word", "place", "one"], false⟩) = b6 := by kernel_rfl
theorem e7 : bodyOf (⟨18, "words_of", ["deed"], ["deed", "word", "found", "place", "value"], false⟩) = b7 := by kernel_rfl
theorem e8 : bodyOf (⟨19, "deeds_text", ["deeds"], ["deeds", "lines", "index", "thing", "deed", "line"], false⟩) = b8 := by kernel_rfl
theorem e9 : bodyOf (⟨20, "pairs_in", ["words"], ["words", "at"], false⟩) = b9 := by kernel_rfl
theorem e10 : bodyOf (⟨21, "line_in", ["line"], ["line", "words", "word", "number", "at", "pairs"], false⟩) = b10 := by kernel_rfl
theorem e11 : bodyOf (⟨22, "deeds_fault", ["text"], ["text", "lines", "index", "line"], false⟩) = b11 := by kernel_rfl
theorem e12 : bodyOf (⟨23, "read_deeds", ["text"], ["text", "place", "line"], false⟩) = b12 := by kernel_rfl
theorem e13 : bodyOf (⟨25, "_law_mname", ["stream"], ["stream", "signs", "name", "turn"], false⟩) = b13 := by kernel_rfl
theorem e14 : bodyOf (⟨26, "_law_mnames", ["stream", "many"], ["stream", "many", "found", "turn", "free", "k", "name"], false⟩) = b14 := by kernel_rfl
theorem e15 : bodyOf (⟨27, "_law_start", ["script"], ["script"], false⟩) = b15 := by kernel_rfl
theorem e16 : bodyOf (⟨28, "_law_below", ["stream", "many"], ["stream", "many", "mixed", "cell", "digit"], false⟩) = b16 := by kernel_rfl
theorem e17 : bodyOf (⟨29, "_law_pick", ["stream", "some"], ["stream", "some"], false⟩) = b17 := by kernel_rfl
theorem e18 : bodyOf (⟨30, "_law_mixed", ["stream", "some"], ["stream", "some", "left", "k"], false⟩) = b18 := by kernel_rfl
theorem e19 : bodyOf (⟨31, "_law_same", ["found", "due"], ["found", "due", "x", "y"], false⟩) = b19 := by kernel_rfl
theorem e20 : bodyOf (⟨32, "_law_loose", ["stream", "thing"], ["stream", "thing", "found", "part", "key"], false⟩) = b20 := by kernel_rfl
theorem e21 : bodyOf (⟨33, "_law_spoilt", ["thing"], ["thing", "key", "part"], false⟩) = b21 := by kernel_rfl
theorem e22 : bodyOf (⟨34, "_law_is_once", ["thing"], ["thing", "many", "key", "part"], false⟩) = b22 := by kernel_rfl
theorem e23 : bodyOf (⟨35, "_law_apart", ["thing"], ["thing"], false⟩) = b23 := by kernel_rfl
theorem e24 : bodyOf (⟨36, "_law_mform", ["stream"], ["stream", "names", "word", "plan", "k"], false⟩) = b24 := by kernel_rfl
theorem e25 : bodyOf (⟨37, "_law_msaid", ["deed"], ["deed", "words", "place", "value"], false⟩) = b25 := by kernel_rfl
theorem e26 : bodyOf (⟨38, "_law_mis_name", ["word"], ["word", "signs", "sign"], false⟩) = b26 := by kernel_rfl
theorem e27 : bodyOf (⟨39, "_law_mread", ["line"], ["line", "words", "many", "at", "plan", "word", "rest", "figures", "good", "sign", "k", "one"], false⟩) = b27 := by kernel_rfl
theorem e28 : bodyOf (⟨41, "_law_mbent", ["stream", "text"], ["stream", "text", "lines", "words", "place", "bent", "at", "kind", "spot", "line"], false⟩) = b28 := by kernel_rfl
theorem e29 : bodyOf (⟨42, "law", ["script"], ["script", "stream", "turn", "deeds", "text", "told", "again", "at", "bad", "odd", "bent", "read", "due", "asked", "k", "deed", "line"], true⟩) = b29 := by kernel_rfl
end K74
end
section
set_option Elab.async false
set_option linter.all false
set_option maxRecDepth 100000
set_option maxHeartbeats 2000000
/-! Mi by equations: for the plain laws. -/
namespace Mi
section
variable (c : Cl) (fr : Fr) (h : Hs) (wf : Nat)
@[simp] theorem ev_var (i : Nat) : ev c (.var i) fr h = (match fr[i]? with
    | some (some w) => .ok w h
    | _ => .stk) := rfl
@[simp] theorem ev_con (w : W) : ev c (.con w) fr h = .ok w h := rfl
@[simp] theorem ev_tup (es : Es) : ev c (.tup es) fr h = (evs c es fr h).bind fun ws h => okIf (decide (ws.length ≤ lineW)) (.tup ws) h := rfl
@[simp] theorem ev_lst (es : Es) : ev c (.lst es) fr h = (evs c es fr h).bind fun ws h => if ws.length ≤ lineW then new (.lst ws) h else .stk := rfl
@[simp] theorem ev_bin (o : Bo) (a b : E) : ev c (.bin o a b) fr h = (ev c a fr h).bind fun x h => (ev c b fr h).bind fun y h => binV o x y h := rfl
@[simp] theorem ev_cmp (o : Co) (a b : E) : ev c (.cmp o a b) fr h = (ev c a fr h).bind fun x h => (ev c b fr h).bind fun y h => liftO ((cmpV o h x y).map .bl) h := rfl
@[simp] theorem ev_chain (o p : Co) (a b d : E) : ev c (.chain o p a b d) fr h = (ev c a fr h).bind fun x h => (ev c b fr h).bind fun y h => match cmpV o h x y with
    | some true => (ev c d fr h).bind fun z h => liftO ((cmpV p h y z).map .bl) h
    | some false => .ok (.bl false) h
    | none => .stk := rfl
@[simp] theorem ev_and (a b : E) : ev c (.and a b) fr h = (ev c a fr h).bind fun x h => match truth h x with
    | some true => ev c b fr h
    | some false => .ok x h
    | none => .stk := rfl
@[simp] theorem ev_or (a b : E) : ev c (.or a b) fr h = (ev c a fr h).bind fun x h => match truth h x with
    | some true => .ok x h
    | some false => ev c b fr h
    | none => .stk := rfl
@[simp] theorem ev_not (a : E) : ev c (.not a) fr h = (ev c a fr h).bind fun x h => match truth h x with
    | some t => .ok (.bl (!t)) h
    | none => .stk := rfl
@[simp] theorem ev_neg (a : E) : ev c (.neg a) fr h = (ev c a fr h).bind fun x h => match x with
    | .int i => .ok (.int (-i)) h
    | _ => .stk := rfl
@[simp] theorem ev_ite (d a b : E) : ev c (.ite d a b) fr h = (ev c d fr h).bind fun x h => match truth h x with
    | some true => ev c a fr h
    | some false => ev c b fr h
    | none => .stk := rfl
@[simp] theorem ev_call (f : Nat) (es : Es) : ev c (.call f es) fr h = (evs c es fr h).bind fun ws h => c.call f ws h := rfl
@[simp] theorem ev_told (f : Nat) (e : E) : ev c (.told f e) fr h = c.told f (fun h => ev c e fr h) h := rfl
theorem ev_bi (b : Bi) (es : Es) : ev c (.bi b es) fr h = (evs c es fr h).bind fun ws h => biV b ws h := rfl
@[simp] theorem ev_isi (e : E) (ts : List Ty) : ev c (.isi e ts) fr h = (ev c e fr h).bind fun x h => match typeW h x with
    | some t => .ok (.bl (ts.any (subTy t))) h
    | none => .stk := rfl
@[simp] theorem ev_me (m : Me) (o : E) (es : Es) : ev c (.me m o es) fr h = (ev c o fr h).bind fun x h => match typeW h x with
    | some t => if m.tys.contains t then (evs c es fr h).bind fun ws h => meV m x ws h else .stk
    | none => .stk := rfl
@[simp] theorem ev_idx (a i : E) : ev c (.idx a i) fr h = (ev c a fr h).bind fun x h => (ev c i fr h).bind fun y h => liftO (idxV h x y) h := rfl
@[simp] theorem ev_slc (a : E) (lo hi : Es) : ev c (.slc a lo hi) fr h = (ev c a fr h).bind fun x h => (evs c lo fr h).bind fun l h => match boundV l with
    | some l => (evs c hi fr h).bind fun u h => match boundV u with
      | some u => slcV h x l u
      | none => .stk
    | none => .stk := rfl
@[simp] theorem ev_kin (d : Nat) (neg : Bool) (e : E) : ev c (.kin d neg e) fr h = (ev c e fr h).bind fun x h => match x with
    | .str _ => .ok (.bl (if neg then !(dget (c.tab d) x).isSome else (dget (c.tab d) x).isSome)) h
    | _ => .stk := rfl
@[simp] theorem ev_kget (d : Nat) (e : E) : ev c (.kget d e) fr h = (ev c e fr h).bind fun x h => match x with
    | .str _ => liftO (dget (c.tab d) x) h
    | _ => .stk := rfl
theorem ev_comp (own : List Nat) (g : Tg) (it : It) (ifs : Es) (e : E) : ev c (.comp own g it ifs e) fr h = (evi c it fr h).bind fun ws h =>
    (compL (fun w h => match bindTg g w (wipe fr own) with
      | some fr2 => (evifs c ifs fr2 h (fun h => (ev c e fr2 h))).calm
      | none => .stk) ws.2 ws.1 [] h).bind fun acc h => new (.lst acc) h := rfl
@[simp] theorem evs_nil : evs c .nil fr h = .ok [] h := rfl
@[simp] theorem evs_cons (e : E) (r : Es) : evs c (.cons e r) fr h = (ev c e fr h).bind fun w h => (evs c r fr h).bind fun ws h => .ok (w :: ws) h := rfl
@[simp] theorem evifs_nil (k : Hs → R W) : evifs c .nil fr h k = (k h).bind fun w h => .ok (some w) h := rfl
@[simp] theorem evifs_cons (e : E) (r : Es) (k : Hs → R W) : evifs c (.cons e r) fr h k = (ev c e fr h).bind fun x h => match truth h x with
    | some true => evifs c r fr h k
    | some false => .ok none h
    | none => .stk := rfl
@[simp] theorem evi_enum (e : E) : evi c (.enum e) fr h = ((ev c e fr h).bind fun x h => match items h x with
    | some ws => .ok (enumL 0 ws, fun h' => still h h' x) h
    | none => .stk : R (List W × (Hs → Bool))) := rfl
@[simp] theorem evi_zip (a b : E) : evi c (.zip a b) fr h = ((ev c a fr h).bind fun x h => (ev c b fr h).bind fun y h => match x, y with
    | .tup xs, .tup ys => .ok (zipL xs ys, fun _ => true) h
    | .ref n, .ref m => match items h (.ref n), items h (.ref m) with
      | some xs, some ys => .ok (zipL xs ys, fun h' => still h h' (.ref n) && still h h' (.ref m)) h
      | _, _ => .stk
    | _, _ => .stk : R (List W × (Hs → Bool))) := rfl
@[simp] theorem evi_rng (es : Es) : evi c (.rng es) fr h = ((evs c es fr h).bind fun ws h => match ws with
    | [.int j] => if -(2 ^ 62) ≤ j ∧ j < 2 ^ 62 then .ok (rangeL 0 1 j.toNat, fun _ => true) h else .stk
    | [.int i, .int j] => if -(2 ^ 62) ≤ i ∧ i < 2 ^ 62 ∧ -(2 ^ 62) ≤ j ∧ j < 2 ^ 62 then .ok (rangeL i 1 (j - i).toNat, fun _ => true) h else .stk
    | [.int i, .int j, .int k] => if -(2 ^ 30) ≤ i ∧ i < 2 ^ 30 ∧ -(2 ^ 30) ≤ j ∧ j < 2 ^ 30 ∧ 0 < k ∧ k < 2 ^ 30 then .ok (rangeL i k (if i < j then ((j - i - 1) / k + 1).toNat else 0), fun _ => true) h else .stk
    | _ => .stk : R (List W × (Hs → Bool))) := rfl
theorem evi_val (e : E) : evi c (.val e) fr h = ((ev c e fr h).bind fun x h => match x with
    | .str s => .ok (s.map fun n => .str [n], fun _ => true) h
    | _ => match items h x with
      | some ws => .ok (ws, fun h' => still h h' x) h
      | none => .stk : R (List W × (Hs → Bool))) := rfl
@[simp] theorem ex_skip : ex c wf .skip fr h = .nx fr h := rfl
@[simp] theorem ex_seq (a b : S) : ex c wf (.seq a b) fr h = (match ex c wf a fr h with
    | .nx fr h => ex c wf b fr h
    | z => z) := rfl
@[simp] theorem ex_ex (e : E) : ex c wf (.ex e) fr h = (ev c e fr h).to fr fun _ h => .nx fr h := rfl
@[simp] theorem ex_asg (g : Tg) (e : E) : ex c wf (.asg g e) fr h = (ev c e fr h).to fr fun w h => match bindTg g w fr with
    | some fr => .nx fr h
    | none => .stk := rfl
@[simp] theorem ex_par (i j : Nat) (a b : E) : ex c wf (.par i j a b) fr h = (ev c a fr h).to fr fun x h => (ev c b fr h).to fr fun y h => if i < fr.length ∧ j < fr.length then .nx ((fr.set i (some x)).set j (some y)) h else .stk := rfl
@[simp] theorem ex_ret (e : E) : ex c wf (.ret e) fr h = (ev c e fr h).to fr fun w h => .rt w h := rfl
@[simp] theorem ex_retN : ex c wf .retN fr h = .rt .non h := rfl
@[simp] theorem ex_brk : ex c wf .brk fr h = .bk fr h := rfl
@[simp] theorem ex_cnt : ex c wf .cnt fr h = .ct fr h := rfl
@[simp] theorem ex_iff (d : E) (a b : S) : ex c wf (.iff d a b) fr h = (ev c d fr h).to fr fun x h => match truth h x with
    | some true => ex c wf a fr h
    | some false => ex c wf b fr h
    | none => .stk := rfl
theorem ex_for (g : Tg) (it : It) (b : S) : ex c wf (.for g it b) fr h = (match evi c it fr h with
    | .ok ws h => forL (fun w fr h => match bindTg g w fr with
      | some fr => ex c wf b fr h
      | none => .stk) ws.2 ws.1 fr h
    | .exc x h => .exc x fr h
    | .stk => .stk) := rfl
theorem ex_whl (d : E) (b : S) : ex c wf (.whl d b) fr h = whlL (fun fr h => (ev c d fr h).bind fun x h => liftO (truth h x) h) (fun fr h => ex c wf b fr h) wf fr h := rfl
@[simp] theorem ex_rais (k : Nat) (es : Es) : ex c wf (.rais k es) fr h = (match evs c es fr h with
    | .ok ws h => .exc ⟨k, ws⟩ fr h
    | .exc x h => .exc x fr h
    | .stk => .stk) := rfl
end
@[simp] theorem to_ok (w : W) (h : Hs) (fr : Fr) (k : W → Hs → Rs) : (R.ok w h).to fr k = k w h := rfl
@[simp] theorem to_exc (x : Xc) (h : Hs) (fr : Fr) (k : W → Hs → Rs) : (R.exc x h : R W).to fr k = .exc x fr h := rfl
@[simp] theorem liftO_some {α : Type} (a : α) (h : Hs) : liftO (some a) h = .ok a h := rfl
@[simp] theorem okIf_true {α : Type} (a : α) (h : Hs) : okIf true a h = .ok a h := rfl
@[simp] theorem calm_ok {α : Type} (a : α) (h : Hs) : (R.ok a h).calm = .ok a h := rfl

/-! ### comprehensions -/
/-- turns that make something of each item, the heap as it is -/
theorem compL_fm {f : W → Hs → R (Option W)} {g : Hs → Bool} {m : W → Option W} {h : Hs} (hg : g h = true) : ∀ (ws acc : List W), (∀ w ∈ ws, f w h = .ok (m w) h) → acc.length + ws.length ≤ lineW → compL f g ws acc h = .ok (acc ++ ws.filterMap m) h
  | [], acc, _, _ => by unfold compL; rw [if_pos hg]; simp
  | w :: r, acc, hf, hl => by
    unfold compL
    rw [if_pos hg, hf w (by simp)]
    have hl' : acc.length + (r.length + 1) ≤ lineW := hl
    cases e : m w with
    | none =>
      show compL f g r acc h = _
      rw [compL_fm hg r acc (fun w' hw => hf w' (by simp [hw])) (by omega)]
      simp [List.filterMap_cons, e]
    | some x =>
      show (if acc.length < lineW then compL f g r (acc ++ [x]) h else .stk) = _
      rw [if_pos (by omega), compL_fm hg r (acc ++ [x]) (fun w' hw => hf w' (by simp [hw])) (by simp; omega)]
      simp [List.filterMap_cons, e]
theorem compL_map {f : W → Hs → R (Option W)} {g : Hs → Bool} {m : W → W} {h : Hs} (hg : g h = true) (ws : List W) (hf : ∀ w ∈ ws, f w h = .ok (some (m w)) h) (hl : ws.length ≤ lineW) : compL f g ws [] h = .ok (ws.map m) h := by
  rw [compL_fm (m := fun w => some (m w)) hg ws [] hf (by simpa using hl)]
  simp
/-! ### a call's end -/
theorem gc_same {h0 j : Hs} {w : W} (hw : w.under h0.length = true) : gc h0 w (h0 ++ j) = .ok w h0 := by
  unfold gc
  have e : (h0 ++ j).take h0.length = h0 := by rw [List.take_append_of_le_length (Nat.le_refl _), List.take_length]
  simp only [e, true_or, if_true, hw]
theorem gc_id {h0 : Hs} {w : W} (hw : w.under h0.length = true) : gc h0 w h0 = .ok w h0 := by
  have := gc_same (j := []) hw
  rwa [List.append_nil] at this
/-- a fresh flat object comes back -/
theorem gc_new {h0 j : Hs} {k : Nat} {o : Ob} (hk : j[k]? = some o) (ho : o.under h0.length = true) : gc h0 (.ref (h0.length + k)) (h0 ++ j) = .ok (.ref h0.length) (h0 ++ [o]) := by
  unfold gc
  have e : (h0 ++ j).take h0.length = h0 := by rw [List.take_append_of_le_length (Nat.le_refl _), List.take_length]
  have e2 : (W.ref (h0.length + k)).under h0.length = false := by
    show decide (h0.length + k < h0.length) = false
    exact decide_eq_false (by omega)
  have e3 : (h0 ++ j)[h0.length + k]? = some o := by rw [List.getElem?_append_right (by omega)]; simpa using hk
  simp only [e, true_or, if_true, e2, e3, ho, Bool.false_eq_true, if_false]
end Mi
end
section
set_option Elab.async false
set_option linter.all false
set_option maxRecDepth 100000
set_option maxHeartbeats 0
/-! k74: a call of each def by its written-out body. -/
namespace K74P
open K74 hiding R
open Mi
abbrev cl (n : Nat) : Cl := clOf Pr wf n
abbrev lv (n : Nat) : Nat → List W → Hs → R W := lev Pr wf n
@[simp] theorem cl_call (n f : Nat) (ws : List W) (h : Hs) : (clOf Pr wf n).call f ws h = lev Pr wf n f ws h := rfl
@[simp] theorem cl_tab (n d : Nat) : (clOf Pr wf n).tab d = named := rfl
theorem cl_told (n : Nat) (th : Hs → R W) (h : Hs) : (clOf Pr wf n).told 0 th h = toldV Pr toldT (th h) := rfl
theorem L0 (n : Nat) (ws : List W) (h : Hs) : lev Pr wf (n + 1) 0 ws h = if ws.length = 1 then endOf h (ex (clOf Pr wf n) wf b0 (startFr 1 ws) h) else .stk := by
  have e : Pr.fns 0 = some ⟨1, 1, b0⟩ := by rw [← e0]; rfl
  show (match Pr.fns 0 with
    | some d => if ws.length = d.arity then endOf h (ex (clOf Pr wf n) wf d.body (startFr d.slots ws) h) else .stk
    | none => .stk) = _
  rw [e]
theorem L1 (n : Nat) (ws : List W) (h : Hs) : lev Pr wf (n + 1) 1 ws h = if ws.length = 3 then endOf h (ex (clOf Pr wf n) wf b1 (startFr 3 ws) h) else .stk := by
  have e : Pr.fns 1 = some ⟨3, 3, b1⟩ := by rw [← e1]; rfl
  show (match Pr.fns 1 with
    | some d => if ws.length = d.arity then endOf h (ex (clOf Pr wf n) wf d.body (startFr d.slots ws) h) else .stk
    | none => .stk) = _
  rw [e]
theorem L2 (n : Nat) (ws : List W) (h : Hs) : lev Pr wf (n + 1) 2 ws h = if ws.length = 1 then endOf h (ex (clOf Pr wf n) wf b2 (startFr 2 ws) h) else .stk := by
  have e : Pr.fns 2 = some ⟨1, 2, b2⟩ := by rw [← e2]; rfl
  show (match Pr.fns 2 with
    | some d => if ws.length = d.arity then endOf h (ex (clOf Pr wf n) wf d.body (startFr d.slots ws) h) else .stk
    | none => .stk) = _
  rw [e]
theorem L3 (n : Nat) (ws : List W) (h : Hs) : lev Pr wf (n + 1) 3 ws h = if ws.length = 1 then endOf h (ex (clOf Pr wf n) wf b3 (startFr 2 ws) h) else .stk := by
  have e : Pr.fns 3 = some ⟨1, 2, b3⟩ := by rw [← e3]; rfl
  show (match Pr.fns 3 with
    | some d => if ws.length = d.arity then endOf h (ex (clOf Pr wf n) wf d.body (startFr d.slots ws) h) else .stk
    | none => .stk) = _
  rw [e]
theorem L4 (n : Nat) (ws : List W) (h : Hs) : lev Pr wf (n + 1) 4 ws h = if ws.length = 1 then endOf h (ex (clOf Pr wf n) wf b4 (startFr 3 ws) h) else .stk := by
  have e : Pr.fns 4 = some ⟨1, 3, b4⟩ := by rw [← e4]; rfl
  show (match Pr.fns 4 with
    | some d => if ws.length = d.arity then endOf h (ex (clOf Pr wf n) wf d.body (startFr d.slots ws) h) else .stk
    | none => .stk) = _
  rw [e]
theorem L5 (n : Nat) (ws : List W) (h : Hs) : lev Pr wf (n + 1) 5 ws h = if ws.length = 1 then endOf h (ex (clOf Pr wf n) wf b5 (startFr 4 ws) h) else .stk := by
  have e : Pr.fns 5 = some ⟨1, 4, b5⟩ := by rw [← e5]; rfl
  show (match Pr.fns 5 with
    | some d => if ws.length = d.arity then endOf h (ex (clOf Pr wf n) wf d.body (startFr d.slots ws) h) else .stk
    | none => .stk) = _
  rw [e]
theorem L6 (n : Nat) (ws : List W) (h : Hs) : lev Pr wf (n + 1) 6 ws h = if ws.length = 1 then endOf h (ex (clOf Pr wf n) wf b6 (startFr 4 ws) h) else .stk := by
  have e : Pr.fns 6 = some ⟨1, 4, b6⟩ := by rw [← e6]; rfl
  show (match Pr.fns 6 with
    | some d => if ws.length = d.arity then endOf h (ex (clOf Pr wf n) wf d.body (startFr d.slots ws) h) else .stk
    | none => .stk) = _
  rw [e]
theorem L7 (n : Nat) (ws : List W) (h : Hs) : lev Pr wf (n + 1) 7 ws h = if ws.length = 1 then endOf h (ex (clOf Pr wf n) wf b7 (startFr 5 ws) h) else .stk := by
  have e : Pr.fns 7 = some ⟨1, 5, b7⟩ := by rw [← e7]; rfl
  show (match Pr.fns 7 with
    | some d => if ws.length = d.arity then endOf h (ex (clOf Pr wf n) wf d.body (startFr d.slots ws) h) else .stk
    | none => .stk) = _
  rw [e]
theorem L8 (n : Nat) (ws : List W) (h : Hs) : lev Pr wf (n + 1) 8 ws h = if ws.length = 1 then endOf h (ex (clOf Pr wf n) wf b8 (startFr 6 ws) h) else .stk := by
  have e : Pr.fns 8 = some ⟨1, 6, b8⟩ := by rw [← e8]; rfl
  show (match Pr.fns 8 with
    | some d => if ws.length = d.arity then endOf h (ex (clOf Pr wf n) wf d.body (startFr d.slots ws) h) else .stk
    | none => .stk) = _
  rw [e]
theorem L9 (n : Nat) (ws : List W) (h : Hs) : lev Pr wf (n + 1) 9 ws h = if ws.length = 1 then endOf h (ex (clOf Pr wf n) wf b9 (startFr 2 ws) h) else .stk := by
  have e : Pr.fns 9 = some ⟨1, 2, b9⟩ := by rw [← e9]; rfl
  show (match Pr.fns 9 with
    | some d => if ws.length = d.arity then endOf h (ex (clOf Pr wf n) wf d.body (startFr d.slots ws) h) else .stk
    | none => .stk) = _
  rw [e]
theorem L10 (n : Nat) (ws : List W) (h : Hs) : lev Pr wf (n + 1) 10 ws h = if ws.length = 1 then endOf h (ex (clOf Pr wf n) wf b10 (startFr 6 ws) h) else .stk := by
  have e : Pr.fns 10 = some ⟨1, 6, b10⟩ := by rw [← e10]; rfl
  show (match Pr.fns 10 with
    | some d => if ws.length = d.arity then endOf h (ex (clOf Pr wf n) wf d.body (startFr d.slots ws) h) else .stk
    | none => .stk) = _
  rw [e]
theorem L11 (n : Nat) (ws : List W) (h : Hs) : lev Pr wf (n + 1) 11 ws h = if ws.length = 1 then endOf h (ex (clOf Pr wf n) wf b11 (startFr 4 ws) h) else .stk := by
  have e : Pr.fns 11 = some ⟨1, 4, b11⟩ := by rw [← e11]; rfl
  show (match Pr.fns 11 with
    | some d => if ws.length = d.arity then endOf h (ex (clOf Pr wf n) wf d.body (startFr d.slots ws) h) else .stk
    | none => .stk) = _
  rw [e]
theorem L12 (n : Nat) (ws : List W) (h : Hs) : lev Pr wf (n + 1) 12 ws h = if ws.length = 1 then endOf h (ex (clOf Pr wf n) wf b12 (startFr 3 ws) h) else .stk := by
  have e : Pr.fns 12 = some ⟨1, 3, b12⟩ := by rw [← e12]; rfl
  show (match Pr.fns 12 with
    | some d => if ws.length = d.arity then endOf h (ex (clOf Pr wf n) wf d.body (startFr d.slots ws) h) else .stk
    | none => .stk) = _
  rw [e]
theorem L13 (n : Nat) (ws : List W) (h : Hs) : lev Pr wf (n + 1) 13 ws h = if ws.length = 1 then endOf h (ex (clOf Pr wf n) wf b13 (startFr 4 ws) h) else .stk := by
  have e : Pr.fns 13 = some ⟨1, 4, b13⟩ := by rw [← e13]; rfl
  show (match Pr.fns 13 with
    | some d => if ws.length = d.arity then endOf h (ex (clOf Pr wf n) wf d.body (startFr d.slots ws) h) else .stk
    | none => .stk) = _
  rw [e]
theorem L14 (n : Nat) (ws : List W) (h : Hs) : lev Pr wf (n + 1) 14 ws h = if ws.length = 2 then endOf h (ex (clOf Pr wf n) wf b14 (startFr 7 ws) h) else .stk := by
  have e : Pr.fns 14 = some ⟨2, 7, b14⟩ := by rw [← e14]; rfl
  show (match Pr.fns 14 with
    | some d => if ws.length = d.arity then endOf h (ex (clOf Pr wf n) wf d.body (startFr d.slots ws) h) else .stk
    | none => .stk) = _
  rw [e]
theorem L15 (n : Nat) (ws : List W) (h : Hs) : lev Pr wf (n + 1) 15 ws h = if ws.length = 1 then endOf h (ex (clOf Pr wf n) wf b15 (startFr 1 ws) h) else .stk := by
  have e : Pr.fns 15 = some ⟨1, 1, b15⟩ := by rw [← e15]; rfl
  show (match Pr.fns 15 with
    | some d => if ws.length = d.arity then endOf h (ex (clOf Pr wf n) wf d.body (startFr d.slots ws) h) else .stk
    | none => .stk) = _
  rw [e]
theorem L16 (n : Nat) (ws : List W) (h : Hs) : lev Pr wf (n + 1) 16 ws h = if ws.length = 2 then endOf h (ex (clOf Pr wf n) wf b16 (startFr 5 ws) h) else .stk := by
  have e : Pr.fns 16 = some ⟨2, 5, b16⟩ := by rw [← e16]; rfl
  show (match Pr.fns 16 with
    | some d => if ws.length = d.arity then endOf h (ex (clOf Pr wf n) wf d.body (startFr d.slots ws) h) else .stk
    | none => .stk) = _
  rw [e]
theorem L17 (n : Nat) (ws : List W) (h : Hs) : lev Pr wf (n + 1) 17 ws h = if ws.length = 2 then endOf h (ex (clOf Pr wf n) wf b17 (startFr 2 ws) h) else .stk := by
  have e : Pr.fns 17 = some ⟨2, 2, b17⟩ := by rw [← e17]; rfl
  show (match Pr.fns 17 with
    | some d => if ws.length = d.arity then endOf h (ex (clOf Pr wf n) wf d.body (startFr d.slots ws) h) else .stk
    | none => .stk) = _
  rw [e]
theorem L18 (n : Nat) (ws : List W) (h : Hs) : lev Pr wf (n + 1) 18 ws h = if ws.length = 2 then endOf h (ex (clOf Pr wf n) wf b18 (startFr 4 ws) h) else .stk := by
  have e : Pr.fns 18 = some ⟨2, 4, b18⟩ := by rw [← e18]; rfl
  show (match Pr.fns 18 with
    | some d => if ws.length = d.arity then endOf h (ex (clOf Pr wf n) wf d.body (startFr d.slots ws) h) else .stk
    | none => .stk) = _
  rw [e]
theorem L19 (n : Nat) (ws : List W) (h : Hs) : lev Pr wf (n + 1) 19 ws h = if ws.length = 2 then endOf h (ex (clOf Pr wf n) wf b19 (startFr 4 ws) h) else .stk := by
  have e : Pr.fns 19 = some ⟨2, 4, b19⟩ := by rw [← e19]; rfl
  show (match Pr.fns 19 with
    | some d => if ws.length = d.arity then endOf h (ex (clOf Pr wf n) wf d.body (startFr d.slots ws) h) else .stk
    | none => .stk) = _
  rw [e]
theorem L20 (n : Nat) (ws : List W) (h : Hs) : lev Pr wf (n + 1) 20 ws h = if ws.length = 2 then endOf h (ex (clOf Pr wf n) wf b20 (startFr 5 ws) h) else .stk := by
  have e : Pr.fns 20 = some ⟨2, 5, b20⟩ := by rw [← e20]; rfl
  show (match Pr.fns 20 with
    | some d => if ws.length = d.arity then endOf h (ex (clOf Pr wf n) wf d.body (startFr d.slots ws) h) else .stk
    | none => .stk) = _
  rw [e]
theorem L21 (n : Nat) (ws : List W) (h : Hs) : lev Pr wf (n + 1) 21 ws h = if ws.length = 1 then endOf h (ex (clOf Pr wf n) wf b21 (startFr 3 ws) h) else .stk := by
  have e : Pr.fns 21 = some ⟨1, 3, b21⟩ := by rw [← e21]; rfl
  show (match Pr.fns 21 with
    | some d => if ws.length = d.arity then endOf h (ex (clOf Pr wf n) wf d.body (startFr d.slots ws) h) else .stk
    | none => .stk) = _
  rw [e]
theorem L22 (n : Nat) (ws : List W) (h : Hs) : lev Pr wf (n + 1) 22 ws h = if ws.length = 1 then endOf h (ex (clOf Pr wf n) wf b22 (startFr 4 ws) h) else .stk := by
  have e : Pr.fns 22 = some ⟨1, 4, b22⟩ := by rw [← e22]; rfl
  show (match Pr.fns 22 with
    | some d => if ws.length = d.arity then endOf h (ex (clOf Pr wf n) wf d.body (startFr d.slots ws) h) else .stk
    | none => .stk) = _
  rw [e]
theorem L23 (n : Nat) (ws : List W) (h : Hs) : lev Pr wf (n + 1) 23 ws h = if ws.length = 1 then endOf h (ex (clOf Pr wf n) wf b23 (startFr 1 ws) h) else .stk := by
  have e : Pr.fns 23 = some ⟨1, 1, b23⟩ := by rw [← e23]; rfl
  show (match Pr.fns 23 with
    | some d => if ws.length = d.arity then endOf h (ex (clOf Pr wf n) wf d.body (startFr d.slots ws) h) else .stk
    | none => .stk) = _
  rw [e]
theorem L24 (n : Nat) (ws : List W) (h : Hs) : lev Pr wf (n + 1) 24 ws h = if ws.length = 1 then endOf h (ex (clOf Pr wf n) wf b24 (startFr 5 ws) h) else .stk := by
  have e : Pr.fns 24 = some ⟨1, 5, b24⟩ := by rw [← e24]; rfl
  show (match Pr.fns 24 with
    | some d => if ws.length = d.arity then endOf h (ex (clOf Pr wf n) wf d.body (startFr d.slots ws) h) else .stk
    | none => .stk) = _
  rw [e]
theorem L25 (n : Nat) (ws : List W) (h : Hs) : lev Pr wf (n + 1) 25 ws h = if ws.length = 1 then endOf h (ex (clOf Pr wf n) wf b25 (startFr 4 ws) h) else .stk := by
  have e : Pr.fns 25 = some ⟨1, 4, b25⟩ := by rw [← e25]; rfl
  show (match Pr.fns 25 with
    | some d => if ws.length = d.arity then endOf h (ex (clOf Pr wf n) wf d.body (startFr d.slots ws) h) else .stk
    | none => .stk) = _
  rw [e]
theorem L26 (n : Nat) (ws : List W) (h : Hs) : lev Pr wf (n + 1) 26 ws h = if ws.length = 1 then endOf h (ex (clOf Pr wf n) wf b26 (startFr 3 ws) h) else .stk := by
  have e : Pr.fns 26 = some ⟨1, 3, b26⟩ := by rw [← e26]; rfl
  show (match Pr.fns 26 with
    | some d => if ws.length = d.arity then endOf h (ex (clOf Pr wf n) wf d.body (startFr d.slots ws) h) else .stk
    | none => .stk) = _
  rw [e]
theorem L27 (n : Nat) (ws : List W) (h : Hs) : lev Pr wf (n + 1) 27 ws h = if ws.length = 1 then endOf h (ex (clOf Pr wf n) wf b27 (startFr 12 ws) h) else .stk := by
  have e : Pr.fns 27 = some ⟨1, 12, b27⟩ := by rw [← e27]; rfl
  show (match Pr.fns 27 with
    | some d => if ws.length = d.arity then endOf h (ex (clOf Pr wf n) wf d.body (startFr d.slots ws) h) else .stk
    | none => .stk) = _
  rw [e]
theorem L28 (n : Nat) (ws : List W) (h : Hs) : lev Pr wf (n + 1) 28 ws h = if ws.length = 2 then endOf h (ex (clOf Pr wf n) wf b28 (startFr 10 ws) h) else .stk := by
  have e : Pr.fns 28 = some ⟨2, 10, b28⟩ := by rw [← e28]; rfl
  show (match Pr.fns 28 with
    | some d => if ws.length = d.arity then endOf h (ex (clOf Pr wf n) wf d.body (startFr d.slots ws) h) else .stk
    | none => .stk) = _
  rw [e]
theorem L29 (n : Nat) (ws : List W) (h : Hs) : lev Pr wf (n + 1) 29 ws h = if ws.length = 1 then endOf h (ex (clOf Pr wf n) wf b29 (startFr 17 ws) h) else .stk := by
  have e : Pr.fns 29 = some ⟨1, 17, b29⟩ := by rw [← e29]; rfl
  show (match Pr.fns 29 with
    | some d => if ws.length = d.arity then endOf h (ex (clOf Pr wf n) wf d.body (startFr d.slots ws) h) else .stk
    | none => .stk) = _
  rw [e]
end K74P
end
section
set_option Elab.async false
set_option linter.all false
set_option maxRecDepth 100000
set_option maxHeartbeats 2000000
/-! Plain part: views of data, new places, comprehensions over texts, lists, tuples. -/
namespace Mi
/-! ### new places -/
@[simp] theorem get_new (h : Hs) (o : Ob) (t : Hs) : (h ++ o :: t)[h.length]? = some o := by
  rw [List.getElem?_append_right (Nat.le_refl _)]; simp
@[simp] theorem get_newk (h t : Hs) (k : Nat) : (h ++ t)[h.length + k]? = t[k]? := by
  rw [List.getElem?_append_right (by omega)]; simp
@[simp] theorem set_new (h : Hs) (o p : Ob) (t : Hs) : (h ++ o :: t).set h.length p = h ++ p :: t := by
  rw [List.set_append]; simp
@[simp] theorem set_newk (h t : Hs) (k : Nat) (p : Ob) : (h ++ t).set (h.length + k) p = h ++ t.set k p := by
  rw [List.set_append]
  have : ¬ (h.length + k < h.length) := by omega
  rw [if_neg this]; simp
theorem get_app {h : Hs} {n : Nat} {o : Ob} (t : Hs) (e : h[n]? = some o) : (h ++ t)[n]? = some o := by
  have : n < h.length := by
    rcases Nat.lt_or_ge n h.length with l | l
    · exact l
    · rw [List.getElem?_eq_none l] at e; cases e
  rw [List.getElem?_append_left this, e]
theorem mapO_some {α β : Type} (f : α → β) : ∀ l : List α, mapO (fun a => some (f a)) l = some (l.map f)
  | [] => rfl
  | a :: r => by
    unfold mapO
    rw [mapO_some f r]; rfl
theorem mapO_cons {α β : Type} (f : α → Option β) (a : α) (r : List α) : mapO f (a :: r) = match f a, mapO f r with
    | some b, some t => some (b :: t)
    | _, _ => none := rfl
@[simp] theorem mapO_nil {α β : Type} (f : α → Option β) : mapO f [] = some [] := rfl
theorem mapO_length {α β : Type} {f : α → Option β} : ∀ {l : List α} {m : List β}, mapO f l = some m → m.length = l.length
  | [], m, e => by cases e; rfl
  | a :: r, m, e => by
    rw [mapO_cons] at e
    cases ea : f a with
    | none => rw [ea] at e; cases e
    | some b =>
      cases er : mapO f r with
      | none => rw [ea, er] at e; cases e
      | some t => rw [ea, er] at e; cases e; simp [mapO_length er]
theorem mapO_cons_some {α β : Type} {f : α → Option β} {a : α} {r : List α} {m : List β} (e : mapO f (a :: r) = some m) : ∃ b t, f a = some b ∧ mapO f r = some t ∧ m = b :: t := by
  rw [mapO_cons] at e
  cases ea : f a with
  | none => rw [ea] at e; cases e
  | some b =>
    cases er : mapO f r with
    | none => rw [ea, er] at e; cases e
    | some t => rw [ea, er] at e; cases e; exact ⟨b, t, rfl, rfl, rfl⟩
theorem mapO_take {α β : Type} {f : α → Option β} : ∀ (k : Nat) {l : List α} {m : List β}, mapO f l = some m → mapO f (l.take k) = some (m.take k)
  | 0, l, m, e => by simp
  | k + 1, [], m, e => by cases e; rfl
  | k + 1, a :: r, m, e => by
    obtain ⟨b, t, e1, e2, rfl⟩ := mapO_cons_some e
    simp only [List.take_succ_cons, mapO_cons, e1, mapO_take k e2]
theorem mapO_drop {α β : Type} {f : α → Option β} : ∀ (k : Nat) {l : List α} {m : List β}, mapO f l = some m → mapO f (l.drop k) = some (m.drop k)
  | 0, l, m, e => by simpa using e
  | k + 1, [], m, e => by cases e; rfl
  | k + 1, a :: r, m, e => by
    obtain ⟨b, t, e1, e2, rfl⟩ := mapO_cons_some e
    simp only [List.drop_succ_cons, mapO_drop k e2]
theorem mapO_get {α β : Type} {f : α → Option β} : ∀ (k : Nat) {l : List α} {m : List β} {a : α}, mapO f l = some m → l[k]? = some a → ∃ b, f a = some b ∧ m[k]? = some b
  | _, [], m, a, e, ek => by simp at ek
  | 0, a :: r, m, x, e, ek => by
    obtain ⟨b, t, e1, e2, rfl⟩ := mapO_cons_some e
    simp at ek; subst ek
    exact ⟨b, e1, rfl⟩
  | k + 1, a :: r, m, x, e, ek => by
    obtain ⟨b, t, e1, e2, rfl⟩ := mapO_cons_some e
    obtain ⟨c, h1, h2⟩ := mapO_get k e2 (by simpa using ek)
    exact ⟨c, h1, by simpa using h2⟩
theorem mapO_mem {α β : Type} {f : α → Option β} : ∀ {l : List α} {m : List β} {a : α}, mapO f l = some m → a ∈ l → ∃ b ∈ m, f a = some b
  | [], m, a, e, ek => by simp at ek
  | x :: r, m, a, e, ek => by
    obtain ⟨b, t, e1, e2, rfl⟩ := mapO_cons_some e
    rcases List.mem_cons.mp ek with rfl | hk
    · exact ⟨b, by simp, e1⟩
    · obtain ⟨c, h1, h2⟩ := mapO_mem e2 hk
      exact ⟨c, by simp [h1], h2⟩
theorem mapO_dropLast {α β : Type} {f : α → Option β} {l : List α} {m : List β} (e : mapO f l = some m) : mapO f l.dropLast = some m.dropLast := by
  rw [List.dropLast_eq_take, List.dropLast_eq_take, ← mapO_length e]
  exact mapO_take _ e
theorem mapO_tail {α β : Type} {f : α → Option β} {l : List α} {m : List β} (e : mapO f l = some m) : mapO f l.tail = some m.tail := by
  rw [← List.drop_one, ← List.drop_one]
  exact mapO_drop _ e
theorem mapO_last {α β : Type} {f : α → Option β} {l : List α} {m : List β} {a : α} (e : mapO f l = some m) (h : l.getLast? = some a) : ∃ b, f a = some b ∧ m.getLast? = some b := by
  rw [List.getLast?_eq_getElem?] at h ⊢
  rw [mapO_length e]
  exact mapO_get _ e h
theorem mapO_congr {α β : Type} {f g : α → Option β} : ∀ {l : List α}, (∀ a ∈ l, f a = g a) → mapO f l = mapO g l
  | [], _ => rfl
  | a :: r, e => by rw [mapO_cons, mapO_cons, e a (by simp), mapO_congr fun x hx => e x (by simp [hx])]

/-! ### views -/
inductive Vw where | non | bl (b : Bool) | int (i : Int) | str (s : Tx) | row (vs : List Vw) | dic
/-- what a value looks like where lists and tuples are alike, to a depth -/
def viewF : Nat → Hs → W → Option Vw
  | _, _, .non => some .non
  | _, _, .bl b => some (.bl b)
  | _, _, .int i => some (.int i)
  | _, _, .str s => if s.length ≤ lineW then some (.str s) else none
  | n, h, .tup ws => match n with
    | 0 => none
    | n + 1 => if ws.length ≤ lineW then (mapO (viewF n h) ws).map .row else none
  | n, h, .ref k => match h[k]? with
    | some (.lst ws) => match n with
      | 0 => none
      | n + 1 => if ws.length ≤ lineW then (mapO (viewF n h) ws).map .row else none
    | some (.dic _) => some .dic
    | _ => none
theorem view_row {n : Nat} {h : Hs} {w : W} {vs : List Vw} (e : viewF n h w = some (.row vs)) : ∃ k ws, n = k + 1 ∧ items h w = some ws ∧ mapO (viewF k h) ws = some vs ∧ ws.length ≤ lineW ∧ ws.length = vs.length ∧ (w = .tup ws ∨ ∃ a, w = .ref a ∧ h[a]? = some (.lst ws)) := by
  cases w with
  | non => cases n <;> simp [viewF] at e
  | bl b => cases n <;> simp [viewF] at e
  | int b => cases n <;> simp [viewF] at e
  | str b => cases n <;> (simp only [viewF] at e; split at e <;> cases e)
  | tup ws =>
    cases n with
    | zero => simp [viewF] at e
    | succ k =>
      simp only [viewF] at e
      split at e
      · rename_i hl
        cases em : mapO (viewF k h) ws with
        | none => rw [em] at e; cases e
        | some m =>
          rw [em] at e
          cases e
          exact ⟨k, ws, rfl, rfl, em, hl, (mapO_length em).symm, .inl rfl⟩
      · cases e
  | ref a =>
    cases ea : h[a]? with
    | none => cases n <;> simp [viewF, ea] at e
    | some o =>
      cases o with
      | dic ks => cases n <;> simp [viewF, ea] at e
      | ins c fs => cases n <;> simp [viewF, ea] at e
      | lst ws =>
        cases n with
        | zero => simp [viewF, ea] at e
        | succ k =>
          simp only [viewF, ea] at e
          split at e
          · rename_i hl
            cases em : mapO (viewF k h) ws with
            | none => rw [em] at e; cases e
            | some m =>
              rw [em] at e
              cases e
              exact ⟨k, ws, rfl, by simp [items, ea], em, hl, (mapO_length em).symm, .inr ⟨a, rfl, ea⟩⟩
          · cases e
theorem view_str {n : Nat} {h : Hs} {w : W} {s : Tx} (e : viewF n h w = some (.str s)) : w = .str s ∧ s.length ≤ lineW := by
  cases w with
  | non => cases n <;> simp [viewF] at e
  | bl b => cases n <;> simp [viewF] at e
  | int b => cases n <;> simp [viewF] at e
  | str b =>
    cases n <;> (simp only [viewF] at e; split at e <;> first | (cases e; exact ⟨rfl, by assumption⟩) | cases e)
  | tup ws =>
    cases n with
    | zero => simp [viewF] at e
    | succ k =>
      simp only [viewF] at e
      split at e
      · cases em : mapO (viewF k h) ws <;> (rw [em] at e; cases e)
      · cases e
  | ref a =>
    cases ea : h[a]? with
    | none => cases n <;> simp [viewF, ea] at e
    | some o =>
      cases o with
      | dic ks => cases n <;> simp [viewF, ea] at e
      | ins c fs => cases n <;> simp [viewF, ea] at e
      | lst ws =>
        cases n with
        | zero => simp [viewF, ea] at e
        | succ k =>
          simp only [viewF, ea] at e
          split at e
          · cases em : mapO (viewF k h) ws <;> (rw [em] at e; cases e)
          · cases e
/-- the type by a view -/
def Vw.ty : Vw → List Ty
  | .non => [.non] | .bl _ => [.bl] | .int _ => [.int] | .str _ => [.str] | .row _ => [.lst, .tup] | .dic => [.dic]
theorem view_ty {n : Nat} {h : Hs} {w : W} {v : Vw} (e : viewF n h w = some v) : ∃ t, typeW h w = some t ∧ t ∈ v.ty := by
  cases w with
  | non => cases n <;> (simp only [viewF] at e; cases e; exact ⟨_, rfl, by simp [Vw.ty]⟩)
  | bl b => cases n <;> (simp only [viewF] at e; cases e; exact ⟨_, rfl, by simp [Vw.ty]⟩)
  | int b => cases n <;> (simp only [viewF] at e; cases e; exact ⟨_, rfl, by simp [Vw.ty]⟩)
  | str b => cases n <;> (simp only [viewF] at e; split at e <;> first | (cases e; exact ⟨_, rfl, by simp [Vw.ty]⟩) | cases e)
  | tup ws =>
    cases n with
    | zero => simp [viewF] at e
    | succ k =>
      simp only [viewF] at e
      split at e
      · cases em : mapO (viewF k h) ws with
        | none => rw [em] at e; cases e
        | some m => rw [em] at e; cases e; exact ⟨_, rfl, by simp [Vw.ty]⟩
      · cases e
  | ref a =>
    cases ea : h[a]? with
    | none => cases n <;> simp [viewF, ea] at e
    | some o =>
      cases o with
      | dic ks =>
        have : v = .dic := by cases n <;> (simp [viewF, ea] at e; exact e.symm)
        subst this
        exact ⟨.dic, by simp [typeW, ea], by simp [Vw.ty]⟩
      | ins c fs => cases n <;> simp [viewF, ea] at e
      | lst ws =>
        cases n with
        | zero => simp [viewF, ea] at e
        | succ k =>
          simp only [viewF, ea] at e
          split at e
          · cases em : mapO (viewF k h) ws with
            | none => rw [em] at e; cases e
            | some m => rw [em] at e; cases e; exact ⟨.lst, by simp [typeW, ea], by simp [Vw.ty]⟩
          · cases e
theorem view_int {n : Nat} {h : Hs} {w : W} {i : Int} (e : viewF n h w = some (.int i)) : w = .int i := by
  cases w with
  | int b => cases n <;> (simp only [viewF] at e; cases e; rfl)
  | _ =>
    obtain ⟨t, e1, e2⟩ := view_ty e
    simp only [Vw.ty, List.mem_singleton] at e2
    subst e2
    first
    | cases e1
    | (rename_i k
       simp only [typeW] at e1
       split at e1 <;> cases e1)
/-- a view lasts where the heap grows -/
theorem view_app {h : Hs} (t : Hs) : ∀ {n : Nat} {w : W} {v : Vw}, viewF n h w = some v → viewF n (h ++ t) w = some v := by
  intro n
  induction n with
  | zero =>
    intro w v e
    cases w with
    | ref a =>
      cases ea : h[a]? with
      | none => simp [viewF, ea] at e
      | some o =>
        simp only [viewF, ea] at e
        simp only [viewF, get_app t ea]
        exact e
    | tup ws => simp [viewF] at e
    | _ => exact e
  | succ k ih =>
    have m : ∀ {ws : List W} {vs : List Vw}, mapO (viewF k h) ws = some vs → mapO (viewF k (h ++ t)) ws = some vs := by
      intro ws
      induction ws with
      | nil => intro vs e; exact e
      | cons a r ihr =>
        intro vs e
        obtain ⟨b, u, e1, e2, rfl⟩ := mapO_cons_some e
        rw [mapO_cons, ih e1, ihr e2]
    intro w v e
    cases w with
    | ref a =>
      cases ea : h[a]? with
      | none => simp [viewF, ea] at e
      | some o =>
        simp only [viewF, ea] at e
        simp only [viewF, get_app t ea]
        cases o with
        | lst ws =>
          simp only at e ⊢
          split at e
          · rename_i hl
            rw [if_pos hl]
            cases em : mapO (viewF k h) ws with
            | none => rw [em] at e; cases e
            | some vs => rw [em] at e; rw [m em]; exact e
          · cases e
        | _ => exact e
    | tup ws =>
      simp only [viewF] at e ⊢
      split at e
      · rename_i hl
        rw [if_pos hl]
        cases em : mapO (viewF k h) ws with
        | none => rw [em] at e; cases e
        | some vs => rw [em] at e; rw [m em]; exact e
      · cases e
    | _ => exact e
/-! ### the simp set -/
@[simp] theorem lw1 : 1 ≤ lineW := by decide
@[simp] theorem lw2 : 2 ≤ lineW := by decide
@[simp] theorem lw3 : 3 ≤ lineW := by decide
@[simp] theorem lw4 : 4 ≤ lineW := by decide
@[simp] theorem lw5 : 5 ≤ lineW := by decide
@[simp] theorem lw6 : 6 ≤ lineW := by decide
@[simp] theorem lw7 : 7 ≤ lineW := by decide
@[simp] theorem lw8 : 8 ≤ lineW := by decide
@[simp] theorem lw9 : 9 ≤ lineW := by decide
@[simp] theorem lw10 : 10 ≤ lineW := by decide
@[simp] theorem lw11 : 11 ≤ lineW := by decide
@[simp] theorem lw12 : 12 ≤ lineW := by decide
@[simp] theorem lw13 : 13 ≤ lineW := by decide
@[simp] theorem lw14 : 14 ≤ lineW := by decide
@[simp] theorem lw15 : 15 ≤ lineW := by decide
@[simp] theorem lw16 : 16 ≤ lineW := by decide
@[simp] theorem lw17 : 17 ≤ lineW := by decide
@[simp] theorem lw18 : 18 ≤ lineW := by decide
@[simp] theorem lw19 : 19 ≤ lineW := by decide
@[simp] theorem lw20 : 20 ≤ lineW := by decide
theorem beq_dec {α : Type} [BEq α] [LawfulBEq α] [DecidableEq α] (s t : α) : (s == t) = decide (s = t) := by
  by_cases e : s = t
  · subst e; simp
  · rw [decide_eq_false e, beq_eq_false_iff_ne.mpr e]
def has (t : Tx) (c : Nat) : Bool := t.contains c
section
variable (h : Hs)
@[simp] theorem startFr_eq (n : Nat) (ws : List W) : startFr n ws = ws.map some ++ List.replicate (n - ws.length) none := rfl
@[simp] theorem repl_zero (o : Option W) : List.replicate 0 o = [] := rfl
@[simp] theorem repl_succ (n : Nat) (o : Option W) : List.replicate (n + 1) o = o :: List.replicate n o := rfl
@[simp] theorem typeW_non : typeW h .non = some .non := rfl
@[simp] theorem typeW_bl (b : Bool) : typeW h (.bl b) = some .bl := rfl
@[simp] theorem typeW_int (b : Int) : typeW h (.int b) = some .int := rfl
@[simp] theorem typeW_str (b : Tx) : typeW h (.str b) = some .str := rfl
@[simp] theorem typeW_tup (b : List W) : typeW h (.tup b) = some .tup := rfl
@[simp] theorem typeW_ref (k : Nat) : typeW h (.ref k) = match h[k]? with
    | some (.lst _) => some .lst
    | some (.dic _) => some .dic
    | some (.ins c _) => some (.own c)
    | none => none := rfl
@[simp] theorem sub_non_non : subTy .non .non = true := rfl
@[simp] theorem sub_non_bl : subTy .non .bl = false := rfl
@[simp] theorem sub_non_int : subTy .non .int = false := rfl
@[simp] theorem sub_non_str : subTy .non .str = false := rfl
@[simp] theorem sub_non_lst : subTy .non .lst = false := rfl
@[simp] theorem sub_non_tup : subTy .non .tup = false := rfl
@[simp] theorem sub_non_dic : subTy .non .dic = false := rfl
@[simp] theorem sub_bl_non : subTy .bl .non = false := rfl
@[simp] theorem sub_bl_bl : subTy .bl .bl = true := rfl
@[simp] theorem sub_bl_int : subTy .bl .int = true := rfl
@[simp] theorem sub_bl_str : subTy .bl .str = false := rfl
@[simp] theorem sub_bl_lst : subTy .bl .lst = false := rfl
@[simp] theorem sub_bl_tup : subTy .bl .tup = false := rfl
@[simp] theorem sub_bl_dic : subTy .bl .dic = false := rfl
@[simp] theorem sub_int_non : subTy .int .non = false := rfl
@[simp] theorem sub_int_bl : subTy .int .bl = false := rfl
@[simp] theorem sub_int_int : subTy .int .int = true := rfl
@[simp] theorem sub_int_str : subTy .int .str = false := rfl
@[simp] theorem sub_int_lst : subTy .int .lst = false := rfl
@[simp] theorem sub_int_tup : subTy .int .tup = false := rfl
@[simp] theorem sub_int_dic : subTy .int .dic = false := rfl
@[simp] theorem sub_str_non : subTy .str .non = false := rfl
@[simp] theorem sub_str_bl : subTy .str .bl = false := rfl
@[simp] theorem sub_str_int : subTy .str .int = false := rfl
@[simp] theorem sub_str_str : subTy .str .str = true := rfl
@[simp] theorem sub_str_lst : subTy .str .lst = false := rfl
@[simp] theorem sub_str_tup : subTy .str .tup = false := rfl
@[simp] theorem sub_str_dic : subTy .str .dic = false := rfl
@[simp] theorem sub_lst_non : subTy .lst .non = false := rfl
@[simp] theorem sub_lst_bl : subTy .lst .bl = false := rfl
@[simp] theorem sub_lst_int : subTy .lst .int = false := rfl
@[simp] theorem sub_lst_str : subTy .lst .str = false := rfl
@[simp] theorem sub_lst_lst : subTy .lst .lst = true := rfl
@[simp] theorem sub_lst_tup : subTy .lst .tup = false := rfl
@[simp] theorem sub_lst_dic : subTy .lst .dic = false := rfl
@[simp] theorem sub_tup_non : subTy .tup .non = false := rfl
@[simp] theorem sub_tup_bl : subTy .tup .bl = false := rfl
@[simp] theorem sub_tup_int : subTy .tup .int = false := rfl
@[simp] theorem sub_tup_str : subTy .tup .str = false := rfl
@[simp] theorem sub_tup_lst : subTy .tup .lst = false := rfl
@[simp] theorem sub_tup_tup : subTy .tup .tup = true := rfl
@[simp] theorem sub_tup_dic : subTy .tup .dic = false := rfl
@[simp] theorem sub_dic_non : subTy .dic .non = false := rfl
@[simp] theorem sub_dic_bl : subTy .dic .bl = false := rfl
@[simp] theorem sub_dic_int : subTy .dic .int = false := rfl
@[simp] theorem sub_dic_str : subTy .dic .str = false := rfl
@[simp] theorem sub_dic_lst : subTy .dic .lst = false := rfl
@[simp] theorem sub_dic_tup : subTy .dic .tup = false := rfl
@[simp] theorem sub_dic_dic : subTy .dic .dic = true := rfl
@[simp] theorem truth_non : truth h .non = some false := rfl
@[simp] theorem truth_bl (b : Bool) : truth h (.bl b) = some b := rfl
@[simp] theorem truth_int (b : Int) : truth h (.int b) = some (b != 0) := rfl
@[simp] theorem truth_str (s : Tx) : truth h (.str s) = if s.length ≤ lineW then some (!s.isEmpty) else none := rfl
@[simp] theorem truth_tup (b : List W) : truth h (.tup b) = some (!b.isEmpty) := rfl
@[simp] theorem truth_ref (k : Nat) : truth h (.ref k) = match h[k]? with
    | some (.lst ws) => some (!ws.isEmpty)
    | some (.dic kvs) => some (!kvs.isEmpty)
    | _ => none := rfl
@[simp] theorem lenV_str (s : Tx) : lenV h (.str s) = if s.length ≤ lineW then some s.length else none := rfl
@[simp] theorem lenV_tup (b : List W) : lenV h (.tup b) = some b.length := rfl
@[simp] theorem lenV_ref (k : Nat) : lenV h (.ref k) = match h[k]? with
    | some (.lst ws) => some ws.length
    | some (.dic kvs) => some kvs.length
    | _ => none := rfl
@[simp] theorem items_tup (b : List W) : items h (.tup b) = some b := rfl
@[simp] theorem items_ref (k : Nat) : items h (.ref k) = match h[k]? with
    | some (.lst ws) => some ws
    | _ => none := rfl
@[simp] theorem eqV_str (s t : Tx) : eqV h (.str s) (.str t) = some (decide (s = t)) := by
  show some (s == t) = _
  rw [beq_dec]
@[simp] theorem eqV_int (s t : Int) : eqV h (.int s) (.int t) = some (decide (s = t)) := by
  show some (s == t) = _
  rw [beq_dec]
@[simp] theorem cmp_eq (a b : W) : cmpV .eq h a b = eqV h a b := rfl
@[simp] theorem cmp_ne (a b : W) : cmpV .ne h a b = (eqV h a b).map (!·) := rfl
@[simp] theorem cmp_lt (a b : Int) : cmpV .lt h (.int a) (.int b) = some (decide (a < b)) := rfl
@[simp] theorem cmp_le (a b : Int) : cmpV .le h (.int a) (.int b) = some (decide (a ≤ b)) := by
  show some (!decide (b < a)) = _
  congr 1
  by_cases e : b < a
  · have : ¬ (a ≤ b) := by omega
    simp [e, this]
  · have : a ≤ b := by omega
    simp [e, this]
@[simp] theorem cmp_gt (a b : Int) : cmpV .gt h (.int a) (.int b) = some (decide (b < a)) := rfl
@[simp] theorem cmp_ge (a b : Int) : cmpV .ge h (.int a) (.int b) = some (decide (b ≤ a)) := by
  show some (!decide (a < b)) = _
  congr 1
  by_cases e : a < b
  · have : ¬ (b ≤ a) := by omega
    simp [e, this]
  · have : b ≤ a := by omega
    simp [e, this]
@[simp] theorem cmp_in (a b : W) : cmpV .isin h a b = inV h a b := rfl
@[simp] theorem cmp_notin (a b : W) : cmpV .notin h a b = (inV h a b).map (!·) := rfl
@[simp] theorem cmp_is (a : W) : cmpV .is h a .non = some (a == .non) := rfl
@[simp] theorem cmp_isnot (a : W) : cmpV .isnot h a .non = some (!(a == .non)) := rfl
@[simp] theorem inV_str (c : Nat) (t : Tx) : inV h (.str [c]) (.str t) = some (has t c) := rfl
@[simp] theorem inV_tup2 (s a b : Tx) : inV h (.str s) (.tup [.str a, .str b]) = some (decide (a = s) || decide (b = s)) := by
  show some ((a == s) || ((b == s) || false)) = _
  rw [beq_dec, beq_dec, Bool.or_false]
@[simp] theorem idxV_str (s : Tx) (i : Int) : idxV h (.str s) (.int i) = if s.length ≤ lineW then (atI s i).map fun c => .str [c] else none := rfl
@[simp] theorem idxV_tup (s : List W) (i : Int) : idxV h (.tup s) (.int i) = atI s i := rfl
@[simp] theorem idxV_lst {n : Nat} {ws : List W} (i : Int) (e : h[n]? = some (.lst ws)) : idxV h (.ref n) (.int i) = atI ws i := by
  show (match h[n]? with
    | some (.lst ws) => idxL ws (.int i)
    | some (.dic kvs) => if keyOk (.int i) then dget kvs (.int i) else none
    | _ => none) = _
  rw [e]; rfl
@[simp] theorem okIf_eq {α : Type} (c : Prop) [Decidable c] (a : α) : okIf (decide c) a h = if c then .ok a h else .stk := by
  unfold okIf
  by_cases e : c <;> simp [e]
@[simp] theorem mod_two (i : Int) : binV .mod (.int i) (.int 2) h = .ok (.int (i % 2)) h := rfl
@[simp] theorem boundV_nil : boundV [] = some none := rfl
@[simp] theorem boundV_one (i : Int) : boundV [.int i] = some (some i) := rfl
@[simp] theorem add_ii (i j : Int) : binV .add (.int i) (.int j) h = .ok (.int (i + j)) h := rfl
@[simp] theorem sub_ii (i j : Int) : binV .sub (.int i) (.int j) h = .ok (.int (i - j)) h := rfl
@[simp] theorem add_ss (s t : Tx) : binV .add (.str s) (.str t) h = if s.length + t.length ≤ lineW then .ok (.str (s ++ t)) h else .stk := okIf_eq _ _ _
@[simp] theorem add_tt (s t : List W) : binV .add (.tup s) (.tup t) h = if s.length + t.length ≤ lineW then .ok (.tup (s ++ t)) h else .stk := okIf_eq _ _ _
@[simp] theorem wipe_nil (fr : Fr) : wipe fr [] = fr := rfl
@[simp] theorem wipe_cons (fr : Fr) (v : Nat) (vs : List Nat) : wipe fr (v :: vs) = (wipe fr vs).set v none := rfl
@[simp] theorem bind_nm (i : Nat) (w : W) (fr : Fr) : bindTg (.nm i) w fr = if i < fr.length then some (fr.set i (some w)) else none := rfl
@[simp] theorem bind_two (i j : Nat) (x y : W) (fr : Fr) : bindTg (.cons (.nm i) (.cons (.nm j) .nil)) (.tup [x, y]) fr = if i < fr.length ∧ j < fr.length then some ((fr.set i (some x)).set j (some y)) else none := by
  by_cases hi : i < fr.length
  · by_cases hj : j < fr.length
    · simp [bindTg, isNm, hi, hj]
    · simp [bindTg, isNm, hi, hj]
  · simp [bindTg, isNm, hi]
@[simp] theorem endOf_nx (h0 : Hs) (fr : Fr) : endOf h0 (.nx fr h) = gc h0 .non h := rfl
@[simp] theorem endOf_rt (h0 : Hs) (w : W) : endOf h0 (.rt w h) = gc h0 w h := rfl
@[simp] theorem endOf_exc (h0 : Hs) (fr : Fr) (x : Xc) : endOf h0 (.exc x fr h) = gcX h0 x h := rfl
@[simp] theorem beq_ss (s t : Tx) : (W.str s == W.str t) = decide (s = t) := by
  show (s == t) = _
  rw [beq_dec]
@[simp] theorem beq_ii (s t : Int) : (W.int s == W.int t) = decide (s = t) := by
  show (s == t) = _
  rw [beq_dec]
@[simp] theorem beq_nn : (W.non == W.non) = true := rfl
@[simp] theorem beq_sn (s : Tx) : (W.str s == W.non) = false := rfl
@[simp] theorem beq_in (s : Int) : (W.int s == W.non) = false := rfl
@[simp] theorem beq_tn (s : List W) : (W.tup s == W.non) = false := rfl
@[simp] theorem beq_rn (s : Nat) : (W.ref s == W.non) = false := rfl
@[simp] theorem beq_bn (s : Bool) : (W.bl s == W.non) = false := rfl
end
theorem atI_zero {α : Type} (a : α) (r : List α) : atI (a :: r) 0 = some a := by
  unfold atI ixN
  simp
theorem atI_one {α : Type} (a b : α) (r : List α) : atI (a :: b :: r) 1 = some b := by
  unfold atI ixN
  have : (1 : Int) < ((a :: b :: r).length : Int) := by simp only [List.length_cons]; omega
  rw [if_pos (by decide), if_pos this]; rfl
theorem views_app {h : Hs} (t : Hs) {n : Nat} : ∀ {ws : List W} {vs : List Vw}, mapO (viewF n h) ws = some vs → mapO (viewF n (h ++ t)) ws = some vs
  | [], vs, e => e
  | a :: r, vs, e => by
    obtain ⟨b, u, e1, e2, rfl⟩ := mapO_cons_some e
    rw [mapO_cons, view_app t e1, views_app t e2]
theorem unders_of {m : Nat} : ∀ {ws : List W}, (∀ w ∈ ws, w.under m = true) → W.unders m ws = true
  | [], _ => rfl
  | a :: r, e => by
    simp only [W.unders, Bool.and_eq_true]
    exact ⟨e a (by simp), unders_of fun w hw => e w (by simp [hw])⟩
/-! ### built-ins -/
section
variable (c : Cl) (fr : Fr) (h : Hs)
theorem ev_bi1 (b : Bi) (e : E) : ev c (.bi b (.cons e .nil)) fr h = (ev c e fr h).bind fun w h => biV b [w] h := by
  rw [ev_bi, evs_cons]
  cases ev c e fr h <;> rfl
@[simp] theorem ev_len (e : E) : ev c (.bi .len (.cons e .nil)) fr h = (ev c e fr h).bind fun w h => liftO ((lenV h w).map fun (n : Nat) => W.int (n : Int)) h := ev_bi1 ..
@[simp] theorem ev_tuple (e : E) : ev c (.bi .tuple (.cons e .nil)) fr h = (ev c e fr h).bind fun w h => biV .tuple [w] h := ev_bi1 ..
@[simp] theorem ev_list (e : E) : ev c (.bi .list (.cons e .nil)) fr h = (ev c e fr h).bind fun w h => biV .list [w] h := ev_bi1 ..
@[simp] theorem ev_int (e : E) : ev c (.bi .int (.cons e .nil)) fr h = (ev c e fr h).bind fun w h => biV .int [w] h := ev_bi1 ..
@[simp] theorem ev_str (e : E) : ev c (.bi .str (.cons e .nil)) fr h = (ev c e fr h).bind fun w h => biV .str [w] h := ev_bi1 ..
@[simp] theorem ev_sorted (e : E) : ev c (.bi .sorted (.cons e .nil)) fr h = (ev c e fr h).bind fun w h => biV .sorted [w] h := ev_bi1 ..
end
theorem items_idx {w : W} {ws : List W} {h : Hs} (e : items h w = some ws) (i : Int) : idxV h w (.int i) = atI ws i := by
  cases w with
  | tup xs => cases e; rfl
  | ref n =>
    cases ea : h[n]? with
    | none => simp [ea] at e
    | some o => cases o <;> simp [ea] at e; subst e; exact idxV_lst h i ea
  | _ => cases e
theorem items_len {w : W} {ws : List W} {h : Hs} (e : items h w = some ws) : lenV h w = some ws.length := by
  cases w with
  | tup xs => cases e; rfl
  | ref n =>
    cases ea : h[n]? with
    | none => simp [ea] at e
    | some o => cases o <;> simp [ea] at e; subst e; simp [ea]
  | _ => cases e
theorem items_truth {w : W} {ws : List W} {h : Hs} (e : items h w = some ws) : truth h w = some (!ws.isEmpty) := by
  cases w with
  | tup xs => cases e; rfl
  | ref n =>
    cases ea : h[n]? with
    | none => simp [ea] at e
    | some o => cases o <;> simp [ea] at e; subst e; simp [ea]
  | _ => cases e
theorem items_slc {w : W} {ws : List W} {h : Hs} (e : items h w = some ws) (lo hi : Option Int) : ∃ w' t, slcV h w lo hi = .ok w' (h ++ t) ∧ items (h ++ t) w' = some (cut ws lo hi) ∧ ((w' = .tup (cut ws lo hi) ∧ t = []) ∨ (w' = .ref h.length ∧ t = [.lst (cut ws lo hi)])) := by
  cases w with
  | tup xs => cases e; exact ⟨_, [], by rw [List.append_nil]; rfl, rfl, .inl ⟨rfl, rfl⟩⟩
  | ref n =>
    cases ea : h[n]? with
    | none => simp [ea] at e
    | some o =>
      cases o <;> simp [ea] at e
      subst e
      refine ⟨.ref h.length, [.lst (cut _ lo hi)], ?_, by simp, .inr ⟨rfl, rfl⟩⟩
      show (match h[n]? with
        | some (.lst ws) => new (.lst (cut ws lo hi)) h
        | _ => .stk) = _
      rw [ea]; rfl
  | _ => cases e
theorem items_app {w : W} {ws : List W} {h : Hs} (t : Hs) (e : items h w = some ws) : items (h ++ t) w = some ws := by
  cases w with
  | tup xs => exact e
  | ref n =>
    cases ea : h[n]? with
    | none => simp [ea] at e
    | some o => cases o <;> simp [ea] at e; subst e; simp [get_app t ea]
  | _ => cases e
theorem still_app {w : W} {ws : List W} {h : Hs} (t t' : Hs) (e : items h w = some ws) : still (h ++ t) (h ++ t') w = true := by
  cases w with
  | ref n =>
    cases ea : h[n]? with
    | none => simp [ea] at e
    | some o => simp [still, get_app t ea, get_app t' ea]
  | _ => rfl
theorem tuple_of {w : W} {ws : List W} {h : Hs} (e : items h w = some ws) : biV .tuple [w] h = .ok (.tup ws) h := by
  show (match items h w with
    | some ws => R.ok (W.tup ws) h
    | none => .stk) = _
  rw [e]
theorem list_of {w : W} {ws : List W} {h : Hs} (e : items h w = some ws) : biV .list [w] h = new (.lst ws) h := by
  cases w with
  | tup xs => cases e; rfl
  | ref n =>
    show (match items h (.ref n) with
    | some ws => new (.lst ws) h
    | none => _) = _
    rw [e]
  | _ => cases e
theorem int_of {s : Tx} {h : Hs} (h1 : 1 ≤ s.length) (h2 : s.length ≤ 640) (h3 : (s.all fun c => decide (48 ≤ c) && decide (c ≤ 57)) = true) : biV .int [.str s] h = .ok (.int (numTx s)) h := by
  show okIf (decide (0 < s.length ∧ s.length ≤ 640) && s.all fun c => decide (48 ≤ c) && decide (c ≤ 57)) _ _ = _
  rw [h3, decide_eq_true ⟨h1, h2⟩]
  rfl
/-! ### comprehensions by mapO -/
theorem mapO_map {α β : Type} {f : α → Option β} (d : β) : ∀ {l : List α} {m : List β}, mapO f l = some m → l.map (fun a => (f a).getD d) = m
  | [], m, e => by cases e; rfl
  | a :: r, m, e => by
    obtain ⟨b, t, e1, e2, rfl⟩ := mapO_cons_some e
    rw [List.map_cons, mapO_map d e2, e1]; rfl
theorem compL_mapO {f : W → Hs → R (Option W)} {g : Hs → Bool} {fn : W → Option W} {h : Hs} {ws bs : List W} (hg : g h = true) (hm : mapO fn ws = some bs) (hf : ∀ w b, w ∈ ws → fn w = some b → f w h = .ok (some b) h) (hl : ws.length ≤ lineW) : compL f g ws [] h = .ok bs h := by
  rw [compL_map (m := fun w => (fn w).getD .non) hg ws (fun w hw => ?_) hl, mapO_map _ hm]
  obtain ⟨b, _, e⟩ := mapO_mem hm hw
  rw [hf w b hw e]
  show _ = R.ok (some ((fn w).getD .non)) h
  rw [e]; rfl
theorem rangeL_length (lo s : Int) : ∀ n, (rangeL lo s n).length = n
  | 0 => rfl
  | n + 1 => by rw [rangeL, List.length_cons, rangeL_length (lo + s) s n]
theorem mem_rangeL {lo s : Int} : ∀ {n : Nat} {w : W}, w ∈ rangeL lo s n → ∃ i, w = .int i
  | 0, w, e => by simp [rangeL] at e
  | n + 1, w, e => by
    rw [rangeL] at e
    rcases List.mem_cons.mp e with rfl | e
    · exact ⟨_, rfl⟩
    · exact mem_rangeL e
/-! ### for -/
def forB (c : Cl) (wf : Nat) (g : Tg) (b : S) : W → Fr → Hs → Rs := fun w fr h => match bindTg g w fr with
  | some fr => ex c wf b fr h
  | none => .stk
@[simp] theorem forB_eq (c : Cl) (wf : Nat) (g : Tg) (b : S) (w : W) (fr : Fr) (h : Hs) : forB c wf g b w fr h = match bindTg g w fr with
  | some fr => ex c wf b fr h
  | none => .stk := rfl
theorem ex_for_ok {c : Cl} {wf : Nat} {g : Tg} {it : It} {b : S} {fr : Fr} {h h' : Hs} {ws : List W} {s : Hs → Bool} (e : evi c it fr h = .ok (ws, s) h') : ex c wf (.for g it b) fr h = forL (forB c wf g b) s ws fr h' := by
  rw [ex_for, e]; rfl
theorem forL_nil {f : W → Fr → Hs → Rs} {g : Hs → Bool} {fr : Fr} {h : Hs} (hg : g h = true) : forL f g [] fr h = .nx fr h := by
  unfold forL; rw [if_pos hg]
theorem forL_cons {f : W → Fr → Hs → Rs} {g : Hs → Bool} {fr : Fr} {h : Hs} (hg : g h = true) (w : W) (r : List W) : forL f g (w :: r) fr h = match f w fr h with
      | .nx fr h => forL f g r fr h
      | .ct fr h => forL f g r fr h
      | .bk fr h => .nx fr h
      | z => z := by
  rw [forL, if_pos hg] <;> rfl
/-! ### any/all -/
theorem bools_map {α : Type} (f : α → Bool) : ∀ l : List α, bools (l.map fun a => W.bl (f a)) = some (l.map f)
  | [] => rfl
  | a :: l => by
    show (bools (l.map fun a => W.bl (f a))).map (f a :: ·) = _
    rw [bools_map f l]; rfl
theorem all_new {h : Hs} {α : Type} (f : α → Bool) (l : List α) : biV .all [.ref h.length] (h ++ [.lst (l.map fun a => W.bl (f a))]) = .ok (.bl (l.all f)) (h ++ [.lst (l.map fun a => W.bl (f a))]) := by
  show (match (h ++ [Ob.lst (l.map fun a => W.bl (f a))])[h.length]? with
    | some (.lst ws) => match bools ws with
      | some bs => R.ok (W.bl (bs.all id)) (h ++ [Ob.lst (l.map fun a => W.bl (f a))])
      | none => .stk
    | _ => .stk) = _
  rw [get_new]
  show (match bools (l.map fun a => W.bl (f a)) with
      | some bs => R.ok (W.bl (bs.all id)) (h ++ [Ob.lst (l.map fun a => W.bl (f a))])
      | none => .stk) = _
  rw [bools_map]
  simp [List.all_map]
/-- [f(sign) for sign in text] of bools, then all -/
theorem all_signs {c : Cl} {fr : Fr} {h : Hs} {own : List Nat} {g : Tg} {it e : E} {s : Tx} (f : Nat → Bool) (hit : ev c it fr h = .ok (.str s) h) (hl : s.length ≤ lineW)
    (hf : ∀ x ∈ s, ∃ fr2, bindTg g (.str [x]) (wipe fr own) = some fr2 ∧ ev c e fr2 h = .ok (.bl (f x)) h) : ev c (.bi .all (.cons (.comp own g (.val it) .nil e) .nil)) fr h = .ok (.bl (s.all f)) (h ++ [.lst (s.map fun a => W.bl (f a))]) := by
  rw [ev_bi, evs_cons, ev_comp, evi_val, hit]
  simp only [R.bind_ok, evs_nil]
  rw [compL_map (m := fun w => match w with | .str [x] => .bl (f x) | _ => .non) rfl _ (fun w hw => ?_) (by simpa using hl)]
  · simp only [R.bind_ok, new, List.map_map]
    have : (s.map ((fun w => match w with | W.str [x] => W.bl (f x) | _ => W.non) ∘ fun n => W.str [n])) = s.map fun a => W.bl (f a) := rfl
    rw [this]
    exact all_new f s
  · obtain ⟨x, hx, rfl⟩ := List.mem_map.mp hw
    obtain ⟨fr2, e1, e2⟩ := hf x hx
    simp only [e1, evifs_nil, e2, R.bind_ok, calm_ok]
theorem evi_row {c : Cl} {fr : Fr} {h h' : Hs} {e : E} {w : W} {ws : List W} (hit : ev c e fr h = .ok w h') (hw : items h' w = some ws) : evi c (.val e) fr h = .ok (ws, fun h'' => still h' h'' w) h' := by
  rw [evi_val, hit, R.bind_ok]
  cases w with
  | str s => cases hw
  | _ => simp only [hw]
theorem evi_str {c : Cl} {fr : Fr} {h h' : Hs} {e : E} {s : Tx} (hit : ev c e fr h = .ok (.str s) h') : evi c (.val e) fr h = .ok (s.map fun n => .str [n], fun _ => true) h' := by
  rw [evi_val, hit, R.bind_ok]
theorem still_self (h : Hs) (w : W) : still h h w = true := by cases w <;> simp [still]
/-- [f(one) for one in row] of bools, then all: what is walked is a list or a tuple of views -/
theorem all_items {c : Cl} {fr : Fr} {h h' : Hs} {own : List Nat} {g : Tg} {it e : E} {w : W} {ws : List W} {vs : List Vw} {k : Nat} (f : Vw → Bool) (hit : ev c it fr h = .ok w h') (hw : items h' w = some ws)
    (hv : mapO (viewF k h') ws = some vs) (hl : ws.length ≤ lineW)
    (hf : ∀ x v, x ∈ ws → viewF k h' x = some v → ∃ fr2, bindTg g x (wipe fr own) = some fr2 ∧ ev c e fr2 h' = .ok (.bl (f v)) h') : ∃ o, ev c (.bi .all (.cons (.comp own g (.val it) .nil e) .nil)) fr h = .ok (.bl (vs.all f)) (h' ++ [o]) := by
  rw [ev_bi, evs_cons, ev_comp, evi_row hit hw]
  simp only [R.bind_ok, evs_nil]
  have st : still h' h' w = true := by cases w <;> simp [still]
  rw [compL_map (m := fun x => match viewF k h' x with | some v => .bl (f v) | none => .non) st _ (fun x hx => ?_) hl]
  · simp only [R.bind_ok, new]
    have e2 : ∀ {ws : List W} {vs : List Vw}, mapO (viewF k h') ws = some vs → (ws.map fun x => match viewF k h' x with | some v => W.bl (f v) | none => W.non) = vs.map fun v => W.bl (f v) := by
      intro ws
      induction ws with
      | nil => intro vs e; cases e; rfl
      | cons a r ih =>
        intro vs e
        obtain ⟨b, t, q1, q2, rfl⟩ := mapO_cons_some e
        simp only [List.map_cons, q1, ih q2]
    rw [e2 hv]
    exact ⟨_, all_new f vs⟩
  · obtain ⟨v, _, ev'⟩ := mapO_mem hv hx
    obtain ⟨fr2, q1, q2⟩ := hf x v hx ev'
    simp only [q1, evifs_nil, q2, R.bind_ok, calm_ok, ev']
theorem atI_nat {α : Type} (l : List α) (k : Nat) : atI l (k : Int) = l[k]? := by
  unfold atI ixN
  by_cases hk : k < l.length
  · simp [hk]
  · have : ¬ ((k : Int) < (l.length : Int)) := by omega
    simp [hk, this]
theorem atI_last {α : Type} (l : List α) : atI l (-1) = l.getLast? := by
  unfold atI ixN
  cases l with
  | nil => simp
  | cons a r =>
    have e : ((a :: r).length : Int) - 1 = (r.length : Int) := by simp
    simp only [List.length_cons]
    rw [if_neg (by omega), if_pos (by omega)]
    simp only [Option.bind_some]
    have : (-1 + ((r.length + 1 : Nat) : Int)).toNat = r.length := by omega
    rw [this, List.getLast?_eq_getElem?]; simp
def sI (n d : Nat) (o : Option Int) : Nat := sIx n d o
theorem sIx_none (n d : Nat) : sIx n d none = d := rfl
theorem sIx_nat (n d k : Nat) : sIx n d (some (k : Int)) = min k n := by
  show (if (k : Int) < 0 then ((k : Int) + (n : Int)).toNat else min (k : Int).toNat n) = _
  rw [if_neg (by omega), Int.toNat_natCast]
theorem sIx_neg (n d : Nat) : sIx n d (some (-1)) = n - 1 := by
  show (if (-1 : Int) < 0 then ((-1 : Int) + (n : Int)).toNat else min (-1 : Int).toNat n) = _
  rw [if_pos (by decide)]
  omega
theorem cut_all {α : Type} (l : List α) : cut l none none = l := by
  unfold cut
  simp only [sIx_none, List.drop_zero, Nat.sub_zero, List.take_length]
theorem cut_from {α : Type} (l : List α) (k : Nat) : cut l (some (k : Int)) none = l.drop k := by
  unfold cut
  simp only [sIx_none, sIx_nat]
  by_cases hk : k ≤ l.length
  · rw [Nat.min_eq_left hk, List.take_of_length_le (by simp)]
  · rw [Nat.min_eq_right (by omega), List.drop_length, List.drop_eq_nil_of_le (by omega)]; simp
theorem cut_to {α : Type} (l : List α) (k : Nat) : cut l none (some (k : Int)) = l.take k := by
  unfold cut
  simp only [sIx_none, sIx_nat, List.drop_zero, Nat.sub_zero]
  by_cases hk : k ≤ l.length
  · rw [Nat.min_eq_left hk]
  · rw [Nat.min_eq_right (by omega), List.take_length, List.take_of_length_le (by omega)]
theorem cut_init {α : Type} (l : List α) : cut l none (some (-1)) = l.dropLast := by
  unfold cut
  simp only [sIx_none, sIx_neg, List.drop_zero, Nat.sub_zero]
  rw [List.dropLast_eq_take]
theorem cut_one_init {α : Type} (l : List α) : cut l (some 1) (some (-1)) = l.tail.dropLast := by
  unfold cut
  have e : (some (1 : Int)) = some ((1 : Nat) : Int) := rfl
  rw [e]
  simp only [sIx_nat, sIx_neg]
  cases l with
  | nil => simp
  | cons a r =>
    have : min 1 (a :: r).length = 1 := by simp only [List.length_cons]; omega
    rw [this]
    simp only [List.drop_succ_cons, List.drop_zero, List.tail_cons, List.dropLast_eq_take, List.length_cons]
    congr 1
end Mi
end
section
set_option Elab.async false
set_option linter.all false
set_option maxRecDepth 100000
set_option maxHeartbeats 0
/-! k74: the small defs. -/
namespace K74P
open K74 hiding R
open Mi
def nameT (s : Tx) : Bool := decide (1 ≤ s.length) && (decide (s.length ≤ 8) && (has SMALL (s.headD 0) && s.all fun c => has SIGNS c))
def nameV : Vw → Bool
  | .str s => nameT s
  | _ => false
def rowV : Vw → Bool
  | .row _ => true
  | _ => false
theorem is_row_ok (n : Nat) {w : W} {h : Hs} {k : Nat} {v : Vw} (hw : viewF k h w = some v) : lev Pr wf (n + 1) 0 [w] h = .ok (.bl (rowV v)) h := by
  obtain ⟨t, e, m⟩ := view_ty hw
  rw [L0]
  have : rowV v = [Ty.lst, Ty.tup].any (subTy t) := by
    cases v <;> simp only [Vw.ty, List.mem_cons, List.not_mem_nil, or_false] at m <;> (first | (subst m; rfl) | (rcases m with rfl | rfl <;> rfl))
  simp [b0, e, this]
  exact gc_id rfl
theorem is_name_ok (n : Nat) {w : W} {h : Hs} {k : Nat} {v : Vw} (hw : viewF k h w = some v) : lev Pr wf (n + 1) 2 [w] h = .ok (.bl (nameV v)) h := by
  rw [L2]
  by_cases hs : ∃ s, v = .str s
  · obtain ⟨s, rfl⟩ := hs
    obtain ⟨rfl, hs⟩ := view_str hw
    cases s with
    | nil =>
      simp [b2, nameV, nameT, hs]
      exact gc_id rfl
    | cons a r =>
      have hs' : r.length + 1 ≤ lineW := hs
      have h1 : (1 : Int) ≤ (r.length : Int) + 1 := by omega
      by_cases h8 : r.length + 1 ≤ 8
      · have h8' : (r.length : Int) + 1 ≤ 8 := by omega
        cases hc : has SMALL a with
        | true =>
          have as := all_signs (c := clOf Pr wf n) (fr := [some (W.str (a :: r)), none]) (h := h) (own := [1]) (g := .nm 1) (it := .var 0) (e := E.cmp Co.isin (E.var 1) (E.con (W.str SIGNS))) (s := a :: r) (fun c => has SIGNS c) rfl hs (fun x _ => ⟨_, rfl, by simp []⟩)
          rw [nameV, nameT, List.headD_cons, hc]
          simp [b2, hs', h1, h8', atI_zero, h8, hc, as, -List.all_cons]
          exact gc_same (by rfl)
        | false =>
          rw [nameV, nameT, List.headD_cons, hc]
          simp [b2, hs', h1, h8', atI_zero, h8, hc, -List.all_cons]
          exact gc_id (by rfl)
      · have h8' : ¬ ((r.length : Int) + 1 ≤ 8) := by omega
        simp [b2, hs', h1, h8', h8, nameV, nameT, -List.all_cons]
        exact gc_id (by rfl)
  · obtain ⟨t, e, m⟩ := view_ty hw
    have ht : subTy t .str = false := by
      cases v <;> simp only [Vw.ty, List.mem_cons, List.not_mem_nil, or_false] at m <;> (first | (exact absurd ⟨_, rfl⟩ hs) | (subst m; rfl) | (rcases m with rfl | rfl <;> rfl))
    have hv : nameV v = false := by
      cases v <;> first | rfl | exact absurd ⟨_, rfl⟩ hs
    simp [b2, e, ht, hv]
    exact gc_id (by rfl)
theorem is_between_ok (n : Nat) {w : W} {h : Hs} {k : Nat} {v : Vw} {lo hi : Int} (hw : viewF k h w = some v) : lev Pr wf (n + 1) 1 [w, .int lo, .int hi] h = .ok (.bl (match v with | .int i => decide (lo ≤ i) && decide (i ≤ hi) | _ => false)) h := by
  rw [L1]
  obtain ⟨t, e, m⟩ := view_ty hw
  cases v with
  | int i =>
    obtain rfl := view_int hw
    by_cases h1 : lo ≤ i
    · by_cases h2 : i ≤ hi
      · simp [b1, h1, h2]
        exact gc_id (by rfl)
      · simp [b1, h1, h2]
        exact gc_id (by rfl)
    · simp [b1, h1]
      exact gc_id (by rfl)
  | row vs =>
    simp only [Vw.ty, List.mem_cons, List.not_mem_nil, or_false] at m
    rcases m with rfl | rfl <;> (simp [b1, e]; exact gc_id (by rfl))
  | _ =>
    simp only [Vw.ty, List.mem_cons, List.not_mem_nil, or_false] at m
    subst m
    simp [b1, e]
    exact gc_id (by rfl)
/-- number_in -/
def numD (s : Tx) : W := if 1 ≤ s.length ∧ s.length ≤ 9 ∧ ¬ (s.headD 0 = 48 ∧ 1 < s.length) ∧ (s.all fun c => has FIGS c) = true then .int (numTx s) else .non
theorem figs_bd {s : Tx} (h : (s.all fun c => has FIGS c) = true) : (s.all fun c => decide (48 ≤ c) && decide (c ≤ 57)) = true := by
  rw [List.all_eq_true] at h ⊢
  intro x hx
  have := h x hx
  simp only [has, FIGS, List.contains_cons, List.contains_nil, Bool.or_false, Bool.or_eq_true, beq_iff_eq] at this
  simp only [Bool.and_eq_true, decide_eq_true_eq]
  omega
theorem number_in_ok (n : Nat) {s : Tx} {h : Hs} (hs : s.length ≤ lineW) : lev Pr wf (n + 1) 3 [.str s] h = .ok (numD s) h := by
  rw [L3]
  cases s with
  | nil =>
    simp [b3, numD]
    exact gc_id (by rfl)
  | cons a r =>
    have hs' : r.length + 1 ≤ lineW := hs
    have h1 : (1 : Int) ≤ (r.length : Int) + 1 := by omega
    by_cases h9 : r.length + 1 ≤ 9
    · have h9' : (r.length : Int) + 1 ≤ 9 := by omega
      have as := all_signs (c := clOf Pr wf n) (fr := [some (W.str (a :: r)), none]) (h := h) (own := [1]) (g := .nm 1) (it := .var 0) (e := E.cmp Co.isin (E.var 1) (E.con (W.str FIGS))) (s := a :: r) (fun c => has FIGS c) rfl hs (fun x _ => ⟨_, rfl, by simp⟩)
      by_cases h0 : a = 48
      · cases r with
        | nil =>
          cases hf : [a].all fun c => has FIGS c with
          | true =>
            rw [hf] at as
            have := figs_bd hf
            subst h0
            simp [b3, numD, hs, atI_zero, as, -List.all_cons, hf]
            rw [int_of (by simp) (by simp) this]
            exact gc_same (by rfl)
          | false => subst h0; exact absurd hf (by decide)
        | cons b t =>
          have h1 : (1 : Int) ≤ (t.length : Int) + 1 + 1 := by omega
          have h2 : (1 : Int) < (t.length : Int) + 1 + 1 := by omega
          have h9 : (t.length : Int) + 1 + 1 ≤ 9 := h9'
          have hs2 : t.length + 1 + 1 ≤ lineW := hs
          subst h0
          simp [b3, numD, hs2, atI_zero, h1, h2, h9]
          exact gc_id (by rfl)
      · have h0b : (a == 48) = false := by simp [h0]
        cases hf : (a :: r).all fun c => has FIGS c with
        | true =>
          rw [hf] at as
          have := figs_bd hf
          simp [b3, numD, hs', h0, h0b, h1, h9, h9', atI_zero, as, -List.all_cons, hf]
          rw [int_of (by simp) (by simp; omega) this]
          exact gc_same (by rfl)
        | false =>
          rw [hf] at as
          simp [b3, numD, hs', h0, h0b, h1, h9, h9', atI_zero, as, -List.all_cons, hf]
          exact gc_same (by rfl)
    · have h9' : ¬ ((r.length : Int) + 1 ≤ 9) := by omega
      simp [b3, numD, hs', h1, h9, h9']
      exact gc_id (by rfl)
end K74P
end
section
set_option Elab.async false
set_option linter.all false
set_option maxRecDepth 100000
set_option maxHeartbeats 0
/-! k74: deeds by form. -/
namespace K74P
open K74 hiding R
open Mi
def nmW : Vw → W
  | .str s => .str s
  | _ => .non
theorem name_w {k : Nat} {h : Hs} {w : W} {v : Vw} (e : viewF k h w = some v) (n : nameV v = true) : w = nmW v := by
  cases v <;> first | cases n | exact (view_str e).1
def stepV : Vw → Option W
  | .row [a, b] => if nameV a && nameV b then some (.tup [nmW a, nmW b]) else none
  | _ => none
def stepsV : Vw → W
  | .row vs => match mapO stepV vs with
    | some ws => .tup ws
    | none => .non
  | _ => .non
def stepB : S := 
          (S.seq
            (S.iff
              (E.or (E.not (E.call 0 (Es.cons (E.var 2) Es.nil)))
                (E.or (E.cmp Co.ne (E.bi Bi.len (Es.cons (E.var 2) Es.nil)) (E.con (W.int 2)))
                  (E.or (E.not (E.call 2 (Es.cons (E.idx (E.var 2) (E.con (W.int 0))) Es.nil)))
                    (E.not (E.call 2 (Es.cons (E.idx (E.var 2) (E.con (W.int 1))) Es.nil))))))
              (S.seq (S.ret (E.con W.non)) S.skip) S.skip)
            (S.seq
              (S.ex
                (E.me Me.append (E.var 1)
                  (Es.cons
                    (E.tup
                      (Es.cons (E.idx (E.var 2) (E.con (W.int 0)))
                        (Es.cons (E.idx (E.var 2) (E.con (W.int 1))) Es.nil)))
                    Es.nil)))
              S.skip))
theorem step_turn (n : Nat) {k : Nat} {h : Hs} {x w : W} {v : Vw} {acc : List W} {y : Option W} (hv : viewF k h x = some v) (hl : acc.length < lineW) :
    ex (clOf Pr wf (n + 1)) wf stepB [some w, some (.ref h.length), some x] (h ++ [.lst acc]) = match stepV v with
      | some s => .nx [some w, some (.ref h.length), some x] (h ++ [.lst (acc ++ [s])])
      | none => .rt .non (h ++ [.lst acc]) := by
  have hv' := view_app [.lst acc] hv
  by_cases hr : ∃ vs, v = .row vs
  · obtain ⟨vs, rfl⟩ := hr
    obtain ⟨k', ws, rfl, hi, hm, hl1, hl2, _⟩ := view_row hv'
    match ws, vs, hl2 with
    | [a, b], [va, vb], _ =>
      obtain ⟨_, _, ha, e2, e3⟩ := mapO_cons_some hm
      obtain ⟨_, _, hb, _, e4⟩ := mapO_cons_some e2
      subst e4; cases e3
      cases na : nameV va with
      | false => simp [stepB, is_row_ok n hv', rowV, items_len hi, items_idx hi, atI_zero, atI_one, is_name_ok n ha, is_name_ok n hb, na, stepV]
      | true =>
        cases nb : nameV vb with
        | false => simp [stepB, is_row_ok n hv', rowV, items_len hi, items_idx hi, atI_zero, atI_one, is_name_ok n ha, is_name_ok n hb, na, nb, stepV]
        | true =>
          have := name_w ha na
          have := name_w hb nb
          subst a b
          simp [stepB, is_row_ok n hv', rowV, items_len hi, items_idx hi, atI_zero, atI_one, is_name_ok n ha, is_name_ok n hb, na, nb, stepV, Me.tys, meV, hl]
    | [], [], _ => simp [stepB, is_row_ok n hv', rowV, items_len hi, stepV]
    | [a], [va], _ => simp [stepB, is_row_ok n hv', rowV, items_len hi, stepV]
    | a :: b :: c :: r, va :: vb :: vc :: vr, _ =>
      have : ¬ ((r.length : Int) + 1 + 1 + 1 = 2) := by omega
      simp [stepB, is_row_ok n hv', rowV, items_len hi, stepV, this]
  · have hr' : rowV v = false := by cases v <;> first | rfl | exact absurd ⟨_, rfl⟩ hr
    have hs : stepV v = none := by cases v <;> first | rfl | exact absurd ⟨_, rfl⟩ hr
    simp [stepB, is_row_ok n hv', hr', hs]
theorem steps_loop (n : Nat) {k : Nat} {h : Hs} {w : W} {g : Hs → Bool} (hg : ∀ o, g (h ++ [o]) = true) : ∀ (ws : List W) (vs : List Vw) (acc : List W) (y : Option W), mapO (viewF k h) ws = some vs → acc.length + ws.length ≤ lineW →
    match mapO stepV vs with
    | some ss => ∃ y', forL (forB (clOf Pr wf (n + 1)) wf (.nm 2) stepB) g ws [some w, some (.ref h.length), y] (h ++ [.lst acc]) = .nx [some w, some (.ref h.length), y'] (h ++ [.lst (acc ++ ss)])
    | none => ∃ o, forL (forB (clOf Pr wf (n + 1)) wf (.nm 2) stepB) g ws [some w, some (.ref h.length), y] (h ++ [.lst acc]) = .rt .non (h ++ [o])
  | [], vs, acc, y, e, _ => by
    cases e
    exact ⟨y, by rw [forL_nil (hg _)]; simp⟩
  | x :: r, vs, acc, y, e, hl => by
    obtain ⟨v, u, e1, e2, rfl⟩ := mapO_cons_some e
    have hl' : acc.length + (r.length + 1) ≤ lineW := hl
    have st := step_turn n (w := w) (y := y) e1 (acc := acc) (by omega)
    rw [mapO_cons]
    cases es : stepV v with
    | none =>
      rw [es] at st
      refine ⟨.lst acc, ?_⟩
      rw [forL_cons (hg _)]
      simp [st]
    | some s =>
      rw [es] at st
      have ih := steps_loop n hg (w := w) r u (acc ++ [s]) (some x) e2 (by simp; omega)
      cases em : mapO stepV u with
      | none =>
        rw [em] at ih
        obtain ⟨o, ih⟩ := ih
        refine ⟨o, ?_⟩
        rw [forL_cons (hg _)]
        simp [st]
        simpa using ih
      | some ss =>
        rw [em] at ih
        obtain ⟨y', ih⟩ := ih
        refine ⟨y', ?_⟩
        rw [forL_cons (hg _)]
        simp [st]
        simpa using ih
theorem nmW_under (m : Nat) (v : Vw) : (nmW v).under m = true := by cases v <;> rfl
theorem stepV_under {m : Nat} {v : Vw} {w : W} (e : stepV v = some w) : w.under m = true := by
  match v with
  | .row [a, b] =>
    simp only [stepV] at e
    split at e
    · cases e
      simp [W.under, W.unders, nmW_under]
    · cases e
  | .row [] => cases e
  | .row [a] => cases e
  | .row (a :: b :: c :: r) => cases e
  | .non => cases e
  | .bl _ => cases e
  | .int _ => cases e
  | .str _ => cases e
  | .dic => cases e
theorem stepsV_under (m : Nat) (v : Vw) : (stepsV v).under m = true := by
  cases v with
  | row vs =>
    simp only [stepsV]
    cases e : mapO stepV vs with
    | none => rfl
    | some ws =>
      have : ∀ {vs : List Vw} {ws : List W}, mapO stepV vs = some ws → W.unders m ws = true := by
        intro vs
        induction vs with
        | nil => intro ws e; cases e; rfl
        | cons a r ih =>
          intro ws e
          obtain ⟨b, t, e1, e2, rfl⟩ := mapO_cons_some e
          simp [W.unders, stepV_under e1, ih e2]
      exact this e
  | _ => rfl
theorem b4_eq : b4 = S.seq (S.iff (E.not (E.call 0 (Es.cons (E.var 0) Es.nil))) (S.seq (S.ret (E.con W.non)) S.skip) S.skip)
    (S.seq (S.asg (Tg.nm 1) (E.lst Es.nil))
      (S.seq (S.for (Tg.nm 2) (It.val (E.var 0)) stepB)
        (S.seq (S.ret (E.bi Bi.tuple (Es.cons (E.var 1) Es.nil))) S.skip))) := rfl
theorem steps_in_ok (n : Nat) {w : W} {h : Hs} {k : Nat} {v : Vw} (hw : viewF k h w = some v) : lev Pr wf (n + 2) 4 [w] h = .ok (stepsV v) h := by
  rw [L4, b4_eq]
  by_cases hr : ∃ vs, v = .row vs
  · obtain ⟨vs, rfl⟩ := hr
    obtain ⟨k', ws, rfl, hi, hm, hl1, hl2, _⟩ := view_row hw
    have lp := steps_loop n (w := w) (g := fun h' => still (h ++ [.lst []]) h' w) (fun o => still_app _ _ hi) ws vs [] none hm (by simpa using hl1)
    have ef : ∀ fr, ex (clOf Pr wf (n + 1)) wf (S.for (Tg.nm 2) (It.val (E.var 0)) stepB) [some w, some (.ref h.length), fr] (h ++ [.lst []]) = forL (forB (clOf Pr wf (n + 1)) wf (.nm 2) stepB) (fun h' => still (h ++ [.lst []]) h' w) ws [some w, some (.ref h.length), fr] (h ++ [.lst []]) := fun fr => ex_for_ok (evi_row (by simp) (items_app _ hi))
    cases em : mapO stepV vs with
    | none =>
      rw [em] at lp
      obtain ⟨o, lp⟩ := lp
      simp [is_row_ok n hw, rowV, new, ef, lp, stepsV, em]
      exact gc_same (by rfl)
    | some ss =>
      rw [em] at lp
      obtain ⟨y, lp⟩ := lp
      have := stepsV_under h.length (.row vs)
      simp only [stepsV, em] at this
      simp [is_row_ok n hw, rowV, new, ef, lp, stepsV, em, tuple_of (w := .ref h.length) (ws := ss) (h := h ++ [.lst ss])]
      exact gc_same this
  · have hr' : rowV v = false := by cases v <;> first | rfl | exact absurd ⟨_, rfl⟩ hr
    have hs : stepsV v = .non := by cases v <;> first | rfl | exact absurd ⟨_, rfl⟩ hr
    simp [is_row_ok n hw, hr', hs]
    exact gc_id (by rfl)
/-! ### plan_deed -/
def MEND : Tx := [109, 101, 110, 100]
def MOVE : Tx := [109, 111, 118, 101]
def TAKE : Tx := [116, 97, 107, 101]
def PUT : Tx := [112, 117, 116]
def planV (wd : Tx) (r : List Vw) : W :=
  if r.length + 1 = (if wd = MEND then 4 else 2) ∧ (r.dropLast.all nameV) = true then
    match r.getLast? with
    | some v => match stepsV v with
      | .tup ss => .tup (.str wd :: (r.dropLast.map nmW ++ [.tup ss]))
      | _ => .non
    | none => .non
  else .non
theorem names_w {k : Nat} {h : Hs} : ∀ {ws : List W} {vs : List Vw}, mapO (viewF k h) ws = some vs → vs.all nameV = true → ws = vs.map nmW
  | [], vs, e, _ => by cases e; rfl
  | a :: r, vs, e, hn => by
    obtain ⟨v, u, e1, e2, rfl⟩ := mapO_cons_some e
    simp only [List.all_cons, Bool.and_eq_true] at hn
    rw [names_w e2 hn.2, name_w e1 hn.1]; rfl
theorem stepsV_tup (v : Vw) : stepsV v = .non ∨ ∃ ss, stepsV v = .tup ss := by
  cases v with
  | row vs =>
    simp only [stepsV]
    cases mapO stepV vs with
    | none => exact .inl rfl
    | some ss => exact .inr ⟨ss, rfl⟩
  | _ => exact .inl rfl
theorem plan_deed_ok (n : Nat) {w : W} {h : Hs} {k : Nat} {wd : Tx} {r : List Vw} (hw : viewF k h w = some (.row (.str wd :: r))) (hr : r ≠ []) : lev Pr wf (n + 3) 5 [w] h = .ok (planV wd r) h := by
  rw [L5]
  obtain ⟨k', ws, rfl, hi, hm, hl1, hl2, _⟩ := view_row hw
  obtain ⟨x0, r0, e1, e2, e3⟩ : ∃ x0 r0, ws = x0 :: r0 ∧ viewF k' h x0 = some (.str wd) ∧ mapO (viewF k' h) r0 = some r := by
    cases ws with
    | nil => cases hm
    | cons x r0 =>
      obtain ⟨v, u, q1, q2, q3⟩ := mapO_cons_some hm
      cases q3
      exact ⟨x, r0, rfl, q1, q2⟩
  subst e1
  obtain ⟨rfl, hwd⟩ := view_str e2
  have hlr : r0.length = r.length := (mapO_length e3).symm
  have hr0 : r0 ≠ [] := by
    intro q; subst q; simp at hlr; exact hr (List.length_eq_zero_iff.mp hlr.symm)
  obtain ⟨w1, t1, s1, s2, s3⟩ := items_slc hi (some 1) (some (-1))
  have c1 := cut_one_init (W.str wd :: r0)
  rw [c1] at s2
  have s2' : items (h ++ t1) w1 = some r0.dropLast := s2
  have m1 : mapO (viewF k' (h ++ t1)) r0.dropLast = some r.dropLast := views_app t1 (mapO_dropLast e3)
  have hl3 : r0.dropLast.length ≤ lineW := by
    have : r0.length + 1 ≤ lineW := hl1
    simp; omega
  have big : ∀ (m : Int) (o1 : Option W) , ∃ o, ev (clOf Pr wf (n + 2)) (E.bi Bi.all (Es.cons (E.comp [3] (Tg.nm 3) (It.val (E.slc (E.var 0) (Es.cons (E.con (W.int 1)) Es.nil) (Es.cons (E.neg (E.con (W.int 1))) Es.nil))) Es.nil (E.call 2 (Es.cons (E.var 3) Es.nil))) Es.nil)) [some w, some (.int m), none, none] h = .ok (.bl (r.dropLast.all nameV)) (h ++ t1 ++ [o]) := fun m o1 =>
    all_items nameV (by simp [s1]) s2' m1 hl3 (fun x v _ hv => ⟨_, rfl, by simp [is_name_ok (n + 1) hv]⟩)
  have fr0 : startFr 4 [w] = [some w, none, none, none] := rfl
  obtain ⟨many, hmany⟩ : ∃ m : Nat, m = (if wd = MEND then 4 else 2) := ⟨_, rfl⟩
  have hmany' : (if wd = MEND then (W.int 4) else W.int 2) = W.int (many : Int) := by
    rw [hmany]; split <;> rfl
  obtain ⟨o, al⟩ := big many none
  have ea : ev (clOf Pr wf (n + 2)) (E.ite (E.cmp Co.eq (E.idx (E.var 0) (E.con (W.int 0))) (E.con (W.str [109, 101, 110, 100])))
        (E.con (W.int 4)) (E.con (W.int 2))) [some w, none, none, none] h = .ok (W.int many) h := by
    rw [← hmany']
    by_cases q : wd = MEND
    · have q' : wd = [109, 101, 110, 100] := q
      simp [items_idx hi, atI_zero, q', MEND]
    · have q' : ¬ wd = [109, 101, 110, 100] := q
      simp [items_idx hi, atI_zero, q', MEND]
  have cl : ((((r0.length : Int) + 1) = (many : Int)) ↔ r.length + 1 = many) := by rw [hlr]; omega
  by_cases hc : r.length + 1 = many
  · have hc' := cl.mpr hc
    cases ha : r.dropLast.all nameV with
    | false =>
      rw [ha] at al
      have : planV wd r = .non := by unfold planV; rw [ha, if_neg (by simp)]
      simp only [b5, ex_seq, ex_asg, ex_iff, fr0, ea]
      simp [items_len hi, hc', al, this, -List.append_assoc]
      rw [List.append_assoc]
      exact gc_same (by rfl)
    | true =>
      rw [ha] at al
      obtain ⟨xl, hxl⟩ : ∃ x, r0.getLast? = some x := by
        cases q : r0.getLast? with
        | none => exact absurd (List.getLast?_eq_none_iff.mp q) hr0
        | some x => exact ⟨x, rfl⟩
      obtain ⟨v, hv, hvl⟩ := mapO_last e3 hxl
      have hi2 := items_app (t1 ++ [o]) hi
      rw [← List.append_assoc] at hi2
      have hlast : atI (W.str wd :: r0) (-1) = some xl := by
        rw [atI_last, List.getLast?_cons, hxl]; rfl
      have hv2 := view_app (t1 ++ [o]) hv
      rw [← List.append_assoc] at hv2
      obtain ⟨w2, t2, z1, z2, z3⟩ := items_slc hi2 none (some (-1))
      rw [cut_init] at z2
      have hd : (W.str wd :: r0).dropLast = .str wd :: r0.dropLast := by
        cases r0 with
        | nil => exact absurd rfl hr0
        | cons a t => rfl
      rw [hd] at z2
      have nm := names_w (mapO_dropLast e3) ha
      rw [nm] at z2
      have hpl : planV wd r = match stepsV v with
        | .tup ss => .tup (.str wd :: (r.dropLast.map nmW ++ [.tup ss]))
        | _ => .non := by
        unfold planV
        rw [if_pos ⟨by rw [hc, hmany], ha⟩, hvl]
      have su := stepsV_under h.length v
      simp only [b5, ex_seq, ex_asg, ex_iff, fr0, ea]
      rcases stepsV_tup v with q | ⟨ss, q⟩
      · rw [q] at hpl
        simp [items_len hi, hc', al, hpl, items_idx hi2, hlast, steps_in_ok n hv2, q, -List.append_assoc]
        rw [List.append_assoc]
        exact gc_same (by rfl)
      · rw [q] at hpl su
        have hl4 : r.dropLast.length + 1 + 1 ≤ lineW := by
          have : r0.length + 1 ≤ lineW := hl1
          have := List.length_pos_iff.mpr hr0
          simp; omega
        have hl5 : r.length - 1 + 1 + 1 ≤ lineW := by simpa using hl4
        simp [items_len hi, hc', al, hpl, items_idx hi2, hlast, steps_in_ok n hv2, q, z1, tuple_of z2, hl5, -List.append_assoc]
        rw [List.append_assoc, List.append_assoc]
        refine gc_same ?_
        have : ∀ l : List Vw, W.unders h.length (l.map nmW ++ [.tup ss]) = true := by
          intro l
          induction l with
          | nil => simp [W.unders, su]
          | cons a r ih => simp [W.unders, nmW_under, ih]
        simp only [W.under, W.unders, Bool.true_and]
        rw [← List.map_dropLast]
        exact this _
  · have hc' : ¬ (((r0.length : Int) + 1) = (many : Int)) := fun q => hc (cl.mp q)
    have : planV wd r = .non := by unfold planV; rw [if_neg (fun q => hc (by rw [q.1, hmany]))]
    simp only [b5, ex_seq, ex_asg, ex_iff, fr0, ea]
    simp [items_len hi, hc', this]
    exact gc_id (by rfl)
end K74P
end
section
set_option Elab.async false
set_option linter.all false
set_option maxRecDepth 100000
set_option maxHeartbeats 0
/-! k74: deed_in. -/
namespace K74P
open K74 hiding R
open Mi
def arN (wd : Tx) : Option Nat := match dget named (.str wd) with
  | some (.int k) => some k.toNat
  | _ => none
theorem named_ar (wd : Tx) : dget named (.str wd) = (arN wd).map fun (k : Nat) => .int (k : Int) := by
  unfold arN
  have : ∀ w, dget named (.str wd) = some w → ∃ k : Nat, w = .int (k : Int) := by
    intro w e
    unfold dget at e
    cases ef : named.find? (fun kv => kv.1 == .str wd) with
    | none => rw [ef] at e; cases e
    | some kv =>
      rw [ef] at e
      cases e
      have := List.mem_of_find?_eq_some ef
      simp only [named, List.mem_cons, List.not_mem_nil, or_false] at this
      rcases this with rfl | rfl | rfl | rfl | rfl
      · exact ⟨2, rfl⟩
      · exact ⟨1, rfl⟩
      · exact ⟨1, rfl⟩
      · exact ⟨2, rfl⟩
      · exact ⟨1, rfl⟩
  cases e : dget named (.str wd) with
  | none => rfl
  | some w =>
    obtain ⟨k, rfl⟩ := this w e
    simp
def takeV (wd : Tx) : List Vw → W
  | [.int i] => if 0 ≤ i ∧ i ≤ 999999999 then .tup [.str wd, .int i] else .non
  | _ => .non
def putV : List Vw → W
  | [a, .row ps] => if nameV a = true ∧ 1 ≤ ps.length ∧ ps.length ≤ 3 ∧ ps.all nameV = true then .tup [.str PUT, nmW a, .tup (ps.map nmW)] else .non
  | _ => .non
def deedR (wd : Tx) (r : List Vw) : W := match arN wd with
  | some k => if r.length = k ∧ r.all nameV = true then .tup (.str wd :: r.map nmW) else .non
  | none => if wd = TAKE then takeV wd r else if wd = PUT then putV r else if wd = MEND ∨ wd = MOVE then planV wd r else .non
def deedV : Vw → W
  | .row (.str wd :: r) => deedR wd r
  | _ => .non
theorem nms_under (m : Nat) (l : List Vw) : W.unders m (l.map nmW) = true := unders_of fun w hw => by
  obtain ⟨v, _, rfl⟩ := List.mem_map.mp hw
  exact nmW_under m v
def bA : S := (S.seq
            (S.iff
              (E.or
                (E.cmp Co.ne (E.bi Bi.len (Es.cons (E.var 0) Es.nil))
                  (E.bin Bo.add (E.kget 0 (E.var 1)) (E.con (W.int 1))))
                (E.not
                  (E.bi Bi.all
                    (Es.cons
                      (E.comp [3] (Tg.nm 3)
                        (It.val (E.slc (E.var 0) (Es.cons (E.con (W.int 1)) Es.nil) Es.nil)) Es.nil
                        (E.call 2 (Es.cons (E.var 3) Es.nil)))
                      Es.nil))))
              (S.seq (S.ret (E.con W.non)) S.skip) S.skip)
            (S.seq (S.ret (E.bi Bi.tuple (Es.cons (E.var 0) Es.nil))) S.skip))
def bT : S := (S.seq
              (S.ret
                (E.ite
                  (E.and (E.cmp Co.eq (E.bi Bi.len (Es.cons (E.var 0) Es.nil)) (E.con (W.int 2)))
                    (E.call 1
                      (Es.cons (E.idx (E.var 0) (E.con (W.int 1)))
                        (Es.cons (E.con (W.int 0)) (Es.cons (E.con (W.int 999999999)) Es.nil)))))
                  (E.bi Bi.tuple (Es.cons (E.var 0) Es.nil)) (E.con W.non)))
              S.skip)
def bP : S := (S.seq
                (S.iff
                  (E.or (E.cmp Co.ne (E.bi Bi.len (Es.cons (E.var 0) Es.nil)) (E.con (W.int 3)))
                    (E.or (E.not (E.call 2 (Es.cons (E.idx (E.var 0) (E.con (W.int 1))) Es.nil)))
                      (E.or (E.not (E.call 0 (Es.cons (E.idx (E.var 0) (E.con (W.int 2))) Es.nil)))
                        (E.not
                          (E.chain Co.le Co.le (E.con (W.int 1))
                            (E.bi Bi.len (Es.cons (E.idx (E.var 0) (E.con (W.int 2))) Es.nil))
                            (E.con (W.int 3)))))))
                  (S.seq (S.ret (E.con W.non)) S.skip) S.skip)
                (S.seq
                  (S.ret
                    (E.ite
                      (E.bi Bi.all
                        (Es.cons
                          (E.comp [2] (Tg.nm 2) (It.val (E.idx (E.var 0) (E.con (W.int 2)))) Es.nil
                            (E.call 2 (Es.cons (E.var 2) Es.nil)))
                          Es.nil))
                      (E.tup
                        (Es.cons (E.con (W.str [112, 117, 116]))
                          (Es.cons (E.idx (E.var 0) (E.con (W.int 1)))
                            (Es.cons (E.bi Bi.tuple (Es.cons (E.idx (E.var 0) (E.con (W.int 2))) Es.nil))
                              Es.nil))))
                      (E.con W.non)))
                  S.skip))
theorem b6_eq : b6 = S.seq
    (S.iff
      (E.or (E.not (E.call 0 (Es.cons (E.var 0) Es.nil)))
        (E.or (E.not (E.var 0)) (E.not (E.isi (E.idx (E.var 0) (E.con (W.int 0))) [Ty.str]))))
      (S.seq (S.ret (E.con W.non)) S.skip) S.skip)
    (S.seq (S.asg (Tg.nm 1) (E.idx (E.var 0) (E.con (W.int 0))))
      (S.seq
        (S.iff (E.kin 0 false (E.var 1)) bA S.skip)
        (S.seq
          (S.iff (E.cmp Co.eq (E.var 1) (E.con (W.str TAKE))) bT S.skip)
          (S.seq
            (S.iff (E.cmp Co.eq (E.var 1) (E.con (W.str PUT))) bP S.skip)
            (S.seq
              (S.ret
                (E.ite
                  (E.cmp Co.isin (E.var 1)
                    (E.tup (Es.cons (E.con (W.str MEND)) (Es.cons (E.con (W.str MOVE)) Es.nil))))
                  (E.call 5 (Es.cons (E.var 0) Es.nil)) (E.con W.non)))
              S.skip))))) := rfl
theorem bA_ok (n : Nat) {w : W} {h : Hs} {k m : Nat} {wd : Tx} {r : List Vw} (hw : viewF k h w = some (.row (.str wd :: r))) (ha : arN wd = some m) : ∃ t, ex (clOf Pr wf (n + 1)) wf bA [some w, some (.str wd), none, none] h = .rt (deedR wd r) (h ++ t) := by
  obtain ⟨k', ws, rfl, hi, hm, hl1, hl2, _⟩ := view_row hw
  obtain ⟨x0, r0, e1, e2, e3⟩ : ∃ x0 r0, ws = x0 :: r0 ∧ viewF k' h x0 = some (.str wd) ∧ mapO (viewF k' h) r0 = some r := by
    cases ws with
    | nil => cases hm
    | cons x r0 =>
      obtain ⟨v, u, q1, q2, q3⟩ := mapO_cons_some hm
      cases q3
      exact ⟨x, r0, rfl, q1, q2⟩
  subst e1
  obtain ⟨rfl, hwd⟩ := view_str e2
  have hlr : r0.length = r.length := (mapO_length e3).symm
  have nm : dget named (.str wd) = some (.int (m : Int)) := by rw [named_ar, ha]; rfl
  have dv : deedR wd r = if r.length = m ∧ r.all nameV = true then .tup (.str wd :: r.map nmW) else .non := by unfold deedR; rw [ha]
  rw [dv]
  by_cases hc : r.length = m
  · have hc' : (r0.length : Int) + 1 = (m : Int) + 1 := by rw [hlr, hc]
    obtain ⟨w1, t1, s1, s2, s3⟩ := items_slc hi (some ((1 : Nat) : Int)) none
    rw [cut_from] at s2
    have s2' : items (h ++ t1) w1 = some r0 := s2
    have s1' : slcV h w (some 1) none = .ok w1 (h ++ t1) := s1
    have hl3 : r0.length ≤ lineW := by
      have : r0.length + 1 ≤ lineW := hl1
      omega
    obtain ⟨o, al⟩ := all_items (c := clOf Pr wf (n + 1)) (fr := [some w, some (.str wd), none, none]) (own := [3]) (g := .nm 3) (e := E.call 2 (Es.cons (E.var 3) Es.nil)) (it := E.slc (E.var 0) (Es.cons (E.con (W.int 1)) Es.nil) Es.nil) (h := h) nameV (by simp [s1']) s2' (views_app t1 e3) hl3 (fun x v _ hv => ⟨_, rfl, by simp [is_name_ok n hv]⟩)
    cases hn : r.all nameV with
    | false =>
      rw [hn] at al
      refine ⟨t1 ++ [o], ?_⟩
      rw [if_neg (by simp)]
      simp only [List.append_assoc] at al
      simp [bA, items_len hi, nm, hc', al]
    | true =>
      rw [hn] at al
      refine ⟨t1 ++ [o], ?_⟩
      rw [if_pos ⟨hc, rfl⟩]
      simp only [List.append_assoc] at al
      have hi2 := items_app (t1 ++ [o]) hi
      rw [names_w e3 hn] at hi2
      simp [bA, items_len hi, nm, hc', al, tuple_of hi2]
  · have hc' : ¬ ((r0.length : Int) + 1 = (m : Int) + 1) := by rw [hlr]; omega
    refine ⟨[], ?_⟩
    rw [if_neg (fun q => hc q.1)]
    have hc2 : ¬ (r0.length = m) := by rw [hlr]; exact hc
    simp [bA, items_len hi, nm, hc', hc2]
theorem row_cons {k : Nat} {h : Hs} {w : W} {v : Vw} {r : List Vw} (hw : viewF k h w = some (.row (v :: r))) : ∃ k' x0 r0, k = k' + 1 ∧ items h w = some (x0 :: r0) ∧ viewF k' h x0 = some v ∧ mapO (viewF k' h) r0 = some r ∧ r0.length + 1 ≤ lineW ∧ r0.length = r.length := by
  obtain ⟨k', ws, rfl, hi, hm, hl1, hl2, _⟩ := view_row hw
  cases ws with
  | nil => cases hm
  | cons x r0 =>
    obtain ⟨v, u, q1, q2, q3⟩ := mapO_cons_some hm
    cases q3
    exact ⟨k', x, r0, rfl, hi, q1, q2, hl1, (mapO_length q2).symm⟩
theorem bT_ok (n : Nat) {w : W} {h : Hs} {k : Nat} {wd : Tx} {r : List Vw} {y z : Option W} (hw : viewF k h w = some (.row (.str wd :: r))) : ex (clOf Pr wf (n + 1)) wf bT [some w, some (.str wd), y, z] h = .rt (takeV wd r) h := by
  obtain ⟨k', x0, r0, rfl, hi, e2, e3, hl1, hlr⟩ := row_cons hw
  obtain ⟨rfl, hwd⟩ := view_str e2
  match r0, r, hlr with
  | [], [], _ => simp [bT, takeV, items_len hi]
  | [a], [v], _ =>
    obtain ⟨_, _, q1, q2, q3⟩ := mapO_cons_some e3
    cases q3
    have bt := is_between_ok n (lo := 0) (hi := 999999999) q1
    cases v with
    | int i =>
      obtain rfl := view_int q1
      by_cases c1 : 0 ≤ i
      · by_cases c2 : i ≤ 999999999
        · simp [bT, takeV, items_len hi, items_idx hi, atI_one, bt, c1, c2, tuple_of hi]
        · simp [bT, takeV, items_len hi, items_idx hi, atI_one, bt, c1, c2, tuple_of hi]
      · simp [bT, takeV, items_len hi, items_idx hi, atI_one, bt, c1, tuple_of hi]
    | _ => simp [bT, takeV, items_len hi, items_idx hi, atI_one, bt, tuple_of hi]
  | a :: b :: r0, u :: v :: r, _ =>
    have : ¬ ((r0.length : Int) + 1 + 1 + 1 = 2) := by omega
    simp [bT, takeV, items_len hi, this]
theorem atI_two {α : Type} (a b c : α) (r : List α) : atI (a :: b :: c :: r) 2 = some c := by
  unfold atI ixN
  have : (2 : Int) < ((a :: b :: c :: r).length : Int) := by simp only [List.length_cons]; omega
  rw [if_pos (by decide), if_pos this]; rfl
theorem bP_ok (n : Nat) {w : W} {h : Hs} {k : Nat} {wd : Tx} {r : List Vw} (hw : viewF k h w = some (.row (.str wd :: r))) : ∃ t, ex (clOf Pr wf (n + 1)) wf bP [some w, some (.str wd), none, none] h = .rt (putV r) (h ++ t) := by
  obtain ⟨k', x0, r0, rfl, hi, e2, e3, hl1, hlr⟩ := row_cons hw
  obtain ⟨rfl, hwd⟩ := view_str e2
  match r0, r, hlr with
  | [], [], _ => exact ⟨[], by simp [bP, items_len hi, putV]⟩
  | [a], [v], _ => exact ⟨[], by simp [bP, items_len hi, putV]⟩
  | [a, b], [u, v], _ =>
    obtain ⟨_, _, q1, q2, q3⟩ := mapO_cons_some e3
    obtain ⟨_, _, p1, p2, p3⟩ := mapO_cons_some q2
    subst p3; cases q3
    cases na : nameV u with
    | false => 
      have : putV [u, v] = .non := by cases v <;> simp [putV, na]
      exact ⟨[], by simp [bP, items_len hi, items_idx hi, atI_one, is_name_ok n q1, na, this]⟩
    | true =>
      by_cases hr : ∃ ps, v = .row ps
      · obtain ⟨ps, rfl⟩ := hr
        obtain ⟨k2, ws, rfl, hi2, hm, hl2, hl3, _⟩ := view_row p1
        have pv : putV [u, .row ps] = if 1 ≤ ps.length ∧ ps.length ≤ 3 ∧ ps.all nameV = true then .tup [.str PUT, nmW u, .tup (ps.map nmW)] else .non := by
          simp [putV, na]
        rw [pv]
        by_cases c1 : 1 ≤ ps.length
        · have c1' : (1 : Int) ≤ (ws.length : Int) := by omega
          by_cases c2 : ps.length ≤ 3
          · have c2' : (ws.length : Int) ≤ 3 := by omega
            obtain ⟨o, al⟩ := all_items (c := clOf Pr wf (n + 1)) (fr := [some w, some (.str wd), none, none]) (own := [2]) (g := .nm 2) (e := E.call 2 (Es.cons (E.var 2) Es.nil)) (it := E.idx (E.var 0) (E.con (W.int 2))) (h := h) nameV (by simp [items_idx hi, atI_two]) hi2 hm hl2 (fun x v _ hv => ⟨_, rfl, by simp [is_name_ok n hv]⟩)
            have hi3 := items_app [o] hi
            have hi4 := items_app [o] hi2
            have nu := name_w q1 na
            cases hn : ps.all nameV with
            | false =>
              rw [hn] at al
              exact ⟨[o], by simp [bP, items_len hi, items_idx hi, items_len hi2, atI_one, atI_two, is_name_ok n q1, is_row_ok n p1, rowV, na, al, c1', c2']⟩
            | true =>
              rw [hn] at al
              rw [names_w hm hn] at hi4
              subst nu
              exact ⟨[o], by simp [bP, PUT, items_len hi, items_idx hi, items_idx hi3, items_len hi2, atI_one, atI_two, is_name_ok n q1, is_row_ok n p1, rowV, na, al, c1', c2', c1, c2, tuple_of hi4]⟩
          · have c2' : ¬ (ws.length : Int) ≤ 3 := by omega
            exact ⟨[], by simp [bP, items_len hi, items_idx hi, items_len hi2, atI_one, atI_two, is_name_ok n q1, is_row_ok n p1, rowV, na, c1', c2', c2]⟩
        · have c1' : ¬ (1 : Int) ≤ (ws.length : Int) := by omega
          exact ⟨[], by simp [bP, items_len hi, items_idx hi, items_len hi2, atI_one, atI_two, is_name_ok n q1, is_row_ok n p1, rowV, na, c1', c1]⟩
      · have hr' : rowV v = false := by cases v <;> first | rfl | exact absurd ⟨_, rfl⟩ hr
        have : putV [u, v] = .non := by cases v <;> first | rfl | exact absurd ⟨_, rfl⟩ hr
        exact ⟨[], by simp [bP, items_len hi, items_idx hi, atI_one, atI_two, is_name_ok n q1, is_row_ok n p1, hr', na, this]⟩
  | a :: b :: c :: r0, u :: v :: x :: r, _ =>
    have : ¬ ((r0.length : Int) + 1 + 1 + 1 + 1 = 3) := by omega
    exact ⟨[], by simp [bP, items_len hi, this, putV]⟩
theorem planV_under (m : Nat) (wd : Tx) (r : List Vw) : (planV wd r).under m = true := by
  unfold planV
  by_cases c : r.length + 1 = (if wd = MEND then 4 else 2) ∧ (r.dropLast.all nameV) = true
  · rw [if_pos c]
    cases r.getLast? with
    | none => rfl
    | some v =>
      have su := stepsV_under m v
      rcases stepsV_tup v with q | ⟨ss, q⟩
      · simp only [q]; rfl
      · rw [q] at su
        simp only [q]
        simp only [W.under, W.unders, Bool.true_and]
        refine unders_of fun w hw => ?_
        rcases List.mem_append.mp hw with hw | hw
        · obtain ⟨v', _, rfl⟩ := List.mem_map.mp hw
          exact nmW_under m v'
        · rw [List.mem_singleton.mp hw]; exact su
  · rw [if_neg c]; rfl
theorem deedR_under (m : Nat) (wd : Tx) (r : List Vw) : (deedR wd r).under m = true := by
  unfold deedR
  cases arN wd with
  | some k =>
    show (if r.length = k ∧ r.all nameV = true then W.tup (.str wd :: r.map nmW) else .non).under m = true
    split
    · simp only [W.under, W.unders, Bool.true_and]; exact nms_under m r
    · rfl
  | none =>
    show (if wd = TAKE then takeV wd r else if wd = PUT then putV r else if wd = MEND ∨ wd = MOVE then planV wd r else .non).under m = true
    split
    · unfold takeV
      split
      · split <;> rfl
      · rfl
    · split
      · unfold putV
        split
        · split
          · simp only [W.under, W.unders, nmW_under, nms_under, Bool.and_self]
          · rfl
        · rfl
      · split
        · exact planV_under m wd r
        · rfl
theorem plan_deed_nil (n : Nat) {w : W} {h : Hs} {k : Nat} {wd : Tx} (hw : viewF k h w = some (.row [.str wd])) : lev Pr wf (n + 3) 5 [w] h = .ok (planV wd []) h := by
  rw [L5]
  obtain ⟨k', x0, r0, rfl, hi, e2, e3, hl1, hlr⟩ := row_cons hw
  obtain ⟨rfl, hwd⟩ := view_str e2
  have : r0 = [] := List.length_eq_zero_iff.mp hlr
  subst this
  have pv : planV wd [] = .non := by
    unfold planV
    rw [if_neg]
    intro q
    have := q.1
    split at this <;> simp at this
  by_cases q : wd = MEND
  · have q' : wd = [109, 101, 110, 100] := q
    rw [pv]
    simp [b5, items_idx hi, items_len hi, atI_zero, q']
    exact gc_id (by rfl)
  · have q' : ¬ wd = [109, 101, 110, 100] := q
    rw [pv]
    simp [b5, items_idx hi, items_len hi, atI_zero, q']
    exact gc_id (by rfl)
theorem plan_deed_all (n : Nat) {w : W} {h : Hs} {k : Nat} {wd : Tx} {r : List Vw} (hw : viewF k h w = some (.row (.str wd :: r))) : lev Pr wf (n + 3) 5 [w] h = .ok (planV wd r) h := by
  cases r with
  | nil => exact plan_deed_nil n hw
  | cons a r => exact plan_deed_ok n hw (by simp)
theorem deed_in_ok (n : Nat) {w : W} {h : Hs} {k : Nat} {v : Vw} (hw : viewF k h w = some v) : lev Pr wf (n + 4) 6 [w] h = .ok (deedV v) h := by
  rw [L6, b6_eq]
  have fr0 : startFr 4 [w] = [some w, none, none, none] := rfl
  by_cases hr : ∃ vs, v = .row vs
  · obtain ⟨vs, rfl⟩ := hr
    have ir := is_row_ok (n + 2) hw
    cases vs with
    | nil =>
      obtain ⟨k', ws, rfl, hi, hm, hl1, hl2, _⟩ := view_row hw
      have : ws = [] := List.length_eq_zero_iff.mp hl2
      subst this
      simp [ir, rowV, items_truth hi, deedV]
      exact gc_id (by rfl)
    | cons v0 r =>
      obtain ⟨k', x0, r0, rfl, hi, e2, e3, hl1, hlr⟩ := row_cons hw
      by_cases hs : ∃ wd, v0 = .str wd
      · obtain ⟨wd, rfl⟩ := hs
        obtain ⟨rfl, hwd⟩ := view_str e2
        show _ = R.ok (deedR wd r) h
        have und := deedR_under h.length wd r
        cases ha : arN wd with
        | some m =>
          have nm : dget named (.str wd) = some (.int (m : Int)) := by rw [named_ar, ha]; rfl
          obtain ⟨t, eb⟩ := bA_ok (n + 2) hw ha
          simp [ir, rowV, items_truth hi, items_idx hi, atI_zero, nm, eb]
          exact gc_same und
        | none =>
          have nm : dget named (.str wd) = none := by rw [named_ar, ha]; rfl
          have dv : deedR wd r = if wd = TAKE then takeV wd r else if wd = PUT then putV r else if wd = MEND ∨ wd = MOVE then planV wd r else .non := by unfold deedR; rw [ha]
          by_cases c1 : wd = TAKE
          · have eb := bT_ok (n + 2) (y := none) (z := none) hw
            rw [dv, if_pos c1] at und ⊢
            subst c1
            simp [ir, rowV, items_truth hi, items_idx hi, atI_zero, nm, eb]
            exact gc_id und
          · by_cases c2 : wd = PUT
            · obtain ⟨t, eb⟩ := bP_ok (n + 2) hw
              rw [dv, if_neg c1, if_pos c2] at und ⊢
              subst c2
              simp [ir, rowV, items_truth hi, items_idx hi, atI_zero, nm, eb, c1]
              exact gc_same und
            · by_cases c3 : wd = MEND ∨ wd = MOVE
              · have pd := plan_deed_all n hw
                have dv2 : deedR wd r = planV wd r := by rw [dv, if_neg c1, if_neg c2, if_pos c3]
                rw [dv2] at und ⊢
                have c3' : (decide (MEND = wd) || decide (MOVE = wd)) = true := by
                  rcases c3 with q | q
                  · rw [decide_eq_true q.symm, Bool.true_or]
                  · rw [decide_eq_true q.symm, Bool.or_true]
                simp [ir, rowV, items_truth hi, items_idx hi, atI_zero, nm, c1, c2, c3', pd]
                exact gc_id und
              · have dv2 : deedR wd r = .non := by rw [dv, if_neg c1, if_neg c2, if_neg c3]
                rw [dv2]
                have c3' : (decide (MEND = wd) || decide (MOVE = wd)) = false := by
                  rw [decide_eq_false (fun q => c3 (.inl q.symm)), decide_eq_false (fun q => c3 (.inr q.symm))]; rfl
                simp [ir, rowV, items_truth hi, items_idx hi, atI_zero, nm, c1, c2, c3']
                exact gc_id (by rfl)
      · obtain ⟨t, et, mt⟩ := view_ty e2
        have ht : subTy t .str = false := by
          cases v0 <;> simp only [Vw.ty, List.mem_cons, List.not_mem_nil, or_false] at mt <;> (first | (exact absurd ⟨_, rfl⟩ hs) | (subst mt; rfl) | (rcases mt with rfl | rfl <;> rfl))
        have hv : deedV (.row (v0 :: r)) = .non := by
          cases v0 <;> first | rfl | exact absurd ⟨_, rfl⟩ hs
        simp [ir, rowV, items_truth hi, items_idx hi, atI_zero, et, ht, hv]
        exact gc_id (by rfl)
  · have hr' : rowV v = false := by cases v <;> first | rfl | exact absurd ⟨_, rfl⟩ hr
    have hs : deedV v = .non := by cases v <;> first | rfl | exact absurd ⟨_, rfl⟩ hr
    simp [is_row_ok (n + 2) hw, hr', hs]
    exact gc_id (by rfl)
end K74P
end
section
set_option Elab.async false
set_option linter.all false
set_option maxRecDepth 100000
set_option maxHeartbeats 0
/-! k74: lines. -/
namespace K74P
open K74 hiding R
open Mi
/-- two by two -/
def pairL : List Tx → List W
  | a :: b :: r => .tup [.str a, .str b] :: pairL r
  | _ => []
theorem pair_step (m : Nat) : ∀ (n : Nat) (pre l : List Tx), l.length = 2 * n → m = pre.length → mapO (fun w => match w with
    | .int i => (match atI ((pre ++ l).map W.str) i, atI ((pre ++ l).map W.str) (i + 1) with
      | some a, some b => some (W.tup [a, b])
      | _, _ => none)
    | _ => none) (rangeL (m : Int) 2 n) = some (pairL l) := by
  intro n
  induction n generalizing m with
  | zero =>
    intro pre l hl hm
    have : l = [] := List.length_eq_zero_iff.mp (by omega)
    subst this; rfl
  | succ n ih =>
    intro pre l hl hm
    match l, hl with
    | a :: b :: r, hl =>
      have i1 := ih (m + 2) (pre ++ [a, b]) r (by simp at hl; omega) (by simp [hm])
      have e : pre ++ [a, b] ++ r = pre ++ a :: b :: r := by simp
      rw [e] at i1
      unfold rangeL
      rw [mapO_cons]
      have e2 : ((m : Int) + 2) = ((m + 2 : Nat) : Int) := by omega
      have e3 : ((m : Int) + 1) = ((m + 1 : Nat) : Int) := by omega
      rw [e2, i1]
      have a1 : atI ((pre ++ a :: b :: r).map W.str) (m : Int) = some (.str a) := by
        rw [atI_nat, hm]; simp
      have a2 : atI ((pre ++ a :: b :: r).map W.str) ((m : Int) + 1) = some (.str b) := by
        rw [e3, atI_nat, hm]; simp
      simp only [a1, a2, pairL]
    | [a], hl => simp at hl; omega
    | [], hl => simp at hl
theorem pairL_under (m : Nat) : ∀ l, W.unders m (pairL l) = true
  | a :: b :: r => by simp [pairL, W.unders, W.under, pairL_under m r]
  | [a] => rfl
  | [] => rfl
theorem pairs_comp {c : Cl} {fr : Fr} {h : Hs} {w : W} {l : List Tx} {k : Nat} {own : List Nat} {e : E} {es : Es} {lo : Nat} {g : Tg}
    (he : evs c es fr h = .ok [.int (lo : Int), .int ((lo + l.length : Nat) : Int), .int 2] h)
    (hl : lo + l.length ≤ lineW) (hev : l.length % 2 = 0) (pre : List Tx) (hp : pre.length = lo)
    (hb : ∀ i a b, atI ((pre ++ l).map W.str) i = some a → atI ((pre ++ l).map W.str) (i + 1) = some b → ∃ fr2, bindTg g (.int i) (wipe fr own) = some fr2 ∧ ev c e fr2 h = .ok (.tup [a, b]) h) :
    ev c (.comp own g (.rng es) .nil e) fr h = .ok (.ref h.length) (h ++ [.lst (pairL l)]) := by
  obtain ⟨n, hn⟩ : ∃ n, l.length = 2 * n := ⟨l.length / 2, by omega⟩
  have hlw : lineW = 16777216 := rfl
  have ps := pair_step lo n pre l hn hp.symm
  have cnt : (if (lo : Int) < ((lo + l.length : Nat) : Int) then ((((lo + l.length : Nat) : Int) - (lo : Int) - 1) / 2 + 1).toNat else 0) = n := by
    split <;> omega
  have hr : (-(2 ^ 30) ≤ (lo : Int) ∧ (lo : Int) < 2 ^ 30 ∧ -(2 ^ 30) ≤ ((lo + l.length : Nat) : Int) ∧ ((lo + l.length : Nat) : Int) < 2 ^ 30 ∧ (0 : Int) < 2 ∧ (2 : Int) < 2 ^ 30) := by
    refine ⟨?_, ?_, ?_, ?_, by decide, by decide⟩ <;> omega
  have ei : evi c (.rng es) fr h = .ok (rangeL lo 2 n, fun _ => true) h := by
    rw [evi_rng, he, R.bind_ok]
    show (if (-(2 ^ 30) ≤ (lo : Int) ∧ (lo : Int) < 2 ^ 30 ∧ -(2 ^ 30) ≤ ((lo + l.length : Nat) : Int) ∧ ((lo + l.length : Nat) : Int) < 2 ^ 30 ∧ (0 : Int) < 2 ∧ (2 : Int) < 2 ^ 30) then (R.ok (rangeL (lo : Int) 2 (if (lo : Int) < ((lo + l.length : Nat) : Int) then ((((lo + l.length : Nat) : Int) - (lo : Int) - 1) / 2 + 1).toNat else 0), fun _ => true) h : R (List W × (Hs → Bool))) else .stk) = _
    rw [if_pos hr, cnt]
  rw [ev_comp, ei]
  simp only [R.bind_ok]
  rw [compL_mapO rfl ps (fun x b hx hfx => ?_) (by rw [rangeL_length]; omega)]
  · rfl
  · obtain ⟨i, rfl⟩ := mem_rangeL hx
    simp only at hfx
    cases e1 : atI ((pre ++ l).map W.str) i with
    | none => rw [e1] at hfx; cases hfx
    | some a =>
      cases e2 : atI ((pre ++ l).map W.str) (i + 1) with
      | none => rw [e1, e2] at hfx; cases hfx
      | some b' =>
        rw [e1, e2] at hfx
        cases hfx
        obtain ⟨fr2, q1, q2⟩ := hb i a b' e1 e2
        simp only [q1, evifs_nil, q2, R.bind_ok, calm_ok]
theorem pairs_in_ok (n : Nat) {w : W} {h : Hs} {l : List Tx} (hi : items h w = some (l.map W.str)) (hl : l.length ≤ lineW) : lev Pr wf (n + 1) 9 [w] h = .ok (if l.length % 2 = 1 then .non else .tup (pairL l)) h := by
  rw [L9]
  have len : lenV h w = some l.length := by rw [items_len hi, List.length_map]
  by_cases c : l.length % 2 = 1
  · rw [if_pos c]
    have c' : (l.length : Int) % 2 = 1 := by omega
    simp [b9, len, c']
    exact gc_id (by rfl)
  · rw [if_neg c]
    have c' : ¬ (l.length : Int) % 2 = 1 := by omega
    have pc := pairs_comp (c := clOf Pr wf n) (fr := [some w, none]) (h := h) (w := w) (l := l) (own := [1]) (g := .nm 1) (lo := 0) (k := 0)
      (es := Es.cons (E.con (W.int 0)) (Es.cons (E.bi Bi.len (Es.cons (E.var 0) Es.nil)) (Es.cons (E.con (W.int 2)) Es.nil)))
      (e := E.tup (Es.cons (E.idx (E.var 0) (E.var 1)) (Es.cons (E.idx (E.var 0) (E.bin Bo.add (E.var 1) (E.con (W.int 1)))) Es.nil)))
      (by simp [len]) (by omega) (by omega) [] rfl (fun i a b h1 h2 => ⟨_, rfl, by
        rw [List.nil_append] at h1 h2
        simp [items_idx hi, h1, h2]⟩)
    simp [b9, len, c', pc, tuple_of (w := .ref h.length) (ws := pairL l) (h := h ++ [.lst (pairL l)])]
    refine gc_same ?_
    simp only [W.under, pairL_under]
end K74P
end
section
set_option Elab.async false
set_option linter.all false
set_option maxRecDepth 100000
set_option maxHeartbeats 0
/-! k74: what a line tells; line_in. -/
namespace K74P
open K74 hiding R
open Mi
def takeD : List Tx → W
  | [s] => match numD s with
    | .int i => .tup [.str TAKE, .int i]
    | _ => .non
  | _ => .non
def putD : List Tx → W
  | a :: ps => if 1 ≤ ps.length ∧ ps.length ≤ 3 ∧ (a :: ps).all nameT = true then .tup [.str PUT, .str a, .tup (ps.map W.str)] else .non
  | [] => .non
def planD (wd : Tx) (rest : List Tx) : W :=
  if (if wd = MEND then 2 else 0) ≤ rest.length ∧ (rest.length - (if wd = MEND then 2 else 0)) % 2 = 0 ∧ rest.all nameT = true then
    .tup (.str wd :: ((rest.take (if wd = MEND then 2 else 0)).map W.str ++ [.tup (pairL (rest.drop (if wd = MEND then 2 else 0)))]))
  else .non
/-- the deed that words tell -/
def lineD : List Tx → W
  | [] => .non
  | wd :: rest => if wd = TAKE then takeD rest else match arN wd with
    | some k => if rest.length = k ∧ rest.all nameT = true then .tup (.str wd :: rest.map W.str) else .non
    | none => if wd = PUT then putD rest else if wd = MEND ∨ wd = MOVE then planD wd rest else .non
theorem nameV_strs (l : List Tx) : (l.map Vw.str).all nameV = l.all nameT := by
  induction l with
  | nil => rfl
  | cons a r ih => simp only [List.map_cons, List.all_cons, ih]; rfl
theorem nmW_strs (l : List Tx) : (l.map Vw.str).map nmW = l.map W.str := by
  rw [List.map_map]; rfl
theorem view_strs {h : Hs} (k : Nat) : ∀ {l : List Tx}, (∀ s ∈ l, s.length ≤ lineW) → mapO (viewF k h) (l.map W.str) = some (l.map Vw.str)
  | [], _ => rfl
  | a :: r, e => by
    have : viewF k h (.str a) = some (.str a) := by
      cases k <;> exact if_pos (e a (by simp))
    rw [List.map_cons, mapO_cons, this, view_strs k fun s hs => e s (by simp [hs])]
    rfl
def pairV : List Tx → List Vw
  | a :: b :: r => .row [.str a, .str b] :: pairV r
  | _ => []
theorem view_pairs {h : Hs} (k : Nat) : ∀ {l : List Tx}, (∀ s ∈ l, s.length ≤ lineW) → mapO (viewF (k + 1) h) (pairL l) = some (pairV l)
  | a :: b :: r, e => by
    have e1 := view_strs (h := h) k (l := [a, b]) (fun s hs => e s (by simp at hs ⊢; rcases hs with q | q <;> simp [q]))
    have : viewF (k + 1) h (.tup [.str a, .str b]) = some (.row [.str a, .str b]) := by
      show (if (2 : Nat) ≤ lineW then (mapO (viewF k h) [W.str a, W.str b]).map Vw.row else none) = _
      rw [if_pos (by decide)]
      have e2 : mapO (viewF k h) [W.str a, W.str b] = some [Vw.str a, Vw.str b] := e1
      rw [e2]; rfl
    show mapO (viewF (k + 1) h) (W.tup [.str a, .str b] :: pairL r) = some (.row [.str a, .str b] :: pairV r)
    rw [mapO_cons, this, view_pairs k fun s hs => e s (by simp [hs])]
  | [a], _ => rfl
  | [], _ => rfl
theorem steps_pairs : ∀ {l : List Tx}, l.length % 2 = 0 → mapO stepV (pairV l) = if l.all nameT = true then some (pairL l) else none
  | a :: b :: r, e => by
    have ih := steps_pairs (l := r) (by simp at e; omega)
    show mapO stepV (.row [.str a, .str b] :: pairV r) = _
    rw [mapO_cons, ih]
    have st : stepV (.row [.str a, .str b]) = if (nameT a && nameT b) = true then some (W.tup [.str a, .str b]) else none := rfl
    rw [st]
    cases ha : nameT a <;> cases hb : nameT b <;> cases hr : r.all nameT <;> simp [ha, hb, hr, pairL]
  | [a], e => by simp at e
  | [], _ => rfl
theorem deedR_put {a : Tx} {ps : List Tx} : deedR PUT [.str a, .row (ps.map Vw.str)] = putD (a :: ps) := by
  have : arN PUT = none := by decide +kernel
  unfold deedR
  rw [this]
  show (if PUT = TAKE then takeV PUT _ else if PUT = PUT then putV _ else _) = _
  rw [if_neg (by decide), if_pos rfl]
  show (if nameT a = true ∧ 1 ≤ (ps.map Vw.str).length ∧ (ps.map Vw.str).length ≤ 3 ∧ (ps.map Vw.str).all nameV = true then W.tup [.str PUT, .str a, .tup ((ps.map Vw.str).map nmW)] else .non) = (if 1 ≤ ps.length ∧ ps.length ≤ 3 ∧ (a :: ps).all nameT = true then W.tup [.str PUT, .str a, .tup (ps.map W.str)] else .non)
  rw [nameV_strs, nmW_strs, List.length_map, List.all_cons]
  cases nameT a <;> cases ps.all nameT <;> simp
theorem planV_strs {wd : Tx} {pre l : List Tx} (hp : pre.length = (if wd = MEND then 2 else 0)) : planV wd (pre.map Vw.str ++ [.row (pairV l)]) = if l.length % 2 = 0 then planD wd (pre ++ l) else planV wd (pre.map Vw.str ++ [.row (pairV l)]) := by
  by_cases c : l.length % 2 = 0
  · rw [if_pos c]
    have sp := steps_pairs c
    unfold planV planD
    rw [List.dropLast_concat, List.getLast?_concat, nameV_strs, nmW_strs, ← hp]
    have hl : (pre.map Vw.str ++ [Vw.row (pairV l)]).length + 1 = (if wd = MEND then 4 else 2) := by
      rw [List.length_append, List.length_map, hp]
      split <;> rfl
    have tk : (pre ++ l).take pre.length = pre := by simp
    have dr : (pre ++ l).drop pre.length = l := by simp
    have ln : (pre ++ l).length - pre.length = l.length := by simp
    rw [tk, dr, ln]
    have al : (pre ++ l).all nameT = (pre.all nameT && l.all nameT) := List.all_append
    rw [al]
    have st : stepsV (.row (pairV l)) = (match (if l.all nameT = true then some (pairL l) else none) with | some ws => .tup ws | none => .non) := by
      rw [← sp]; rfl
    have h1 : pre.length ≤ (pre ++ l).length := by simp
    simp only [hl, true_and, h1, c]
    cases ha : pre.all nameT <;> cases hb : l.all nameT <;> simp [st, hb]
  · rw [if_neg c]
theorem arN_mend : arN MEND = none := by decide +kernel
theorem arN_move : arN MOVE = none := by decide +kernel
theorem deedR_plan {wd : Tx} (h : wd = MEND ∨ wd = MOVE) (r : List Vw) : deedR wd r = planV wd r := by
  rcases h with rfl | rfl
  · unfold deedR
    rw [arN_mend]
    show (if MEND = TAKE then takeV MEND _ else if MEND = PUT then putV _ else if MEND = MEND ∨ MEND = MOVE then planV MEND r else _) = _
    rw [if_neg (by decide), if_neg (by decide), if_pos (.inl rfl)]
  · unfold deedR
    rw [arN_move]
    show (if MOVE = TAKE then takeV MOVE _ else if MOVE = PUT then putV _ else if MOVE = MEND ∨ MOVE = MOVE then planV MOVE r else _) = _
    rw [if_neg (by decide), if_neg (by decide), if_pos (.inr rfl)]
theorem deedR_other {wd : Tx} {rest : List Tx} (h1 : wd ≠ TAKE) (h2 : wd ≠ PUT) (h3 : ¬ (wd = MEND ∨ wd = MOVE)) : deedR wd (rest.map Vw.str) = lineD (wd :: rest) := by
  show _ = (if wd = TAKE then takeD rest else match arN wd with
    | some k => if rest.length = k ∧ rest.all nameT = true then W.tup (.str wd :: rest.map W.str) else .non
    | none => if wd = PUT then putD rest else if wd = MEND ∨ wd = MOVE then planD wd rest else .non)
  rw [if_neg h1]
  unfold deedR
  cases arN wd with
  | some k =>
    show (if (rest.map Vw.str).length = k ∧ (rest.map Vw.str).all nameV = true then W.tup (.str wd :: (rest.map Vw.str).map nmW) else .non) = _
    rw [nameV_strs, nmW_strs, List.length_map]
  | none =>
    show (if wd = TAKE then takeV wd _ else if wd = PUT then putV _ else if wd = MEND ∨ wd = MOVE then planV wd _ else .non) = (if wd = PUT then putD rest else if wd = MEND ∨ wd = MOVE then planD wd rest else .non)
    rw [if_neg h1, if_neg h2, if_neg h3, if_neg h2, if_neg h3]
/-! ### split -/
theorem split_len (c : Nat) : ∀ (s acc : Tx), (splitC c acc s).length ≤ s.length + 1
  | [], acc => by simp [splitC]
  | d :: r, acc => by
    unfold splitC
    split
    · simpa using split_len c r []
    · have := split_len c r (acc ++ [d])
      simp; omega
theorem split_piece (c : Nat) : ∀ (s acc : Tx), ∀ w ∈ splitC c acc s, w.length ≤ acc.length + s.length
  | [], acc, w, h => by
    simp only [splitC, List.mem_singleton] at h
    subst h; simp
  | d :: r, acc, w, h => by
    unfold splitC at h
    split at h
    · rcases List.mem_cons.mp h with rfl | h
      · simp
      · have := split_piece c r [] w h
        simp at this ⊢; omega
    · have := split_piece c r (acc ++ [d]) w h
      simp at this ⊢; omega
theorem split_ne (c : Nat) : ∀ (s acc : Tx), splitC c acc s ≠ []
  | [], acc => by simp [splitC]
  | d :: r, acc => by
    unfold splitC
    split
    · simp
    · exact split_ne c r (acc ++ [d])
theorem split_ok {s : Tx} {c : Nat} {h : Hs} (hs : s.length + 2 ≤ lineW) (hc : c < 256) : meV .split (.str s) [.str [c]] h = .ok (.ref h.length) (h ++ [.lst ((splitC c [] s).map .str)]) := by
  show (if s.length + 2 ≤ lineW ∧ c < 256 then new (.lst ((splitC c [] s).map .str)) h else .stk) = _
  rw [if_pos ⟨hs, hc⟩]; rfl
end K74P
end
section
set_option Elab.async false
set_option linter.all false
set_option maxRecDepth 100000
set_option maxHeartbeats 0
/-! k74: line_in. -/
namespace K74P
open K74 hiding R
open Mi
theorem numD_cases (s : Tx) : numD s = .non ∨ ∃ i, numD s = .int i := by
  unfold numD
  split
  · exact .inr ⟨_, rfl⟩
  · exact .inl rfl
theorem mapO_app {α β : Type} {f : α → Option β} : ∀ {l l' : List α} {m m' : List β}, mapO f l = some m → mapO f l' = some m' → mapO f (l ++ l') = some (m ++ m')
  | [], l', m, m', e, e' => by cases e; exact e'
  | a :: r, l', m, m', e, e' => by
    obtain ⟨b, t, e1, e2, rfl⟩ := mapO_cons_some e
    show mapO f (a :: (r ++ l')) = _
    rw [mapO_cons, e1, mapO_app e2 e']; rfl
theorem view_tup {k : Nat} {h : Hs} {ws : List W} {vs : List Vw} (hl : ws.length ≤ lineW) (e : mapO (viewF k h) ws = some vs) : viewF (k + 1) h (.tup ws) = some (.row vs) := by
  show (if ws.length ≤ lineW then (mapO (viewF k h) ws).map Vw.row else none) = _
  rw [if_pos hl, e]; rfl
theorem pairL_len : ∀ l : List Tx, (pairL l).length ≤ l.length
  | a :: b :: r => by
    have := pairL_len r
    simp only [pairL, List.length_cons]; omega
  | [a] => by simp [pairL]
  | [] => by simp [pairL]
def bM : S := (S.seq
                (S.asg (Tg.nm 4)
                  (E.ite (E.cmp Co.eq (E.var 2) (E.con (W.str [109, 101, 110, 100]))) (E.con (W.int 3))
                    (E.con (W.int 1))))
                (S.seq
                  (S.asg (Tg.nm 5)
                    (E.ite (E.cmp Co.ge (E.bi Bi.len (Es.cons (E.var 1) Es.nil)) (E.var 4))
                      (E.call 9 (Es.cons (E.slc (E.var 1) (Es.cons (E.var 4) Es.nil) Es.nil) Es.nil)) (E.con W.non)))
                  (S.seq
                    (S.ret
                      (E.ite (E.cmp Co.isnot (E.var 5) (E.con W.non))
                        (E.call 6
                          (Es.cons
                            (E.bin Bo.add
                              (E.bi Bi.tuple (Es.cons (E.slc (E.var 1) Es.nil (Es.cons (E.var 4) Es.nil)) Es.nil))
                              (E.tup (Es.cons (E.var 5) Es.nil)))
                            Es.nil))
                        (E.con W.non)))
                    S.skip)))
theorem bM_ok (n : Nat) {h : Hs} {p : Nat} {wd : Tx} {rest : List Tx} {w0 : W} (c3 : wd = MEND ∨ wd = MOVE) (hi : items h (.ref p) = some ((wd :: rest).map W.str)) (sw : ∀ w ∈ wd :: rest, w.length ≤ lineW) (hl : (wd :: rest).length + 1 ≤ lineW) :
    ∃ t, ex (clOf Pr wf (n + 4)) wf bM [some w0, some (.ref p), some (.str wd), none, none, none] h = .rt (planD wd rest) (h ++ t) := by
  obtain ⟨a, ha⟩ : ∃ a : Nat, a = (if wd = MEND then 2 else 0) := ⟨_, rfl⟩
  have ei : (if wd = [109, 101, 110, 100] then W.int 3 else W.int 1) = W.int ((a + 1 : Nat) : Int) := by
    have ha' : a = (if wd = [109, 101, 110, 100] then 2 else 0) := ha
    by_cases q : wd = [109, 101, 110, 100]
    · rw [if_pos q] at ha' ⊢; rw [ha']; rfl
    · rw [if_neg q] at ha' ⊢; rw [ha']; rfl
  have ea : ∀ fr, fr[2]? = some (some (W.str wd)) → ev (clOf Pr wf (n + 4)) (E.ite (E.cmp Co.eq (E.var 2) (E.con (W.str [109, 101, 110, 100]))) (E.con (W.int 3)) (E.con (W.int 1))) fr h = .ok (.int ((a + 1 : Nat) : Int)) h := by
    intro fr hf
    rw [← ei]
    by_cases q : wd = [109, 101, 110, 100]
    · simp [hf, q]
    · simp [hf, q]
  have ln : lenV h (.ref p) = some (rest.length + 1) := by rw [items_len hi]; simp
  have pd : planD wd rest = if a ≤ rest.length ∧ (rest.length - a) % 2 = 0 ∧ rest.all nameT = true then
    .tup (.str wd :: ((rest.take a).map W.str ++ [.tup (pairL (rest.drop a))])) else .non := by
    rw [ha]; rfl
  unfold bM
  simp only [ex_seq, ex_asg]
  rw [ea _ rfl]
  by_cases c : a ≤ rest.length
  · have c' : ((a : Int) + 1 ≤ (rest.length : Int) + 1) := by omega
    obtain ⟨w1, t1, s1, s2, _⟩ := items_slc hi (some ((a + 1 : Nat) : Int)) none
    rw [cut_from, List.map_cons, List.drop_succ_cons, ← List.map_drop] at s2
    have pi := pairs_in_ok (n + 3) (l := rest.drop a) s2 (by simp at hl ⊢; omega)
    by_cases c4 : (rest.drop a).length % 2 = 1
    · rw [if_pos c4] at pi
      rw [pd, if_neg (by rintro ⟨_, q, _⟩; simp at c4; omega)]
      refine ⟨t1, ?_⟩
      have s1' : slcV h (.ref p) (some ((a : Int) + 1)) none = .ok w1 (h ++ t1) := s1
      simp [ln, c', s1', pi]
    · rw [if_neg c4] at pi
      have s1' : slcV h (.ref p) (some ((a : Int) + 1)) none = .ok w1 (h ++ t1) := s1
      have hi2 := items_app t1 hi
      obtain ⟨w2, t2, z1, z2, _⟩ := items_slc hi2 none (some ((a + 1 : Nat) : Int))
      rw [cut_to, List.map_cons, List.take_succ_cons, ← List.map_take] at z2
      have z1' : slcV (h ++ t1) (.ref p) none (some ((a : Int) + 1)) = .ok w2 (h ++ t1 ++ t2) := z1
      rw [List.append_assoc] at z1' z2
      have vw : ∀ H, viewF 3 H (.tup (.str wd :: ((rest.take a).map W.str ++ [.tup (pairL (rest.drop a))]))) = some (.row (.str wd :: ((rest.take a).map Vw.str ++ [.row (pairV (rest.drop a))]))) := by
        intro H
        have hl2 : (rest.drop a).length ≤ lineW := by simp at hl ⊢; omega
        have v1 : mapO (viewF 2 H) ((rest.take a).map W.str) = some ((rest.take a).map Vw.str) := view_strs 2 fun s hs => sw s (List.mem_cons_of_mem _ (List.mem_of_mem_take hs))
        have v2 : viewF 2 H (.tup (pairL (rest.drop a))) = some (.row (pairV (rest.drop a))) := view_tup (Nat.le_trans (pairL_len _) hl2) (view_pairs 0 fun s hs => sw s (List.mem_cons_of_mem _ (List.mem_of_mem_drop hs)))
        have v3 : viewF 2 H (.str wd) = some (.str wd) := if_pos (sw wd (by simp))
        have v4 : mapO (viewF 2 H) [W.tup (pairL (rest.drop a))] = some [.row (pairV (rest.drop a))] := by rw [mapO_cons, v2]; rfl
        refine view_tup (by simp at hl ⊢; omega) ?_
        rw [mapO_cons, v3, mapO_app v1 v4]
      have dd := deed_in_ok n (vw (h ++ (t1 ++ t2)))
      have dp : deedV (.row (.str wd :: ((rest.take a).map Vw.str ++ [.row (pairV (rest.drop a))]))) = planD wd rest := by
        show deedR wd _ = _
        rw [deedR_plan c3, planV_strs (by rw [List.length_take, Nat.min_eq_left c, ha]), if_pos (by omega), List.take_append_drop]
      rw [dp] at dd
      refine ⟨t1 ++ t2, ?_⟩
      have hl6 : min a rest.length + 1 + 1 ≤ lineW := by simp at hl; omega
      simp [ln, c', s1', pi, z1', tuple_of z2, hl6]
      simp at dd
      rw [dd]
      simp
  · have c' : ¬ ((a : Int) + 1 ≤ (rest.length : Int) + 1) := by omega
    rw [pd, if_neg (fun q => c q.1)]
    refine ⟨[], ?_⟩
    simp [ln, c', c]
theorem b10_eq : b10 = S.seq (S.asg (Tg.nm 1) (E.me Me.split (E.var 0) (Es.cons (E.con (W.str [32])) Es.nil)))
    (S.seq (S.asg (Tg.nm 2) (E.idx (E.var 1) (E.con (W.int 0))))
      (S.seq
        (S.iff (E.cmp Co.eq (E.var 2) (E.con (W.str [116, 97, 107, 101])))
          (S.seq
            (S.asg (Tg.nm 3)
              (E.ite (E.cmp Co.eq (E.bi Bi.len (Es.cons (E.var 1) Es.nil)) (E.con (W.int 2)))
                (E.call 3 (Es.cons (E.idx (E.var 1) (E.con (W.int 1))) Es.nil)) (E.con W.non)))
            (S.seq
              (S.ret
                (E.ite (E.cmp Co.isnot (E.var 3) (E.con W.non))
                  (E.tup (Es.cons (E.con (W.str [116, 97, 107, 101])) (Es.cons (E.var 3) Es.nil))) (E.con W.non)))
              S.skip))
          S.skip)
        (S.seq
          (S.iff (E.cmp Co.eq (E.var 2) (E.con (W.str [112, 117, 116])))
            (S.seq
              (S.ret
                (E.ite (E.cmp Co.gt (E.bi Bi.len (Es.cons (E.var 1) Es.nil)) (E.con (W.int 2)))
                  (E.call 6
                    (Es.cons
                      (E.tup
                        (Es.cons (E.con (W.str [112, 117, 116]))
                          (Es.cons (E.idx (E.var 1) (E.con (W.int 1)))
                            (Es.cons
                              (E.bi Bi.tuple
                                (Es.cons (E.slc (E.var 1) (Es.cons (E.con (W.int 2)) Es.nil) Es.nil) Es.nil))
                              Es.nil))))
                      Es.nil))
                  (E.con W.non)))
              S.skip)
            S.skip)
          (S.seq
            (S.iff
              (E.cmp Co.isin (E.var 2)
                (E.tup
                  (Es.cons (E.con (W.str [109, 101, 110, 100])) (Es.cons (E.con (W.str [109, 111, 118, 101])) Es.nil))))
              bM
              S.skip)
            (S.seq (S.ret (E.call 6 (Es.cons (E.bi Bi.tuple (Es.cons (E.var 1) Es.nil)) Es.nil))) S.skip))))) := rfl
theorem planD_under (m : Nat) (wd : Tx) (rest : List Tx) : (planD wd rest).under m = true := by
  unfold planD
  generalize (if wd = MEND then 2 else 0) = a
  split
  · simp only [W.under, W.unders, Bool.true_and]
    refine unders_of fun w hw => ?_
    rcases List.mem_append.mp hw with hw | hw
    · obtain ⟨v', _, rfl⟩ := List.mem_map.mp hw
      rfl
    · rw [List.mem_singleton.mp hw]; exact pairL_under m _
  · rfl
theorem line_in_ok (n : Nat) {s : Tx} {h : Hs} (hs : s.length + 2 ≤ lineW) : lev Pr wf (n + 5) 10 [.str s] h = .ok (lineD (splitC 32 [] s)) h := by
  rw [L10]
  have sp := split_ok (s := s) (c := 32) (h := h) hs (by decide)
  have sl := split_len 32 s []
  have sw : ∀ w ∈ splitC 32 [] s, w.length ≤ lineW := fun w hw => by
    have := split_piece 32 s [] w hw
    simp at this; omega
  have sn := split_ne 32 s []
  generalize splitC 32 [] s = ws at sp sl sw sn
  cases ws with
  | nil => exact absurd rfl sn
  | cons wd rest =>
    have hi : items (h ++ [.lst ((wd :: rest).map W.str)]) (.ref h.length) = some ((wd :: rest).map W.str) := by simp
    have hl : (wd :: rest).length ≤ lineW := by omega
    have hwd : wd.length ≤ lineW := sw wd (by simp)
    have ld : lineD (wd :: rest) = if wd = TAKE then takeD rest else match arN wd with
        | some k => if rest.length = k ∧ rest.all nameT = true then .tup (.str wd :: rest.map W.str) else .non
        | none => if wd = PUT then putD rest else if wd = MEND ∨ wd = MOVE then planD wd rest else .non := rfl
    by_cases c1 : wd = TAKE
    · rw [ld, if_pos c1]
      have c1' : wd = [116, 97, 107, 101] := c1
      match rest with
      | [] =>
        simp [b10, Me.tys, sp, c1', atI_zero, takeD]
        exact gc_same (by rfl)
      | [x] =>
        subst c1'
        have nd := number_in_ok (n + 3) (s := x) (h := h ++ [.lst [.str [116, 97, 107, 101], .str x]]) (sw x (by simp))
        rcases numD_cases x with q | ⟨i, q⟩
        · rw [q] at nd
          simp [b10, Me.tys, sp, atI_zero, atI_one, takeD, q, nd]
          exact gc_same (by rfl)
        · rw [q] at nd
          simp [b10, Me.tys, sp, atI_zero, atI_one, takeD, q, nd, TAKE]
          exact gc_same (by rfl)
      | x :: y :: r =>
        have hc : ¬ ((r.length : Int) + 1 + 1 + 1 = 2) := by omega
        simp [b10, Me.tys, sp, c1', atI_zero, takeD, hc]
        exact gc_same (by rfl)
    · have c1' : ¬ wd = [116, 97, 107, 101] := c1
      rw [ld, if_neg c1]
      by_cases c2 : wd = PUT
      · have c2' : wd = [112, 117, 116] := c2
        have an : arN wd = none := by rw [c2]; decide +kernel
        rw [an]
        show _ = R.ok (if wd = PUT then putD rest else _) h
        rw [if_pos c2]
        match rest with
        | [] =>
          simp [b10, Me.tys, sp, c1', c2', atI_zero, putD]
          exact gc_same (by rfl)
        | [x] =>
          simp [b10, Me.tys, sp, c1', c2', atI_zero, putD]
          exact gc_same (by rfl)
        | x :: y :: r =>
          subst c2'
          have hc : (2 : Int) < (r.length : Int) + 1 + 1 + 1 := by omega
          have hlr : (y :: r).length ≤ lineW := by simp at hl ⊢; omega
          obtain ⟨w', t', s1, s2, _⟩ := items_slc hi (some ((2 : Nat) : Int)) none
          rw [cut_from] at s2
          have s1' : slcV (h ++ [.lst (.str [112, 117, 116] :: .str x :: .str y :: r.map W.str)]) (.ref h.length) (some 2) none = .ok w' (h ++ [.lst (.str [112, 117, 116] :: .str x :: .str y :: r.map W.str)] ++ t') := s1
          have s2' : items (h ++ [.lst (.str [112, 117, 116] :: .str x :: .str y :: r.map W.str)] ++ t') w' = some (.str y :: r.map W.str) := s2
          rw [List.append_assoc] at s1' s2'
          have vw : ∀ H, viewF 2 H (.tup [.str [112, 117, 116], .str x, .tup (.str y :: r.map W.str)]) = some (.row [.str PUT, .str x, .row ((y :: r).map Vw.str)]) := by
            intro H
            have m1 := view_strs (h := H) 0 (l := y :: r) (fun q hq => sw q (by simp at hq ⊢; rcases hq with q | q <;> simp [q]))
            have v1 : viewF 1 H (.tup ((y :: r).map W.str)) = some (.row ((y :: r).map Vw.str)) := by
              show (if ((y :: r).map W.str).length ≤ lineW then (mapO (viewF 0 H) ((y :: r).map W.str)).map Vw.row else none) = _
              rw [if_pos (by rw [List.length_map]; exact hlr), m1]; rfl
            have v2 : viewF 1 H (.str x) = some (.str x) := if_pos (sw x (by simp))
            show (if 3 ≤ lineW then (mapO (viewF 1 H) [W.str [112, 117, 116], .str x, .tup ((y :: r).map W.str)]).map Vw.row else none) = _
            rw [if_pos (by decide), mapO_cons, mapO_cons, mapO_cons, v1, v2]
            rfl
          have dd := deed_in_ok n (vw (h ++ ([.lst (.str [112, 117, 116] :: .str x :: .str y :: r.map W.str)] ++ t')))
          have und := deedR_under h.length PUT [.str x, .row ((y :: r).map Vw.str)]
          have dp : deedV (.row [.str PUT, .str x, .row ((y :: r).map Vw.str)]) = putD (x :: y :: r) := deedR_put
          have dp2 : deedR PUT [.str x, .row ((y :: r).map Vw.str)] = putD (x :: y :: r) := deedR_put
          rw [dp] at dd
          rw [dp2] at und
          simp only [List.cons_append, List.nil_append] at s1' s2' dd
          simp [b10, Me.tys, sp, atI_zero, atI_one, hc, s1', tuple_of s2', dd]
          exact gc_same und
      · have c2' : ¬ wd = [112, 117, 116] := c2
        by_cases c3 : wd = MEND ∨ wd = MOVE
        · have c3' : (decide (([109, 101, 110, 100] : Tx) = wd) || decide (([109, 111, 118, 101] : Tx) = wd)) = true := by
            rcases c3 with q | q
            · rw [show wd = [109, 101, 110, 100] from q]; decide
            · rw [show wd = [109, 111, 118, 101] from q]; decide
          have an : arN wd = none := by rcases c3 with rfl | rfl <;> decide +kernel
          rw [an]
          show _ = R.ok (if wd = PUT then _ else if wd = MEND ∨ wd = MOVE then planD wd rest else .non) h
          rw [if_neg c2, if_pos c3]
          obtain ⟨t, eb⟩ := bM_ok n (w0 := .str s) c3 hi sw (by omega)
          have und := planD_under h.length wd rest
          rw [List.append_assoc] at eb
          simp only [List.map_cons] at eb
          rw [b10_eq]
          simp [Me.tys, sp, c1', c2', c3', atI_zero, eb]
          exact gc_same und
        · have lo := deedR_other (rest := rest) c1 c2 c3
          rw [ld, if_neg c1] at lo
          rw [← lo]
          have c3' : (decide (([109, 101, 110, 100] : Tx) = wd) || decide (([109, 111, 118, 101] : Tx) = wd)) = false := by
            rw [decide_eq_false (fun q => c3 (.inl q.symm)), decide_eq_false (fun q => c3 (.inr q.symm))]; rfl
          have vw : ∀ H, viewF 1 H (.tup (.str wd :: rest.map W.str)) = some (.row (.str wd :: rest.map Vw.str)) := by
            intro H
            have m1 := view_strs (h := H) 0 (l := wd :: rest) sw
            show (if ((wd :: rest).map W.str).length ≤ lineW then (mapO (viewF 0 H) ((wd :: rest).map W.str)).map Vw.row else none) = _
            rw [if_pos (by rw [List.length_map]; exact hl), m1]; rfl
          have dd := deed_in_ok n (vw (h ++ [.lst (.str wd :: rest.map W.str)]))
          have und := deedR_under h.length wd (rest.map Vw.str)
          have dp : deedV (.row (.str wd :: rest.map Vw.str)) = deedR wd (rest.map Vw.str) := rfl
          rw [dp] at dd
          simp only [List.map_cons] at hi
          simp [b10, Me.tys, sp, c1', c2', c3', atI_zero, tuple_of hi, dd]
          exact gc_same und
end K74P
end
section
set_option Elab.async false
set_option linter.all false
set_option maxRecDepth 100000
set_option maxHeartbeats 2000000
/-! Plain part: figures, texts cut and joined. -/
namespace Mi
theorem natTx_small {n : Nat} (h : n < 10) : natTx n = [48 + n] := by
  unfold natTx
  rw [Nat.toDigits_of_lt_base h]
  have : ∀ m : Nat, m < 10 → [Nat.digitChar m].map Char.toNat = [48 + m] := by decide
  exact this n h
theorem natTx_big {n : Nat} (h : 10 ≤ n) : natTx n = natTx (n / 10) ++ [48 + n % 10] := by
  unfold natTx
  rw [Nat.toDigits_of_base_le (by decide) h, List.map_append]
  have : ∀ m : Nat, m < 10 → [Nat.digitChar m].map Char.toNat = [48 + m] := by decide
  rw [this (n % 10) (Nat.mod_lt _ (by decide))]
theorem natTx_len {n k : Nat} (hk : 0 < k) : (natTx n).length ≤ k ↔ n < 10 ^ k := by
  unfold natTx
  rw [List.length_map]
  exact Nat.length_toDigits_le_iff (by decide) hk
theorem natTx_pos (n : Nat) : 1 ≤ (natTx n).length := by
  unfold natTx
  rw [List.length_map]
  exact Nat.length_toDigits_pos
theorem natTx_figs (n : Nat) : ∀ c ∈ natTx n, 48 ≤ c ∧ c ≤ 57 := by
  induction n using Nat.strongRecOn with
  | ind n ih =>
    intro c hc
    by_cases h : n < 10
    · rw [natTx_small h] at hc
      rw [List.mem_singleton.mp hc]; omega
    · rw [natTx_big (by omega)] at hc
      rcases List.mem_append.mp hc with hc | hc
      · exact ih (n / 10) (by omega) c hc
      · rw [List.mem_singleton.mp hc]
        have := Nat.mod_lt n (show 0 < 10 by decide)
        omega
theorem natTx_head (n : Nat) : (natTx n).headD 0 = 48 → n = 0 := by
  induction n using Nat.strongRecOn with
  | ind n ih =>
    intro hc
    by_cases h : n < 10
    · rw [natTx_small h] at hc
      simp at hc; exact hc
    · rw [natTx_big (by omega)] at hc
      have := natTx_pos (n / 10)
      cases e : natTx (n / 10) with
      | nil => rw [e] at this; simp at this
      | cons a r =>
        rw [e] at hc
        have := ih (n / 10) (by omega) (by rw [e]; exact hc)
        omega
theorem numTx_app (s : Tx) (c : Nat) : numTx (s ++ [c]) = numTx s * 10 + (c - 48) := by
  unfold numTx
  rw [List.foldl_append]; rfl
theorem numTx_natTx (n : Nat) : numTx (natTx n) = n := by
  induction n using Nat.strongRecOn with
  | ind n ih =>
    by_cases h : n < 10
    · rw [natTx_small h]
      show 0 * 10 + (48 + n - 48) = n
      omega
    · rw [natTx_big (by omega), numTx_app, ih (n / 10) (by omega)]
      omega
theorem numTx_lt (s : Tx) (h : ∀ c ∈ s, c ≤ 57) : numTx s < 10 ^ s.length := by
  have key : ∀ (s : Tx) (n k : Nat), (∀ c ∈ s, c ≤ 57) → n < 10 ^ k → s.foldl (fun n c => n * 10 + (c - 48)) n < 10 ^ (k + s.length) := by
    intro s
    induction s with
    | nil => intro n k _ hn; exact hn
    | cons a r ih =>
      intro n k hs hn
      have ha := hs a (by simp)
      have := ih (n * 10 + (a - 48)) (k + 1) (fun c hc => hs c (by simp [hc])) (by rw [Nat.pow_succ]; omega)
      rw [List.foldl_cons, List.length_cons]
      have e : k + (r.length + 1) = k + 1 + r.length := by omega
      rw [e]; exact this
  have := key s 0 0 h (by decide)
  rwa [Nat.zero_add] at this
/-! ### split, join -/
theorem split_run {c : Nat} : ∀ (w acc : Tx), (∀ d ∈ w, d ≠ c) → splitC c acc w = [acc ++ w]
  | [], acc, _ => by simp [splitC]
  | d :: r, acc, h => by
    have hd : (d == c) = false := by simpa using h d (by simp)
    rw [splitC, hd]
    rw [if_neg (by simp), split_run r (acc ++ [d]) fun x hx => h x (by simp [hx])]
    simp
theorem split_stop {c : Nat} : ∀ (w acc r : Tx), (∀ d ∈ w, d ≠ c) → splitC c acc (w ++ c :: r) = (acc ++ w) :: splitC c [] r
  | [], acc, r, _ => by simp [splitC]
  | d :: w, acc, r, h => by
    have hd : (d == c) = false := by simpa using h d (by simp)
    rw [List.cons_append, splitC, hd]
    rw [if_neg (by simp), split_stop w (acc ++ [d]) r fun x hx => h x (by simp [hx])]
    simp
theorem split_join {c : Nat} : ∀ (ws : List Tx), ws ≠ [] → (∀ w ∈ ws, ∀ d ∈ w, d ≠ c) → splitC c [] (joinT [c] ws) = ws
  | [], h, _ => absurd rfl h
  | [w], _, h => by
    rw [joinT, split_run w [] (h w (by simp))]; rfl
  | w :: v :: r, _, h => by
    rw [joinT, List.append_assoc]
    show splitC c [] (w ++ c :: joinT [c] (v :: r)) = _
    rw [split_stop w [] _ (h w (by simp)), split_join (v :: r) (by simp) fun x hx => h x (by simp [hx])]; rfl
/-- each line with its end -/
def linesT (c : Nat) (ls : List Tx) : Tx := (ls.map fun l => l ++ [c]).flatten
theorem linesT_cons (c : Nat) (l : Tx) (ls : List Tx) : linesT c (l :: ls) = l ++ c :: linesT c ls := by
  simp [linesT]
theorem split_lines {c : Nat} : ∀ (ls : List Tx), (∀ w ∈ ls, ∀ d ∈ w, d ≠ c) → splitC c [] (linesT c ls) = ls ++ [[]]
  | [], _ => rfl
  | l :: r, h => by
    rw [linesT_cons, split_stop l [] _ (h l (by simp)), split_lines r fun x hx => h x (by simp [hx])]; rfl
theorem join_empty : ∀ ls : List Tx, joinT [] ls = ls.flatten
  | [] => rfl
  | [s] => by simp [joinT]
  | s :: t :: r => by rw [joinT, join_empty (t :: r)]; simp
theorem join_len (sep : Tx) : ∀ ls : List Tx, (joinT sep ls).length ≤ (ls.map (·.length)).sum + ls.length * sep.length
  | [] => by simp [joinT]
  | [s] => by simp [joinT]
  | s :: t :: r => by
    have := join_len sep (t :: r)
    rw [joinT]
    simp only [List.length_append, List.map_cons, List.sum_cons, List.length_cons, Nat.add_mul, Nat.one_mul] at this ⊢
    omega
theorem join_mem {sep : Tx} {c : Nat} : ∀ {ls : List Tx}, c ∈ joinT sep ls → c ∈ sep ∨ ∃ l ∈ ls, c ∈ l
  | [], h => by simp [joinT] at h
  | [s], h => .inr ⟨s, by simp, h⟩
  | s :: t :: r, h => by
    rw [joinT, List.append_assoc] at h
    rcases List.mem_append.mp h with h | h
    · exact .inr ⟨s, by simp, h⟩
    · rcases List.mem_append.mp h with h | h
      · exact .inl h
      · rcases join_mem h with h | ⟨l, hl, h⟩
        · exact .inl h
        · exact .inr ⟨l, by simp [hl], h⟩
theorem split_len (c : Nat) : ∀ (s acc : Tx), (splitC c acc s).length ≤ s.length + 1
  | [], acc => by simp [splitC]
  | d :: r, acc => by
    unfold splitC
    split
    · simpa using split_len c r []
    · have := split_len c r (acc ++ [d])
      simp; omega
theorem split_piece (c : Nat) : ∀ (s acc : Tx), ∀ w ∈ splitC c acc s, w.length ≤ acc.length + s.length
  | [], acc, w, h => by
    simp only [splitC, List.mem_singleton] at h
    subst h; simp
  | d :: r, acc, w, h => by
    unfold splitC at h
    split at h
    · rcases List.mem_cons.mp h with rfl | h
      · simp
      · have := split_piece c r [] w h
        simp at this ⊢; omega
    · have := split_piece c r (acc ++ [d]) w h
      simp at this ⊢; omega
theorem split_ne (c : Nat) : ∀ (s acc : Tx), splitC c acc s ≠ []
  | [], acc => by simp [splitC]
  | d :: r, acc => by
    unfold splitC
    split
    · simp
    · exact split_ne c r (acc ++ [d])
theorem split_ok {s : Tx} {c : Nat} {h : Hs} (hs : s.length + 2 ≤ lineW) (hc : c < 256) : meV .split (.str s) [.str [c]] h = .ok (.ref h.length) (h ++ [.lst ((splitC c [] s).map .str)]) := by
  show (if s.length + 2 ≤ lineW ∧ c < 256 then new (.lst ((splitC c [] s).map .str)) h else .stk) = _
  rw [if_pos ⟨hs, hc⟩]; rfl
theorem strs_map : ∀ l : List Tx, strsW (l.map W.str) = some l
  | [] => rfl
  | a :: r => by
    show (strsW (r.map W.str)).map (a :: ·) = _
    rw [strs_map r]; rfl
theorem join_ok {sep : Tx} {w : W} {ls : List Tx} {h : Hs} (hi : items h w = some (ls.map W.str)) (hl : (ls.map (·.length)).sum + ls.length * sep.length ≤ lineW) : meV .join (.str sep) [w] h = .ok (.str (joinT sep ls)) h := by
  show (match items h w with
    | some ws => (match strsW ws with
      | some (ss : List Tx) => okIf (decide ((ss.map (fun s : Tx => s.length)).sum + ss.length * sep.length ≤ lineW)) (W.str (joinT sep ss)) h
      | none => .stk : R W)
    | none => .stk) = _
  rw [hi]
  simp only [strs_map]
  rw [decide_eq_true hl]; rfl
/-! ### frames and heaps: an old part that a call may change (the draws), and what lies behind -/
end Mi
end
section
set_option Elab.async false
set_option linter.all false
set_option maxRecDepth 100000
set_option maxHeartbeats 0
/-! k74: plain deeds. -/
namespace K74P
open K74 hiding R
open Mi
inductive Dd where
  | nm (wd : Tx) (args : List Tx)
  | take (i : Nat)
  | put (a : Tx) (ps : List Tx)
  | plan (wd : Tx) (pre l : List Tx)
def Dd.w : Dd → W
  | .nm wd args => .tup (.str wd :: args.map W.str)
  | .take i => .tup [.str TAKE, .int i]
  | .put a ps => .tup [.str PUT, .str a, .tup (ps.map W.str)]
  | .plan wd pre l => .tup (.str wd :: (pre.map W.str ++ [.tup (pairL l)]))
def Dd.words : Dd → List Tx
  | .nm wd args => wd :: args
  | .take i => [TAKE, natTx i]
  | .put a ps => PUT :: a :: ps
  | .plan wd pre l => wd :: (pre ++ l)
def Dd.v : Dd → Vw
  | .nm wd args => .row (.str wd :: args.map Vw.str)
  | .take i => .row [.str TAKE, .int i]
  | .put a ps => .row [.str PUT, .str a, .row (ps.map Vw.str)]
  | .plan wd pre l => .row (.str wd :: (pre.map Vw.str ++ [.row (pairV l)]))
def Dd.ok : Dd → Prop
  | .nm wd args => arN wd = some args.length ∧ args.all nameT = true
  | .take i => i ≤ 999999999
  | .put a ps => 1 ≤ ps.length ∧ ps.length ≤ 3 ∧ (a :: ps).all nameT = true
  | .plan wd pre l => (wd = MEND ∨ wd = MOVE) ∧ pre.length = (if wd = MEND then 2 else 0) ∧ l.length % 2 = 0 ∧ (pre ++ l).all nameT = true
theorem arN_take : arN TAKE = none := by decide +kernel
theorem arN_put : arN PUT = none := by decide +kernel
theorem has_figs {c : Nat} (h1 : 48 ≤ c) (h2 : c ≤ 57) : has FIGS c = true := by
  have : ∀ k : Nat, k < 10 → has FIGS (48 + k) = true := by decide
  have e : c = 48 + (c - 48) := by omega
  rw [e]
  exact this (c - 48) (by omega)
theorem figs_has {c : Nat} (h : has FIGS c = true) : 48 ≤ c ∧ c ≤ 57 := by
  simp only [has, FIGS, List.contains_cons, List.contains_nil, Bool.or_false, Bool.or_eq_true, beq_iff_eq] at h
  omega
theorem numD_natTx {i : Nat} (h : i ≤ 999999999) : numD (natTx i) = .int i := by
  unfold numD
  rw [if_pos, numTx_natTx]
  refine ⟨natTx_pos i, (natTx_len (by decide)).mpr (by omega), fun q => ?_, List.all_eq_true.mpr fun c hc => has_figs (natTx_figs i c hc).1 (natTx_figs i c hc).2⟩
  have := natTx_head i q.1
  subst this
  have := q.2
  rw [natTx_small (by decide)] at this
  simp at this
theorem takeD_one (s : Tx) : takeD [s] = match numD s with
    | .int i => .tup [.str TAKE, .int i]
    | _ => .non := rfl
theorem putD_cons (a : Tx) (ps : List Tx) : putD (a :: ps) = if 1 ≤ ps.length ∧ ps.length ≤ 3 ∧ (a :: ps).all nameT = true then .tup [.str PUT, .str a, .tup (ps.map W.str)] else .non := rfl
theorem lineD_cons (wd : Tx) (rest : List Tx) : lineD (wd :: rest) = if wd = TAKE then takeD rest else match arN wd with
      | some k => if rest.length = k ∧ rest.all nameT = true then W.tup (.str wd :: rest.map W.str) else .non
      | none => if wd = PUT then putD rest else if wd = MEND ∨ wd = MOVE then planD wd rest else .non := rfl
theorem lineD_words {d : Dd} (h : d.ok) : lineD d.words = d.w := by
  cases d with
  | nm wd args =>
    obtain ⟨h1, h2⟩ := h
    have ne : wd ≠ TAKE := fun q => by rw [q, arN_take] at h1; cases h1
    show (if wd = TAKE then takeD args else match arN wd with
      | some k => if args.length = k ∧ args.all nameT = true then W.tup (.str wd :: args.map W.str) else .non
      | none => _) = _
    rw [if_neg ne, h1]
    exact if_pos ⟨rfl, h2⟩
  | take i =>
    show takeD [natTx i] = _
    rw [takeD_one, numD_natTx h]; rfl
  | put a ps =>
    obtain ⟨h1, h2, h3⟩ := h
    show lineD (PUT :: a :: ps) = _
    rw [lineD_cons, if_neg (by decide), arN_put]
    show (if PUT = PUT then putD (a :: ps) else if PUT = MEND ∨ PUT = MOVE then planD PUT (a :: ps) else .non) = _
    rw [if_pos rfl]
    exact if_pos ⟨h1, h2, h3⟩
  | plan wd pre l =>
    obtain ⟨h1, h2, h3, h4⟩ := h
    have ne : wd ≠ TAKE := by rcases h1 with rfl | rfl <;> decide
    have ne2 : wd ≠ PUT := by rcases h1 with rfl | rfl <;> decide
    have an : arN wd = none := by rcases h1 with rfl | rfl <;> decide +kernel
    show (if wd = TAKE then takeD _ else match arN wd with
      | some k => if (pre ++ l).length = k ∧ (pre ++ l).all nameT = true then W.tup (.str wd :: (pre ++ l).map W.str) else .non
      | none => if wd = PUT then putD (pre ++ l) else if wd = MEND ∨ wd = MOVE then planD wd (pre ++ l) else .non) = _
    rw [if_neg ne, an]
    show (if wd = PUT then putD (pre ++ l) else if wd = MEND ∨ wd = MOVE then planD wd (pre ++ l) else .non) = _
    rw [if_neg ne2, if_pos h1]
    unfold planD
    rw [← h2]
    have tk : (pre ++ l).take pre.length = pre := by simp
    have dr : (pre ++ l).drop pre.length = l := by simp
    have ln : (pre ++ l).length - pre.length = l.length := by simp
    rw [tk, dr, ln, if_pos ⟨by simp, h3, h4⟩]
    rfl
theorem lineD_cases2 (ws : List Tx) : lineD ws = .non ∨ ∃ d : Dd, (d.ok ∧ d.words.length = ws.length) ∧ lineD ws = d.w := by
  cases ws with
  | nil => exact .inl rfl
  | cons wd rest =>
    show (if wd = TAKE then takeD rest else match arN wd with
      | some k => if rest.length = k ∧ rest.all nameT = true then W.tup (.str wd :: rest.map W.str) else .non
      | none => if wd = PUT then putD rest else if wd = MEND ∨ wd = MOVE then planD wd rest else .non) = .non ∨ ∃ d : Dd, (d.ok ∧ d.words.length = (wd :: rest).length) ∧ (if wd = TAKE then takeD rest else match arN wd with
      | some k => if rest.length = k ∧ rest.all nameT = true then W.tup (.str wd :: rest.map W.str) else .non
      | none => if wd = PUT then putD rest else if wd = MEND ∨ wd = MOVE then planD wd rest else .non) = d.w
    by_cases c1 : wd = TAKE
    · rw [if_pos c1]
      match rest with
      | [s] =>
        rw [takeD_one]
        unfold numD
        by_cases q : 1 ≤ s.length ∧ s.length ≤ 9 ∧ ¬ (s.headD 0 = 48 ∧ 1 < s.length) ∧ (s.all fun c => has FIGS c) = true
        · rw [if_pos q]
          refine .inr ⟨.take (numTx s), ⟨?_, rfl⟩, rfl⟩
          have l1 := numTx_lt s (fun c hc => (figs_has (List.all_eq_true.mp q.2.2.2 c hc)).2)
          have l2 : 10 ^ s.length ≤ 10 ^ 9 := Nat.pow_le_pow_right (by decide) q.2.1
          show numTx s ≤ 999999999
          omega
        · rw [if_neg q]; exact .inl rfl
      | [] => exact .inl rfl
      | a :: b :: r => exact .inl rfl
    · rw [if_neg c1]
      cases an : arN wd with
      | some k =>
        show (if rest.length = k ∧ rest.all nameT = true then W.tup (.str wd :: rest.map W.str) else .non) = .non ∨ ∃ d : Dd, (d.ok ∧ d.words.length = (wd :: rest).length) ∧ (if rest.length = k ∧ rest.all nameT = true then W.tup (.str wd :: rest.map W.str) else .non) = d.w
        by_cases q : rest.length = k ∧ rest.all nameT = true
        · rw [if_pos q]
          exact .inr ⟨.nm wd rest, ⟨⟨by rw [an, q.1], q.2⟩, rfl⟩, rfl⟩
        · rw [if_neg q]; exact .inl rfl
      | none =>
        show (if wd = PUT then putD rest else if wd = MEND ∨ wd = MOVE then planD wd rest else .non) = .non ∨ ∃ d : Dd, (d.ok ∧ d.words.length = (wd :: rest).length) ∧ (if wd = PUT then putD rest else if wd = MEND ∨ wd = MOVE then planD wd rest else .non) = d.w
        by_cases c2 : wd = PUT
        · rw [if_pos c2]
          cases rest with
          | nil => exact .inl rfl
          | cons a ps =>
            rw [putD_cons]
            by_cases q : 1 ≤ ps.length ∧ ps.length ≤ 3 ∧ (a :: ps).all nameT = true
            · rw [if_pos q]; exact .inr ⟨.put a ps, ⟨q, rfl⟩, rfl⟩
            · rw [if_neg q]; exact .inl rfl
        · rw [if_neg c2]
          by_cases c3 : wd = MEND ∨ wd = MOVE
          · rw [if_pos c3]
            unfold planD
            obtain ⟨a, ha⟩ : ∃ a : Nat, a = (if wd = MEND then 2 else 0) := ⟨_, rfl⟩
            rw [← ha]
            by_cases q : a ≤ rest.length ∧ (rest.length - a) % 2 = 0 ∧ rest.all nameT = true
            · rw [if_pos q]
              exact .inr ⟨.plan wd (rest.take a) (rest.drop a), ⟨⟨c3, by rw [← ha, List.length_take, Nat.min_eq_left q.1], by rw [List.length_drop]; exact q.2.1, by rw [List.take_append_drop]; exact q.2.2⟩, by simp [Dd.words]⟩, rfl⟩
            · rw [if_neg q]; exact .inl rfl
          · rw [if_neg c3]; exact .inl rfl
theorem lineD_cases (ws : List Tx) : lineD ws = .non ∨ ∃ d : Dd, d.ok ∧ lineD ws = d.w := by
  rcases lineD_cases2 ws with h | ⟨d, h1, h2⟩
  · exact .inl h
  · exact .inr ⟨d, h1.1, h2⟩
theorem deedV_v {d : Dd} (h : d.ok) : deedV d.v = d.w := by
  cases d with
  | nm wd args =>
    obtain ⟨h1, h2⟩ := h
    show deedR wd (args.map Vw.str) = _
    unfold deedR
    rw [h1]
    show (if (args.map Vw.str).length = args.length ∧ (args.map Vw.str).all nameV = true then W.tup (.str wd :: (args.map Vw.str).map nmW) else .non) = _
    rw [nameV_strs, nmW_strs, if_pos ⟨by rw [List.length_map], h2⟩]
    rfl
  | take i =>
    have h : i ≤ 999999999 := h
    show deedR TAKE [.int i] = _
    unfold deedR
    rw [arN_take]
    show (if TAKE = TAKE then takeV TAKE [.int (i : Int)] else _) = _
    rw [if_pos rfl]
    exact if_pos ⟨by omega, by omega⟩
  | put a ps =>
    obtain ⟨h1, h2, h3⟩ := h
    show deedR PUT [.str a, .row (ps.map Vw.str)] = _
    rw [deedR_put]
    exact if_pos ⟨h1, h2, h3⟩
  | plan wd pre l =>
    have ok := h
    obtain ⟨h1, h2, h3, h4⟩ := h
    show deedR wd (pre.map Vw.str ++ [.row (pairV l)]) = _
    rw [deedR_plan h1, planV_strs h2, if_pos h3]
    unfold planD
    rw [← h2]
    have tk : (pre ++ l).take pre.length = pre := by simp
    have dr : (pre ++ l).drop pre.length = l := by simp
    have ln : (pre ++ l).length - pre.length = l.length := by simp
    rw [tk, dr, ln, if_pos ⟨by simp, h3, h4⟩]
    rfl
/-- a word of a deed: short, of plain signs -/
def wordT (s : Tx) : Prop := s.length ≤ 9 ∧ ∀ c ∈ s, 48 ≤ c ∧ c ≤ 122
theorem has_signs {c : Nat} (h : has SIGNS c = true) : 48 ≤ c ∧ c ≤ 122 := by
  have : SIGNS.all (fun d => decide (48 ≤ d ∧ d ≤ 122)) = true := by decide
  have m : c ∈ SIGNS := List.contains_iff_mem.mp h
  exact of_decide_eq_true (List.all_eq_true.mp this c m)
theorem name_word {s : Tx} (h : nameT s = true) : wordT s := by
  unfold nameT at h
  simp only [Bool.and_eq_true, decide_eq_true_eq] at h
  exact ⟨by omega, fun c hc => has_signs (List.all_eq_true.mp h.2.2.2 c hc)⟩
theorem arN_word {s : Tx} {k : Nat} (h : arN s = some k) : wordT s := by
  have e := named_ar s
  rw [h] at e
  unfold dget at e
  cases ef : named.find? (fun kv => kv.1 == .str s) with
  | none => rw [ef] at e; cases e
  | some kv =>
    have m := List.mem_of_find?_eq_some ef
    have q := List.find?_some ef
    have eq : kv.1 = .str s := by simpa using q
    simp only [named, List.mem_cons, List.not_mem_nil, or_false] at m
    rcases m with rfl | rfl | rfl | rfl | rfl <;> (cases eq; exact ⟨by decide, by decide⟩)
theorem words_word {d : Dd} (h : d.ok) : ∀ s ∈ d.words, wordT s := by
  have names : ∀ {l : List Tx}, l.all nameT = true → ∀ s ∈ l, wordT s := fun hl s hs => name_word (List.all_eq_true.mp hl s hs)
  intro s hs
  cases d with
  | nm wd args =>
    rcases List.mem_cons.mp hs with rfl | hs
    · exact arN_word h.1
    · exact names h.2 s hs
  | take i =>
    rcases List.mem_cons.mp hs with rfl | hs
    · exact ⟨by decide, by decide⟩
    · rw [List.mem_singleton.mp hs]
      have h : i ≤ 999999999 := h
      exact ⟨(natTx_len (by decide)).mpr (by omega), fun c hc => by have := natTx_figs i c hc; omega⟩
  | put a ps =>
    rcases List.mem_cons.mp hs with rfl | hs
    · exact ⟨by decide, by decide⟩
    · exact names h.2.2 s hs
  | plan wd pre l =>
    rcases List.mem_cons.mp hs with rfl | hs
    · rcases h.1 with rfl | rfl <;> exact ⟨by decide, by decide⟩
    · exact names h.2.2.2 s hs
theorem words_ne (d : Dd) : d.words ≠ [] := by cases d <;> simp [Dd.words]
/-- the line of a deed -/
def Dd.line (d : Dd) : Tx := joinT [32] d.words
theorem line_split {d : Dd} (h : d.ok) : splitC 32 [] d.line = d.words := split_join _ (words_ne d) fun w hw c hc => by
  have := (words_word h w hw).2 c hc
  omega
theorem line_signs {d : Dd} (h : d.ok) : ∀ c ∈ d.line, c = 32 ∨ (48 ≤ c ∧ c ≤ 122) := by
  intro c hc
  rcases join_mem hc with hc | ⟨w, hw, hc⟩
  · exact .inl (List.mem_singleton.mp hc)
  · exact .inr ((words_word h w hw).2 c hc)
theorem sum_le {k : Nat} : ∀ {l : List Tx}, (∀ s ∈ l, s.length ≤ k) → (l.map (·.length)).sum ≤ l.length * k
  | [], _ => by simp
  | a :: r, h => by
    have h1 := h a (by simp)
    have h2 := sum_le (l := r) fun s hs => h s (by simp [hs])
    simp only [List.map_cons, List.sum_cons, List.length_cons, Nat.add_mul, Nat.one_mul]
    omega
theorem line_len {d : Dd} (h : d.ok) : d.line.length ≤ d.words.length * 10 := by
  have h1 := join_len [32] d.words
  have h2 := sum_le (k := 9) fun s hs => (words_word h s hs).1
  unfold Dd.line
  simp only [List.length_cons, List.length_nil] at h1
  omega
end K74P
end
section
set_option Elab.async false
set_option linter.all false
set_option maxRecDepth 100000
set_option maxHeartbeats 4000000
/-! Plain part: the draws (below, pick, mixed), the same in all laws. The heap is s ++ t: s the stream's two places. -/
namespace Mi
theorem ex_sti (c : Cl) (wf : Nat) (o i e : E) (fr : Fr) (h : Hs) : ex c wf (.sti o i e) fr h = ((ev c e fr h).to fr fun w h => (ev c o fr h).to fr fun x h => (ev c i fr h).to fr fun y h => match x with
    | .ref n => match h[n]? with
      | some (.lst xs) => match y with
        | .int k => match ixN xs.length k with
          | some j => .nx fr (h.set n (.lst (xs.set j w)))
          | none => .stk
        | _ => .stk
      | some (.dic kvs) => if keyOk y && decide (kvs.length < lineW) then .nx fr (h.set n (.dic (dput kvs y w))) else .stk
      | _ => .stk
    | _ => .stk) := rfl
/-- all places that stand in the heap are the heap's -/
def HOk (h : Hs) : Prop := h.all (Ob.under h.length) = true
mutual
theorem W.under_mono {m n : Nat} (hmn : m ≤ n) : ∀ {w : W}, w.under m = true → w.under n = true
  | .non, _ => rfl
  | .bl _, _ => rfl
  | .int _, _ => rfl
  | .str _, _ => rfl
  | .tup ws, h => W.unders_mono hmn (ws := ws) h
  | .ref k, h => by
    have : k < m := of_decide_eq_true h
    exact decide_eq_true (by omega)
theorem W.unders_mono {m n : Nat} (hmn : m ≤ n) : ∀ {ws : List W}, W.unders m ws = true → W.unders n ws = true
  | [], _ => rfl
  | w :: r, h => by
    simp only [W.unders, Bool.and_eq_true] at h ⊢
    exact ⟨W.under_mono hmn h.1, W.unders_mono hmn h.2⟩
end
theorem Ob.under_mono {m n : Nat} (hmn : m ≤ n) {o : Ob} (h : o.under m = true) : o.under n = true := by
  cases o with
  | lst ws => exact W.unders_mono hmn (ws := ws) h
  | dic kvs =>
    simp only [Ob.under, List.all_eq_true, Bool.and_eq_true] at h ⊢
    exact fun kv hk => ⟨W.under_mono hmn (h kv hk).1, W.under_mono hmn (h kv hk).2⟩
  | ins c fs =>
    simp only [Ob.under, List.all_eq_true] at h ⊢
    exact fun kv hk => W.under_mono hmn (h kv hk)
theorem unders_app {m : Nat} : ∀ {a b : List W}, W.unders m (a ++ b) = (W.unders m a && W.unders m b)
  | [], b => by simp [W.unders]
  | x :: a, b => by simp [W.unders, unders_app (a := a), Bool.and_assoc]
theorem unders_mem {m : Nat} : ∀ {ws : List W} {w : W}, W.unders m ws = true → w ∈ ws → w.under m = true
  | a :: r, w, h, hw => by
    simp only [W.unders, Bool.and_eq_true] at h
    rcases List.mem_cons.mp hw with rfl | hw
    · exact h.1
    · exact unders_mem h.2 hw
theorem unders_strs (m : Nat) (l : List Tx) : W.unders m (l.map W.str) = true := unders_of fun w hw => by
  obtain ⟨v, _, rfl⟩ := List.mem_map.mp hw
  rfl
theorem unders_ints (m : Nat) (l : List Int) : W.unders m (l.map W.int) = true := unders_of fun w hw => by
  obtain ⟨v, _, rfl⟩ := List.mem_map.mp hw
  rfl
theorem HOk.snoc {h : Hs} {o : Ob} (hh : HOk h) (ho : o.under (h.length + 1) = true) : HOk (h ++ [o]) := by
  unfold HOk at hh ⊢
  simp only [List.all_append, List.length_append, List.length_cons, List.length_nil, List.all_cons, List.all_nil, Bool.and_true, Bool.and_eq_true]
  refine ⟨?_, ho⟩
  rw [List.all_eq_true] at hh ⊢
  exact fun x hx => Ob.under_mono (Nat.le_succ _) (hh x hx)
theorem HOk.at {h : Hs} (hh : HOk h) {n : Nat} {o : Ob} (e : h[n]? = some o) : o.under h.length = true := List.all_eq_true.mp hh o (List.mem_of_getElem? e)
/-- the stream's places, at least N draws left -/
def St (N : Nat) (s : Hs) : Prop := ∃ (l : List Int) (a b c : Int), s = [.lst (l.map W.int), .lst [.ref 0, .int a, .int b, .int c]] ∧ l.length ≤ 63 ∧ 0 ≤ a ∧ 0 ≤ b ∧ b + (N : Int) ≤ 1000000000 ∧ 0 ≤ c ∧ c < 2147483647
theorem St.len {N : Nat} {s : Hs} (h : St N s) : s.length = 2 := by
  obtain ⟨_, _, _, _, rfl, _⟩ := h; rfl
theorem St.mono {N M : Nat} {s : Hs} (h : St N s) (hM : M ≤ N) : St M s := by
  obtain ⟨l, a, b, c, e, h1, h2, h3, h4, h5, h6⟩ := h
  exact ⟨l, a, b, c, e, h1, h2, h3, by omega, h5, h6⟩
theorem St.under {N : Nat} {s : Hs} (h : St N s) {m : Nat} (hm : 1 ≤ m) : s.all (Ob.under m) = true := by
  obtain ⟨l, a, b, c, rfl, _⟩ := h
  have : (W.ref 0).under m = true := decide_eq_true (by omega)
  simp [Ob.under, unders_ints, W.unders, this, W.under]
  omega
theorem HOk.swap {N M : Nat} {s s' t : Hs} (h1 : St N s) (h2 : St M s') (hh : HOk (s ++ t)) : HOk (s' ++ t) := by
  unfold HOk at hh ⊢
  have e1 := h1.len
  have e2 := h2.len
  rw [List.all_append, List.length_append, e1] at hh
  rw [List.all_append, List.length_append, e2]
  simp only [Bool.and_eq_true] at hh ⊢
  exact ⟨h2.under (by omega), hh.2⟩
theorem gc_draw {N M : Nat} {s s' t j : Hs} {w : W} (h1 : St N s) (h2 : St M s') (hh : HOk (s ++ t)) (hw : w.under (s ++ t).length = true) : gc (s ++ t) w (s' ++ t ++ j) = .ok w (s' ++ t) := by
  unfold gc
  have el : (s ++ t).length = (s' ++ t).length := by rw [List.length_append, List.length_append, h1.len, h2.len]
  have e : (s' ++ t ++ j).take (s ++ t).length = s' ++ t := by rw [el, List.take_append_of_le_length (Nat.le_refl _), List.take_length]
  have e2 : (s' ++ t).all (Ob.under (s ++ t).length) = true := by rw [el]; exact HOk.swap h1 h2 hh
  simp only [e, e2, or_true, if_true, hw]
/-- a fresh flat object comes back -/
theorem gc_drawN {N M : Nat} {s s' t j : Hs} {k : Nat} {o : Ob} (h1 : St N s) (h2 : St M s') (hh : HOk (s ++ t)) (hk : j[k]? = some o) (ho : o.under (s ++ t).length = true) : gc (s ++ t) (.ref ((s ++ t).length + k)) (s' ++ t ++ j) = .ok (.ref (s ++ t).length) (s' ++ t ++ [o]) := by
  unfold gc
  have el : (s ++ t).length = (s' ++ t).length := by rw [List.length_append, List.length_append, h1.len, h2.len]
  have e : (s' ++ t ++ j).take (s ++ t).length = s' ++ t := by rw [el, List.take_append_of_le_length (Nat.le_refl _), List.take_length]
  have e2 : (s' ++ t).all (Ob.under (s ++ t).length) = true := by rw [el]; exact HOk.swap h1 h2 hh
  have e3 : (W.ref ((s ++ t).length + k)).under (s ++ t).length = false := decide_eq_false (by omega)
  have e4 : (s' ++ t ++ j)[(s ++ t).length + k]? = some o := by rw [el, List.getElem?_append_right (by omega)]; simpa using hk
  simp only [e, e2, or_true, if_true, e3, e4, ho, Bool.false_eq_true, if_false]
/-! ### below -/
def belowT : E := E.and (E.cmp Co.eq (E.idx (E.var 0) (E.con (W.int 1))) (E.con (W.int 0)))
          (E.cmp Co.ne (E.idx (E.var 0) (E.con (W.int 0))) (E.lst Es.nil))
def belowW : S := S.seq
          (S.asg (Tg.nm 3)
            (E.me Me.pop (E.idx (E.var 0) (E.con (W.int 0))) (Es.cons (E.con (W.int 0)) Es.nil)))
          (S.seq
            (S.sti (E.var 0) (E.con (W.int 3))
              (E.bin Bo.mod
                (E.bi Bi.int
                  (Es.cons
                    (E.bin Bo.add
                      (E.bin Bo.add
                        (E.bin Bo.mul (E.idx (E.var 0) (E.con (W.int 3))) (E.con (W.int 69031)))
                        (E.var 3))
                      (E.con (W.int 13)))
                    Es.nil))
                (E.con (W.int 2147483647))))
            (S.seq
              (S.sti (E.var 0) (E.con (W.int 1))
                (E.ite
                  (E.cmp Co.ge (E.var 3) (E.bin Bo.pow (E.con (W.int 10)) (E.con (W.int 18))))
                  (E.var 3) (E.con (W.int 0))))
              S.skip))
def belowE : S := S.seq
        (S.iff (E.cmp Co.gt (E.idx (E.var 0) (E.con (W.int 1))) (E.con (W.int 0)))
          (S.seq
            (S.asg (Tg.nm 4)
              (E.bin Bo.mod (E.bi Bi.int (Es.cons (E.idx (E.var 0) (E.con (W.int 1))) Es.nil)) (E.var 1)))
            (S.seq
              (S.sti (E.var 0) (E.con (W.int 1))
                (E.bin Bo.fdiv (E.idx (E.var 0) (E.con (W.int 1))) (E.var 1)))
              (S.seq (S.ret (E.var 4)) S.skip)))
          S.skip)
        (S.seq
          (S.asg (Tg.nm 2)
            (E.bin Bo.mod
              (E.bi Bi.int
                (Es.cons
                  (E.bin Bo.pow
                    (E.bin Bo.add
                      (E.bin Bo.add (E.idx (E.var 0) (E.con (W.int 3)))
                        (E.bin Bo.mul (E.con (W.int 9049)) (E.idx (E.var 0) (E.con (W.int 2)))))
                      (E.con (W.int 130073)))
                    (E.con (W.int 5)))
                  Es.nil))
              (E.con (W.int 2147483629))))
          (S.seq
            (S.ret
              (E.bin Bo.mod
                (E.bin Bo.mod
                  (E.bi Bi.int
                    (Es.cons
                      (E.bin Bo.pow
                        (E.bin Bo.add
                          (E.bin Bo.add (E.bin Bo.mul (E.var 2) (E.con (W.int 44089)))
                            (E.bin Bo.mul (E.con (W.int 60077))
                              (E.idx (E.var 0) (E.con (W.int 2)))))
                          (E.con (W.int 47)))
                        (E.con (W.int 3)))
                      Es.nil))
                  (E.con (W.int 1000000007)))
                (E.var 1)))
            S.skip))
def belowB : S :=
  S.seq
    (S.sti (E.var 0) (E.con (W.int 2))
      (E.bin Bo.add (E.idx (E.var 0) (E.con (W.int 2))) (E.con (W.int 1))))
    (S.seq (S.whl belowT belowW) belowE)
theorem log2_lt {n k : Nat} (hk : 0 < k) (h : n < 2 ^ k) : n.log2 < k := by
  by_cases e : n = 0
  · subst e; simpa using hk
  · exact (Nat.log2_lt e).mpr h
theorem mul_ok {i j : Int} {h : Hs} (hi : i.natAbs < 2 ^ 100) (hj : j.natAbs < 2 ^ 100) : binV .mul (.int i) (.int j) h = .ok (.int (i * j)) h := by
  show okIf (decide (i.natAbs.log2 + j.natAbs.log2 < 1000000)) (W.int (i * j)) h = _
  have h1 := log2_lt (by decide) hi
  have h2 := log2_lt (by decide) hj
  rw [decide_eq_true (by omega)]; rfl
theorem pow_ok {i : Int} {k : Nat} {h : Hs} (hi : i.natAbs < 2 ^ 64) (hk : k ≤ 1000) : binV .pow (.int i) (.int (k : Int)) h = .ok (.int (i ^ k)) h := by
  show okIf (decide (0 ≤ (k : Int) ∧ (k : Int) ≤ 1000000 ∧ i.natAbs < 2 ^ 64)) (W.int (i ^ (k : Int).toNat)) h = _
  rw [decide_eq_true ⟨by omega, by omega, hi⟩]; rfl
theorem mod_ok {i j : Int} {h : Hs} (hj : 0 < j) : binV .mod (.int i) (.int j) h = .ok (.int (i % j)) h := by
  show okIf (decide (0 < j)) _ h = _
  rw [decide_eq_true hj]; rfl
theorem fdiv_ok {i j : Int} {h : Hs} (hj : 0 < j) (hb : j.natAbs < 2 ^ 100) : binV .fdiv (.int i) (.int j) h = .ok (.int (i / j)) h := by
  show okIf (decide (0 < j ∧ j.natAbs.log2 < 9000)) _ h = _
  rw [decide_eq_true ⟨hj, Nat.lt_trans (log2_lt (by decide) hb) (by decide)⟩]; rfl
@[simp] theorem bi_int_int (i : Int) (h : Hs) : biV .int [.int i] h = .ok (.int i) h := rfl
theorem data_ints {n : Nat} {h : Hs} : ∀ l : List Int, mapO (dataF n h) (l.map W.int) = some (l.map D.int)
  | [] => rfl
  | a :: r => by
    have : dataF n h (.int a) = some (.int a) := by cases n <;> rfl
    rw [List.map_cons, mapO_cons, this, data_ints r]; rfl
theorem ne_empty {h : Hs} {l : List Int} {m : Nat} (h0 : h[0]? = some (.lst (l.map W.int))) (hm : h[m]? = some (.lst [])) : eqV h (.ref 0) (.ref m) = some l.isEmpty := by
  show (match dataF 64 h (.ref 0), dataF 64 h (.ref m) with
    | some d, some e => some (D.eqv d e)
    | _, _ => none) = _
  have e1 : dataF 64 h (.ref 0) = some (.lst (l.map D.int)) := by
    show (match h[0]? with
    | some (.lst ws) => (mapO (dataF 63 h) ws).map D.lst
    | _ => none) = _
    rw [h0]
    show (mapO (dataF 63 h) (l.map W.int)).map D.lst = _
    rw [data_ints]; rfl
  have e2 : dataF 64 h (.ref m) = some (.lst []) := by
    show (match h[m]? with
    | some (.lst ws) => (mapO (dataF 63 h) ws).map D.lst
    | _ => none) = _
    rw [hm]; rfl
  rw [e1, e2]
  cases l <;> simp [D.eqv, D.eqvs]
theorem meV_pop (i : Int) (n : Nat) (h : Hs) : meV .pop (.ref n) [.int i] h = (match h[n]? with
    | some (.lst xs) => match if -(2 ^ 63) ≤ i ∧ i < 2 ^ 63 then ixN xs.length i else none with
      | some j => match xs[j]? with
        | some x => .ok x (h.set n (.lst (xs.eraseIdx j)))
        | none => .stk
      | none => .stk
    | _ => .stk) := rfl
theorem pop_at0 {h : Hs} {n j : Nat} {i : Int} {xs : List W} {x : W} (e : h[n]? = some (.lst xs)) (hx : xs[j]? = some x) (ei : (if -(2 ^ 63) ≤ i ∧ i < 2 ^ 63 then ixN xs.length i else none) = some j) : meV .pop (.ref n) [.int i] h = .ok x (h.set n (.lst (xs.eraseIdx j))) := by
  rw [meV_pop, e]
  simp only [ei, hx]
theorem ixp {n k : Nat} (h : k < n) (hk : k < 1000000000) : (if -(2 ^ 63) ≤ (k : Int) ∧ (k : Int) < 2 ^ 63 then ixN n (k : Int) else none) = some k := by
  have ei : ixN n (k : Int) = some k := by
    unfold ixN
    rw [if_pos (by omega), if_pos (by omega)]; rfl
  rw [ei]
  exact if_pos ⟨by omega, by omega⟩
theorem pop_at {h : Hs} {n k : Nat} {xs : List W} {x : W} (e : h[n]? = some (.lst xs)) (hx : xs[k]? = some x) (hk : k < 1000000000) : meV .pop (.ref n) [.int (k : Int)] h = .ok x (h.set n (.lst (xs.eraseIdx k))) := pop_at0 e hx (ixp (List.getElem?_eq_some_iff.mp hx).1 hk)
theorem pop_0 {h : Hs} {n : Nat} {xs : List W} {x : W} (e : h[n]? = some (.lst (x :: xs))) : meV .pop (.ref n) [.int 0] h = .ok x (h.set n (.lst xs)) := pop_at (k := 0) e rfl (by decide)
theorem ixN_nat {n k : Nat} (h : k < n) : ixN n (k : Int) = some k := by
  unfold ixN
  rw [if_pos (by omega), if_pos (by omega)]; rfl
def belowTe (c : Cl) : Fr → Hs → R Bool := fun fr h => (ev c belowT fr h).bind fun x h => liftO (truth h x) h
theorem below_whl (c : Cl) (wf : Nat) (m b : Int) (t : Hs) : ∀ (l : List Int) (fuel : Nat) (a c0 : Int) (x : Option W) (j : Hs), l.length < fuel → 0 ≤ a → 0 ≤ c0 → c0 < 2147483647 →
    ∃ (l' : List Int) (a' c' : Int) (x' : Option W) (j' : Hs), l'.length ≤ l.length ∧ 0 ≤ a' ∧ 0 ≤ c' ∧ c' < 2147483647 ∧ whlL (belowTe c) (fun fr h => ex c wf belowW fr h) fuel [some (.ref 1), some (.int m), none, x, none] (.lst (l.map W.int) :: .lst [.ref 0, .int a, .int b, .int c0] :: (t ++ j)) = .nx [some (.ref 1), some (.int m), none, x', none] (.lst (l'.map W.int) :: .lst [.ref 0, .int a', .int b, .int c'] :: (t ++ j'))
  | l, 0, _, _, _, _, h, _, _, _ => absurd h (by omega)
  | l, fuel + 1, a, c0, x, j, hl, ha, hc, hc' => by
    by_cases e : a = 0
    · subst e
      have te : belowTe c [some (.ref 1), some (.int m), none, x, none] (.lst (l.map W.int) :: .lst [.ref 0, .int 0, .int b, .int c0] :: (t ++ j)) = .ok (!l.isEmpty) (.lst (l.map W.int) :: .lst [.ref 0, .int 0, .int b, .int c0] :: (t ++ (j ++ [.lst []]))) := by
        have ne := ne_empty (h := (Ob.lst (l.map W.int) :: Ob.lst [.ref 0, .int 0, .int b, .int c0] :: (t ++ j)) ++ [.lst []]) (l := l) (m := (Ob.lst (l.map W.int) :: Ob.lst [.ref 0, .int 0, .int b, .int c0] :: (t ++ j)).length) rfl (get_new _ _ [])
        simp only [List.cons_append, List.length_cons, List.length_append, List.append_assoc] at ne
        unfold belowTe belowT
        simp [atI_one, atI_zero, new, ne]
      unfold whlL
      rw [te]
      cases l with
      | nil =>
        exact ⟨[], 0, c0, x, j ++ [.lst []], Nat.le_refl _, ha, hc, hc', rfl⟩
      | cons y r =>
        obtain ⟨a2, ha2, ea⟩ : ∃ a2 : Int, 0 ≤ a2 ∧ a2 = (if (1000000000000000000 : Int) ≤ y then y else 0) := ⟨_, by split <;> omega, rfl⟩
        obtain ⟨c2, hc2, ec⟩ : ∃ c2 : Int, (0 ≤ c2 ∧ c2 < 2147483647) ∧ c2 = (c0 * 69031 + y + 13) % 2147483647 := ⟨_, ⟨Int.emod_nonneg _ (by decide), Int.emod_lt_of_pos _ (by decide)⟩, rfl⟩
        have eb : ex c wf belowW [some (.ref 1), some (.int m), none, x, none] (.lst ((y :: r).map W.int) :: .lst [.ref 0, .int 0, .int b, .int c0] :: (t ++ (j ++ [.lst []]))) = .nx [some (.ref 1), some (.int m), none, some (.int y), none] (.lst (r.map W.int) :: .lst [.ref 0, .int a2, .int b, .int c2] :: (t ++ (j ++ [.lst []]))) := by
          have i1 : ixN 4 1 = some 1 := by decide
          have i3 : ixN 4 3 = some 3 := by decide
          have a3 : atI [W.ref 0, .int 0, .int b, .int c0] 3 = some (.int c0) := rfl
          have mu : ∀ h, binV .mul (.int c0) (.int 69031) h = .ok (.int (c0 * 69031)) h := fun h => mul_ok (by omega) (by decide)
          have pw : ∀ h, binV .pow (.int 10) (.int 18) h = .ok (.int 1000000000000000000) h := fun h => pow_ok (k := 18) (by decide) (by decide)
          have md : ∀ i h, binV .mod (.int i) (.int 2147483647) h = .ok (.int (i % 2147483647)) h := fun i h => mod_ok (by decide)
          have pp := pop_0 (h := .lst ((y :: r).map W.int) :: .lst [.ref 0, .int 0, .int b, .int c0] :: (t ++ (j ++ [.lst []]))) (n := 0) (x := .int y) (xs := r.map W.int) rfl
          simp only [List.map_cons, List.set_cons_zero] at pp
          rw [ec, ea]
          unfold belowW
          by_cases q : (1000000000000000000 : Int) ≤ y
          · rw [if_pos q]
            simp [ex_sti, atI_zero, atI_one, i1, i3, a3, mu, pw, md, pp, Me.tys, q]
          · rw [if_neg q]
            simp [ex_sti, atI_zero, atI_one, i1, i3, a3, mu, pw, md, pp, Me.tys, q]
        obtain ⟨l', a', c', x', j', q1, q2, q3, q4, q5⟩ := below_whl c wf m b t r fuel a2 c2 (some (.int y)) (j ++ [.lst []]) (by simp at hl; omega) ha2 hc2.1 hc2.2
        refine ⟨l', a', c', x', j', by simp; omega, q2, q3, q4, ?_⟩
        show (match ex c wf belowW [some (.ref 1), some (.int m), none, x, none] (.lst ((y :: r).map W.int) :: .lst [.ref 0, .int 0, .int b, .int c0] :: (t ++ (j ++ [.lst []]))) with
          | .nx fr h => whlL (belowTe c) (fun fr h => ex c wf belowW fr h) fuel fr h
          | .ct fr h => whlL (belowTe c) (fun fr h => ex c wf belowW fr h) fuel fr h
          | .bk fr h => .nx fr h
          | z => z) = _
        rw [eb]
        exact q5
    · have te : belowTe c [some (.ref 1), some (.int m), none, x, none] (.lst (l.map W.int) :: .lst [.ref 0, .int a, .int b, .int c0] :: (t ++ j)) = .ok false (.lst (l.map W.int) :: .lst [.ref 0, .int a, .int b, .int c0] :: (t ++ j)) := by
        unfold belowTe belowT
        simp [atI_one, e]
      refine ⟨l, a, c0, x, j, Nat.le_refl _, ha, hc, hc', ?_⟩
      unfold whlL
      rw [te]
/-- one draw -/
theorem below_ok {P : Prog} {wf : Nat} (hwf : 64 ≤ wf) {f : Nat} (hf : P.fns f = some ⟨2, 5, belowB⟩) (n : Nat) {N m : Nat} {s t : Hs} (hs : St (N + 1) s) (hh : HOk (s ++ t)) (hm : 0 < m) (hm2 : m < 2 ^ 60) : ∃ (s' : Hs) (i : Nat), St N s' ∧ i < m ∧ lev P wf (n + 1) f [.ref 1, .int (m : Int)] (s ++ t) = .ok (.int (i : Int)) (s' ++ t) := by
  have hs0 := hs
  obtain ⟨l, a, b, c, rfl, hl, ha, hb, hN, hc, hc'⟩ := hs
  obtain ⟨l', a', c', x', j', q1, q2, q3, q4, q5⟩ := below_whl (clOf P wf n) wf m (b + 1) t l wf a c none [] (by omega) ha hc hc'
  have ew : ex (clOf P wf n) wf (S.whl belowT belowW) [some (.ref 1), some (.int m), none, none, none] (.lst (l.map W.int) :: .lst [.ref 0, .int a, .int (b + 1), .int c] :: t) = .nx [some (.ref 1), some (.int m), none, x', none] (.lst (l'.map W.int) :: .lst [.ref 0, .int a', .int (b + 1), .int c'] :: (t ++ j')) := by
    rw [List.append_nil] at q5
    exact q5
  have key : ∃ (i : Nat) (a2 : Int), i < m ∧ 0 ≤ a2 ∧ ex (clOf P wf n) wf belowE [some (.ref 1), some (.int m), none, x', none] (.lst (l'.map W.int) :: .lst [.ref 0, .int a', .int (b + 1), .int c'] :: (t ++ j')) = .rt (.int (i : Int)) (.lst (l'.map W.int) :: .lst [.ref 0, .int a2, .int (b + 1), .int c'] :: (t ++ j')) := by
    have i1 : ixN 4 1 = some 1 := by decide
    have a3 : ∀ a b c, atI [W.ref 0, a, b, .int c] 3 = some (.int c) := fun _ _ _ => rfl
    have a2 : ∀ a b c, atI [W.ref 0, a, .int b, c] 2 = some (.int b) := fun _ _ _ => rfl
    have md : ∀ i k h, 0 < k → binV .mod (.int i) (.int k) h = .ok (.int (i % k)) h := fun i k h hk => mod_ok hk
    by_cases q : 0 < a'
    · have e0 : 0 ≤ a' % (m : Int) := Int.emod_nonneg _ (by omega)
      have e1 : a' % (m : Int) < (m : Int) := Int.emod_lt_of_pos _ (by omega)
      have e2 : ((a' % (m : Int)).toNat : Int) = a' % (m : Int) := Int.toNat_of_nonneg e0
      refine ⟨(a' % (m : Int)).toNat, a' / (m : Int), by omega, Int.ediv_nonneg (by omega) (by omega), ?_⟩
      have fd : ∀ h, binV .fdiv (.int a') (.int (m : Int)) h = .ok (.int (a' / (m : Int))) h := fun h => fdiv_ok (by omega) (by simp; omega)
      have mdm : ∀ h, binV .mod (.int a') (.int (m : Int)) h = .ok (.int (a' % (m : Int))) h := fun h => mod_ok (by omega)
      rw [e2]
      simp [belowE, ex_sti, atI_one, i1, q, fd, mdm]
    · obtain ⟨mx, hx0, hx1, ex'⟩ : ∃ mx : Int, 0 ≤ mx ∧ mx < 2147483629 ∧ mx = (c' + 9049 * (b + 1) + 130073) ^ 5 % 2147483629 := ⟨_, Int.emod_nonneg _ (by decide), Int.emod_lt_of_pos _ (by decide), rfl⟩
      obtain ⟨r, hr0, hr1, er⟩ : ∃ r : Int, 0 ≤ r ∧ r < (m : Int) ∧ r = (mx * 44089 + 60077 * (b + 1) + 47) ^ 3 % 1000000007 % (m : Int) := ⟨_, Int.emod_nonneg _ (by omega), Int.emod_lt_of_pos _ (by omega), rfl⟩
      have e2 : (r.toNat : Int) = r := Int.toNat_of_nonneg hr0
      refine ⟨r.toNat, a', by omega, q2, ?_⟩
      rw [e2]
      have m1 : ∀ h, binV .mul (.int 9049) (.int (b + 1)) h = .ok (.int (9049 * (b + 1))) h := fun h => mul_ok (by decide) (by omega)
      have m2 : ∀ h, binV .mul (.int mx) (.int 44089) h = .ok (.int (mx * 44089)) h := fun h => mul_ok (by omega) (by decide)
      have m3 : ∀ h, binV .mul (.int 60077) (.int (b + 1)) h = .ok (.int (60077 * (b + 1))) h := fun h => mul_ok (by decide) (by omega)
      have p1 : ∀ h, binV .pow (.int (c' + 9049 * (b + 1) + 130073)) (.int 5) h = .ok (.int ((c' + 9049 * (b + 1) + 130073) ^ 5)) h := fun h => pow_ok (k := 5) (by omega) (by decide)
      have p2 : ∀ h, binV .pow (.int (mx * 44089 + 60077 * (b + 1) + 47)) (.int 3) h = .ok (.int ((mx * 44089 + 60077 * (b + 1) + 47) ^ 3)) h := fun h => pow_ok (k := 3) (by omega) (by decide)
      have d1 : ∀ i h, binV .mod (.int i) (.int 2147483629) h = .ok (.int (i % 2147483629)) h := fun i h => mod_ok (by decide)
      have d2 : ∀ i h, binV .mod (.int i) (.int 1000000007) h = .ok (.int (i % 1000000007)) h := fun i h => mod_ok (by decide)
      have d3 : ∀ i h, binV .mod (.int i) (.int (m : Int)) h = .ok (.int (i % (m : Int))) h := fun i h => mod_ok (by omega)
      simp [belowE, ex_sti, atI_one, i1, q, a2, a3, m1, p1, d1, ← ex', m2, m3, p2, d2, d3, ← er]
  obtain ⟨i, a2, k1, k2, k3⟩ := key
  have hs' : St N [.lst (l'.map W.int), .lst [.ref 0, .int a2, .int (b + 1), .int c']] := ⟨l', a2, b + 1, c', rfl, by omega, k2, by omega, by omega, q3, q4⟩
  refine ⟨_, i, hs', k1, ?_⟩
  have e : lev P wf (n + 1) f [.ref 1, .int (m : Int)] ([.lst (l.map W.int), .lst [.ref 0, .int a, .int b, .int c]] ++ t) = endOf ([.lst (l.map W.int), .lst [.ref 0, .int a, .int b, .int c]] ++ t) (ex (clOf P wf n) wf belowB [some (.ref 1), some (.int m), none, none, none] ([.lst (l.map W.int), .lst [.ref 0, .int a, .int b, .int c]] ++ t)) := by
    show (match P.fns f with
      | some d => _
      | none => _) = _
    rw [hf]; rfl
  have i2 : ixN 4 2 = some 2 := by decide
  have at2 : ∀ a b c, atI [W.ref 0, a, .int b, c] 2 = some (.int b) := fun _ _ _ => rfl
  have eB : ex (clOf P wf n) wf belowB [some (.ref 1), some (.int m), none, none, none] ([.lst (l.map W.int), .lst [.ref 0, .int a, .int b, .int c]] ++ t) = .rt (.int (i : Int)) ([.lst (l'.map W.int), .lst [.ref 0, .int a2, .int (b + 1), .int c']] ++ t ++ j') := by
    unfold belowB
    simp [ex_sti, at2, i2, ew, k3]
  rw [e, eB]
  exact gc_draw hs0 hs' hh rfl
end Mi
end
section
set_option Elab.async false
set_option linter.all false
set_option maxRecDepth 100000
set_option maxHeartbeats 0
/-! k74: words_of, _law_msaid. -/
namespace K74P
open K74 hiding R
open Mi
def wordsB : S := S.seq
                  (S.ex
                    (E.me Me.extend (E.var 2) (Es.cons (E.lst (Es.cons (E.var 3) (Es.cons (E.var 4) Es.nil))) Es.nil)))
                  S.skip
theorem ext_ok {h : Hs} {n m : Nat} {xs ys : List W} (e1 : h[n]? = some (.lst xs)) (e2 : h[m]? = some (.lst ys)) (hl : xs.length + ys.length ≤ lineW) : meV .extend (.ref n) [.ref m] h = .ok .non (h.set n (.lst (xs ++ ys))) := by
  show (match h[n]?, h[m]? with
    | some (.lst xs), some (.lst ys) => if xs.length + ys.length ≤ lineW then R.ok W.non (h.set n (.lst (xs ++ ys))) else .stk
    | _, _ => .stk) = _
  rw [e1, e2]
  exact if_pos hl
theorem app_ok {h : Hs} {n : Nat} {xs : List W} {w : W} (e1 : h[n]? = some (.lst xs)) (hl : xs.length < lineW) : meV .append (.ref n) [w] h = .ok .non (h.set n (.lst (xs ++ [w]))) := by
  show (match h[n]? with
    | some (.lst xs) => if xs.length < lineW then R.ok W.non (h.set n (.lst (xs ++ [w]))) else .stk
    | _ => .stk) = _
  rw [e1]
  exact if_pos hl
theorem words_loop (c : Cl) (wf : Nat) {g : Hs → Bool} (hg : ∀ h, g h = true) {h : Hs} {w0 w1 : Option W} : ∀ (l acc : List Tx) (j : Hs) (x y : Option W), l.length % 2 = 0 → acc.length + l.length ≤ lineW → ∃ (j' : Hs) (x' y' : Option W),
    forL (forB c wf (.cons (.nm 3) (.cons (.nm 4) .nil)) wordsB) g (pairL l) [w0, w1, some (.ref h.length), x, y] (h ++ .lst (acc.map W.str) :: j) = .nx [w0, w1, some (.ref h.length), x', y'] (h ++ .lst ((acc ++ l).map W.str) :: j')
  | [], acc, j, x, y, _, _ => ⟨j, x, y, by rw [show pairL [] = [] from rfl, forL_nil (hg _), List.append_nil]⟩
  | [a], acc, j, x, y, e, _ => by simp at e
  | a :: b :: r, acc, j, x, y, e, hl => by
    obtain ⟨j', x', y', ih⟩ := words_loop c wf hg (h := h) (w0 := w0) (w1 := w1) r (acc ++ [a, b]) (j ++ [.lst [.str a, .str b]]) (some (.str a)) (some (.str b)) (by simp at e; omega) (by simp at hl ⊢; omega)
    refine ⟨j', x', y', ?_⟩
    have ee := ext_ok (h := h ++ .lst (acc.map W.str) :: (j ++ [.lst [.str a, .str b]])) (n := h.length) (m := h.length + (j.length + 1)) (xs := acc.map W.str) (ys := [.str a, .str b]) (by simp) (by simp) (by simp at hl ⊢; omega)
    simp only [set_new] at ee
    have st : forB c wf (.cons (.nm 3) (.cons (.nm 4) .nil)) wordsB (.tup [.str a, .str b]) [w0, w1, some (.ref h.length), x, y] (h ++ .lst (acc.map W.str) :: j) = .nx [w0, w1, some (.ref h.length), some (.str a), some (.str b)] (h ++ .lst ((acc ++ [a, b]).map W.str) :: (j ++ [.lst [.str a, .str b]])) := by
      simp [wordsB, Me.tys, new, ee]
    rw [pairL, forL_cons (hg _), st]
    simpa using ih
theorem b7_eq : b7 = S.seq (S.asg (Tg.nm 1) (E.idx (E.var 0) (E.con (W.int 0))))
    (S.seq (S.iff (E.kin 0 false (E.var 1)) (S.seq (S.ret (E.bi Bi.list (Es.cons (E.var 0) Es.nil))) S.skip) S.skip)
      (S.seq
        (S.iff (E.cmp Co.eq (E.var 1) (E.con (W.str [116, 97, 107, 101])))
          (S.seq
            (S.ret
              (E.lst
                (Es.cons (E.var 1)
                  (Es.cons (E.bi Bi.str (Es.cons (E.idx (E.var 0) (E.con (W.int 1))) Es.nil)) Es.nil))))
            S.skip)
          S.skip)
        (S.seq
          (S.iff (E.cmp Co.eq (E.var 1) (E.con (W.str [112, 117, 116])))
            (S.seq
              (S.ret
                (E.bin Bo.add (E.lst (Es.cons (E.var 1) (Es.cons (E.idx (E.var 0) (E.con (W.int 1))) Es.nil)))
                  (E.bi Bi.list (Es.cons (E.idx (E.var 0) (E.con (W.int 2))) Es.nil))))
              S.skip)
            S.skip)
          (S.seq
            (S.asg (Tg.nm 2)
              (E.bi Bi.list
                (Es.cons (E.slc (E.var 0) Es.nil (Es.cons (E.neg (E.con (W.int 1))) Es.nil)) Es.nil)))
            (S.seq
              (S.for (Tg.cons (Tg.nm 3) (Tg.cons (Tg.nm 4) Tg.nil))
                (It.val (E.idx (E.var 0) (E.neg (E.con (W.int 1)))))
                wordsB)
              (S.seq (S.ret (E.var 2)) S.skip)))))) := rfl
theorem list_tup {ws : List W} {h : Hs} : biV .list [.tup ws] h = .ok (.ref h.length) (h ++ [.lst ws]) := list_of rfl
theorem str_of0 {i : Int} (h : Hs) (hc : 0 ≤ i ∧ i < 2 ^ 200) : biV .str [.int i] h = .ok (.str (natTx i.toNat)) h := by
  show okIf (decide (0 ≤ i ∧ i < 2 ^ 200)) (W.str (natTx i.toNat)) h = _
  rw [decide_eq_true hc]; rfl
theorem lt200 {i : Nat} (hi : i ≤ 999999999) : (i : Int) < 2 ^ 200 := Int.lt_of_le_of_lt (b := 999999999) (by omega) (by decide)
theorem str_of (i : Nat) (hi : i ≤ 999999999) (h : Hs) : biV .str [.int (i : Int)] h = .ok (.str (natTx i)) h := by
  exact str_of0 h ⟨by omega, lt200 hi⟩
theorem add_refs {h : Hs} {n m : Nat} {xs ys : List W} (e1 : h[n]? = some (.lst xs)) (e2 : h[m]? = some (.lst ys)) (hl : xs.length + ys.length ≤ lineW) : binV .add (.ref n) (.ref m) h = .ok (.ref h.length) (h ++ [.lst (xs ++ ys)]) := by
  show (match h[n]?, h[m]? with
    | some (.lst xs), some (.lst ys) => if xs.length + ys.length ≤ lineW then new (.lst (xs ++ ys)) h else .stk
    | _, _ => .stk) = _
  rw [e1, e2]
  exact if_pos hl
theorem atI_lastS {α : Type} (a : α) (l : List α) (b : α) : atI (a :: (l ++ [b])) (-1) = some b := by
  rw [atI_last]
  show (a :: (l ++ [b])).getLast? = _
  rw [← List.cons_append, List.getLast?_concat]
theorem cut_lastS {α : Type} (a : α) (l : List α) (b : α) : cut (a :: (l ++ [b])) none (some (-1)) = a :: l := by
  rw [cut_init, ← List.cons_append, List.dropLast_concat]
theorem words_take (n : Nat) (z : Int) (tz : Tx) (h : Hs) (so : ∀ h, biV .str [.int z] h = .ok (.str tz) h) : endOf h (ex (clOf Pr wf n) wf b7 (startFr 5 [W.tup [.str TAKE, .int z]]) h) = .ok (.ref h.length) (h ++ [.lst [.str TAKE, .str tz]]) := by
  have nm' : dget named (.str [116, 97, 107, 101]) = none := by
      have : dget named (.str TAKE) = none := by rw [named_ar, arN_take]; rfl
      exact this
  rw [b7_eq]
  simp [TAKE, nm', atI_zero, atI_one, so, new]
  exact gc_new (k := 0) rfl (by simp [Ob.under, W.unders, W.under])
theorem words_ok (n : Nat) {d : Dd} (hd : d.ok) (hl : d.words.length ≤ 1000) (h : Hs) : lev Pr wf (n + 1) 7 [d.w] h = .ok (.ref h.length) (h ++ [.lst (d.words.map W.str)]) := by
  have lw : (1000 : Nat) ≤ lineW := by decide
  rw [L7, b7_eq]
  cases d with
  | nm wd args =>
    have nm : dget named (.str wd) = some (.int (args.length : Int)) := by rw [named_ar, hd.1]; rfl
    simp [Dd.w, Dd.words, nm, atI_zero, list_tup]
    exact gc_new (k := 0) rfl (by simp [Ob.under, W.unders, unders_strs, W.under])
  | take i =>
    have q := words_take n _ _ h (str_of i hd)
    rw [b7_eq] at q
    rw [if_pos (show [(Dd.take i).w].length = 1 from rfl)]
    exact q
  | put a ps =>
    have nm' : dget named (.str [112, 117, 116]) = none := by
      have : dget named (.str PUT) = none := by rw [named_ar, arN_put]; rfl
      exact this
    have hl' : ps.length + 1 + 1 ≤ 1000 := hl
    have ar := add_refs (h := h ++ [.lst [.str PUT, .str a], .lst (ps.map W.str)]) (n := h.length) (m := h.length + 1) (xs := [.str PUT, .str a]) (ys := ps.map W.str) (by simp) (by simp) (by simp; omega)
    simp only [PUT] at ar
    simp [Dd.w, Dd.words, PUT, nm', atI_zero, atI_one, atI_two, new, list_tup, ar]
    exact gc_new (k := 2) rfl (by simp [Ob.under, W.unders, unders_strs, W.under])
  | plan wd pre l =>
    obtain ⟨h1, h2, h3, h4⟩ := hd
    have nm' : dget named (.str wd) = none := by
      rw [named_ar]
      rcases h1 with rfl | rfl
      · rw [arN_mend]; rfl
      · rw [arN_move]; rfl
    have n1 : ¬ wd = [116, 97, 107, 101] := by rcases h1 with rfl | rfl <;> decide
    have n2 : ¬ wd = [112, 117, 116] := by rcases h1 with rfl | rfl <;> decide
    have hl' : pre.length + l.length + 1 ≤ 1000 := by simpa [Dd.words] using hl
    obtain ⟨j', x', y', lp⟩ := words_loop (clOf Pr wf n) wf (g := fun _ => true) (fun _ => rfl) (h := h) (w0 := some (Dd.plan wd pre l).w) (w1 := some (.str wd)) l (wd :: pre) [] none none h3 (by simp; omega)
    have ef : ∀ fr : Fr, fr = [some (Dd.plan wd pre l).w, some (.str wd), some (.ref h.length), none, none] → ex (clOf Pr wf n) wf (S.for (Tg.cons (Tg.nm 3) (Tg.cons (Tg.nm 4) Tg.nil)) (It.val (E.idx (E.var 0) (E.neg (E.con (W.int 1))))) wordsB) fr (h ++ [.lst ((wd :: pre).map W.str)]) = .nx [some (Dd.plan wd pre l).w, some (.str wd), some (.ref h.length), x', y'] (h ++ .lst ((wd :: pre ++ l).map W.str) :: j') := by
      intro fr hfr
      subst hfr
      rw [ex_for_ok (evi_row (w := .tup (pairL l)) (ws := pairL l) (h' := h ++ [.lst ((wd :: pre).map W.str)]) (by simp [Dd.w, atI_lastS]) rfl)]
      exact lp
    have ef2 := ef _ rfl
    simp only [Dd.w, List.map_cons] at ef2
    simp [Dd.w, Dd.words, nm', n1, n2, atI_zero, list_tup, slcV, cut_lastS, ef2]
    exact gc_new (k := 0) rfl (by simp [Ob.under, W.unders, unders_app, unders_strs, W.under])
end K74P
end
section
set_option Elab.async false
set_option linter.all false
set_option maxRecDepth 100000
set_option maxHeartbeats 0
/-! k74: _law_msaid. -/
namespace K74P
open K74 hiding R
open Mi
def saidB : S := S.seq (S.asg (Tg.nm 1) (E.bin Bo.add (E.var 1) (E.lst (Es.cons (E.var 2) (Es.cons (E.var 3) Es.nil)))))
                  S.skip
theorem said_loop (c : Cl) (wf : Nat) {g : Hs → Bool} (hg : ∀ h, g h = true) {h : Hs} {w0 : Option W} : ∀ (l acc : List Tx) (j : Hs) (k : Nat) (x y : Option W), l.length % 2 = 0 → acc.length + l.length ≤ lineW → (h ++ j)[k]? = some (Ob.lst (acc.map W.str)) → ∃ (j' : Hs) (k' : Nat) (x' y' : Option W),
    forL (forB c wf (.cons (.nm 2) (.cons (.nm 3) .nil)) saidB) g (pairL l) [w0, some (.ref k), x, y] (h ++ j) = .nx [w0, some (.ref k'), x', y'] (h ++ j') ∧ (h ++ j')[k']? = some (Ob.lst ((acc ++ l).map W.str))
  | [], acc, j, k, x, y, _, _, hk => ⟨j, k, x, y, by rw [show pairL [] = [] from rfl, forL_nil (hg _)], by rw [List.append_nil]; exact hk⟩
  | [a], acc, j, k, x, y, e, _, _ => by simp at e
  | a :: b :: r, acc, j, k, x, y, e, hl, hk => by
    have ar := add_refs (h := h ++ j ++ [Ob.lst [.str a, .str b]]) (n := k) (m := (h ++ j).length) (xs := acc.map W.str) (ys := [.str a, .str b]) (get_app _ hk) (by simp) (by simp at hl ⊢; omega)
    have st : forB c wf (.cons (.nm 2) (.cons (.nm 3) .nil)) saidB (.tup [.str a, .str b]) [w0, some (.ref k), x, y] (h ++ j) = .nx [w0, some (.ref (h ++ j ++ [Ob.lst [.str a, .str b]]).length), some (.str a), some (.str b)] (h ++ (j ++ [Ob.lst [.str a, .str b], Ob.lst ((acc ++ [a, b]).map W.str)])) := by
      simp only [List.append_assoc, List.length_append, List.length_cons, List.length_nil] at ar
      simp [saidB, new, ar]
    obtain ⟨j', k', x', y', ih, ih2⟩ := said_loop c wf hg (h := h) (w0 := w0) r (acc ++ [a, b]) (j ++ [Ob.lst [.str a, .str b], Ob.lst ((acc ++ [a, b]).map W.str)]) (h ++ j ++ [Ob.lst [.str a, .str b]]).length (some (.str a)) (some (.str b)) (by simp at e; omega) (by simp at hl ⊢; omega) (by
      have : h ++ (j ++ [Ob.lst [.str a, .str b], Ob.lst ((acc ++ [a, b]).map W.str)]) = h ++ j ++ [Ob.lst [.str a, .str b]] ++ [Ob.lst ((acc ++ [a, b]).map W.str)] := by simp
      rw [this, get_new])
    refine ⟨j', k', x', y', ?_, by simpa using ih2⟩
    rw [pairL, forL_cons (hg _), st]
    exact ih
theorem b25_eq : b25 = S.seq (S.asg (Tg.nm 1) (E.lst (Es.cons (E.idx (E.var 0) (E.con (W.int 0))) Es.nil)))
    (S.seq
      (S.iff (E.cmp Co.eq (E.idx (E.var 0) (E.con (W.int 0))) (E.con (W.str [116, 97, 107, 101])))
        (S.seq
          (S.ret
            (E.bin Bo.add (E.con (W.str [116, 97, 107, 101, 32]))
              (E.bi Bi.str (Es.cons (E.idx (E.var 0) (E.con (W.int 1))) Es.nil))))
          S.skip)
        S.skip)
      (S.seq
        (S.iff (E.cmp Co.eq (E.idx (E.var 0) (E.con (W.int 0))) (E.con (W.str [112, 117, 116])))
          (S.seq
            (S.ret
              (E.me Me.join (E.con (W.str [32]))
                (Es.cons
                  (E.bin Bo.add
                    (E.lst
                      (Es.cons (E.idx (E.var 0) (E.con (W.int 0)))
                        (Es.cons (E.idx (E.var 0) (E.con (W.int 1))) Es.nil)))
                    (E.bi Bi.list (Es.cons (E.idx (E.var 0) (E.con (W.int 2))) Es.nil)))
                  Es.nil)))
            S.skip)
          S.skip)
        (S.seq
          (S.iff
            (E.cmp Co.notin (E.idx (E.var 0) (E.con (W.int 0)))
              (E.tup
                (Es.cons (E.con (W.str [109, 101, 110, 100])) (Es.cons (E.con (W.str [109, 111, 118, 101])) Es.nil))))
            (S.seq (S.ret (E.me Me.join (E.con (W.str [32])) (Es.cons (E.var 0) Es.nil))) S.skip) S.skip)
          (S.seq
            (S.asg (Tg.nm 1)
              (E.bi Bi.list
                (Es.cons (E.slc (E.var 0) Es.nil (Es.cons (E.neg (E.con (W.int 1))) Es.nil)) Es.nil)))
            (S.seq
              (S.for (Tg.cons (Tg.nm 2) (Tg.cons (Tg.nm 3) Tg.nil))
                (It.val (E.idx (E.var 0) (E.neg (E.con (W.int 1)))))
                saidB)
              (S.seq (S.ret (E.me Me.join (E.con (W.str [32])) (Es.cons (E.var 1) Es.nil))) S.skip)))))) := rfl
theorem said_take (n : Nat) (z : Int) (tz : Tx) (h : Hs) (hl : tz.length ≤ 100) (so : ∀ h, biV .str [.int z] h = .ok (.str tz) h) : endOf h (ex (clOf Pr wf n) wf b25 (startFr 4 [W.tup [W.str TAKE, .int z]]) h) = .ok (.str (joinT [32] [TAKE, tz])) h := by
  have lw : (200 : Nat) ≤ lineW := by decide
  have hl2 : 5 + List.length tz ≤ lineW := by omega
  rw [b25_eq]
  simp [TAKE, atI_zero, atI_one, so, new, hl2, joinT]
  exact gc_same (by rfl)
theorem inV_two (h : Hs) (s a b : Tx) : inV h (.str s) (.tup [.str a, .str b]) = some (decide (a = s) || decide (b = s)) := inV_tup2 h s a b
theorem words_sum {d : Dd} (hd : d.ok) (hl : d.words.length ≤ 1000) : (d.words.map (·.length)).sum + d.words.length * 1 ≤ lineW := by
  have h2 := sum_le (k := 9) fun s hs => (words_word hd s hs).1
  have lw : (16000 : Nat) ≤ lineW := by decide
  omega
theorem said_ok (n : Nat) {d : Dd} (hd : d.ok) (hl : d.words.length ≤ 1000) (h : Hs) : lev Pr wf (n + 1) 25 [d.w] h = .ok (.str d.line) h := by
  have lw : (16000 : Nat) ≤ lineW := by decide
  have ws := words_sum hd hl
  have e : lev Pr wf (n + 1) 25 [d.w] h = endOf h (ex (clOf Pr wf n) wf b25 (startFr 4 [d.w]) h) := by
    rw [L25, if_pos (show [d.w].length = 1 from rfl)]
  rw [e]
  cases d with
  | nm wd args =>
    have an := hd.1
    have n1 : ¬ wd = [116, 97, 107, 101] := fun q => by
      have : arN wd = none := by rw [q]; exact arN_take
      rw [this] at an; cases an
    have n2 : ¬ wd = [112, 117, 116] := fun q => by
      have : arN wd = none := by rw [q]; exact arN_put
      rw [this] at an; cases an
    have n3 : ¬ ([109, 101, 110, 100] : Tx) = wd := fun q => by
      have : arN wd = none := by rw [← q]; exact arN_mend
      rw [this] at an; cases an
    have n4 : ¬ ([109, 111, 118, 101] : Tx) = wd := fun q => by
      have : arN wd = none := by rw [← q]; exact arN_move
      rw [this] at an; cases an
    have jo := fun h => join_ok (h := h) (sep := [32]) (w := .tup ((wd :: args).map W.str)) (ls := wd :: args) rfl ws
    simp only [List.map_cons] at jo
    rw [b25_eq]
    simp [Dd.w, n1, n2, n3, n4, atI_zero, new, Me.tys, jo]
    exact gc_same (by rfl)
  | take i =>
    have hd' : i ≤ 999999999 := hd
    have nl : (natTx i).length ≤ 100 := Nat.le_trans ((natTx_len (k := 9) (by decide)).mpr (by omega)) (by decide)
    have so := str_of i hd'
    have q : ∀ (z : Int) (tz : Tx), tz.length ≤ 100 → (∀ h, biV .str [.int z] h = .ok (.str tz) h) → endOf h (ex (clOf Pr wf n) wf b25 (startFr 4 [W.tup [.str TAKE, .int z]]) h) = .ok (.str (joinT [32] [TAKE, tz])) h := fun z tz h1 h2 => said_take n z tz h h1 h2
    exact q i (natTx i) nl so
  | put a ps =>
    have hl' : ps.length + 1 + 1 ≤ 1000 := hl
    have ar := add_refs (h := h ++ [Ob.lst [W.str PUT], Ob.lst [W.str PUT, .str a], Ob.lst (ps.map W.str)]) (n := h.length + 1) (m := h.length + 2) (xs := [W.str PUT, .str a]) (ys := ps.map W.str) (by simp) (by simp) (by simp; omega)
    have jo := join_ok (h := h ++ [Ob.lst [W.str PUT], Ob.lst [W.str PUT, .str a], Ob.lst (ps.map W.str), Ob.lst (W.str PUT :: .str a :: ps.map W.str)]) (sep := [32]) (w := .ref (h.length + 3)) (ls := PUT :: a :: ps) (by simp) ws
    simp only [PUT] at ar jo
    rw [b25_eq]
    simp [Dd.w, PUT, atI_zero, atI_one, atI_two, new, list_tup, ar, Me.tys, jo]
    exact gc_same (by rfl)
  | plan wd pre l =>
    obtain ⟨h1, h2, h3, h4⟩ := hd
    have n1 : ¬ wd = [116, 97, 107, 101] := by rcases h1 with rfl | rfl <;> decide
    have n2 : ¬ wd = [112, 117, 116] := by rcases h1 with rfl | rfl <;> decide
    have n3 : (decide (([109, 101, 110, 100] : Tx) = wd) || decide (([109, 111, 118, 101] : Tx) = wd)) = true := by rcases h1 with rfl | rfl <;> decide
    have hl' : pre.length + l.length + 1 ≤ 1000 := by simpa [Dd.words] using hl
    obtain ⟨j', k', x', y', lp, lk⟩ := said_loop (clOf Pr wf n) wf (g := fun _ => true) (fun _ => rfl) (h := h) (w0 := some (Dd.plan wd pre l).w) l (wd :: pre) [Ob.lst [.str wd], Ob.lst ((wd :: pre).map W.str)] (h.length + 1) none none h3 (by simp; omega) (by simp)
    have ef : ∀ fr : Fr, fr = [some (Dd.plan wd pre l).w, some (.ref (h.length + 1)), none, none] → ex (clOf Pr wf n) wf (S.for (Tg.cons (Tg.nm 2) (Tg.cons (Tg.nm 3) Tg.nil)) (It.val (E.idx (E.var 0) (E.neg (E.con (W.int 1))))) saidB) fr (h ++ [Ob.lst [.str wd], Ob.lst ((wd :: pre).map W.str)]) = .nx [some (Dd.plan wd pre l).w, some (.ref k'), x', y'] (h ++ j') := by
      intro fr hfr
      subst hfr
      rw [ex_for_ok (evi_row (w := .tup (pairL l)) (ws := pairL l) (h' := h ++ [Ob.lst [.str wd], Ob.lst ((wd :: pre).map W.str)]) (by simp [Dd.w, atI_lastS]) rfl)]
      exact lp
    have ef2 := ef _ rfl
    have jo := join_ok (h := h ++ j') (sep := [32]) (w := .ref k') (ls := wd :: pre ++ l) (by simp only [items_ref, lk]) ws
    simp only [Dd.w, List.map_cons] at ef2
    rw [b25_eq]
    simp [Dd.w, n1, n2, n3, atI_zero, new, list_tup, slcV, cut_lastS, ef2, Me.tys, lk]
    simp at jo
    rw [jo]
    exact gc_same (by rfl)
end K74P
end
section
set_option Elab.async false
set_option linter.all false
set_option maxRecDepth 100000
set_option maxHeartbeats 0
/-! k74: deeds_text. -/
namespace K74P
open K74 hiding R
open Mi
theorem gcX_same {h0 j : Hs} {x : Xc} (hw : W.unders h0.length x.args = true) : gcX h0 x (h0 ++ j) = .exc x h0 := by
  unfold gcX
  have e : (h0 ++ j).take h0.length = h0 := by rw [List.take_append_of_le_length (Nat.le_refl _), List.take_length]
  simp only [e, true_or, hw, and_self, if_true]
theorem enum_app (a b : List W) : ∀ k, enumL k (a ++ b) = enumL k a ++ enumL (k + a.length) b := by
  induction a with
  | nil => intro k; simp [enumL]
  | cons x r ih =>
    intro k
    simp only [List.cons_append, enumL, ih, List.length_cons]
    congr 3
    omega
theorem evi_enumR {c : Cl} {fr : Fr} {h h' : Hs} {e : E} {w : W} {ws : List W} (hit : ev c e fr h = .ok w h') (hw : items h' w = some ws) : evi c (.enum e) fr h = .ok (enumL 0 ws, fun h'' => still h' h'' w) h' := by
  rw [evi_enum, hit, R.bind_ok]
  simp only [hw]
def textB : S := (S.seq (S.asg (Tg.nm 4) (E.call 6 (Es.cons (E.var 3) Es.nil)))
            (S.seq
              (S.iff (E.cmp Co.is (E.var 4) (E.con W.non)) (S.seq (S.rais 1 (Es.cons (E.var 2) Es.nil)) S.skip) S.skip)
              (S.seq
                (S.ex
                  (E.me Me.append (E.var 1)
                    (Es.cons (E.me Me.join (E.con (W.str [32])) (Es.cons (E.call 7 (Es.cons (E.var 4) Es.nil)) Es.nil))
                      Es.nil)))
                S.skip)))
theorem w_non (d : Dd) : (d.w == .non) = false := by cases d <;> rfl
theorem text_turn (n : Nat) {h : Hs} {k : Nat} {w0 x : W} {d : Dd} {i : Nat} {acc : List Tx} {j : Hs} {p q r : Option W} (hd : d.ok) (hl : d.words.length ≤ 100) (hv : viewF k h x = some d.v) (ha : acc.length < 1000) :
    ∃ (j' : Hs) (p' q' r' : Option W), forB (clOf Pr wf (n + 4)) wf (.cons (.nm 2) (.cons (.nm 3) .nil)) textB (.tup [.int (i : Int), x]) [some w0, some (.ref h.length), p, q, r, none] (h ++ Ob.lst (acc.map W.str) :: j) = .nx [some w0, some (.ref h.length), p', q', r', none] (h ++ Ob.lst ((acc ++ [d.line]).map W.str) :: j') := by
  have lw : (16000 : Nat) ≤ lineW := by decide
  have dd := deed_in_ok n (view_app (Ob.lst (acc.map W.str) :: j) hv)
  rw [deedV_v hd] at dd
  have wo := words_ok (n + 3) hd (by omega) (h ++ Ob.lst (acc.map W.str) :: j)
  have ws := words_sum hd (by omega)
  have jo := join_ok (h := h ++ Ob.lst (acc.map W.str) :: (j ++ [Ob.lst (d.words.map W.str)])) (sep := [32]) (w := .ref (h.length + (j.length + 1))) (ls := d.words) (by simp) ws
  have ap := app_ok (h := h ++ Ob.lst (acc.map W.str) :: (j ++ [Ob.lst (d.words.map W.str)])) (n := h.length) (xs := acc.map W.str) (w := .str d.line) (by simp) (by simp; omega)
  simp at wo ap
  refine ⟨j ++ [Ob.lst (d.words.map W.str)], some (.int i), some x, some d.w, ?_⟩
  have nn := w_non d
  have lj : joinT [32] d.words = d.line := rfl
  simp [textB, dd, nn, wo, Me.tys, jo, lj, ap]
theorem text_prefix (n : Nat) {h : Hs} {k : Nat} {w0 : W} {g : Hs → Bool} (hg : ∀ j, g (h ++ j) = true) (rest : List W) : ∀ (ds : List Dd) (ws : List W) (i : Nat) (acc : List Tx) (j : Hs) (p q r : Option W), mapO (viewF k h) ws = some (ds.map Dd.v) → (∀ d ∈ ds, d.ok ∧ d.words.length ≤ 100) → acc.length + ds.length ≤ 1000 →
    ∃ (j' : Hs) (p' q' r' : Option W), forL (forB (clOf Pr wf (n + 4)) wf (.cons (.nm 2) (.cons (.nm 3) .nil)) textB) g (enumL i (ws ++ rest)) [some w0, some (.ref h.length), p, q, r, none] (h ++ Ob.lst (acc.map W.str) :: j) = forL (forB (clOf Pr wf (n + 4)) wf (.cons (.nm 2) (.cons (.nm 3) .nil)) textB) g (enumL (i + ds.length) rest) [some w0, some (.ref h.length), p', q', r', none] (h ++ Ob.lst ((acc ++ ds.map Dd.line).map W.str) :: j')
  | [], ws, i, acc, j, p, q, r, e, _, _ => by
    have : ws = [] := List.length_eq_zero_iff.mp (mapO_length e).symm
    subst this
    exact ⟨j, p, q, r, by simp⟩
  | d :: ds, ws, i, acc, j, p, q, r, e, hd, hl => by
    cases ws with
    | nil => cases e
    | cons x ws =>
      obtain ⟨v, u, e1, e2, e3⟩ := mapO_cons_some e
      cases e3
      obtain ⟨j1, p1, q1, r1, st⟩ := text_turn n (w0 := w0) (i := i) (acc := acc) (j := j) (p := p) (q := q) (r := r) (hd d (by simp)).1 (hd d (by simp)).2 e1 (by simp at hl; omega)
      obtain ⟨j2, p2, q2, r2, ih⟩ := text_prefix n hg (w0 := w0) rest ds ws (i + 1) (acc ++ [d.line]) j1 p1 q1 r1 e2 (fun d hd' => hd d (by simp [hd'])) (by simp at hl ⊢; omega)
      refine ⟨j2, p2, q2, r2, ?_⟩
      show forL _ g (.tup [.int i, x] :: enumL (i + 1) (ws ++ rest)) _ _ = _
      rw [forL_cons (hg _), st]
      have ei : i + 1 + ds.length = i + (d :: ds).length := by simp; omega
      rw [ei] at ih
      simpa using ih
theorem text_stop (n : Nat) {h : Hs} {k : Nat} {w0 x : W} {v : Vw} {i : Nat} {rest : List W} {g : Hs → Bool} (hg : ∀ j, g (h ++ j) = true) {j : Hs} {p q r : Option W} (hv : viewF k h x = some v) (hn : deedV v = .non) :
    ∃ fr, forL (forB (clOf Pr wf (n + 4)) wf (.cons (.nm 2) (.cons (.nm 3) .nil)) textB) g (enumL i (x :: rest)) [some w0, some (.ref h.length), p, q, r, none] (h ++ j) = .exc ⟨1, [.int (i : Int)]⟩ fr (h ++ j) := by
  have dd := deed_in_ok n (view_app j hv)
  rw [hn] at dd
  show ∃ fr, forL _ g (.tup [.int i, x] :: enumL (i + 1) rest) _ _ = _
  rw [forL_cons (hg _)]
  simp [textB, dd]
theorem b8_eq : b8 = S.seq
    (S.iff (E.not (E.call 0 (Es.cons (E.var 0) Es.nil)))
      (S.seq (S.rais 1 (Es.cons (E.con (W.int 0)) Es.nil)) S.skip) S.skip)
    (S.seq (S.asg (Tg.nm 1) (E.lst Es.nil))
      (S.seq
        (S.for (Tg.cons (Tg.nm 2) (Tg.cons (Tg.nm 3) Tg.nil)) (It.enum (E.var 0)) textB)
        (S.seq
          (S.ret
            (E.me Me.join (E.con (W.str []))
              (Es.cons (E.comp [5] (Tg.nm 5) (It.val (E.var 1)) Es.nil (E.bin Bo.add (E.var 5) (E.con (W.str [10]))))
                Es.nil)))
          S.skip))) := rfl
theorem L8' (n : Nat) (w : W) (h : Hs) : lev Pr wf (n + 1) 8 [w] h = endOf h (ex (clOf Pr wf n) wf b8 [some w, none, none, none, none, none] h) := by
  rw [L8, if_pos (show [w].length = 1 from rfl)]; rfl
theorem text_norow (n : Nat) {h : Hs} {k : Nat} {w : W} {v : Vw} (hw : viewF k h w = some v) (hr : rowV v = false) : lev Pr wf (n + 5) 8 [w] h = .exc ⟨1, [.int 0]⟩ h := by
  rw [L8', b8_eq]
  simp [is_row_ok (n + 3) hw, hr]
  have := gcX_same (h0 := h) (j := []) (x := ⟨1, [.int 0]⟩) rfl
  rwa [List.append_nil] at this
theorem text_bad (n : Nat) {h : Hs} {k : Nat} {w : W} {ds : List Dd} {v : Vw} {vs : List Vw} (hw : viewF k h w = some (.row (ds.map Dd.v ++ v :: vs))) (hd : ∀ d ∈ ds, d.ok ∧ d.words.length ≤ 100) (hl : ds.length ≤ 1000) (hn : deedV v = .non) : lev Pr wf (n + 5) 8 [w] h = .exc ⟨1, [.int (ds.length : Int)]⟩ h := by
  rw [L8', b8_eq]
  obtain ⟨k', ws, rfl, hi, hm, hl1, hl2, _⟩ := view_row hw
  obtain ⟨ws1, x, ws2, rfl, m1, m2⟩ : ∃ ws1 x ws2, ws = ws1 ++ x :: ws2 ∧ mapO (viewF k' h) ws1 = some (ds.map Dd.v) ∧ viewF k' h x = some v := by
    have t := mapO_take ds.length hm
    have hx : ds.length < ws.length := by simp at hl2; omega
    obtain ⟨b, g1, g2⟩ := mapO_get ds.length hm (List.getElem?_eq_getElem hx)
    refine ⟨ws.take ds.length, ws[ds.length], ws.drop (ds.length + 1), ?_, ?_, ?_⟩
    · rw [List.getElem_cons_drop hx, List.take_append_drop]
    · rw [t]; simp
    · rw [g1]; simpa using g2.symm
  have hg : ∀ j, (fun h'' => still (h ++ [Ob.lst []]) h'' w) (h ++ j) = true := fun j => still_app _ _ hi
  obtain ⟨j1, p1, q1, r1, pr⟩ := text_prefix n (w0 := w) (g := fun h'' => still (h ++ [Ob.lst []]) h'' w) hg (x :: ws2) ds ws1 0 [] [] none none none m1 hd (by simpa using hl)
  obtain ⟨fr, st⟩ := text_stop n (w0 := w) (g := fun h'' => still (h ++ [Ob.lst []]) h'' w) (i := 0 + ds.length) (rest := ws2) hg (j := Ob.lst (([] ++ ds.map Dd.line).map W.str) :: j1) (p := p1) (q := q1) (r := r1) m2 hn
  rw [st] at pr
  have ef : ex (clOf Pr wf (n + 4)) wf (S.for (Tg.cons (Tg.nm 2) (Tg.cons (Tg.nm 3) Tg.nil)) (It.enum (E.var 0)) textB) [some w, some (.ref h.length), none, none, none, none] (h ++ [Ob.lst []]) = .exc ⟨1, [.int ((0 + ds.length : Nat) : Int)]⟩ fr (h ++ Ob.lst (([] ++ ds.map Dd.line).map W.str) :: j1) := by
    rw [ex_for_ok (evi_enumR (h' := h ++ [Ob.lst []]) (w := w) (by simp) (items_app _ hi))]
    exact pr
  simp [is_row_ok (n + 3) hw, rowV, new, ef]
  exact gcX_same rfl
theorem lines_comp {c : Cl} {fr : Fr} {h : Hs} {ls : List Tx} {i k : Nat} (hv : fr[i]? = some (some (.ref k))) (hk : h[k]? = some (Ob.lst (ls.map W.str))) (hl : ls.length ≤ 1000) (hs : ∀ s ∈ ls, s.length ≤ 10000) {v : Nat} (hvl : v < fr.length) :
    ev c (E.comp [v] (Tg.nm v) (It.val (E.var i)) Es.nil (E.bin Bo.add (E.var v) (E.con (W.str [10])))) fr h = .ok (.ref h.length) (h ++ [Ob.lst ((ls.map fun l => l ++ [10]).map W.str)]) := by
  have lw : (16000 : Nat) ≤ lineW := by decide
  rw [ev_comp, evi_row (w := .ref k) (ws := ls.map W.str) (h' := h) (by simp [hv]) (by simp [hk])]
  simp only [R.bind_ok]
  rw [compL_map (m := fun w => match w with | .str s => .str (s ++ [10]) | _ => .non) (still_self _ _) _ (fun w hw => ?_) (by simp; omega)]
  · simp [new, List.map_map, Function.comp_def]
  · obtain ⟨s, hs', rfl⟩ := List.mem_map.mp hw
    have := hs s hs'
    have h2 : List.length s + 1 ≤ lineW := by omega
    simp [hvl, h2]
theorem lines_sum {ls : List Tx} (hl : ls.length ≤ 1000) (hs : ∀ s ∈ ls, s.length ≤ 10000) : ((ls.map fun l => l ++ [10]).map (·.length)).sum + (ls.map fun l => l ++ [10]).length * 0 ≤ lineW := by
  have lw : (10001000 : Nat) ≤ lineW := by decide
  have := sum_le (l := ls.map fun l => l ++ [10]) (k := 10001) (fun s hs' => by
    obtain ⟨t, ht, rfl⟩ := List.mem_map.mp hs'
    have := hs t ht
    simp; omega)
  rw [Nat.mul_zero, Nat.add_zero]
  exact Nat.le_trans this (Nat.le_trans (by rw [List.length_map]; exact Nat.mul_le_mul_right _ hl) (show 1000 * 10001 ≤ lineW by decide))
theorem text_ok (n : Nat) {h : Hs} {k : Nat} {w : W} {ds : List Dd} (hw : viewF k h w = some (.row (ds.map Dd.v))) (hd : ∀ d ∈ ds, d.ok ∧ d.words.length ≤ 100) (hl : ds.length ≤ 1000) : lev Pr wf (n + 5) 8 [w] h = .ok (.str (linesT 10 (ds.map Dd.line))) h := by
  rw [L8', b8_eq]
  obtain ⟨k', ws, rfl, hi, hm, hl1, hl2, _⟩ := view_row hw
  have hg : ∀ j, (fun h'' => still (h ++ [Ob.lst []]) h'' w) (h ++ j) = true := fun j => still_app _ _ hi
  obtain ⟨j1, p1, q1, r1, pr⟩ := text_prefix n (w0 := w) (g := fun h'' => still (h ++ [Ob.lst []]) h'' w) hg [] ds ws 0 [] [] none none none hm hd (by simpa using hl)
  rw [List.append_nil] at pr
  have ef : ex (clOf Pr wf (n + 4)) wf (S.for (Tg.cons (Tg.nm 2) (Tg.cons (Tg.nm 3) Tg.nil)) (It.enum (E.var 0)) textB) [some w, some (.ref h.length), none, none, none, none] (h ++ [Ob.lst []]) = .nx [some w, some (.ref h.length), p1, q1, r1, none] (h ++ Ob.lst ((ds.map Dd.line).map W.str) :: j1) := by
    rw [ex_for_ok (evi_enumR (h' := h ++ [Ob.lst []]) (w := w) (by simp) (items_app _ hi))]
    refine pr.trans ?_
    show forL _ _ [] _ _ = _
    rw [forL_nil (hg _)]; rfl
  have hs : ∀ s ∈ ds.map Dd.line, s.length ≤ 10000 := fun s hs => by
    obtain ⟨d, hd', rfl⟩ := List.mem_map.mp hs
    have h1 := line_len (hd d hd').1
    have h2 := (hd d hd').2
    omega
  have cp := lines_comp (c := clOf Pr wf (n + 4)) (fr := [some w, some (.ref h.length), p1, q1, r1, none]) (h := h ++ Ob.lst ((ds.map Dd.line).map W.str) :: j1) (ls := ds.map Dd.line) (i := 1) (k := h.length) (v := 5) rfl (by simp) (by simpa using hl) hs (by simp)
  have jo := join_ok (h := h ++ Ob.lst ((ds.map Dd.line).map W.str) :: j1 ++ [Ob.lst (((ds.map Dd.line).map fun l => l ++ [10]).map W.str)]) (sep := []) (w := .ref (h ++ Ob.lst ((ds.map Dd.line).map W.str) :: j1).length) (ls := (ds.map Dd.line).map fun l => l ++ [10]) (by rw [items_ref, get_new]) (lines_sum (by simpa using hl) hs)
  rw [join_empty] at jo
  have lt : ((ds.map Dd.line).map fun l => l ++ [10]).flatten = linesT 10 (ds.map Dd.line) := rfl
  rw [lt] at jo
  generalize hL : ds.map Dd.line = L at ef cp jo ⊢
  simp at jo cp
  simp [is_row_ok (n + 3) hw, rowV, new, ef, Me.tys, cp, jo]
  exact gc_same (by rfl)
end K74P
end
section
set_option Elab.async false
set_option linter.all false
set_option maxRecDepth 100000
set_option maxHeartbeats 0
/-! k74: deeds_fault, read_deeds. -/
namespace K74P
open K74 hiding R
open Mi
def lineT (l : Tx) : W := lineD (splitC 32 [] l)
theorem lineT_cases (l : Tx) : lineT l = .non ∨ ∃ d : Dd, d.ok ∧ lineT l = d.w := lineD_cases _
theorem lineT_line {d : Dd} (h : d.ok) : lineT d.line = d.w := by
  unfold lineT; rw [line_split h, lineD_words h]
theorem w_under (m : Nat) {d : Dd} : d.w.under m = true := by
  cases d with
  | nm wd args => simp [Dd.w, W.under, W.unders, unders_strs]
  | take i => simp [Dd.w, W.under, W.unders]
  | put a ps => simp [Dd.w, W.under, W.unders, unders_strs]
  | plan wd pre l => simp [Dd.w, W.under, W.unders, unders_app, unders_strs, pairL_under]
theorem lineT_under (m : Nat) (l : Tx) : (lineT l).under m = true := by
  rcases lineT_cases l with q | ⟨d, _, q⟩
  · rw [q]; rfl
  · rw [q]; exact w_under m
theorem mem_dl {α : Type} {l : List α} {a : α} (h : a ∈ l.dropLast) : a ∈ l := by
  rw [List.dropLast_eq_take] at h
  exact List.mem_of_mem_take h
def badAt : Nat → List Tx → Option Nat
  | _, [] => none
  | k, l :: r => if lineT l = .non then some k else badAt (k + 1) r
def faultD (s : Tx) : W := match badAt 0 (splitC 10 [] s).dropLast with
  | some i => .int ((i : Int) + 1)
  | none => if (splitC 10 [] s).getLast? = some [] then .non else .int ((splitC 10 [] s).length : Int)
def faultB : S := (S.seq
            (S.iff (E.cmp Co.is (E.call 10 (Es.cons (E.var 3) Es.nil)) (E.con W.non))
              (S.seq (S.ret (E.bin Bo.add (E.var 2) (E.con (W.int 1)))) S.skip) S.skip)
            S.skip)
theorem fault_loop (n : Nat) {H : Hs} {w0 w1 : Option W} {g : Hs → Bool} (hg : g H = true) : ∀ (ls : List Tx) (k : Nat) (p q : Option W), (∀ l ∈ ls, l.length + 2 ≤ lineW) →
    (∀ i, badAt k ls = some i → forL (forB (clOf Pr wf (n + 5)) wf (.cons (.nm 2) (.cons (.nm 3) .nil)) faultB) g (enumL k (ls.map W.str)) [w0, w1, p, q] H = .rt (.int ((i : Int) + 1)) H) ∧
    (badAt k ls = none → ∃ p' q', forL (forB (clOf Pr wf (n + 5)) wf (.cons (.nm 2) (.cons (.nm 3) .nil)) faultB) g (enumL k (ls.map W.str)) [w0, w1, p, q] H = .nx [w0, w1, p', q'] H)
  | [], k, p, q, _ => ⟨fun i e => (by cases e), fun _ => ⟨p, q, by show forL _ g [] _ _ = _; rw [forL_nil hg]⟩⟩
  | l :: r, k, p, q, hl => by
    have li := line_in_ok n (h := H) (hl l (by simp))
    have li' : lev Pr wf (n + 5) 10 [.str l] H = .ok (lineT l) H := li
    have ih := fault_loop n (w0 := w0) (w1 := w1) hg r (k + 1) (some (.int k)) (some (.str l)) fun l' hl' => hl l' (by simp [hl'])
    have st : forL (forB (clOf Pr wf (n + 5)) wf (.cons (.nm 2) (.cons (.nm 3) .nil)) faultB) g (enumL k ((l :: r).map W.str)) [w0, w1, p, q] H = if lineT l = .non then .rt (.int ((k : Int) + 1)) H else forL (forB (clOf Pr wf (n + 5)) wf (.cons (.nm 2) (.cons (.nm 3) .nil)) faultB) g (enumL (k + 1) (r.map W.str)) [w0, w1, some (.int k), some (.str l)] H := by
      show forL _ g (.tup [.int k, .str l] :: enumL (k + 1) (r.map W.str)) _ _ = _
      rw [forL_cons hg]
      by_cases c : lineT l = .non
      · rw [if_pos c]
        rw [c] at li'
        simp [faultB, li']
      · rw [if_neg c]
        have c' : (lineT l == .non) = false := by simpa using c
        simp [faultB, li', c']
    rw [st]
    unfold badAt
    by_cases c : lineT l = .non
    · rw [if_pos c, if_pos c]
      exact ⟨fun i e => (by cases e; rfl), fun e => (by cases e)⟩
    · rw [if_neg c, if_neg c]
      exact ih
theorem b11_eq : b11 = S.seq (S.iff (E.not (E.isi (E.var 0) [Ty.str])) (S.seq (S.ret (E.con (W.int 0))) S.skip) S.skip)
    (S.seq (S.asg (Tg.nm 1) (E.me Me.split (E.var 0) (Es.cons (E.con (W.str [10])) Es.nil)))
      (S.seq
        (S.for (Tg.cons (Tg.nm 2) (Tg.cons (Tg.nm 3) Tg.nil))
          (It.enum (E.slc (E.var 1) Es.nil (Es.cons (E.neg (E.con (W.int 1))) Es.nil)))
          faultB)
        (S.seq
          (S.ret
            (E.ite (E.cmp Co.eq (E.idx (E.var 1) (E.neg (E.con (W.int 1)))) (E.con (W.str []))) (E.con W.non)
              (E.bi Bi.len (Es.cons (E.var 1) Es.nil))))
          S.skip))) := rfl
theorem slc_ref {h : Hs} {n : Nat} {ws : List W} (e : h[n]? = some (Ob.lst ws)) (lo hi : Option Int) : slcV h (.ref n) lo hi = .ok (.ref h.length) (h ++ [Ob.lst (cut ws lo hi)]) := by
  show (match h[n]? with
    | some (.lst ws) => new (Ob.lst (cut ws lo hi)) h
    | _ => .stk) = _
  rw [e]; rfl
theorem fault_ok (n : Nat) {s : Tx} {h : Hs} (hs : s.length + 2 ≤ lineW) : lev Pr wf (n + 6) 11 [.str s] h = .ok (faultD s) h := by
  rw [L11, if_pos (show [W.str s].length = 1 from rfl), b11_eq]
  have sp := split_ok (s := s) (c := 10) (h := h) hs (by decide)
  have sw : ∀ w ∈ splitC 10 [] s, w.length + 2 ≤ lineW := fun w hw => by
    have := split_piece 10 s [] w hw
    simp at this; omega
  have sn := split_ne 10 s []
  unfold faultD
  generalize splitC 10 [] s = ws at sp sw sn
  obtain ⟨ds, hds⟩ : ∃ ds, ws.dropLast = ds := ⟨_, rfl⟩
  have dm : ∀ l ∈ ds, l ∈ ws := fun l hl => mem_dl (hds ▸ hl)
  have dln : ds.length ≤ ws.length := by rw [← hds, List.length_dropLast]; omega
  have dl : (ws.map W.str).dropLast = ds.map W.str := by rw [← hds, List.map_dropLast]
  rw [hds]
  have sl := slc_ref (h := h ++ [Ob.lst (ws.map W.str)]) (n := h.length) (ws := ws.map W.str) (by simp) none (some (-1))
  rw [cut_init, dl] at sl
  obtain ⟨f1, f2⟩ := fault_loop n (H := h ++ [Ob.lst (ws.map W.str), Ob.lst (ds.map W.str)]) (w0 := some (.str s)) (w1 := some (.ref h.length)) (g := fun h'' => still (h ++ [Ob.lst (ws.map W.str), Ob.lst (ds.map W.str)]) h'' (.ref (h.length + 1))) (still_self _ _) ds 0 none none (fun l hl => sw l (dm l hl))
  have ef : ex (clOf Pr wf (n + 5)) wf (S.for (Tg.cons (Tg.nm 2) (Tg.cons (Tg.nm 3) Tg.nil))
          (It.enum (E.slc (E.var 1) Es.nil (Es.cons (E.neg (E.con (W.int 1))) Es.nil)))
          faultB) [some (.str s), some (.ref h.length), none, none] (h ++ [Ob.lst (ws.map W.str)]) = forL (forB (clOf Pr wf (n + 5)) wf (.cons (.nm 2) (.cons (.nm 3) .nil)) faultB) (fun h'' => still (h ++ [Ob.lst (ws.map W.str), Ob.lst (ds.map W.str)]) h'' (.ref (h.length + 1))) (enumL 0 (ds.map W.str)) [some (.str s), some (.ref h.length), none, none] (h ++ [Ob.lst (ws.map W.str), Ob.lst (ds.map W.str)]) := by
    rw [ex_for_ok (evi_enumR (w := .ref (h.length + 1)) (ws := ds.map W.str) (h' := h ++ [Ob.lst (ws.map W.str), Ob.lst (ds.map W.str)]) (by simp [sl]) (by simp))]
  cases eb : badAt 0 ds with
  | some i =>
    show _ = R.ok (W.int ((i : Int) + 1)) h
    simp [Me.tys, sp, ef, f1 i eb]
    exact gc_same (by rfl)
  | none =>
    obtain ⟨p', q', e2⟩ := f2 eb
    obtain ⟨lw, hlw⟩ : ∃ lw, ws.getLast? = some lw := by
      cases q : ws.getLast? with
      | none => exact absurd (List.getLast?_eq_none_iff.mp q) sn
      | some x => exact ⟨x, rfl⟩
    have al : atI (ws.map W.str) (-1) = some (.str lw) := by
      rw [atI_last, List.getLast?_map, hlw]; rfl
    show _ = R.ok (if ws.getLast? = some [] then W.non else .int (ws.length : Int)) h
    rw [hlw]
    by_cases c : lw = []
    · subst c
      simp [Me.tys, sp, ef, e2, al]
      exact gc_same (by rfl)
    · rw [if_neg (by simpa using c)]
      simp [Me.tys, sp, ef, e2, al, c]
      exact gc_same (by rfl)
theorem fault_odd (n : Nat) {w : W} {h : Hs} {t : Ty} (ht : typeW h w = some t) (hn : subTy t .str = false) : lev Pr wf (n + 1) 11 [w] h = .ok (.int 0) h := by
  rw [L11, if_pos (show [w].length = 1 from rfl), b11_eq]
  simp [ht, hn]
  exact gc_id (by rfl)
theorem faultD_cases (s : Tx) : faultD s = .non ∨ ∃ i : Nat, faultD s = .int ((i : Int) + 1) := by
  unfold faultD
  cases badAt 0 (splitC 10 [] s).dropLast with
  | some i => exact .inr ⟨i, rfl⟩
  | none =>
    show (if (splitC 10 [] s).getLast? = some [] then W.non else .int ((splitC 10 [] s).length : Int)) = .non ∨ _
    by_cases c : (splitC 10 [] s).getLast? = some []
    · rw [if_pos c]; exact .inl rfl
    · rw [if_neg c]
      right
      have := List.length_pos_iff.mpr (split_ne 10 s [])
      refine ⟨(splitC 10 [] s).length - 1, ?_⟩
      show W.int ((splitC 10 [] s).length : Int) = _
      congr 1
      omega
theorem read_ok (n : Nat) {s : Tx} {h : Hs} (hs : s.length + 2 ≤ lineW) (hf : faultD s = .non) : lev Pr wf (n + 7) 12 [.str s] h = .ok (.ref h.length) (h ++ [Ob.lst ((splitC 10 [] s).dropLast.map lineT)]) := by
  rw [L12, if_pos (show [W.str s].length = 1 from rfl)]
  have fo := fault_ok n (h := h) hs
  rw [hf] at fo
  have sp := split_ok (s := s) (c := 10) (h := h) hs (by decide)
  have sw : ∀ w ∈ splitC 10 [] s, w.length + 2 ≤ lineW := fun w hw => by
    have := split_piece 10 s [] w hw
    simp at this; omega
  have sn := split_len 10 s []
  generalize splitC 10 [] s = ws at sp sw sn ⊢
  obtain ⟨ds, hds⟩ : ∃ ds, ws.dropLast = ds := ⟨_, rfl⟩
  have dm : ∀ l ∈ ds, l ∈ ws := fun l hl => mem_dl (hds ▸ hl)
  have dln : ds.length ≤ ws.length := by rw [← hds, List.length_dropLast]; omega
  have dl : (ws.map W.str).dropLast = ds.map W.str := by rw [← hds, List.map_dropLast]
  rw [hds]
  have sl := slc_ref (h := h ++ [Ob.lst (ws.map W.str)]) (n := h.length) (ws := ws.map W.str) (by simp) none (some (-1))
  rw [cut_init, dl] at sl
  have cp : ev (clOf Pr wf (n + 6)) (E.comp [2] (Tg.nm 2)
            (It.val
              (E.slc (E.me Me.split (E.var 0) (Es.cons (E.con (W.str [10])) Es.nil)) Es.nil
                (Es.cons (E.neg (E.con (W.int 1))) Es.nil)))
            Es.nil (E.call 10 (Es.cons (E.var 2) Es.nil))) [some (.str s), some .non, none] h = .ok (.ref (h.length + 2)) (h ++ [Ob.lst (ws.map W.str), Ob.lst (ds.map W.str), Ob.lst (ds.map lineT)]) := by
    rw [ev_comp, evi_row (w := .ref (h.length + 1)) (ws := ds.map W.str) (h' := h ++ [Ob.lst (ws.map W.str), Ob.lst (ds.map W.str)]) (by simp [Me.tys, sp, sl]) (by simp)]
    simp only [R.bind_ok]
    rw [compL_map (m := fun w => match w with | .str s => lineT s | _ => .non) (still_self _ _) _ (fun w hw => ?_) (by simp; omega)]
    · simp [new, List.map_map, Function.comp_def]
    · obtain ⟨l, hl', rfl⟩ := List.mem_map.mp hw
      have li := line_in_ok (n + 1) (h := h ++ [Ob.lst (ws.map W.str), Ob.lst (ds.map W.str)]) (sw l (dm l hl'))
      have li' : lev Pr wf (n + 6) 10 [.str l] (h ++ [Ob.lst (ws.map W.str), Ob.lst (ds.map W.str)]) = .ok (lineT l) (h ++ [Ob.lst (ws.map W.str), Ob.lst (ds.map W.str)]) := li
      simp [li']
  unfold b12
  simp [fo, cp]
  refine gc_new (k := 2) rfl ?_
  show W.unders _ _ = true
  refine unders_of fun w hw => ?_
  obtain ⟨l, _, rfl⟩ := List.mem_map.mp hw
  exact lineT_under _ l
theorem read_bad (n : Nat) {s : Tx} {h : Hs} {i : Int} (hs : s.length + 2 ≤ lineW) (hf : faultD s = .int i) : lev Pr wf (n + 7) 12 [.str s] h = .exc ⟨2, [.int i]⟩ h := by
  rw [L12, if_pos (show [W.str s].length = 1 from rfl)]
  have fo := fault_ok n (h := h) hs
  rw [hf] at fo
  unfold b12
  simp [fo]
  have := gcX_same (h0 := h) (j := []) (x := ⟨2, [.int i]⟩) rfl
  rwa [List.append_nil] at this
theorem read_odd (n : Nat) {w : W} {h : Hs} {t : Ty} (ht : typeW h w = some t) (hn : subTy t .str = false) : lev Pr wf (n + 2) 12 [w] h = .exc ⟨2, [.int 0]⟩ h := by
  rw [L12, if_pos (show [w].length = 1 from rfl)]
  have fo := fault_odd n ht hn
  unfold b12
  simp [fo]
  have := gcX_same (h0 := h) (j := []) (x := ⟨2, [.int 0]⟩) rfl
  rwa [List.append_nil] at this
end K74P
end
section
set_option Elab.async false
set_option linter.all false
set_option maxRecDepth 100000
set_option maxHeartbeats 0
/-! k74: _law_mis_name. -/
namespace K74P
open K74 hiding R
open Mi
/-- all signs are signs -/
def sgn (s : Tx) : Prop := ∀ c ∈ s, c < 1114112
theorem data_str {n : Nat} {h : Hs} {s : Tx} (hs : sgn s) : dataF n h (.str s) = some (.str s) := by
  have : (s.all fun c => decide (c < 1114112)) = true := List.all_eq_true.mpr fun c hc => decide_eq_true (hs c hc)
  cases n <;> exact if_pos this
theorem data_strs {n : Nat} {h : Hs} : ∀ {l : List Tx}, (∀ s ∈ l, sgn s) → mapO (dataF n h) (l.map W.str) = some (l.map D.str)
  | [], _ => rfl
  | a :: r, e => by
    rw [List.map_cons, mapO_cons, data_str (e a (by simp)), data_strs fun s hs => e s (by simp [hs])]; rfl
theorem eq_nil {h : Hs} {k m : Nat} {ws : List W} {ds : List D} (h0 : h[k]? = some (Ob.lst ws)) (hd : mapO (dataF 63 h) ws = some ds) (hm : h[m]? = some (Ob.lst [])) : eqV h (.ref k) (.ref m) = some ws.isEmpty := by
  show (match dataF 64 h (.ref k), dataF 64 h (.ref m) with
    | some d, some e => some (D.eqv d e)
    | _, _ => none) = _
  have e1 : dataF 64 h (.ref k) = some (.lst ds) := by
    show (match h[k]? with
    | some (.lst ws) => (mapO (dataF 63 h) ws).map D.lst
    | _ => none) = _
    rw [h0]
    show (mapO (dataF 63 h) ws).map D.lst = _
    rw [hd]; rfl
  have e2 : dataF 64 h (.ref m) = some (.lst []) := by
    show (match h[m]? with
    | some (.lst ws) => (mapO (dataF 63 h) ws).map D.lst
    | _ => none) = _
    rw [hm]; rfl
  rw [e1, e2]
  cases ws with
  | nil => cases hd; rfl
  | cons a r =>
    obtain ⟨b, t, _, _, rfl⟩ := mapO_cons_some hd
    rfl
/-- [sign for sign in text if sign not in these] -/
theorem odd_comp {c : Cl} {fr : Fr} {h h' : Hs} {v : Nat} {it : E} {s F : Tx} (hit : ev c it fr h = .ok (.str s) h') (hl : s.length ≤ lineW) (hv : v < fr.length) :
    ev c (.comp [v] (.nm v) (.val it) (.cons (.cmp .notin (.var v) (.con (.str F))) .nil) (.var v)) fr h = .ok (.ref h'.length) (h' ++ [Ob.lst (((s.filter fun x => !has F x).map fun x => [x]).map W.str)]) := by
  rw [ev_comp, evi_str hit]
  simp only [R.bind_ok]
  rw [compL_fm (m := fun w => match w with | .str [x] => if has F x then none else some (.str [x]) | _ => none) rfl _ [] (fun w hw => ?_) (by simpa using hl)]
  · have : ∀ l : Tx, (l.map fun n => W.str [n]).filterMap (fun w => match w with | .str [x] => if has F x then none else some (W.str [x]) | _ => none) = ((l.filter fun x => !has F x).map fun x => [x]).map W.str := by
      intro l
      induction l with
      | nil => rfl
      | cons a r ih =>
        rw [List.map_cons, List.filterMap_cons, ih, List.filter_cons]
        cases q : has F a <;> simp [q]
    rw [this]
    simp [new]
  · obtain ⟨x, hx, rfl⟩ := List.mem_map.mp hw
    cases q : has F x <;> simp [hv, q]
theorem filt_nil (F s : Tx) : (((s.filter fun x => !has F x).map fun x => [x]).map W.str).isEmpty = s.all fun x => has F x := by
  rw [List.isEmpty_map, List.isEmpty_map]
  induction s with
  | nil => rfl
  | cons a r ih =>
    rw [List.filter_cons, List.all_cons]
    cases q : has F a
    · simp
    · simpa using ih
theorem filt_sgn {F s : Tx} (hs : sgn s) : ∀ t ∈ ((s.filter fun x => !has F x).map fun x => [x]), sgn t := by
  intro t ht c hc
  obtain ⟨x, hx, rfl⟩ := List.mem_map.mp ht
  rw [List.mem_singleton.mp hc]
  exact hs x ((List.mem_filter.mp hx).1)
theorem small_figs {c : Nat} (h : has SIGNS c = true) : has SMALL c = !has FIGS c := by
  have : SIGNS.all (fun d => has SMALL d == !has FIGS d) = true := by decide
  have m : c ∈ SIGNS := List.contains_iff_mem.mp h
  exact eq_of_beq (List.all_eq_true.mp this c m)
theorem b26_eq : b26 = S.seq
    (S.asg (Tg.nm 1)
      (E.comp [2] (Tg.nm 2) (It.val (E.var 0))
        (Es.cons
          (E.cmp Co.notin (E.var 2)
            (E.con
              (W.str
                SIGNS)))
          Es.nil)
        (E.var 2)))
    (S.seq
      (S.ret
        (E.and
          (E.chain Co.lt Co.lt (E.con (W.int 0)) (E.bi Bi.len (Es.cons (E.var 0) Es.nil))
            (E.con (W.int 9)))
          (E.and (E.cmp Co.eq (E.var 1) (E.lst Es.nil))
            (E.cmp Co.notin (E.idx (E.var 0) (E.con (W.int 0)))
              (E.con (W.str FIGS))))))
      S.skip) := rfl
theorem mis_name_ok (n : Nat) {s : Tx} {h : Hs} (hl : s.length ≤ lineW) (hs : sgn s) : lev Pr wf (n + 1) 26 [.str s] h = .ok (.bl (nameT s)) h := by
  rw [L26, if_pos (show [W.str s].length = 1 from rfl), b26_eq]
  have oc := odd_comp (c := clOf Pr wf n) (fr := [some (.str s), none, none]) (h := h) (h' := h) (v := 2) (it := .var 0) (s := s) (F := SIGNS) rfl hl (by simp)
  have fn := filt_nil SIGNS s
  have fs := data_strs (n := 63) (h := h ++ [Ob.lst (((s.filter fun x => !has SIGNS x).map fun x => [x]).map W.str), Ob.lst []]) (filt_sgn (F := SIGNS) hs)
  generalize ((s.filter fun x => !has SIGNS x).map fun x => [x]) = L at oc fn fs
  have en := eq_nil (h := h ++ [Ob.lst (L.map W.str), Ob.lst []]) (k := h.length) (m := h.length + 1) (by simp) fs (by simp)
  rw [fn] at en
  cases s with
  | nil =>
    simp [oc, nameT]
    exact gc_same (by rfl)
  | cons a r =>
    have hl' : r.length + 1 ≤ lineW := hl
    have h0 : (0 : Int) < (r.length : Int) + 1 := by omega
    by_cases h9 : r.length + 1 ≤ 8
    · have h9' : (r.length : Int) + 1 < 9 := by omega
      cases hf : (a :: r).all fun x => has SIGNS x with
      | false =>
        rw [hf] at en
        have nt : nameT (a :: r) = false := by unfold nameT; rw [hf]; simp
        rw [nt]
        simp [oc, hl', h0, h9', new, en]
        exact gc_same (by rfl)
      | true =>
        rw [hf] at en
        have ha : has SIGNS a = true := by
          rw [List.all_cons, Bool.and_eq_true] at hf; exact hf.1
        have sf := small_figs ha
        have nt : nameT (a :: r) = !has FIGS a := by
          unfold nameT; rw [hf, List.headD_cons, sf]; simp [h9]
        rw [nt]
        simp [oc, hl', h0, h9', new, en, atI_zero]
        exact gc_same (by rfl)
    · have h9' : ¬ ((r.length : Int) + 1 < 9) := by omega
      have nt : nameT (a :: r) = false := by unfold nameT; simp; intro q; omega
      rw [nt]
      simp [oc, hl', h0, h9']
      exact gc_same (by rfl)
end K74P
end
section
set_option Elab.async false
set_option linter.all false
set_option maxRecDepth 100000
set_option maxHeartbeats 0
/-! k74: _law_mread. -/
namespace K74P
open K74 hiding R
open Mi
def takeB : S := (S.seq
            (S.asg (Tg.nm 7)
              (E.comp [9] (Tg.nm 9) (It.val (E.me Me.join (E.con (W.str [])) (Es.cons (E.var 6) Es.nil)))
                (Es.cons (E.cmp Co.notin (E.var 9) (E.con (W.str FIGS))) Es.nil)
                (E.var 9)))
            (S.seq
              (S.asg (Tg.nm 8)
                (E.and (E.cmp Co.eq (E.bi Bi.len (Es.cons (E.var 6) Es.nil)) (E.con (W.int 1)))
                  (E.and (E.cmp Co.eq (E.var 7) (E.lst Es.nil))
                    (E.and
                      (E.chain Co.lt Co.lt (E.con (W.int 0))
                        (E.bi Bi.len (Es.cons (E.idx (E.var 6) (E.con (W.int 0))) Es.nil))
                        (E.con (W.int 10)))
                      (E.or (E.cmp Co.eq (E.idx (E.var 6) (E.con (W.int 0))) (E.con (W.str [48])))
                        (E.cmp Co.ne (E.idx (E.idx (E.var 6) (E.con (W.int 0))) (E.con (W.int 0)))
                          (E.con (W.str [48]))))))))
              (S.seq
                (S.ret
                  (E.ite (E.var 8)
                    (E.tup
                      (Es.cons (E.con (W.str [116, 97, 107, 101]))
                        (Es.cons (E.bi Bi.int (Es.cons (E.idx (E.var 6) (E.con (W.int 0))) Es.nil)) Es.nil)))
                    (E.con W.non)))
                S.skip)))
def planB : S := (S.seq
                  (S.asg (Tg.nm 3)
                    (E.ite (E.cmp Co.eq (E.var 5) (E.con (W.str [109, 101, 110, 100]))) (E.con (W.int 2))
                      (E.con (W.int 0))))
                  (S.seq
                    (S.iff
                      (E.or
                        (E.cmp Co.notin (E.var 5)
                          (E.tup
                            (Es.cons (E.con (W.str [109, 101, 110, 100]))
                              (Es.cons (E.con (W.str [109, 111, 118, 101])) Es.nil))))
                        (E.or (E.cmp Co.lt (E.bi Bi.len (Es.cons (E.var 6) Es.nil)) (E.var 3))
                          (E.cmp Co.eq
                            (E.bin Bo.mod (E.bin Bo.sub (E.bi Bi.len (Es.cons (E.var 6) Es.nil)) (E.var 3))
                              (E.con (W.int 2)))
                            (E.con (W.int 1)))))
                      (S.seq (S.ret (E.con W.non)) S.skip) S.skip)
                    (S.seq
                      (S.asg (Tg.nm 4)
                        (E.bi Bi.tuple
                          (Es.cons
                            (E.comp [10] (Tg.nm 10)
                              (It.rng
                                (Es.cons (E.var 3)
                                  (Es.cons (E.bi Bi.len (Es.cons (E.var 6) Es.nil))
                                    (Es.cons (E.con (W.int 2)) Es.nil))))
                              Es.nil
                              (E.tup
                                (Es.cons (E.idx (E.var 6) (E.var 10))
                                  (Es.cons (E.idx (E.var 6) (E.bin Bo.add (E.var 10) (E.con (W.int 1))))
                                    Es.nil))))
                            Es.nil)))
                      (S.seq
                        (S.ret
                          (E.bin Bo.add
                            (E.bin Bo.add (E.tup (Es.cons (E.var 5) Es.nil))
                              (E.bi Bi.tuple (Es.cons (E.slc (E.var 6) Es.nil (Es.cons (E.var 3) Es.nil)) Es.nil)))
                            (E.tup (Es.cons (E.var 4) Es.nil))))
                        S.skip))))
def manyB : S := (S.seq
            (S.asg (Tg.nm 2)
              (E.dis
                [W.str [99, 104, 97, 110, 103, 101], W.str [112, 105, 110], W.str [117, 110, 112, 105, 110],
                  W.str [97, 100, 100], W.str [108, 101, 97, 118, 101]]
                (Es.cons (E.con (W.int 2))
                  (Es.cons (E.con (W.int 1))
                    (Es.cons (E.con (W.int 1))
                      (Es.cons (E.con (W.int 2)) (Es.cons (E.con (W.int 1)) Es.nil)))))))
            (S.seq
              (S.iff (E.cmp Co.isin (E.var 5) (E.var 2))
                (S.seq
                  (S.ret
                    (E.ite (E.cmp Co.eq (E.bi Bi.len (Es.cons (E.var 6) Es.nil)) (E.idx (E.var 2) (E.var 5)))
                      (E.bi Bi.tuple (Es.cons (E.var 1) Es.nil)) (E.con W.non)))
                  S.skip)
                S.skip)
              (S.seq
                (S.iff (E.cmp Co.eq (E.var 5) (E.con (W.str [112, 117, 116])))
                  (S.seq
                    (S.ret
                      (E.ite
                        (E.chain Co.lt Co.lt (E.con (W.int 1)) (E.bi Bi.len (Es.cons (E.var 6) Es.nil))
                          (E.con (W.int 5)))
                        (E.tup
                          (Es.cons (E.var 5)
                            (Es.cons (E.idx (E.var 6) (E.con (W.int 0)))
                              (Es.cons
                                (E.bi Bi.tuple
                                  (Es.cons (E.slc (E.var 6) (Es.cons (E.con (W.int 1)) Es.nil) Es.nil)
                                    Es.nil))
                                Es.nil))))
                        (E.con W.non)))
                    S.skip)
                  S.skip)
                planB)))
def restB : S := (S.seq
          (S.iff
            (E.not
              (E.bi Bi.all
                (Es.cons (E.comp [11] (Tg.nm 11) (It.val (E.var 6)) Es.nil (E.call 26 (Es.cons (E.var 11) Es.nil)))
                  Es.nil)))
            (S.seq (S.ret (E.con W.non)) S.skip) S.skip)
          manyB)
theorem b27_eq : b27 = S.seq (S.asg (Tg.nm 1) (E.me Me.split (E.var 0) (Es.cons (E.con (W.str [32])) Es.nil)))
    (S.seq
      (S.asg (Tg.cons (Tg.nm 5) (Tg.cons (Tg.nm 6) Tg.nil))
        (E.tup
          (Es.cons (E.idx (E.var 1) (E.con (W.int 0)))
            (Es.cons (E.slc (E.var 1) (Es.cons (E.con (W.int 1)) Es.nil) Es.nil) Es.nil))))
      (S.seq
        (S.iff (E.cmp Co.eq (E.var 5) (E.con (W.str [116, 97, 107, 101])))
          takeB
          S.skip)
        restB)) := rfl
theorem take_two (n : Nat) {H : Hs} {s wd x : Tx} {A B : Nat} (hB : H[B]? = some (Ob.lst [W.str x])) (hl : x.length + 2 ≤ lineW) (hs : sgn x) :
    ∃ t, ex (clOf Pr wf n) wf takeB [some (.str s), some (.ref A), none, none, none, some (.str wd), some (.ref B), none, none, none, none, none] H = .rt (takeD [x]) (H ++ t) := by
  rw [takeD_one]
  have jo := join_ok (h := H) (sep := []) (w := .ref B) (ls := [x]) (by simp [hB]) (by simp; omega)
  have oc := odd_comp (c := clOf Pr wf n) (fr := [some (.str s), some (.ref A), none, none, none, some (.str wd), some (.ref B), none, none, none, none, none]) (h := H) (h' := H) (v := 9) (it := E.me Me.join (E.con (W.str [])) (Es.cons (E.var 6) Es.nil)) (s := x) (F := FIGS) (by simp [Me.tys, jo, joinT]) (by omega) (by simp)
  have fn := filt_nil FIGS x
  have fs := data_strs (n := 63) (h := H ++ [Ob.lst (((x.filter fun x => !has FIGS x).map fun x => [x]).map W.str), Ob.lst []]) (filt_sgn (F := FIGS) hs)
  generalize ((x.filter fun x => !has FIGS x).map fun x => [x]) = L at oc fn fs
  have en := eq_nil (h := H ++ [Ob.lst (L.map W.str), Ob.lst []]) (k := H.length) (m := H.length + 1) (by simp) fs (by simp)
  rw [fn] at en
  have hB2 := get_app (h := H) [Ob.lst (L.map W.str), Ob.lst []] hB
  have hB1 := get_app (h := H) [Ob.lst (L.map W.str)] hB
  refine ⟨[Ob.lst (L.map W.str), Ob.lst []], ?_⟩
  unfold takeB
  cases x with
  | nil =>
    simp [oc, hB1, hB2, new, en, numD, atI_zero]
  | cons a r =>
    have hl' : r.length + 1 ≤ lineW := by simp at hl; omega
    have h0 : (0 : Int) < (r.length : Int) + 1 := by omega
    cases hf : (a :: r).all fun x => has FIGS x with
    | false =>
      rw [hf] at en
      have nd : numD (a :: r) = .non := by unfold numD; rw [hf, if_neg (by simp)]
      simp [oc, hB1, hB2, new, en, nd]
    | true =>
      rw [hf] at en
      by_cases h9 : r.length + 1 ≤ 9
      · have h9' : (r.length : Int) + 1 < 10 := by omega
        by_cases h4 : a = 48
        · subst h4
          cases r with
          | nil =>
            have io := int_of (s := [48]) (h := H ++ [Ob.lst (L.map W.str), Ob.lst []]) (by decide) (by decide) (by decide)
            have nd : numD [48] = .int (numTx [48]) := by decide
            simp [oc, hB1, hB2, new, en, nd, atI_zero, io, TAKE]
          | cons b t =>
            have nd : numD (48 :: b :: t) = .non := by
              unfold numD
              rw [if_neg]
              rintro ⟨_, _, q, _⟩
              exact q ⟨rfl, by simp⟩
            have h0 : (0 : Int) < (t.length : Int) + 1 + 1 := by omega
            have h9' : (t.length : Int) + 1 + 1 < 10 := by simp at h9; omega
            have hl' : t.length + 1 + 1 ≤ lineW := by simp at hl; omega
            simp [oc, hB1, hB2, new, en, nd, atI_zero, h0, h9', hl']
        · have nd : numD (a :: r) = .int (numTx (a :: r)) := by
            unfold numD
            rw [if_pos]
            exact ⟨by simp, by simpa using h9, fun q => h4 q.1, hf⟩
          have io := int_of (s := a :: r) (h := H ++ [Ob.lst (L.map W.str), Ob.lst []]) (by simp) (by simp; omega) (figs_bd hf)
          simp [oc, hB1, hB2, new, en, nd, atI_zero, h0, h9', hl', h4, io, TAKE]
      · have h9' : ¬ (r.length : Int) + 1 < 10 := by omega
        have nd : numD (a :: r) = .non := by
          unfold numD
          rw [if_neg]
          rintro ⟨_, q, _⟩
          exact h9 (by simpa using q)
        simp [oc, hB1, hB2, new, en, nd, atI_zero, h0, h9', hl']
end K74P
end
section
set_option Elab.async false
set_option linter.all false
set_option maxRecDepth 100000
set_option maxHeartbeats 0
/-! k74: _law_mread, the rest. -/
namespace K74P
open K74 hiding R
open Mi
theorem take_other (n : Nat) {H : Hs} {s wd : Tx} {rest : List Tx} {A B : Nat} (hB : H[B]? = some (Ob.lst (rest.map W.str))) (hl : (rest.map (·.length)).sum ≤ lineW) (hr : rest.length ≠ 1) :
    ∃ t, ex (clOf Pr wf n) wf takeB [some (.str s), some (.ref A), none, none, none, some (.str wd), some (.ref B), none, none, none, none, none] H = .rt .non (H ++ t) := by
  have jo := join_ok (h := H) (sep := []) (w := .ref B) (ls := rest) (by simp [hB]) (by rw [List.length_nil, Nat.mul_zero, Nat.add_zero]; exact hl)
  have jl := join_len [] rest
  rw [List.length_nil, Nat.mul_zero, Nat.add_zero] at jl
  have oc := odd_comp (c := clOf Pr wf n) (fr := [some (.str s), some (.ref A), none, none, none, some (.str wd), some (.ref B), none, none, none, none, none]) (h := H) (h' := H) (v := 9) (it := E.me Me.join (E.con (W.str [])) (Es.cons (E.var 6) Es.nil)) (s := joinT [] rest) (F := FIGS) (by simp [Me.tys, jo]) (Nat.le_trans jl hl) (by simp)
  generalize (((joinT [] rest).filter fun x => !has FIGS x).map fun x => [x]) = L at oc
  have hB1 := get_app (h := H) [Ob.lst (L.map W.str)] hB
  refine ⟨[Ob.lst (L.map W.str)], ?_⟩
  have hr' : ¬ ((rest.length : Int) = 1) := by omega
  unfold takeB
  simp [oc, hB1, hr']
theorem takeD_other {rest : List Tx} (hr : rest.length ≠ 1) : takeD rest = .non := by
  match rest, hr with
  | [], _ => rfl
  | [x], h => exact absurd rfl h
  | x :: y :: r, _ => rfl
theorem dis_named : (([W.str [99, 104, 97, 110, 103, 101], W.str [112, 105, 110], W.str [117, 110, 112, 105, 110], W.str [97, 100, 100], W.str [108, 101, 97, 118, 101]].zip [W.int 2, W.int 1, W.int 1, W.int 2, W.int 1]).foldl (fun kvs kv => dput kvs kv.1 kv.2) []) = named := by decide +kernel
theorem ev_dis (c : Cl) (ks : List W) (vs : Es) (fr : Fr) (h : Hs) : ev c (.dis ks vs) fr h = (evs c vs fr h).bind fun us h => if ks.all keyOk && decide (ks.length ≤ 15) && decide (us.length = ks.length) then new (.dic ((ks.zip us).foldl (fun kvs kv => dput kvs kv.1 kv.2) [])) h else .stk := rfl
theorem in_dic {h : Hs} {k : Nat} {kvs : List (W × W)} {s : Tx} (e : h[k]? = some (.dic kvs)) : inV h (.str s) (.ref k) = some (dget kvs (.str s)).isSome := by
  show (match h[k]? with
    | some (.dic kvs) => if keyOk (.str s) then some (dget kvs (.str s)).isSome else none
    | some (.lst _) => inSeq h (.str s) (.ref k)
    | _ => none) = _
  rw [e]; rfl
theorem idx_dic {h : Hs} {k : Nat} {kvs : List (W × W)} {s : Tx} (e : h[k]? = some (.dic kvs)) : idxV h (.ref k) (.str s) = dget kvs (.str s) := by
  show (match h[k]? with
    | some (.lst ws) => idxL ws (.str s)
    | some (.dic kvs) => if keyOk (.str s) then dget kvs (.str s) else none
    | _ => none) = _
  rw [e]; rfl
theorem dis_ev (c : Cl) (fr : Fr) (H : Hs) : ev c (E.dis
                [W.str [99, 104, 97, 110, 103, 101], W.str [112, 105, 110], W.str [117, 110, 112, 105, 110],
                  W.str [97, 100, 100], W.str [108, 101, 97, 118, 101]]
                (Es.cons (E.con (W.int 2))
                  (Es.cons (E.con (W.int 1))
                    (Es.cons (E.con (W.int 1))
                      (Es.cons (E.con (W.int 2)) (Es.cons (E.con (W.int 1)) Es.nil)))))) fr H = .ok (.ref H.length) (H ++ [Ob.dic named]) := by
  rw [← dis_named]; rfl
theorem many_ok (n : Nat) {H : Hs} {s wd : Tx} {rest : List Tx} {A B : Nat} (hA : H[A]? = some (Ob.lst ((wd :: rest).map W.str))) (hB : H[B]? = some (Ob.lst (rest.map W.str))) (hl : rest.length + 4 ≤ lineW) (hw : wd ≠ TAKE) (hn : rest.all nameT = true) :
    ∃ t, ex (clOf Pr wf n) wf manyB [some (.str s), some (.ref A), none, none, none, some (.str wd), some (.ref B), none, none, none, none, none] H = .rt (lineD (wd :: rest)) (H ++ t) := by
  rw [lineD_cons, if_neg hw]
  have dn := fun fr => dis_ev (clOf Pr wf n) fr H
  have hA' := get_app [Ob.dic named] hA
  have hB' := get_app [Ob.dic named] hB
  have hD : (H ++ [Ob.dic named])[H.length]? = some (Ob.dic named) := by simp
  have inD := in_dic (s := wd) hD
  have ixD := idx_dic (s := wd) hD
  simp only [List.map_cons] at hA'
  unfold manyB
  rw [named_ar] at inD ixD
  cases an : arN wd with
  | some k =>
    rw [an] at inD ixD
    show ∃ t, _ = Rs.rt (if rest.length = k ∧ rest.all nameT = true then W.tup (.str wd :: rest.map W.str) else .non) (H ++ t)
    by_cases c : rest.length = k
    · rw [if_pos ⟨c, hn⟩]
      refine ⟨[Ob.dic named], ?_⟩
      have c' : (rest.length : Int) = (k : Int) := by omega
      have ti := tuple_of (w := .ref A) (h := H ++ [Ob.dic named]) (ws := .str wd :: rest.map W.str) (by simp only [items_ref, hA'])
      simp [dn, inD, ixD, hB', c', ti]
    · rw [if_neg (fun q => c q.1)]
      refine ⟨[Ob.dic named], ?_⟩
      have c' : ¬ (rest.length : Int) = (k : Int) := by omega
      simp [dn, inD, ixD, hB', c']
  | none =>
    rw [an] at inD ixD
    show ∃ t, _ = Rs.rt (if wd = PUT then putD rest else if wd = MEND ∨ wd = MOVE then planD wd rest else .non) (H ++ t)
    by_cases c2 : wd = PUT
    · rw [if_pos c2]
      have c2' : wd = [112, 117, 116] := c2
      subst c2'
      match rest with
      | [] => exact ⟨[Ob.dic named], by simp [dn, inD, hB', putD]⟩
      | x :: ps =>
        rw [putD_cons]
        have sl := slc_ref hB' (some ((1 : Nat) : Int)) none
        rw [cut_from] at sl
        have sl' : slcV (H ++ [Ob.dic named]) (.ref B) (some 1) none = .ok (.ref (H ++ [Ob.dic named]).length) (H ++ [Ob.dic named] ++ [Ob.lst (ps.map W.str)]) := sl
        have ti := tuple_of (w := .ref (H.length + 1)) (h := H ++ [Ob.dic named, Ob.lst (ps.map W.str)]) (ws := ps.map W.str) (by simp)
        simp at sl'
        by_cases c3 : 1 ≤ ps.length
        · by_cases c4 : ps.length ≤ 3
          · rw [if_pos ⟨c3, c4, hn⟩]
            have d3 : (1 : Int) < (ps.length : Int) + 1 := by omega
            have d4 : (ps.length : Int) + 1 < 5 := by omega
            exact ⟨[Ob.dic named, Ob.lst (ps.map W.str)], by simp [dn, inD, hB', d3, d4, atI_zero, sl', ti, PUT]⟩
          · rw [if_neg (fun q => c4 q.2.1)]
            have d3 : (1 : Int) < (ps.length : Int) + 1 := by omega
            have d4 : ¬ (ps.length : Int) + 1 < 5 := by omega
            exact ⟨[Ob.dic named], by simp [dn, inD, hB', d3, d4]⟩
        · rw [if_neg (fun q => c3 q.1)]
          have d3 : ¬ (1 : Int) < (ps.length : Int) + 1 := by omega
          exact ⟨[Ob.dic named], by simp [dn, inD, hB', d3]⟩
    · have c2' : ¬ wd = [112, 117, 116] := c2
      rw [if_neg c2]
      by_cases c3 : wd = MEND ∨ wd = MOVE
      · rw [if_pos c3]
        have c3' : (decide (([109, 101, 110, 100] : Tx) = wd) || decide (([109, 111, 118, 101] : Tx) = wd)) = true := by
          rcases c3 with q | q
          · rw [show wd = [109, 101, 110, 100] from q]; decide
          · rw [show wd = [109, 111, 118, 101] from q]; decide
        obtain ⟨a, ha⟩ : ∃ a : Nat, a = (if wd = MEND then 2 else 0) := ⟨_, rfl⟩
        have ei : (if wd = [109, 101, 110, 100] then W.int 2 else W.int 0) = W.int (a : Int) := by
          have ha' : a = (if wd = [109, 101, 110, 100] then 2 else 0) := ha
          by_cases q : wd = [109, 101, 110, 100]
          · rw [if_pos q] at ha' ⊢; rw [ha']; rfl
          · rw [if_neg q] at ha' ⊢; rw [ha']; rfl
        have ea : ∀ fr h, fr[5]? = some (some (W.str wd)) → ev (clOf Pr wf n) (E.ite (E.cmp Co.eq (E.var 5) (E.con (W.str [109, 101, 110, 100]))) (E.con (W.int 2)) (E.con (W.int 0))) fr h = .ok (.int (a : Int)) h := by
          intro fr h hf
          rw [← ei]
          by_cases q : wd = [109, 101, 110, 100]
          · simp [hf, q]
          · simp [hf, q]
        have pd : planD wd rest = if a ≤ rest.length ∧ (rest.length - a) % 2 = 0 ∧ rest.all nameT = true then
          .tup (.str wd :: ((rest.take a).map W.str ++ [.tup (pairL (rest.drop a))])) else .non := by
          rw [ha]; rfl
        rw [pd]
        have pl : ∃ t, ex (clOf Pr wf n) wf planB [some (.str s), some (.ref A), some (.ref H.length), none, none, some (.str wd), some (.ref B), none, none, none, none, none] (H ++ [Ob.dic named]) = .rt (if a ≤ rest.length ∧ (rest.length - a) % 2 = 0 ∧ rest.all nameT = true then
          .tup (.str wd :: ((rest.take a).map W.str ++ [.tup (pairL (rest.drop a))])) else .non) (H ++ Ob.dic named :: t) := by
          unfold planB
          simp only [ex_seq, ex_asg]
          rw [ea _ _ rfl]
          by_cases d1 : a ≤ rest.length
          · have d1' : ¬ (rest.length : Int) < (a : Int) := by omega
            have md : ∀ h, binV .mod (.int ((rest.length : Int) - (a : Int))) (.int 2) h = .ok (.int (((rest.length : Int) - (a : Int)) % 2)) h := fun _ => rfl
            by_cases d2 : (rest.length - a) % 2 = 0
            · have d2' : ¬ ((rest.length : Int) - (a : Int)) % 2 = 1 := by omega
              rw [if_pos ⟨d1, d2, hn⟩]
              have ht : rest.take a ++ rest.drop a = rest := List.take_append_drop a rest
              have pc := pairs_comp (c := clOf Pr wf n) (fr := [some (.str s), some (.ref A), some (.ref H.length), some (.int (a : Int)), none, some (.str wd), some (.ref B), none, none, none, none, none]) (h := H ++ [Ob.dic named]) (w := .ref B) (l := rest.drop a) (own := [10]) (g := .nm 10) (lo := a) (k := 0)
                (es := Es.cons (E.var 3) (Es.cons (E.bi Bi.len (Es.cons (E.var 6) Es.nil)) (Es.cons (E.con (W.int 2)) Es.nil)))
                (e := E.tup (Es.cons (E.idx (E.var 6) (E.var 10)) (Es.cons (E.idx (E.var 6) (E.bin Bo.add (E.var 10) (E.con (W.int 1)))) Es.nil)))
                (by simp [hB']; omega) (by simp; omega) (by simp; omega) (rest.take a) (by simp; omega) (fun i x y h1 h2 => ⟨_, rfl, by
                  rw [ht] at h1 h2
                  have ix : ∀ i, idxV (H ++ [Ob.dic named]) (.ref B) (.int i) = atI (rest.map W.str) i := fun i => idxV_lst _ i hB'
                  simp [ix, h1, h2]⟩)
              have tp := tuple_of (w := .ref (H ++ [Ob.dic named]).length) (ws := pairL (rest.drop a)) (h := H ++ [Ob.dic named] ++ [Ob.lst (pairL (rest.drop a))]) (by rw [items_ref, get_new])
              have hB2 := get_app [Ob.lst (pairL (rest.drop a))] hB'
              have sl := slc_ref hB2 none (some (a : Int))
              rw [cut_to, ← List.map_take] at sl
              have ti := tuple_of (w := .ref (H ++ [Ob.dic named] ++ [Ob.lst (pairL (rest.drop a))]).length) (h := H ++ [Ob.dic named] ++ [Ob.lst (pairL (rest.drop a))] ++ [Ob.lst ((rest.take a).map W.str)]) (ws := (rest.take a).map W.str) (by rw [items_ref, get_new])
              generalize rest.drop a = dr at pc tp sl ti ⊢
              have tl : (rest.take a).length ≤ rest.length := by simp; omega
              generalize rest.take a = tk at sl ti tl ⊢
              have l1 : 1 + tk.length ≤ lineW := by omega
              have l2 : tk.length + 1 + 1 ≤ lineW := by omega
              simp at pc tp sl ti
              refine ⟨[Ob.lst (pairL dr), Ob.lst (tk.map W.str)], ?_⟩
              simp [hB', c3', d1', d2', pc, tp, sl, ti, l1, l2]
            · have d2' : ((rest.length : Int) - (a : Int)) % 2 = 1 := by omega
              rw [if_neg (fun q => d2 q.2.1)]
              exact ⟨[], by simp [hB', c3', d1', d2']⟩
          · have d1' : (rest.length : Int) < (a : Int) := by omega
            rw [if_neg (fun q => d1 q.1)]
            exact ⟨[], by simp [hB', c3', d1']⟩
        obtain ⟨t, pl⟩ := pl
        refine ⟨Ob.dic named :: t, ?_⟩
        simp [dn, inD, c2', pl]
      · rw [if_neg c3]
        have c3' : (decide (([109, 101, 110, 100] : Tx) = wd) || decide (([109, 111, 118, 101] : Tx) = wd)) = false := by
          rw [decide_eq_false (fun q => c3 (.inl q.symm)), decide_eq_false (fun q => c3 (.inr q.symm))]; rfl
        have c4 : ¬ wd = [109, 101, 110, 100] := fun q => c3 (.inl q)
        exact ⟨[Ob.dic named], by simp [dn, inD, c2', planB, c3', c4]⟩
end K74P
end
section
set_option Elab.async false
set_option linter.all false
set_option maxRecDepth 100000
set_option maxHeartbeats 0
/-! k74: _law_mread is line_in. -/
namespace K74P
open K74 hiding R
open Mi
theorem split_mem {c : Nat} : ∀ (s acc : Tx), ∀ w ∈ splitC c acc s, ∀ d ∈ w, d ∈ acc ∨ d ∈ s
  | [], acc, w, h, d, hd => by
    simp only [splitC, List.mem_singleton] at h
    subst h; exact .inl hd
  | x :: r, acc, w, h, d, hd => by
    unfold splitC at h
    split at h
    · rcases List.mem_cons.mp h with rfl | h
      · exact .inl hd
      · rcases split_mem r [] w h d hd with q | q
        · simp at q
        · exact .inr (by simp [q])
    · rcases split_mem r (acc ++ [x]) w h d hd with q | q
      · rcases List.mem_append.mp q with q | q
        · exact .inl q
        · exact .inr (by simp at q; simp [q])
      · exact .inr (by simp [q])
theorem split_sum {c : Nat} : ∀ (s acc : Tx), ((splitC c acc s).map (fun t : Tx => t.length)).sum ≤ acc.length + s.length
  | [], acc => by simp [splitC]
  | x :: r, acc => by
    unfold splitC
    split
    · have := split_sum (c := c) r []
      simp at this ⊢; omega
    · have := split_sum (c := c) r (acc ++ [x])
      simp at this ⊢; omega
theorem lineD_bad {wd : Tx} {rest : List Tx} (h1 : wd ≠ TAKE) (hn : rest.all nameT = false) : lineD (wd :: rest) = .non := by
  rw [lineD_cons, if_neg h1]
  cases an : arN wd with
  | some k =>
    show (if rest.length = k ∧ rest.all nameT = true then W.tup (.str wd :: rest.map W.str) else .non) = .non
    rw [hn, if_neg (by simp)]
  | none =>
    show (if wd = PUT then putD rest else if wd = MEND ∨ wd = MOVE then planD wd rest else .non) = .non
    split
    · cases rest with
      | nil => rfl
      | cons a ps => rw [putD_cons, hn, if_neg (by simp)]
    · split
      · unfold planD
        rw [hn, if_neg (by simp)]
      · rfl
theorem mread_ok (n : Nat) {s : Tx} {h : Hs} (hs : s.length + 10 ≤ lineW) (hc : sgn s) : lev Pr wf (n + 2) 27 [.str s] h = .ok (lineT s) h := by
  rw [L27, if_pos (show [W.str s].length = 1 from rfl), b27_eq]
  have sp := split_ok (s := s) (c := 32) (h := h) (by omega) (by decide)
  have sl := split_len 32 s []
  have sw : ∀ w ∈ splitC 32 [] s, w.length + 2 ≤ lineW := fun w hw => by
    have := split_piece 32 s [] w hw
    simp at this; omega
  have sg : ∀ w ∈ splitC 32 [] s, sgn w := fun w hw d hd => by
    rcases split_mem s [] w hw d hd with q | q
    · simp at q
    · exact hc d q
  have ss := split_sum (c := 32) s []
  have sn := split_ne 32 s []
  unfold lineT
  generalize splitC 32 [] s = ws at sp sl sw sn sg ss
  cases ws with
  | nil => exact absurd rfl sn
  | cons wd rest =>
    have hA : (h ++ [Ob.lst ((wd :: rest).map W.str)])[h.length]? = some (Ob.lst ((wd :: rest).map W.str)) := by simp
    have slc := slc_ref hA (some ((1 : Nat) : Int)) none
    rw [cut_from] at slc
    have slc' : slcV (h ++ [Ob.lst ((wd :: rest).map W.str)]) (.ref h.length) (some 1) none = .ok (.ref (h.length + 1)) (h ++ [Ob.lst ((wd :: rest).map W.str), Ob.lst (rest.map W.str)]) := by
      have q := slc
      simp at q
      simpa using q
    have und : ∀ m, (lineD (wd :: rest)).under m = true := fun m => by
      rcases lineD_cases (wd :: rest) with q | ⟨d, _, q⟩
      · rw [q]; rfl
      · rw [q]; exact w_under m
    have hl2 : rest.length + 4 ≤ lineW := by simp at sl; omega
    simp only [List.map_cons] at slc' hA
    by_cases c1 : wd = TAKE
    · have c1' : wd = [116, 97, 107, 101] := c1
      have ld : lineD (wd :: rest) = takeD rest := by rw [lineD_cons, if_pos c1]
      have tk : ∃ t, ex (clOf Pr wf (n + 1)) wf takeB [some (.str s), some (.ref h.length), none, none, none, some (.str wd), some (.ref (h.length + 1)), none, none, none, none, none] (h ++ [Ob.lst (.str wd :: rest.map W.str), Ob.lst (rest.map W.str)]) = .rt (lineD (wd :: rest)) (h ++ t) := by
        rw [ld]
        by_cases hr : rest.length = 1
        · match rest, hr with
          | [x], _ =>
            obtain ⟨t, e⟩ := take_two (n + 1) (H := h ++ [Ob.lst [.str wd, .str x], Ob.lst [.str x]]) (s := s) (wd := wd) (x := x) (A := h.length) (B := h.length + 1) (by simp) (sw x (by simp)) (sg x (by simp))
            exact ⟨_, by rw [List.append_assoc] at e; exact e⟩
        · rw [takeD_other hr]
          obtain ⟨t, e⟩ := take_other (n + 1) (H := h ++ [Ob.lst (.str wd :: rest.map W.str), Ob.lst (rest.map W.str)]) (s := s) (wd := wd) (rest := rest) (A := h.length) (B := h.length + 1) (by simp) (by simp at ss ⊢; omega) hr
          exact ⟨_, by rw [List.append_assoc] at e; exact e⟩
      obtain ⟨t, tk⟩ := tk
      subst c1'
      simp [Me.tys, sp, atI_zero, slc', tk]
      exact gc_same (und _)
    · have c1' : ¬ wd = [116, 97, 107, 101] := c1
      have hit : ev (clOf Pr wf (n + 1)) (.var 6) [some (.str s), some (.ref h.length), none, none, none, some (.str wd), some (.ref (h.length + 1)), none, none, none, none, none] (h ++ [Ob.lst (.str wd :: rest.map W.str), Ob.lst (rest.map W.str)]) = .ok (.ref (h.length + 1)) (h ++ [Ob.lst (.str wd :: rest.map W.str), Ob.lst (rest.map W.str)]) := rfl
      obtain ⟨o, al⟩ := all_items (c := clOf Pr wf (n + 1)) (fr := [some (.str s), some (.ref h.length), none, none, none, some (.str wd), some (.ref (h.length + 1)), none, none, none, none, none]) (h := h ++ [Ob.lst (.str wd :: rest.map W.str), Ob.lst (rest.map W.str)]) (own := [11]) (g := .nm 11) (e := E.call 26 (Es.cons (E.var 11) Es.nil)) (it := .var 6) (ws := rest.map W.str) nameV hit (by simp) (view_strs 0 fun t ht => by have := sw t (by simp [ht]); omega) (by simp; omega) (fun x v hx hv => by
        obtain ⟨t, ht, rfl⟩ := List.mem_map.mp hx
        have mn := mis_name_ok n (s := t) (h := h ++ [Ob.lst (.str wd :: rest.map W.str), Ob.lst (rest.map W.str)]) (by have := sw t (by simp [ht]); omega) (sg t (by simp [ht]))
        have hv' : viewF 0 (h ++ [Ob.lst (.str wd :: rest.map W.str), Ob.lst (rest.map W.str)]) (.str t) = some (.str t) := if_pos (by have := sw t (by simp [ht]); omega)
        rw [hv'] at hv
        cases hv
        exact ⟨_, rfl, by simp [mn, nameV]⟩)
      rw [nameV_strs] at al
      cases hn : rest.all nameT with
      | false =>
        rw [hn] at al
        rw [lineD_bad c1 hn]
        simp only [List.append_assoc, List.cons_append, List.nil_append] at al
        simp [Me.tys, sp, atI_zero, slc', c1', restB, al]
        exact gc_same (by rfl)
      | true =>
        rw [hn] at al
        obtain ⟨t, mo⟩ := many_ok (n + 1) (H := h ++ [Ob.lst (.str wd :: rest.map W.str), Ob.lst (rest.map W.str), o]) (s := s) (wd := wd) (rest := rest) (A := h.length) (B := h.length + 1) (by simp) (by simp) hl2 c1 hn
        simp only [List.append_assoc, List.cons_append, List.nil_append] at al mo
        simp [Me.tys, sp, atI_zero, slc', c1', restB, al, mo]
        exact gc_same (und _)
end K74P
end
section
set_option Elab.async false
set_option linter.all false
set_option maxRecDepth 100000
set_option maxHeartbeats 4000000
/-! Plain part: draws by the heap a :: b :: t. -/
namespace Mi
def St2 (N : Nat) (a b : Ob) : Prop := St N [a, b]
theorem St.two {N : Nat} {s : Hs} (h : St N s) : ∃ a b, s = [a, b] ∧ St2 N a b := by
  have h' := h
  obtain ⟨l, a, b, c, rfl, _⟩ := h
  exact ⟨_, _, rfl, h'⟩
theorem St2.mono {N M : Nat} {a b : Ob} (h : St2 N a b) (hM : M ≤ N) : St2 M a b := St.mono h hM
theorem HOk.swap2 {N M : Nat} {a b a' b' : Ob} {t : Hs} (h1 : St2 N a b) (h2 : St2 M a' b') (hh : HOk (a :: b :: t)) : HOk (a' :: b' :: t) := HOk.swap (s := [a, b]) (s' := [a', b']) h1 h2 hh
theorem HOk.snoc2 {a b : Ob} {t : Hs} {o : Ob} (hh : HOk (a :: b :: t)) (ho : o.under (t.length + 3) = true) : HOk (a :: b :: (t ++ [o])) := HOk.snoc (h := a :: b :: t) hh (by simpa using ho)
theorem gc_draw2 {N M : Nat} {a b a' b' : Ob} {t j : Hs} {w : W} (h1 : St2 N a b) (h2 : St2 M a' b') (hh : HOk (a :: b :: t)) (hw : w.under (t.length + 2) = true) : gc (a :: b :: t) w (a' :: b' :: (t ++ j)) = .ok w (a' :: b' :: t) := gc_draw (s := [a, b]) (s' := [a', b']) (j := j) h1 h2 hh (by simpa using hw)
theorem gc_drawN2 {N M : Nat} {a b a' b' : Ob} {t j : Hs} {k : Nat} {o : Ob} (h1 : St2 N a b) (h2 : St2 M a' b') (hh : HOk (a :: b :: t)) (hk : j[k]? = some o) (ho : o.under (t.length + 2) = true) : gc (a :: b :: t) (.ref (t.length + k + 1 + 1)) (a' :: b' :: (t ++ j)) = .ok (.ref (t.length + 1 + 1)) (a' :: b' :: (t ++ [o])) := by
  have q := gc_drawN (s := [a, b]) (s' := [a', b']) (j := j) h1 h2 hh hk (by simpa using ho)
  have e1 : ([a, b] ++ t).length + k = t.length + k + 1 + 1 := by simp; omega
  have e2 : ([a, b] ++ t).length = t.length + 1 + 1 := by simp
  rw [e1, e2] at q
  simpa using q
theorem below2 {P : Prog} {wf : Nat} (hwf : 64 ≤ wf) {f : Nat} (hf : P.fns f = some ⟨2, 5, belowB⟩) (n : Nat) {N m : Nat} {a b : Ob} {t : Hs} (hs : St2 (N + 1) a b) (hh : HOk (a :: b :: t)) (hm : 0 < m) (hm2 : m < 2 ^ 60) : ∃ (a' b' : Ob) (i : Nat), St2 N a' b' ∧ i < m ∧ lev P wf (n + 1) f [.ref 1, .int (m : Int)] (a :: b :: t) = .ok (.int (i : Int)) (a' :: b' :: t) := by
  obtain ⟨s', i, h1, h2, h3⟩ := below_ok hwf hf n (s := [a, b]) hs hh hm hm2
  obtain ⟨a', b', rfl, h4⟩ := h1.two
  exact ⟨a', b', i, h4, h2, h3⟩
def pickB (nb : Nat) : S := S.seq
    (S.ret (E.idx (E.var 1) (E.call nb (Es.cons (E.var 0) (Es.cons (E.bi Bi.len (Es.cons (E.var 1) Es.nil)) Es.nil)))))
    S.skip
theorem lev_fn {P : Prog} {wf n f : Nat} {d : Def} (hf : P.fns f = some d) {ws : List W} {h : Hs} (hl : ws.length = d.arity) : lev P wf (n + 1) f ws h = endOf h (ex (clOf P wf n) wf d.body (startFr d.slots ws) h) := by
  show (match P.fns f with
      | some d => if ws.length = d.arity then endOf h (ex (clOf P wf n) wf d.body (startFr d.slots ws) h) else .stk
      | none => .stk) = _
  rw [hf]
  exact if_pos hl
theorem cl_call' (P : Prog) (wf n f : Nat) (ws : List W) (h : Hs) : (clOf P wf n).call f ws h = lev P wf n f ws h := rfl
theorem pick2 {P : Prog} {wf : Nat} (hwf : 64 ≤ wf) {f fp : Nat} (hf : P.fns f = some ⟨2, 5, belowB⟩) (hp : P.fns fp = some ⟨2, 2, pickB f⟩) (n : Nat) {N : Nat} {a b : Ob} {t : Hs} {w : W} {ws : List W} (hs : St2 (N + 1) a b) (hh : HOk (a :: b :: t)) (hi : ∀ a b, items (a :: b :: t) w = some ws) (hne : ws ≠ []) (hl : ws.length ≤ lineW) (hu : ∀ x ∈ ws, x.under (t.length + 2) = true) : ∃ (a' b' : Ob) (x : W), St2 N a' b' ∧ x ∈ ws ∧ lev P wf (n + 2) fp [.ref 1, w] (a :: b :: t) = .ok x (a' :: b' :: t) := by
  have lp : 0 < ws.length := List.length_pos_iff.mpr hne
  have lw : lineW = 16777216 := rfl
  obtain ⟨a', b', i, h1, h2, h3⟩ := below2 hwf hf n hs hh lp (by omega)
  refine ⟨a', b', ws[i], h1, List.getElem_mem h2, ?_⟩
  rw [lev_fn hp rfl]
  have ix := items_idx (hi a' b') (i : Int)
  rw [atI_nat, List.getElem?_eq_getElem h2] at ix
  have ln := items_len (hi a b)
  simp [pickB, cl_call', ln, h3, ix]
  have q := gc_draw2 (j := []) hs h1 hh (hu _ (List.getElem_mem h2))
  rwa [List.append_nil] at q
/-- turns that draw, the heap behind the stream as it is -/
theorem compL_draw {f : W → Hs → R (Option W)} {g : Hs → Bool} {t : Hs} {Q : W → Prop} {c : Nat} (hg : ∀ a b, g (a :: b :: t) = true)
    (hf : ∀ w N a b, St2 (N + c) a b → HOk (a :: b :: t) → ∃ a' b' x, St2 N a' b' ∧ Q x ∧ f w (a :: b :: t) = .ok (some x) (a' :: b' :: t)) : ∀ (ws acc : List W) (N : Nat) (a b : Ob), St2 (N + c * ws.length) a b → HOk (a :: b :: t) → acc.length + ws.length ≤ lineW → (∀ x ∈ acc, Q x) →
    ∃ a' b' xs, St2 N a' b' ∧ compL f g ws acc (a :: b :: t) = .ok xs (a' :: b' :: t) ∧ xs.length = acc.length + ws.length ∧ ∀ x ∈ xs, Q x
  | [], acc, N, a, b, hs, hh, _, hq => ⟨a, b, acc, hs, by unfold compL; rw [if_pos (hg a b)], by simp, hq⟩
  | w :: r, acc, N, a, b, hs, hh, hl, hq => by
    have hl' : acc.length + (r.length + 1) ≤ lineW := hl
    obtain ⟨a', b', x, h1, h2, h3⟩ := hf w (N + c * r.length) a b (by
      have e : N + c * (w :: r).length = N + c * r.length + c := by simp [Nat.mul_add]; omega
      rwa [e] at hs) hh
    obtain ⟨a2, b2, xs, k1, k2, k3, k4⟩ := compL_draw hg hf r (acc ++ [x]) N a' b' h1 (HOk.swap2 hs h1 hh) (by simp; omega) (fun y hy => by
      rcases List.mem_append.mp hy with hy | hy
      · exact hq y hy
      · rw [List.mem_singleton.mp hy]; exact h2)
    refine ⟨a2, b2, xs, k1, ?_, by simp at k3 ⊢; omega, k4⟩
    unfold compL
    rw [if_pos (hg a b), h3]
    show (if acc.length < lineW then compL f g r (acc ++ [x]) (a' :: b' :: t) else .stk) = _
    rw [if_pos (by omega)]
    exact k2
def compF (c : Cl) (fr : Fr) (own : List Nat) (g : Tg) (ifs : Es) (e : E) : W → Hs → R (Option W) := fun w h => match bindTg g w (wipe fr own) with
      | some fr2 => (evifs c ifs fr2 h (fun h => (ev c e fr2 h))).calm
      | none => .stk
theorem ev_compF (c : Cl) (fr : Fr) (h : Hs) (own : List Nat) (g : Tg) (it : It) (ifs : Es) (e : E) : ev c (.comp own g it ifs e) fr h = (evi c it fr h).bind fun ws h => (compL (compF c fr own g ifs e) ws.2 ws.1 [] h).bind fun acc h => new (Ob.lst acc) h := rfl
@[simp] theorem compF_eq (c : Cl) (fr : Fr) (own : List Nat) (g : Tg) (ifs : Es) (e : E) (w : W) (h : Hs) : compF c fr own g ifs e w h = match bindTg g w (wipe fr own) with
      | some fr2 => (evifs c ifs fr2 h (fun h => (ev c e fr2 h))).calm
      | none => .stk := rfl
end Mi
end
section
set_option Elab.async false
set_option linter.all false
set_option maxRecDepth 100000
set_option maxHeartbeats 0
/-! k74: drawn names. -/
namespace K74P
open K74 hiding R
open Mi
theorem fb : Pr.fns 16 = some ⟨2, 5, belowB⟩ := by
  rw [show belowB = b16 from rfl, ← e16]; rfl
theorem fp : Pr.fns 17 = some ⟨2, 2, pickB 16⟩ := by
  rw [show pickB 16 = b17 from rfl, ← e17]; rfl
theorem bel (n : Nat) {N : Nat} (m : Nat) {a b : Ob} {t : Hs} (hs : St2 (N + 1) a b) (hh : HOk (a :: b :: t)) (hm : 0 < m) (hm2 : m < 2 ^ 60) : ∃ (a' b' : Ob) (i : Nat), St2 N a' b' ∧ HOk (a' :: b' :: t) ∧ i < m ∧ lev Pr wf (n + 1) 16 [.ref 1, .int (m : Int)] (a :: b :: t) = .ok (.int (i : Int)) (a' :: b' :: t) := by
  obtain ⟨a', b', i, h1, h2, h3⟩ := below2 (wf := wf) (by decide) fb n hs hh hm hm2
  exact ⟨a', b', i, h1, HOk.swap2 hs h1 hh, h2, h3⟩
theorem pik (n : Nat) {N : Nat} {a b : Ob} {t : Hs} {w : W} {ws : List W} (hs : St2 (N + 1) a b) (hh : HOk (a :: b :: t)) (hi : ∀ a b, items (a :: b :: t) w = some ws) (hne : ws ≠ []) (hl : ws.length ≤ lineW) (hu : ∀ x ∈ ws, x.under (t.length + 2) = true) : ∃ (a' b' : Ob) (x : W), St2 N a' b' ∧ HOk (a' :: b' :: t) ∧ x ∈ ws ∧ lev Pr wf (n + 2) 17 [.ref 1, w] (a :: b :: t) = .ok x (a' :: b' :: t) := by
  obtain ⟨a', b', x, h1, h2, h3⟩ := pick2 (wf := wf) (by decide) fb fp n hs hh hi hne hl hu
  exact ⟨a', b', x, h1, HOk.swap2 hs h1 hh, h2, h3⟩
theorem sign_at {i : Nat} (h : i < 36) : ∃ c, atI SIGNS (i : Int) = some c ∧ has SIGNS c = true ∧ (i < 26 → has SMALL c = true) := by
  have hl : SIGNS.length = 36 := by decide
  have hi : i < SIGNS.length := by omega
  refine ⟨SIGNS[i], by rw [atI_nat, List.getElem?_eq_getElem hi], ?_, ?_⟩
  · exact List.contains_iff_mem.mpr (List.getElem_mem hi)
  · intro h26
    have q : ∀ k : Nat, k < 26 → has SMALL (SIGNS.getD k 0) = true := by decide
    have := q i h26
    rwa [List.getD_eq_getElem?_getD, List.getElem?_eq_getElem hi] at this
def nmB : S := (S.seq
            (S.asg (Tg.nm 2)
              (E.bin Bo.add (E.var 2)
                (E.idx (E.var 1) (E.call 16 (Es.cons (E.var 0) (Es.cons (E.con (W.int 36)) Es.nil))))))
            S.skip)
def nameI (s : Tx) : Prop := 1 ≤ s.length ∧ has SMALL (s.headD 0) = true ∧ (s.all fun c => has SIGNS c) = true
theorem nm_loop (n : Nat) {t : Hs} {g : Hs → Bool} (hg : ∀ h, g h = true) : ∀ (ws : List W) (N : Nat) (s : Tx) (x : Option W) (a b : Ob), St2 (N + ws.length) a b → HOk (a :: b :: t) → nameI s → s.length + ws.length ≤ 8 →
    ∃ a' b' s' x', St2 N a' b' ∧ HOk (a' :: b' :: t) ∧ nameI s' ∧ s'.length ≤ 8 ∧ forL (forB (clOf Pr wf (n + 1)) wf (.nm 3) nmB) g ws [some (.ref 1), some (.str SIGNS), some (.str s), x] (a :: b :: t) = .nx [some (.ref 1), some (.str SIGNS), some (.str s'), x'] (a' :: b' :: t)
  | [], N, s, x, a, b, hs, hh, hi, hl => ⟨a, b, s, x, hs, hh, hi, by simpa using hl, by rw [forL_nil (hg _)]⟩
  | w :: r, N, s, x, a, b, hs, hh, hi, hl => by
    obtain ⟨a1, b1, i, h1, h2, h3, h4⟩ := bel n 36 (N := N + r.length) hs hh (by decide) (by decide)
    have h4' : lev Pr wf (n + 1) 16 [.ref 1, .int 36] (a :: b :: t) = .ok (.int (i : Int)) (a1 :: b1 :: t) := h4
    obtain ⟨c, e1, e2, _⟩ := sign_at h3
    have hl' : s.length + (r.length + 1) ≤ 8 := hl
    have hi2 : nameI (s ++ [c]) := by
      refine ⟨by simp, ?_, by rw [List.all_append, hi.2.2]; simp [e2]⟩
      have := hi.2.1
      cases s with
      | nil => have := hi.1; simp at this
      | cons a r => exact this
    obtain ⟨a', b', s', x', k1, k2, k3, k4, k5⟩ := nm_loop n hg r N (s ++ [c]) (some w) a1 b1 h1 h2 hi2 (by simp; omega)
    refine ⟨a', b', s', x', k1, k2, k3, k4, ?_⟩
    have lw : (100 : Nat) ≤ lineW := by decide
    have sl : SIGNS.length ≤ lineW := by decide
    have l1 : List.length s + 1 ≤ lineW := by omega
    have st : forB (clOf Pr wf (n + 1)) wf (.nm 3) nmB w [some (.ref 1), some (.str SIGNS), some (.str s), x] (a :: b :: t) = .nx [some (.ref 1), some (.str SIGNS), some (.str (s ++ [c])), some w] (a1 :: b1 :: t) := by
      simp [nmB, h4', sl, e1, l1]
    rw [forL_cons (hg _), st]
    exact k5
theorem nameI_T {s : Tx} (h : nameI s) (hl : s.length ≤ 8) : nameT s = true := by
  unfold nameT
  simp only [Bool.and_eq_true, decide_eq_true_eq]
  exact ⟨h.1, hl, h.2.1, h.2.2⟩
theorem b13_eq : b13 = S.seq
    (S.asg (Tg.nm 1)
      (E.con
        (W.str
          SIGNS)))
    (S.seq
      (S.asg (Tg.nm 2) (E.idx (E.var 1) (E.call 16 (Es.cons (E.var 0) (Es.cons (E.con (W.int 26)) Es.nil)))))
      (S.seq
        (S.for (Tg.nm 3)
          (It.rng
            (Es.cons
              (E.call 17
                (Es.cons (E.var 0)
                  (Es.cons
                    (E.lst
                      (Es.cons (E.con (W.int 0))
                        (Es.cons (E.con (W.int 0))
                          (Es.cons (E.con (W.int 1))
                            (Es.cons (E.con (W.int 1))
                              (Es.cons (E.con (W.int 2))
                                (Es.cons (E.con (W.int 3))
                                  (Es.cons (E.con (W.int 4))
                                    (Es.cons (E.con (W.int 5))
                                      (Es.cons (E.con (W.int 6))
                                        (Es.cons (E.con (W.int 7)) Es.nil)))))))))))
                    Es.nil)))
              Es.nil))
          nmB)
        (S.seq (S.ret (E.var 2)) S.skip))) := rfl
def nums7 : List W := [.int 0, .int 0, .int 1, .int 1, .int 2, .int 3, .int 4, .int 5, .int 6, .int 7]
theorem nums7_le {x : W} (h : x ∈ nums7) : ∃ k : Nat, k ≤ 7 ∧ x = .int (k : Int) := by
  simp only [nums7, List.mem_cons, List.not_mem_nil, or_false] at h
  rcases h with rfl | rfl | rfl | rfl | rfl | rfl | rfl | rfl | rfl | rfl
  · exact ⟨0, by decide, rfl⟩
  · exact ⟨0, by decide, rfl⟩
  · exact ⟨1, by decide, rfl⟩
  · exact ⟨1, by decide, rfl⟩
  · exact ⟨2, by decide, rfl⟩
  · exact ⟨3, by decide, rfl⟩
  · exact ⟨4, by decide, rfl⟩
  · exact ⟨5, by decide, rfl⟩
  · exact ⟨6, by decide, rfl⟩
  · exact ⟨7, by decide, rfl⟩
theorem rng_ok {c : Cl} {fr : Fr} {h h' : Hs} {es : Es} {k : Nat} (he : evs c es fr h = .ok [.int (k : Int)] h') (hk : k ≤ 1000000) : evi c (.rng es) fr h = .ok (rangeL 0 1 k, fun _ => true) h' := by
  have p62 : (2 : Int) ^ 62 = 4611686018427387904 := by decide
  rw [evi_rng, he, R.bind_ok]
  have e : (if -(2 ^ 62) ≤ (k : Int) ∧ (k : Int) < 2 ^ 62 then (.ok (rangeL 0 1 (k : Int).toNat, fun _ => true) h' : R (List W × (Hs → Bool))) else .stk) = .ok (rangeL 0 1 k, fun _ => true) h' := by
    rw [Int.toNat_natCast]
    exact if_pos ⟨by omega, by omega⟩
  exact e
theorem mname_ok (n : Nat) {N : Nat} {a b : Ob} {t : Hs} (hs : St2 (N + 9) a b) (hh : HOk (a :: b :: t)) : ∃ a' b' s, St2 N a' b' ∧ HOk (a' :: b' :: t) ∧ nameT s = true ∧ lev Pr wf (n + 3) 13 [.ref 1] (a :: b :: t) = .ok (.str s) (a' :: b' :: t) := by
  rw [L13, if_pos (show [W.ref 1].length = 1 from rfl), b13_eq]
  obtain ⟨a1, b1, i, h1, h2, h3, h4⟩ := bel (n + 1) 26 (N := N + 8) hs hh (by decide) (by decide)
  have h4' : lev Pr wf (n + 2) 16 [.ref 1, .int 26] (a :: b :: t) = .ok (.int (i : Int)) (a1 :: b1 :: t) := h4
  obtain ⟨c, e1, e2, e3⟩ := sign_at (i := i) (by omega)
  have hh2 : HOk (a1 :: b1 :: (t ++ [Ob.lst nums7])) := HOk.snoc2 h2 (by rfl)
  obtain ⟨a2, b2, x, k1, k2, k3, k4⟩ := pik n (N := N + 7) (w := .ref (t.length + 1 + 1)) (ws := nums7) h1 hh2 (fun a b => by simp) (by decide) (by decide) (fun x hx => by obtain ⟨k, _, rfl⟩ := nums7_le hx; rfl)
  obtain ⟨k, hk, rfl⟩ := nums7_le k3
  have hi : nameI [c] := ⟨by simp, e3 h3, by simp [e2]⟩
  obtain ⟨a3, b3, s, x', q1, q2, q3, q4, q5⟩ := nm_loop (n + 1) (g := fun _ => true) (fun _ => rfl) (t := t ++ [Ob.lst nums7]) (rangeL 0 1 k) (N + (7 - k)) [c] none a2 b2 (by rw [rangeL_length]; exact k1.mono (by omega)) k2 hi (by rw [rangeL_length]; simp; omega)
  have q1' := q1.mono (M := N) (by omega)
  refine ⟨a3, b3, s, q1', HOk.swap2 hs q1 hh, nameI_T q3 q4, ?_⟩
  have sl : SIGNS.length ≤ lineW := by decide
  have k4' := k4
  simp only [nums7] at k4'
  have ef : ∀ fr : Fr, fr = [some (.ref 1), some (.str SIGNS), some (.str [c]), none] → ex (clOf Pr wf (n + 2)) wf (S.for (Tg.nm 3)
          (It.rng
            (Es.cons
              (E.call 17
                (Es.cons (E.var 0)
                  (Es.cons
                    (E.lst
                      (Es.cons (E.con (W.int 0))
                        (Es.cons (E.con (W.int 0))
                          (Es.cons (E.con (W.int 1))
                            (Es.cons (E.con (W.int 1))
                              (Es.cons (E.con (W.int 2))
                                (Es.cons (E.con (W.int 3))
                                  (Es.cons (E.con (W.int 4))
                                    (Es.cons (E.con (W.int 5))
                                      (Es.cons (E.con (W.int 6))
                                        (Es.cons (E.con (W.int 7)) Es.nil)))))))))))
                    Es.nil)))
              Es.nil))
          nmB) fr (a1 :: b1 :: t) = .nx [some (.ref 1), some (.str SIGNS), some (.str s), x'] (a3 :: b3 :: (t ++ [Ob.lst nums7])) := by
    intro fr hfr
    subst hfr
    rw [ex_for_ok (rng_ok (k := k) (h' := a2 :: b2 :: (t ++ [Ob.lst nums7])) (by simp [new, k4', nums7]) (by omega))]
    exact q5
  simp [h4', sl, e1, ef _ rfl]
  exact gc_draw2 hs q1 hh (by rfl)
end K74P
end
section
set_option Elab.async false
set_option linter.all false
set_option maxRecDepth 100000
set_option maxHeartbeats 0
/-! k74: drawn lists of names. -/
namespace K74P
open K74 hiding R
open Mi
def VL : List Tx := (List.range 300).map fun k => 118 :: natTx k
def VW : List W := (rangeL 0 1 300).map fun w => match w with | .int i => .str (118 :: natTx i.toNat) | _ => .non
theorem VW_eq : VW = VL.map W.str := by decide +kernel
theorem VL_names : VL.all nameT = true := by decide +kernel
theorem VL_len : VL.length = 300 := by decide +kernel
theorem VL_three : [118, 48] ∈ VL ∧ [118, 49] ∈ VL ∧ [118, 50] ∈ VL := by decide +kernel
theorem mem_range : ∀ {n : Nat} {lo : Int} {w : W}, w ∈ rangeL lo 1 n → ∃ i : Int, w = .int i ∧ lo ≤ i ∧ i < lo + n
  | 0, lo, w, h => by simp [rangeL] at h
  | n + 1, lo, w, h => by
    rw [rangeL] at h
    rcases List.mem_cons.mp h with rfl | h
    · exact ⟨lo, rfl, by omega, by omega⟩
    · obtain ⟨i, rfl, h1, h2⟩ := mem_range h
      exact ⟨i, rfl, by omega, by omega⟩
theorem lt200' {i : Int} (h0 : 0 ≤ i) (hi : i ≤ 999999999) : 0 ≤ i ∧ i < 2 ^ 200 := ⟨h0, Int.lt_of_le_of_lt hi (by decide)⟩
theorem vs_comp {c : Cl} {fr : Fr} {h : Hs} (hv : 5 < fr.length) : ev c (E.comp [5] (Tg.nm 5) (It.rng (Es.cons (E.con (W.int 300)) Es.nil)) Es.nil
                (E.bin Bo.add (E.con (W.str [118])) (E.bi Bi.str (Es.cons (E.var 5) Es.nil)))) fr h = .ok (.ref h.length) (h ++ [Ob.lst (VL.map W.str)]) := by
  rw [ev_comp, rng_ok (k := 300) (h' := h) (by rfl) (by decide)]
  simp only [R.bind_ok]
  rw [compL_map (m := fun w => match w with | .int i => .str (118 :: natTx i.toNat) | _ => .non) rfl _ (fun w hw => ?_) (by rw [rangeL_length]; decide)]
  · rw [← VW_eq]; rfl
  · obtain ⟨i, rfl, h0, h1⟩ := mem_range hw
    have hi : i ≤ 999999999 := by omega
    have so : ∀ h, biV .str [.int i] h = .ok (.str (natTx i.toNat)) h := fun h => str_of0 h (lt200' h0 hi)
    have nl : (natTx i.toNat).length ≤ 9 := (natTx_len (by decide)).mpr (by omega)
    have lw : (100 : Nat) ≤ lineW := by decide
    have l1 : 1 + List.length (natTx i.toNat) ≤ lineW := by omega
    show _ = R.ok (some (W.str (118 :: natTx i.toNat))) h
    generalize natTx i.toNat = tz at so l1 ⊢
    simp [hv, so, l1]
theorem in_strs {h : Hs} {k : Nat} {L : List Tx} {x : Tx} (e : h[k]? = some (Ob.lst (L.map W.str))) : inV h (.str x) (.ref k) = some (L.contains x) := by
  have fl : ∀ L : List Tx, (L.map W.str).all flat = true := fun L => by
    rw [List.all_map, List.all_eq_true]; intro y _; rfl
  have an : ∀ L : List Tx, (L.map W.str).any (fun y => eqFl y (.str x)) = L.contains x := fun L => by
    induction L with
    | nil => rfl
    | cons a r ih =>
      rw [List.map_cons, List.any_cons, ih, List.contains_cons]
      congr 1
      show (a == x) = (x == a)
      exact Bool.beq_comm
  show (match h[k]? with
    | some (.dic kvs) => if keyOk (.str x) then some (dget kvs (.str x)).isSome else none
    | some (.lst _) => inSeq h (.str x) (.ref k)
    | _ => none) = _
  rw [e]
  show inSeq h (.str x) (.ref k) = _
  have i : items h (.ref k) = some (L.map W.str) := by simp [e]
  unfold inSeq
  rw [i]
  show (if flat (.str x) && (L.map W.str).all flat then some ((L.map W.str).any fun y => eqFl y (.str x)) else _) = _
  rw [fl, an]
  rfl
theorem free_comp {c : Cl} {fr : Fr} {h : Hs} {k m : Nat} {F L : List Tx} (h4 : fr[4]? = some (some (.ref k))) (h2 : (fr.set 6 none)[2]? = some (some (.ref m))) (hk : h[k]? = some (Ob.lst (F.map W.str))) (hm : h[m]? = some (Ob.lst (L.map W.str))) (hv : 6 < fr.length) (hl : F.length ≤ lineW) :
    ev c (E.comp [6] (Tg.nm 6) (It.val (E.var 4)) (Es.cons (E.cmp Co.notin (E.var 6) (E.var 2)) Es.nil)
                      (E.var 6)) fr h = .ok (.ref h.length) (h ++ [Ob.lst ((F.filter fun x => !L.contains x).map W.str)]) := by
  rw [ev_comp, evi_row (w := .ref k) (ws := F.map W.str) (h' := h) (by simp [h4]) (by simp [hk])]
  simp only [R.bind_ok]
  rw [compL_fm (m := fun w => match w with | .str x => if L.contains x then none else some (.str x) | _ => none) (still_self _ _) _ [] (fun w hw => ?_) (by simpa using hl)]
  · have : ∀ l : List Tx, (l.map W.str).filterMap (fun w => match w with | .str x => if L.contains x then none else some (W.str x) | _ => none) = (l.filter fun x => !L.contains x).map W.str := by
      intro l
      induction l with
      | nil => rfl
      | cons a r ih =>
        rw [List.map_cons, List.filterMap_cons, ih, List.filter_cons]
        cases q : L.contains a
        · have q' : a ∉ L := by simpa using q
          simp [q']
        · have q' : a ∈ L := by simpa using q
          simp [q']
    rw [this]
    simp [new]
  · obtain ⟨x, hx, rfl⟩ := List.mem_map.mp hw
    have ins := in_strs (x := x) hm
    have e2 : ((fr.set 6 none).set 6 (some (W.str x)))[2]? = some (some (.ref m)) := by
      rw [List.getElem?_set_ne (by decide)]; exact h2
    have e2' : (fr.set 6 (some (W.str x)))[2]? = some (some (.ref m)) := by simpa using e2
    cases q : L.contains x
    · rw [q] at ins
      have q' : x ∉ L := by simpa using q
      simp [hv, e2', ins, q']
    · rw [q] at ins
      have q' : x ∈ L := by simpa using q
      simp [hv, e2', ins, q']
theorem free_ne {s : Tx} {L : List Tx} (hs : nameT s = true) (hl : L.length ≤ 2) : ∃ y r, (s :: VL).filter (fun x => !L.contains x) = y :: r ∧ nameT y = true := by
  cases e : (s :: VL).filter (fun x => !L.contains x) with
  | cons y r =>
    refine ⟨y, r, rfl, ?_⟩
    have m : y ∈ (s :: VL).filter (fun x => !L.contains x) := by rw [e]; simp
    rcases List.mem_cons.mp (List.mem_filter.mp m).1 with rfl | q
    · exact hs
    · exact List.all_eq_true.mp VL_names y q
  | nil =>
    have all : ∀ x ∈ VL, x ∈ L := by
      intro x hx
      by_cases q : L.contains x = true
      · exact List.contains_iff_mem.mp q
      · have : x ∈ (s :: VL).filter (fun x => !L.contains x) := List.mem_filter.mpr ⟨by simp [hx], by simpa using q⟩
        rw [e] at this; simp at this
    have a1 := all _ VL_three.1
    have a2 := all _ VL_three.2.1
    have a3 := all _ VL_three.2.2
    match L, hl with
    | [], _ => simp at a1
    | [p], _ =>
      simp only [List.mem_singleton] at a1 a2
      rw [← a1] at a2; exact absurd a2 (by decide)
    | [p, q], _ =>
      simp only [List.mem_cons, List.not_mem_nil, or_false] at a1 a2 a3
      rcases a1 with rfl | rfl
      · rcases a2 with q1 | rfl
        · exact absurd q1 (by decide)
        · rcases a3 with q1 | q1 <;> exact absurd q1 (by decide)
      · rcases a2 with rfl | q1
        · rcases a3 with q1 | q1 <;> exact absurd q1 (by decide)
        · exact absurd q1 (by decide)
theorem mem_ins {x y : Tx} : ∀ {l : List Tx}, y ∈ insT x l → y = x ∨ y ∈ l
  | [], h => by simp [insT] at h; exact .inl h
  | a :: r, h => by
    unfold insT at h
    split at h
    · rcases List.mem_cons.mp h with rfl | h
      · exact .inr (by simp)
      · rcases mem_ins h with q | q
        · exact .inl q
        · exact .inr (by simp [q])
    · rcases List.mem_cons.mp h with rfl | h
      · exact .inl rfl
      · exact .inr h
theorem ins_len (x : Tx) : ∀ l : List Tx, (insT x l).length = l.length + 1
  | [] => rfl
  | a :: r => by
    unfold insT
    split
    · simp [ins_len x r]
    · rfl
theorem mem_sort {y : Tx} : ∀ {l : List Tx}, y ∈ sortT l → y ∈ l
  | [], h => h
  | a :: r, h => by
    rcases mem_ins h with q | q
    · exact by simp [q]
    · exact List.mem_cons_of_mem _ (mem_sort q)
theorem sort_len : ∀ l : List Tx, (sortT l).length = l.length
  | [] => rfl
  | a :: r => by rw [sortT, ins_len, sort_len r]; rfl
def nmsB : S := (S.seq
          (S.asg (Tg.nm 4)
            (E.bin Bo.add (E.lst (Es.cons (E.call 13 (Es.cons (E.var 0) Es.nil)) Es.nil))
              (E.comp [5] (Tg.nm 5) (It.rng (Es.cons (E.con (W.int 300)) Es.nil)) Es.nil
                (E.bin Bo.add (E.con (W.str [118])) (E.bi Bi.str (Es.cons (E.var 5) Es.nil))))))
          (S.seq
            (S.ex
              (E.me Me.append (E.var 2)
                (Es.cons
                  (E.idx
                    (E.comp [6] (Tg.nm 6) (It.val (E.var 4)) (Es.cons (E.cmp Co.notin (E.var 6) (E.var 2)) Es.nil)
                      (E.var 6))
                    (E.con (W.int 0)))
                  Es.nil)))
            S.skip))
theorem b14_eq : b14 = S.seq (S.asg (Tg.nm 2) (E.lst Es.nil))
    (S.seq
      (S.for (Tg.nm 3) (It.rng (Es.cons (E.var 1) Es.nil)) nmsB)
      (S.seq (S.ret (E.bi Bi.sorted (Es.cons (E.var 2) Es.nil))) S.skip)) := rfl
theorem nms_turn (n : Nat) {N : Nat} {a b : Ob} {t j : Hs} {L : List Tx} {w1 w : W} {p q : Option W} (hs : St2 (N + 9) a b) (hh : HOk (a :: b :: (t ++ Ob.lst (L.map W.str) :: j))) (hL : L.all nameT = true) (hl : L.length ≤ 2) :
    ∃ a' b' y j' q', St2 N a' b' ∧ HOk (a' :: b' :: (t ++ Ob.lst ((L ++ [y]).map W.str) :: j')) ∧ nameT y = true ∧ forB (clOf Pr wf (n + 3)) wf (.nm 3) nmsB w [some (.ref 1), some w1, some (.ref (t.length + 1 + 1)), p, q, none, none] (a :: b :: (t ++ Ob.lst (L.map W.str) :: j)) = .nx [some (.ref 1), some w1, some (.ref (t.length + 1 + 1)), some w, q', none, none] (a' :: b' :: (t ++ Ob.lst ((L ++ [y]).map W.str) :: j')) := by
  obtain ⟨a1, b1, s, h1, h2, h3, h4⟩ := mname_ok n hs hh
  obtain ⟨y, r, ey, hy⟩ := free_ne (L := L) h3 hl
  have lw : (10000 : Nat) ≤ lineW := by decide
  have vl := VL_len
  have J1 := vs_comp (c := clOf Pr wf (n + 3)) (fr := [some (.ref 1), some w1, some (.ref (t.length + 1 + 1)), some w, q, none, none]) (h := a1 :: b1 :: (t ++ Ob.lst (L.map W.str) :: (j ++ [Ob.lst [.str s]]))) (by simp)
  have J2 := add_refs (h := a1 :: b1 :: (t ++ Ob.lst (L.map W.str) :: (j ++ [Ob.lst [.str s], Ob.lst (VL.map W.str)]))) (n := t.length + (j.length + 1) + 1 + 1) (m := t.length + (j.length + 1 + 1) + 1 + 1) (xs := [.str s]) (ys := VL.map W.str) (by simp) (by simp) (by simp; omega)
  have J3 := free_comp (c := clOf Pr wf (n + 3)) (fr := [some (.ref 1), some w1, some (.ref (t.length + 1 + 1)), some w, some (.ref (t.length + (j.length + 1 + 1 + 1) + 1 + 1)), none, none]) (h := a1 :: b1 :: (t ++ Ob.lst (L.map W.str) :: (j ++ [Ob.lst [.str s], Ob.lst (VL.map W.str), Ob.lst ((s :: VL).map W.str)]))) (k := t.length + (j.length + 1 + 1 + 1) + 1 + 1) (m := t.length + 1 + 1) (F := s :: VL) (L := L) (by simp) (by simp) (by simp) (by simp) (by simp) (by simp; omega)
  rw [ey] at J3
  have J4 := app_ok (h := a1 :: b1 :: (t ++ Ob.lst (L.map W.str) :: (j ++ [Ob.lst [.str s], Ob.lst (VL.map W.str), Ob.lst ((s :: VL).map W.str), Ob.lst ((y :: r).map W.str)]))) (n := t.length + 1 + 1) (xs := L.map W.str) (w := .str y) (by simp) (by simp; omega)
  generalize VL = V at J1 J2 J3 J4
  refine ⟨a1, b1, y, j ++ [Ob.lst [.str s], Ob.lst (V.map W.str), Ob.lst ((s :: V).map W.str), Ob.lst ((y :: r).map W.str)], some (.ref (t.length + (j.length + 1 + 1 + 1) + 1 + 1)), h1, ?_, hy, ?_⟩
  · unfold HOk at h2 ⊢
    rw [List.all_eq_true] at h2 ⊢
    intro o ho
    have hu : ∀ (l : List Tx) m, (Ob.lst (l.map W.str)).under m = true := fun l m => unders_strs m l
    simp only [List.mem_cons, List.mem_append, List.not_mem_nil, or_false] at ho
    have mono : ∀ o, o ∈ (a1 :: b1 :: (t ++ Ob.lst (L.map W.str) :: j)) → o.under (a1 :: b1 :: (t ++ Ob.lst ((L ++ [y]).map W.str) :: (j ++ [Ob.lst [.str s], Ob.lst (V.map W.str), Ob.lst ((s :: V).map W.str), Ob.lst ((y :: r).map W.str)]))).length = true := fun o ho => Ob.under_mono (by simp) (h2 o ho)
    rcases ho with rfl | rfl | ho | rfl | ho | rfl | rfl | rfl | rfl
    · exact mono _ (by simp)
    · exact mono _ (by simp)
    · exact mono _ (by simp [ho])
    · exact hu _ _
    · exact mono _ (by simp [ho])
    · exact hu [s] _
    · exact hu _ _
    · exact hu _ _
    · exact hu _ _
  · simp at J1 J2 J3 J4
    simp [nmsB, h4, new, J1, J2, J3, atI_zero, Me.tys, J4]
theorem sorted_ok {h : Hs} {k : Nat} {L : List Tx} (e : h[k]? = some (Ob.lst (L.map W.str))) (hl : L.length < 64) : biV .sorted [.ref k] h = .ok (.ref h.length) (h ++ [Ob.lst ((sortT L).map W.str)]) := by
  show (match h[k]? with
    | some (.lst ws) => (match Mi.strsW ws with
      | some (ss : List Tx) => if ss.length < 64 then new (Ob.lst ((sortT ss).map .str)) h else .stk
      | none => .stk : R W)
    | _ => .stk) = _
  rw [e]
  simp only [strs_map]
  exact if_pos hl
theorem mnames_ok (n : Nat) {N : Nat} {a b : Ob} {t : Hs} (hs : St2 (N + 27) a b) (hh : HOk (a :: b :: t)) : ∃ a' b' x y z, St2 N a' b' ∧ HOk (a' :: b' :: (t ++ [Ob.lst [.str x, .str y, .str z]])) ∧ nameT x = true ∧ nameT y = true ∧ nameT z = true ∧ lev Pr wf (n + 4) 14 [.ref 1, .int 3] (a :: b :: t) = .ok (.ref (t.length + 1 + 1)) (a' :: b' :: (t ++ [Ob.lst [.str x, .str y, .str z]])) := by
  rw [L14, if_pos (show [W.ref 1, W.int 3].length = 2 from rfl), b14_eq]
  have hh0 : HOk (a :: b :: (t ++ [Ob.lst (([] : List Tx).map W.str)])) := HOk.snoc2 hh (by rfl)
  obtain ⟨a1, b1, y1, j1, q1, h1, hh1, m1, t1⟩ := nms_turn n (N := N + 18) (w1 := .int 3) (w := .int 0) (p := none) (q := none) (L := []) hs hh0 (by rfl) (by decide)
  obtain ⟨a2, b2, y2, j2, q2, h2, hh2, m2, t2⟩ := nms_turn n (N := N + 9) (w1 := .int 3) (w := .int 1) (p := some (.int 0)) (q := q1) h1 hh1 (by simp [m1]) (by simp)
  obtain ⟨a3, b3, y3, j3, q3, h3, hh3, m3, t3⟩ := nms_turn n (N := N) (w1 := .int 3) (w := .int 2) (p := some (.int 1)) (q := q2) h2 hh2 (by simp [m1, m2]) (by simp)
  have ef : ∀ fr : Fr, fr = [some (.ref 1), some (.int 3), some (.ref (t.length + 1 + 1)), none, none, none, none] → ex (clOf Pr wf (n + 3)) wf (S.for (Tg.nm 3) (It.rng (Es.cons (E.var 1) Es.nil)) nmsB) fr (a :: b :: (t ++ [Ob.lst []])) = .nx [some (.ref 1), some (.int 3), some (.ref (t.length + 1 + 1)), some (.int 2), q3, none, none] (a3 :: b3 :: (t ++ Ob.lst (([] ++ [y1] ++ [y2] ++ [y3]).map W.str) :: j3)) := by
    intro fr hfr
    subst hfr
    rw [ex_for_ok (rng_ok (k := 3) (h' := a :: b :: (t ++ [Ob.lst []])) (by rfl) (by decide))]
    show forL _ _ [.int 0, .int 1, .int 2] _ _ = _
    rw [forL_cons rfl]
    rw [List.map_nil] at t1
    rw [t1]
    show forL _ _ [.int 1, .int 2] _ _ = _
    rw [forL_cons rfl, t2]
    show forL _ _ [.int 2] _ _ = _
    rw [forL_cons rfl, t3]
    show forL _ _ [] _ _ = _
    rw [forL_nil rfl]
  have so := sorted_ok (h := a3 :: b3 :: (t ++ Ob.lst (([] ++ [y1] ++ [y2] ++ [y3]).map W.str) :: j3)) (k := t.length + 1 + 1) (L := [] ++ [y1] ++ [y2] ++ [y3]) (by simp) (by simp)
  have sl := sort_len ([] ++ [y1] ++ [y2] ++ [y3])
  have sm : ∀ y ∈ sortT ([] ++ [y1] ++ [y2] ++ [y3]), nameT y = true := fun y hy => by
    have := mem_sort hy
    simp only [List.nil_append, List.cons_append, List.mem_cons, List.not_mem_nil, or_false] at this
    rcases this with rfl | rfl | rfl
    · exact m1
    · exact m2
    · exact m3
  generalize sortT ([] ++ [y1] ++ [y2] ++ [y3]) = Z at so sl sm
  match Z, sl with
  | [x, y, z], _ =>
    refine ⟨a3, b3, x, y, z, h3, HOk.snoc2 (HOk.swap2 hs h3 hh) (by rfl), sm x (by simp), sm y (by simp), sm z (by simp), ?_⟩
    have ef' := ef _ rfl
    simp at so ef'
    simp [new, ef', so]
    have e : t.length + (j3.length + 1) + 1 + 1 = t.length + (j3.length + 1) + 1 + 1 := rfl
    exact gc_drawN2 (k := j3.length + 1) (j := Ob.lst [.str y1, .str y2, .str y3] :: (j3 ++ [Ob.lst [.str x, .str y, .str z]])) hs h3 hh (by simp) (by rfl)
end K74P
end
section
set_option Elab.async false
set_option linter.all false
set_option maxRecDepth 100000
set_option maxHeartbeats 0
/-! k74: drawn deeds. -/
namespace K74P
open K74 hiding R
open Mi
def planC : E := (E.comp [4] (Tg.nm 4)
                (It.rng (Es.cons (E.call 16 (Es.cons (E.var 0) (Es.cons (E.con (W.int 4)) Es.nil))) Es.nil))
                Es.nil
                (E.tup
                  (Es.cons (E.call 17 (Es.cons (E.var 0) (Es.cons (E.var 1) Es.nil)))
                    (Es.cons (E.call 17 (Es.cons (E.var 0) (Es.cons (E.var 1) Es.nil))) Es.nil))))
def putC : E := (E.comp [4] (Tg.nm 4)
                                (It.rng
                                  (Es.cons
                                    (E.bin Bo.add (E.con (W.int 1))
                                      (E.call 16 (Es.cons (E.var 0) (Es.cons (E.con (W.int 3)) Es.nil))))
                                    Es.nil))
                                Es.nil (E.call 17 (Es.cons (E.var 0) (Es.cons (E.var 1) Es.nil))))
def formT : S := (S.seq
          (S.iff
            (E.or (E.cmp Co.eq (E.var 2) (E.con (W.str [99, 104, 97, 110, 103, 101])))
              (E.cmp Co.eq (E.var 2) (E.con (W.str [97, 100, 100]))))
            (S.seq
              (S.ret
                (E.tup
                  (Es.cons (E.var 2)
                    (Es.cons (E.idx (E.var 1) (E.con (W.int 0)))
                      (Es.cons (E.idx (E.var 1) (E.con (W.int 1))) Es.nil)))))
              S.skip)
            S.skip)
          (S.seq
            (S.iff (E.cmp Co.eq (E.var 2) (E.con (W.str [112, 117, 116])))
              (S.seq
                (S.ret
                  (E.tup
                    (Es.cons (E.var 2)
                      (Es.cons (E.idx (E.var 1) (E.con (W.int 0)))
                        (Es.cons
                          (E.bi Bi.tuple
                            (Es.cons
                              putC
                              Es.nil))
                          Es.nil)))))
                S.skip)
              S.skip)
            (S.seq
              (S.iff (E.cmp Co.eq (E.var 2) (E.con (W.str [116, 97, 107, 101])))
                (S.seq
                  (S.ret
                    (E.tup
                      (Es.cons (E.var 2)
                        (Es.cons
                          (E.call 17
                            (Es.cons (E.var 0)
                              (Es.cons
                                (E.lst
                                  (Es.cons (E.con (W.int 0))
                                    (Es.cons (E.con (W.int 7))
                                      (Es.cons (E.con (W.int 999999999))
                                        (Es.cons
                                          (E.call 16
                                            (Es.cons (E.var 0) (Es.cons (E.con (W.int 3000)) Es.nil)))
                                          Es.nil)))))
                                Es.nil)))
                          Es.nil))))
                  S.skip)
                S.skip)
              (S.seq
                (S.iff (E.cmp Co.eq (E.var 2) (E.con (W.str [109, 101, 110, 100])))
                  (S.seq
                    (S.ret
                      (E.tup
                        (Es.cons (E.var 2)
                          (Es.cons (E.idx (E.var 1) (E.con (W.int 0)))
                            (Es.cons (E.idx (E.var 1) (E.con (W.int 1))) (Es.cons (E.var 3) Es.nil))))))
                    S.skip)
                  S.skip)
                (S.seq
                  (S.ret
                    (E.ite (E.cmp Co.eq (E.var 2) (E.con (W.str [109, 111, 118, 101])))
                      (E.tup (Es.cons (E.var 2) (Es.cons (E.var 3) Es.nil)))
                      (E.tup (Es.cons (E.var 2) (Es.cons (E.idx (E.var 1) (E.con (W.int 2))) Es.nil)))))
                  S.skip)))))
theorem b24_eq : b24 = S.seq (S.asg (Tg.nm 1) (E.call 14 (Es.cons (E.var 0) (Es.cons (E.con (W.int 3)) Es.nil))))
    (S.seq
      (S.asg (Tg.nm 2)
        (E.call 17
          (Es.cons (E.var 0)
            (Es.cons
              (E.lst
                (Es.cons (E.con (W.str [99, 104, 97, 110, 103, 101]))
                  (Es.cons (E.con (W.str [112, 105, 110]))
                    (Es.cons (E.con (W.str [117, 110, 112, 105, 110]))
                      (Es.cons (E.con (W.str [112, 117, 116]))
                        (Es.cons (E.con (W.str [116, 97, 107, 101]))
                          (Es.cons (E.con (W.str [97, 100, 100]))
                            (Es.cons (E.con (W.str [108, 101, 97, 118, 101]))
                              (Es.cons (E.con (W.str [109, 101, 110, 100]))
                                (Es.cons (E.con (W.str [109, 111, 118, 101])) Es.nil))))))))))
              Es.nil))))
      (S.seq
        (S.asg (Tg.nm 3)
          (E.bi Bi.tuple
            (Es.cons
              planC
              Es.nil)))
        formT)) := rfl
theorem arN_c2 : arN [99, 104, 97, 110, 103, 101] = some 2 ∧ arN [97, 100, 100] = some 2 := by decide +kernel
theorem arN_c1 : arN [112, 105, 110] = some 1 ∧ arN [117, 110, 112, 105, 110] = some 1 ∧ arN [108, 101, 97, 118, 101] = some 1 := by decide +kernel
theorem pairs_of : ∀ {xs : List W}, (∀ x ∈ xs, ∃ p q, nameT p = true ∧ nameT q = true ∧ x = .tup [.str p, .str q]) → ∃ l : List Tx, l.length = 2 * xs.length ∧ l.all nameT = true ∧ xs = pairL l
  | [], _ => ⟨[], rfl, rfl, rfl⟩
  | x :: r, h => by
    obtain ⟨p, q, h1, h2, rfl⟩ := h x (by simp)
    obtain ⟨l, e1, e2, e3⟩ := pairs_of (xs := r) fun y hy => h y (by simp [hy])
    exact ⟨p :: q :: l, by simp [e1]; omega, by simp [h1, h2, e2], by rw [pairL, e3]⟩
theorem names_of : ∀ {xs : List W}, (∀ x ∈ xs, ∃ p, nameT p = true ∧ x = .str p) → ∃ l : List Tx, l.length = xs.length ∧ l.all nameT = true ∧ xs = l.map W.str
  | [], _ => ⟨[], rfl, rfl, rfl⟩
  | x :: r, h => by
    obtain ⟨p, h1, rfl⟩ := h x (by simp)
    obtain ⟨l, e1, e2, e3⟩ := names_of (xs := r) fun y hy => h y (by simp [hy])
    exact ⟨p :: l, by simp [e1], by simp [h1, e2], by rw [List.map_cons, e3]⟩
theorem rng_bind {c : Cl} {fr : Fr} {h h' : Hs} {e : E} {k : Nat} (he : ev c e fr h = .ok (.int (k : Int)) h') (hk : k ≤ 1000000) : evi c (.rng (.cons e .nil)) fr h = .ok (rangeL 0 1 k, fun _ => true) h' := rng_ok (by rw [evs_cons, he]; rfl) hk
theorem pick_name (n : Nat) {N : Nat} {a b : Ob} {t j : Hs} {L : List Tx} (hs : St2 (N + 1) a b) (hh : HOk (a :: b :: (t ++ Ob.lst (L.map W.str) :: j))) (hL : L.all nameT = true) (hne : L ≠ []) (hl : L.length ≤ 100) :
    ∃ a' b' p, St2 N a' b' ∧ HOk (a' :: b' :: (t ++ Ob.lst (L.map W.str) :: j)) ∧ nameT p = true ∧ lev Pr wf (n + 2) 17 [.ref 1, .ref (t.length + 1 + 1)] (a :: b :: (t ++ Ob.lst (L.map W.str) :: j)) = .ok (.str p) (a' :: b' :: (t ++ Ob.lst (L.map W.str) :: j)) := by
  have lw : (100 : Nat) ≤ lineW := by decide
  obtain ⟨a', b', x, h1, h2, h3, h4⟩ := pik n (w := .ref (t.length + 1 + 1)) (ws := L.map W.str) hs hh (fun a b => by simp) (by simpa using hne) (by simp; omega) (fun x hx => by
    obtain ⟨s, _, rfl⟩ := List.mem_map.mp hx
    rfl)
  obtain ⟨p, hp, rfl⟩ := List.mem_map.mp h3
  exact ⟨a', b', p, h1, h2, List.all_eq_true.mp hL p hp, h4⟩
theorem plan_comp (n : Nat) {N : Nat} {a b : Ob} {t j : Hs} {L : List Tx} {x2 x3 x4 : Option W} (hs : St2 (N + 7) a b) (hh : HOk (a :: b :: (t ++ Ob.lst (L.map W.str) :: j))) (hL : L.all nameT = true) (hne : L ≠ []) (hl : L.length ≤ 100) :
    ∃ (a' b' : Ob) (l : List Tx), St2 N a' b' ∧ HOk (a' :: b' :: (t ++ Ob.lst (L.map W.str) :: j)) ∧ l.all nameT = true ∧ l.length % 2 = 0 ∧ l.length ≤ 6 ∧ ev (clOf Pr wf (n + 2)) planC [some (.ref 1), some (.ref (t.length + 1 + 1)), x2, x3, x4] (a :: b :: (t ++ Ob.lst (L.map W.str) :: j)) = .ok (.ref (t.length + (j.length + 1) + 1 + 1)) (a' :: b' :: (t ++ Ob.lst (L.map W.str) :: (j ++ [Ob.lst (pairL l)]))) := by
  obtain ⟨a1, b1, i, h1, h2, h3, h4⟩ := bel (n + 1) 4 (N := N + 6) hs hh (by decide) (by decide)
  have h4' : lev Pr wf (n + 2) 16 [.ref 1, .int 4] (a :: b :: (t ++ Ob.lst (L.map W.str) :: j)) = .ok (.int (i : Int)) (a1 :: b1 :: (t ++ Ob.lst (L.map W.str) :: j)) := h4
  have lw : (100 : Nat) ≤ lineW := by decide
  unfold planC
  rw [ev_compF, rng_bind (k := i) (h' := a1 :: b1 :: (t ++ Ob.lst (L.map W.str) :: j)) (by simp [h4']) (by omega)]
  simp only [R.bind_ok]
  obtain ⟨a2, b2, xs, k1, k2, k3, k4⟩ := compL_draw (g := fun _ => true) (t := t ++ Ob.lst (L.map W.str) :: j) (c := 2) (Q := fun x => ∃ p q, nameT p = true ∧ nameT q = true ∧ x = .tup [.str p, .str q])
    (f := compF (clOf Pr wf (n + 2)) [some (.ref 1), some (.ref (t.length + 1 + 1)), x2, x3, x4] [4] (.nm 4) .nil (E.tup
                  (Es.cons (E.call 17 (Es.cons (E.var 0) (Es.cons (E.var 1) Es.nil)))
                    (Es.cons (E.call 17 (Es.cons (E.var 0) (Es.cons (E.var 1) Es.nil))) Es.nil)))) (fun _ _ => rfl) (fun w M a b hs hh => by
        obtain ⟨a', b', p, q1, q2, q3, q4⟩ := pick_name n (N := M + 1) hs hh hL hne hl
        obtain ⟨a3, b3, p2, r1, r2, r3, r4⟩ := pick_name n (N := M) q1 q2 hL hne hl
        exact ⟨a3, b3, _, r1, ⟨p, p2, q3, r3, rfl⟩, by simp [q4, r4]⟩) (rangeL 0 1 i) [] (N + (6 - 2 * i)) a1 b1 (by rw [rangeL_length]; exact h1.mono (by omega)) h2 (by rw [rangeL_length]; simp; omega) (by simp)
  rw [rangeL_length] at k3
  obtain ⟨l, l1, l2, rfl⟩ := pairs_of k4
  refine ⟨a2, b2, l, k1.mono (by omega), HOk.swap2 h1 k1 h2, l2, by omega, by simp at k3; omega, ?_⟩
  rw [k2]
  simp [new]
theorem put_comp (n : Nat) {N : Nat} {a b : Ob} {t j : Hs} {L : List Tx} {x2 x3 x4 : Option W} (hs : St2 (N + 4) a b) (hh : HOk (a :: b :: (t ++ Ob.lst (L.map W.str) :: j))) (hL : L.all nameT = true) (hne : L ≠ []) (hl : L.length ≤ 100) :
    ∃ (a' b' : Ob) (l : List Tx), St2 N a' b' ∧ HOk (a' :: b' :: (t ++ Ob.lst (L.map W.str) :: j)) ∧ l.all nameT = true ∧ 1 ≤ l.length ∧ l.length ≤ 3 ∧ ev (clOf Pr wf (n + 2)) putC [some (.ref 1), some (.ref (t.length + 1 + 1)), x2, x3, x4] (a :: b :: (t ++ Ob.lst (L.map W.str) :: j)) = .ok (.ref (t.length + (j.length + 1) + 1 + 1)) (a' :: b' :: (t ++ Ob.lst (L.map W.str) :: (j ++ [Ob.lst (l.map W.str)]))) := by
  obtain ⟨a1, b1, i, h1, h2, h3, h4⟩ := bel (n + 1) 3 (N := N + 3) hs hh (by decide) (by decide)
  have h4' : lev Pr wf (n + 2) 16 [.ref 1, .int 3] (a :: b :: (t ++ Ob.lst (L.map W.str) :: j)) = .ok (.int (i : Int)) (a1 :: b1 :: (t ++ Ob.lst (L.map W.str) :: j)) := h4
  have ei : (1 : Int) + (i : Int) = ((i + 1 : Nat) : Int) := by omega
  have lw : (100 : Nat) ≤ lineW := by decide
  unfold putC
  rw [ev_compF, rng_bind (k := i + 1) (h' := a1 :: b1 :: (t ++ Ob.lst (L.map W.str) :: j)) (by rw [← ei]; simp [h4']) (by omega)]
  simp only [R.bind_ok]
  obtain ⟨a2, b2, xs, k1, k2, k3, k4⟩ := compL_draw (g := fun _ => true) (t := t ++ Ob.lst (L.map W.str) :: j) (c := 1) (Q := fun x => ∃ p, nameT p = true ∧ x = .str p)
    (f := compF (clOf Pr wf (n + 2)) [some (.ref 1), some (.ref (t.length + 1 + 1)), x2, x3, x4] [4] (.nm 4) .nil (E.call 17 (Es.cons (E.var 0) (Es.cons (E.var 1) Es.nil)))) (fun _ _ => rfl) (fun w M a b hs hh => by
        obtain ⟨a', b', p, q1, q2, q3, q4⟩ := pick_name n (N := M) hs hh hL hne hl
        exact ⟨a', b', _, q1, ⟨p, q3, rfl⟩, by simp [q4]⟩) (rangeL 0 1 (i + 1)) [] (N + (2 - i)) a1 b1 (by rw [rangeL_length]; exact h1.mono (by omega)) h2 (by rw [rangeL_length]; simp; omega) (by simp)
  rw [rangeL_length] at k3
  obtain ⟨l, l1, l2, rfl⟩ := names_of k4
  refine ⟨a2, b2, l, k1.mono (by omega), HOk.swap2 h1 k1 h2, l2, by simp at k3; omega, by simp at k3; omega, ?_⟩
  rw [k2]
  simp [new]
end K74P
end
section
set_option Elab.async false
set_option linter.all false
set_option maxRecDepth 100000
set_option maxHeartbeats 0
/-! k74: _law_mform. -/
namespace K74P
open K74 hiding R
open Mi
theorem tup_list {h : Hs} {k : Nat} {ws : List W} (e : h[k]? = some (Ob.lst ws)) : biV .tuple [.ref k] h = .ok (.tup ws) h := tuple_of (by simp [e])
theorem form_tail (n : Nat) {N : Nat} {a b : Ob} {t j : Hs} {x y z wd : Tx} {l : List Tx} {x4 : Option W} (hs : St2 (N + 4) a b) (hh : HOk (a :: b :: (t ++ Ob.lst [.str x, .str y, .str z] :: j))) (hx : nameT x = true) (hy : nameT y = true) (hz : nameT z = true) (hl : l.all nameT = true) (h2 : l.length % 2 = 0) (h6 : l.length ≤ 6)
    (hw : wd ∈ [[99, 104, 97, 110, 103, 101], [112, 105, 110], [117, 110, 112, 105, 110], [112, 117, 116], [116, 97, 107, 101], [97, 100, 100], [108, 101, 97, 118, 101], [109, 101, 110, 100], [109, 111, 118, 101]]) :
    ∃ (a' b' : Ob) (j' : Hs) (d : Dd), St2 N a' b' ∧ d.ok ∧ d.words.length ≤ 12 ∧ ex (clOf Pr wf (n + 2)) wf formT [some (.ref 1), some (.ref (t.length + 1 + 1)), some (.str wd), some (.tup (pairL l)), x4] (a :: b :: (t ++ Ob.lst [.str x, .str y, .str z] :: j)) = .rt d.w (a' :: b' :: (t ++ j')) := by
  have hN := hs.mono (M := N) (by omega)
  have at2 : ∀ a b c : W, atI [a, b, c] 2 = some c := fun _ _ _ => rfl
  simp only [List.mem_cons, List.not_mem_nil, or_false] at hw
  rcases hw with rfl | rfl | rfl | rfl | rfl | rfl | rfl | rfl | rfl
  · refine ⟨a, b, Ob.lst [.str x, .str y, .str z] :: j, .nm [99, 104, 97, 110, 103, 101] [x, y], hN, ⟨arN_c2.1, by simp [hx, hy]⟩, by simp [Dd.words], ?_⟩
    simp [formT, idxV_lst, atI_zero, atI_one, Dd.w]
  · refine ⟨a, b, Ob.lst [.str x, .str y, .str z] :: j, .nm [112, 105, 110] [z], hN, ⟨arN_c1.1, by simp [hz]⟩, by simp [Dd.words], ?_⟩
    simp [formT, idxV_lst, at2, Dd.w]
  · refine ⟨a, b, Ob.lst [.str x, .str y, .str z] :: j, .nm [117, 110, 112, 105, 110] [z], hN, ⟨arN_c1.2.1, by simp [hz]⟩, by simp [Dd.words], ?_⟩
    simp [formT, idxV_lst, at2, Dd.w]
  · obtain ⟨a', b', ps, k1, k2, k3, k4, k5, k6⟩ := put_comp n (N := N) (x2 := some (.str [112, 117, 116])) (x3 := some (.tup (pairL l))) (x4 := x4) (L := [x, y, z]) hs hh (by simp [hx, hy, hz]) (by simp) (by simp)
    simp at k6
    have tu := tup_list (h := a' :: b' :: (t ++ Ob.lst [.str x, .str y, .str z] :: (j ++ [Ob.lst (ps.map W.str)]))) (k := t.length + (j.length + 1) + 1 + 1) (ws := ps.map W.str) (by simp)
    refine ⟨a', b', Ob.lst [.str x, .str y, .str z] :: (j ++ [Ob.lst (ps.map W.str)]), .put x ps, k1, ⟨k4, k5, by simp [hx, k3]⟩, by simp [Dd.words]; omega, ?_⟩
    simp [formT, idxV_lst, atI_zero, Dd.w, k6, tu, PUT]
  · obtain ⟨a1, b1, i, q1, q2, q3, q4⟩ := bel (n + 1) 3000 (N := N + 3) hs hh (by decide) (by decide)
    have q4' : lev Pr wf (n + 2) 16 [.ref 1, .int 3000] (a :: b :: (t ++ Ob.lst [.str x, .str y, .str z] :: j)) = .ok (.int (i : Int)) (a1 :: b1 :: (t ++ Ob.lst [.str x, .str y, .str z] :: j)) := q4
    have hh2 : HOk (a1 :: b1 :: (t ++ Ob.lst [.str x, .str y, .str z] :: (j ++ [Ob.lst [.int 0, .int 7, .int 999999999, .int (i : Int)]]))) := by
      have := HOk.snoc2 (t := t ++ Ob.lst [.str x, .str y, .str z] :: j) (o := Ob.lst [.int 0, .int 7, .int 999999999, .int (i : Int)]) q2 (by rfl)
      simpa using this
    obtain ⟨a2, b2, v, r1, r2, r3, r4⟩ := pik n (N := N + 2) (w := .ref (t.length + (j.length + 1) + 1 + 1)) (ws := [.int 0, .int 7, .int 999999999, .int (i : Int)]) q1 hh2 (fun a b => by simp) (by simp) (by simp) (fun x hx => by
      simp only [List.mem_cons, List.not_mem_nil, or_false] at hx
      rcases hx with rfl | rfl | rfl | rfl <;> rfl)
    obtain ⟨m, hm, rfl⟩ : ∃ m : Nat, m ≤ 999999999 ∧ v = .int (m : Int) := by
      simp only [List.mem_cons, List.not_mem_nil, or_false] at r3
      rcases r3 with rfl | rfl | rfl | rfl
      · exact ⟨0, by decide, rfl⟩
      · exact ⟨7, by decide, rfl⟩
      · exact ⟨999999999, by decide, rfl⟩
      · exact ⟨i, by omega, rfl⟩
    have dk : (Dd.take m).ok := hm
    refine ⟨a2, b2, Ob.lst [.str x, .str y, .str z] :: (j ++ [Ob.lst [.int 0, .int 7, .int 999999999, .int (i : Int)]]), .take m, r1.mono (by omega), dk, by simp [Dd.words], ?_⟩
    simp [formT, Dd.w, q4', new, r4, TAKE]
  · refine ⟨a, b, Ob.lst [.str x, .str y, .str z] :: j, .nm [97, 100, 100] [x, y], hN, ⟨arN_c2.2, by simp [hx, hy]⟩, by simp [Dd.words], ?_⟩
    simp [formT, idxV_lst, atI_zero, atI_one, Dd.w]
  · refine ⟨a, b, Ob.lst [.str x, .str y, .str z] :: j, .nm [108, 101, 97, 118, 101] [z], hN, ⟨arN_c1.2.2, by simp [hz]⟩, by simp [Dd.words], ?_⟩
    simp [formT, idxV_lst, at2, Dd.w]
  · refine ⟨a, b, Ob.lst [.str x, .str y, .str z] :: j, .plan MEND [x, y] l, hN, ⟨.inl rfl, rfl, h2, by simp [hx, hy, hl]⟩, by simp [Dd.words]; omega, ?_⟩
    simp [formT, idxV_lst, atI_zero, atI_one, Dd.w, MEND]
  · refine ⟨a, b, Ob.lst [.str x, .str y, .str z] :: j, .plan MOVE [] l, hN, ⟨.inr rfl, rfl, h2, by simp [hl]⟩, by simp [Dd.words]; omega, ?_⟩
    simp [formT, Dd.w, MOVE]
def words9 : List W := [.str [99, 104, 97, 110, 103, 101], .str [112, 105, 110], .str [117, 110, 112, 105, 110], .str [112, 117, 116], .str [116, 97, 107, 101], .str [97, 100, 100], .str [108, 101, 97, 118, 101], .str [109, 101, 110, 100], .str [109, 111, 118, 101]]
theorem mform_ok (n : Nat) {N : Nat} {a b : Ob} {t : Hs} (hs : St2 (N + 40) a b) (hh : HOk (a :: b :: t)) : ∃ (a' b' : Ob) (d : Dd), St2 N a' b' ∧ HOk (a' :: b' :: t) ∧ d.ok ∧ d.words.length ≤ 12 ∧ lev Pr wf (n + 5) 24 [.ref 1] (a :: b :: t) = .ok d.w (a' :: b' :: t) := by
  rw [L24, if_pos (show [W.ref 1].length = 1 from rfl), b24_eq]
  obtain ⟨a1, b1, x, y, z, h1, h2, hx, hy, hz, h3⟩ := mnames_ok n (N := N + 13) (hs.mono (by omega)) hh
  have hh2 : HOk (a1 :: b1 :: (t ++ Ob.lst [.str x, .str y, .str z] :: [Ob.lst words9])) := by
    have := HOk.snoc2 (t := t ++ [Ob.lst [.str x, .str y, .str z]]) (o := Ob.lst words9) h2 (by rfl)
    simpa using this
  obtain ⟨a2, b2, v, k1, k2, k3, k4⟩ := pik (n + 2) (N := N + 12) (w := .ref (t.length + 1 + 1 + 1)) (ws := words9) h1 hh2 (fun a b => by simp) (by decide) (by decide) (fun x hx => by
      simp only [words9, List.mem_cons, List.not_mem_nil, or_false] at hx
      rcases hx with rfl | rfl | rfl | rfl | rfl | rfl | rfl | rfl | rfl <;> rfl)
  obtain ⟨wd, hw, rfl⟩ : ∃ wd, wd ∈ ([[99, 104, 97, 110, 103, 101], [112, 105, 110], [117, 110, 112, 105, 110], [112, 117, 116], [116, 97, 107, 101], [97, 100, 100], [108, 101, 97, 118, 101], [109, 101, 110, 100], [109, 111, 118, 101]] : List Tx) ∧ v = .str wd := by
    have : words9 = ([[99, 104, 97, 110, 103, 101], [112, 105, 110], [117, 110, 112, 105, 110], [112, 117, 116], [116, 97, 107, 101], [97, 100, 100], [108, 101, 97, 118, 101], [109, 101, 110, 100], [109, 111, 118, 101]] : List Tx).map W.str := rfl
    rw [this] at k3
    obtain ⟨wd, h1, h2⟩ := List.mem_map.mp k3
    exact ⟨wd, h1, h2.symm⟩
  obtain ⟨a3, b3, l, p1, p2, p3, p4, p5, p6⟩ := plan_comp (n + 2) (N := N + 5) (x2 := some (.str wd)) (x3 := none) (x4 := none) (L := [x, y, z]) k1 k2 (by simp [hx, hy, hz]) (by simp) (by simp)
  have tu := tup_list (h := a3 :: b3 :: (t ++ Ob.lst [.str x, .str y, .str z] :: ([Ob.lst words9] ++ [Ob.lst (pairL l)]))) (k := t.length + (1 + 1) + 1 + 1) (ws := pairL l) (by simp)
  have hh3 : HOk (a3 :: b3 :: (t ++ Ob.lst [.str x, .str y, .str z] :: [Ob.lst words9, Ob.lst (pairL l)])) := by
    have := HOk.snoc2 (t := t ++ Ob.lst [.str x, .str y, .str z] :: [Ob.lst words9]) (o := Ob.lst (pairL l)) p2 (pairL_under _ l)
    simpa using this
  obtain ⟨a4, b4, j', d, r1, r2, r3, r4⟩ := form_tail (n + 2) (N := N) (x4 := none) (p1.mono (by omega)) hh3 hx hy hz p3 p4 p5 hw
  refine ⟨a4, b4, d, r1, HOk.swap2 hs r1 hh, r2, r3, ?_⟩
  simp only [words9] at k4 p6 tu r4
  simp at p6 tu
  simp [h3, new, k4, p6, tu, r4]
  exact gc_draw2 hs r1 hh (w_under _)
end K74P
end
section
set_option Elab.async false
set_option linter.all false
set_option maxRecDepth 100000
set_option maxHeartbeats 4000000
/-! Plain part: the laws' comparison of two values of one shape. -/
namespace Mi
def sameB (f : Nat) (X : S) : S :=
  S.seq
    (S.iff (E.isi (E.var 1) [Ty.lst, Ty.tup])
      (S.seq
        (S.iff
          (E.or (E.cmp Co.ne (E.isi (E.var 0) [Ty.lst]) (E.isi (E.var 1) [Ty.lst]))
            (E.cmp Co.ne (E.isi (E.var 0) [Ty.tup]) (E.isi (E.var 1) [Ty.tup])))
          (S.seq (S.ret (E.con (W.bl false))) S.skip) S.skip)
        (S.seq
          (S.ret
            (E.and (E.cmp Co.eq (E.bi Bi.len (Es.cons (E.var 0) Es.nil)) (E.bi Bi.len (Es.cons (E.var 1) Es.nil)))
              (E.bi Bi.all
                (Es.cons
                  (E.comp [2, 3] (Tg.cons (Tg.nm 2) (Tg.cons (Tg.nm 3) Tg.nil)) (It.zip (E.var 0) (E.var 1)) Es.nil
                    (E.call f (Es.cons (E.var 2) (Es.cons (E.var 3) Es.nil))))
                  Es.nil))))
          S.skip))
      S.skip)
    (S.seq
      (S.iff (E.isi (E.var 1) [Ty.dic]) X S.skip)
      (S.seq
        (S.iff (E.isi (E.var 1) [Ty.int])
          (S.seq
            (S.ret
              (E.and (E.isi (E.var 0) [Ty.int])
                (E.and (E.cmp Co.eq (E.isi (E.var 0) [Ty.bl]) (E.isi (E.var 1) [Ty.bl]))
                  (E.cmp Co.eq (E.var 0) (E.var 1)))))
            S.skip)
          S.skip)
        (S.seq
          (S.iff (E.cmp Co.is (E.var 1) (E.con W.non)) (S.seq (S.ret (E.cmp Co.is (E.var 0) (E.con W.non))) S.skip)
            S.skip)
          (S.seq
            (S.iff (E.isi (E.var 1) [Ty.str])
              (S.seq (S.ret (E.and (E.isi (E.var 0) [Ty.str]) (E.cmp Co.eq (E.var 0) (E.var 1)))) S.skip) S.skip)
            (S.seq
              (S.ret
                (E.and (E.not (E.isi (E.var 0) [Ty.int, Ty.str, Ty.lst, Ty.tup, Ty.dic]))
                  (E.cmp Co.eq (E.var 0) (E.var 1))))
              S.skip)))))
/-- two values of the same shape -/
inductive Sm (h : Hs) : Nat → W → W → Prop
  | non (k : Nat) : Sm h k .non .non
  | bl (k : Nat) (b : Bool) : Sm h k (.bl b) (.bl b)
  | int (k : Nat) (i : Int) : Sm h k (.int i) (.int i)
  | str (k : Nat) (s : Tx) : Sm h k (.str s) (.str s)
  | tup (k : Nat) (xs ys : List W) : xs.length = ys.length → xs.length ≤ lineW → (∀ p ∈ xs.zip ys, Sm h k p.1 p.2) → Sm h (k + 1) (.tup xs) (.tup ys)
  | lst (k a b : Nat) (xs ys : List W) : h[a]? = some (Ob.lst xs) → h[b]? = some (Ob.lst ys) → xs.length = ys.length → xs.length ≤ lineW → (∀ p ∈ xs.zip ys, Sm h k p.1 p.2) → Sm h (k + 1) (.ref a) (.ref b)
theorem mem_zipL : ∀ {xs ys : List W} {w : W}, w ∈ zipL xs ys → ∃ p ∈ xs.zip ys, w = .tup [p.1, p.2]
  | [], ys, w, h => by cases h
  | x :: xs, [], w, h => by cases h
  | x :: xs, y :: ys, w, h => by
    rw [zipL] at h
    rcases List.mem_cons.mp h with rfl | h
    · exact ⟨(x, y), by simp, rfl⟩
    · obtain ⟨p, hp, e⟩ := mem_zipL h
      exact ⟨p, by simp only [List.zip_cons_cons]; exact List.mem_cons_of_mem _ hp, e⟩
theorem zipL_len : ∀ (xs ys : List W), (zipL xs ys).length ≤ xs.length
  | [], ys => by simp [zipL]
  | x :: xs, [] => by simp [zipL]
  | x :: xs, y :: ys => by
    have := zipL_len xs ys
    simp [zipL]; omega
theorem same_all {P : Prog} {wf f n : Nat} {h : Hs} {x y : W} {xs ys : List W} {g : Hs → Bool} {fr : Fr} {it : It} (hfr : 3 < fr.length) (he : evi (clOf P wf n) it fr h = .ok (zipL xs ys, g) h) (hg : g h = true) (hl : xs.length ≤ lineW) (hc : ∀ p ∈ xs.zip ys, lev P wf n f [p.1, p.2] h = .ok (.bl true) h) :
    ∃ o, ev (clOf P wf n) (E.bi Bi.all
                (Es.cons
                  (E.comp [2, 3] (Tg.cons (Tg.nm 2) (Tg.cons (Tg.nm 3) Tg.nil)) it Es.nil
                    (E.call f (Es.cons (E.var 2) (Es.cons (E.var 3) Es.nil))))
                  Es.nil)) fr h = .ok (.bl true) (h ++ [o]) := by
  rw [ev_bi, evs_cons, ev_compF, he]
  simp only [R.bind_ok, evs_nil]
  rw [compL_map (m := fun _ => .bl true) hg _ (fun w hw => ?_) (Nat.le_trans (zipL_len xs ys) hl)]
  · refine ⟨Ob.lst ((zipL xs ys).map fun _ => W.bl true), ?_⟩
    have q := all_new (h := h) (fun _ : W => true) (zipL xs ys)
    have e : (zipL xs ys).all (fun _ => true) = true := List.all_eq_true.mpr fun _ _ => rfl
    rw [e] at q
    exact q
  · obtain ⟨p, hp, rfl⟩ := mem_zipL hw
    have c := hc p hp
    have l2 : 2 < fr.length := by omega
    simp [hfr, l2, cl_call', c]
theorem beq_bl (a b : Bool) (h : Hs) : eqV h (.bl a) (.bl b) = some (a == b) := rfl
theorem same_ok {P : Prog} {wf f : Nat} {X : S} (hf : P.fns f = some ⟨2, 4, sameB f X⟩) {h : Hs} : ∀ (k : Nat) {x y : W} (n : Nat), Sm h k x y → lev P wf (n + k + 1) f [x, y] h = .ok (.bl true) h := by
  intro k
  induction k with
  | zero =>
    intro x y n s
    rw [lev_fn hf rfl]
    cases s with
    | non => simp [sameB, beq_nn]; exact gc_id (by rfl)
    | bl _ b => simp [sameB, beq_bl, eqV, scal]; exact gc_id (by rfl)
    | int _ i => simp [sameB, beq_bl]; exact gc_id (by rfl)
    | str _ s => simp [sameB, beq_bl]; exact gc_id (by rfl)
  | succ k ih =>
    intro x y n s
    rw [lev_fn hf rfl]
    cases s with
    | non => simp [sameB, beq_nn]; exact gc_id (by rfl)
    | bl _ b => simp [sameB, beq_bl, eqV, scal]; exact gc_id (by rfl)
    | int _ i => simp [sameB, beq_bl]; exact gc_id (by rfl)
    | str _ s => simp [sameB, beq_bl]; exact gc_id (by rfl)
    | tup _ xs ys hl hw hz =>
      obtain ⟨o, al⟩ := same_all (P := P) (wf := wf) (f := f) (n := n + (k + 1)) (h := h) (x := .non) (y := .non) (xs := xs) (ys := ys) (fr := [some (.tup xs), some (.tup ys), none, none]) (it := It.zip (E.var 0) (E.var 1)) (by simp) (by rfl) rfl hw (fun p hp => ih n (hz p hp))
      have hl' : (xs.length : Int) = (ys.length : Int) := by omega
      simp [sameB, beq_bl, hl, al]
      exact gc_same (by rfl)
    | lst _ a b xs ys ha hb hl hw hz =>
      have st : ∀ n (o : Ob), h[n]? = some o → still h h (.ref n) = true := fun n o _ => still_self h _
      obtain ⟨o, al⟩ := same_all (P := P) (wf := wf) (f := f) (n := n + (k + 1)) (h := h) (x := .non) (y := .non) (xs := xs) (ys := ys) (g := fun h' => still h h' (.ref a) && still h h' (.ref b)) (fr := [some (.ref a), some (.ref b), none, none]) (it := It.zip (E.var 0) (E.var 1)) (by simp) (by simp [ha, hb]) (by simp [still_self]) hw (fun p hp => ih n (hz p hp))
      simp [sameB, beq_bl, ha, hb, hl, al]
      exact gc_same (by rfl)
end Mi
end
section
set_option Elab.async false
set_option linter.all false
set_option maxRecDepth 100000
set_option maxHeartbeats 4000000
/-! Plain part: a thing with lists in the place of tuples at times; views with the stream's places dead. -/
namespace Mi
def D0 : Ob := .ins 0 []
/-- no dict in it -/
inductive Vw.plain : Nat → Vw → Prop
  | non (k) : Vw.plain k .non
  | bl (k) (b : Bool) : Vw.plain k (.bl b)
  | int (k) (i : Int) : Vw.plain k (.int i)
  | str (k) (s : Tx) : Vw.plain k (.str s)
  | row (k) (vs : List Vw) : (∀ v ∈ vs, Vw.plain k v) → Vw.plain (k + 1) (.row vs)
/-- a view by places that stand in both heaps alike -/
theorem view_pre {pre j : Hs} (hp : pre.all (Ob.under pre.length) = true) : ∀ {n : Nat} {w : W}, w.under pre.length = true → viewF n (pre ++ j) w = viewF n pre w := by
  intro n
  have lk : ∀ k, k < pre.length → (pre ++ j)[k]? = pre[k]? := fun k hk => List.getElem?_append_left hk
  induction n with
  | zero =>
    intro w hw
    cases w with
    | ref k =>
      have hk : k < pre.length := of_decide_eq_true hw
      simp only [viewF, lk k hk]
    | tup ws => rfl
    | _ => rfl
  | succ n ih =>
    intro w hw
    have m : ∀ {ws : List W}, W.unders pre.length ws = true → mapO (viewF n (pre ++ j)) ws = mapO (viewF n pre) ws := fun h => mapO_congr fun a ha => ih (unders_mem h ha)
    cases w with
    | ref k =>
      have hk : k < pre.length := of_decide_eq_true hw
      simp only [viewF, lk k hk]
      cases e : pre[k]? with
      | none => rfl
      | some o =>
        cases o with
        | lst ws =>
          have : W.unders pre.length ws = true := List.all_eq_true.mp hp _ (List.mem_of_getElem? e)
          simp only [m this]
        | _ => rfl
    | tup ws =>
      have : W.unders pre.length ws = true := hw
      simp only [viewF, m this]
    | _ => rfl
/-- dead places may live -/
theorem view_live {a b : Ob} {t : Hs} : ∀ {n : Nat} {w : W} {v : Vw}, viewF n (D0 :: D0 :: t) w = some v → viewF n (a :: b :: t) w = some v := by
  intro n
  have lk : ∀ k, (a :: b :: t)[k + 2]? = (D0 :: D0 :: t)[k + 2]? := fun k => rfl
  induction n with
  | zero =>
    intro w v e
    cases w with
    | ref k =>
      match k with
      | 0 => cases e
      | 1 => cases e
      | k + 2 =>
        simp only [viewF, List.getElem?_cons_succ] at e ⊢
        exact e
    | tup ws => exact e
    | _ => exact e
  | succ n ih =>
    intro w v e
    have m : ∀ {ws : List W} {vs : List Vw}, mapO (viewF n (D0 :: D0 :: t)) ws = some vs → mapO (viewF n (a :: b :: t)) ws = some vs := by
      intro ws
      induction ws with
      | nil => intro vs e; exact e
      | cons x r ihr =>
        intro vs e
        obtain ⟨y, u, e1, e2, rfl⟩ := mapO_cons_some e
        rw [mapO_cons, ih e1, ihr e2]
    cases w with
    | ref k =>
      match k with
      | 0 => cases e
      | 1 => cases e
      | k + 2 =>
        simp only [viewF, ← lk] at e
        simp only [viewF]
        rw [lk k] at e ⊢
        cases eo : (D0 :: D0 :: t)[k + 2]? with
        | none => rw [eo] at e; cases e
        | some o =>
          rw [eo] at e
          cases o with
          | lst ws =>
            simp only at e ⊢
            split at e
            · rename_i hl
              rw [if_pos hl]
              cases em : mapO (viewF n (D0 :: D0 :: t)) ws with
              | none => rw [em] at e; cases e
              | some vs => rw [em] at e; rw [m em]; exact e
            · cases e
          | _ => exact e
    | tup ws =>
      simp only [viewF] at e ⊢
      split at e
      · rename_i hl
        rw [if_pos hl]
        cases em : mapO (viewF n (D0 :: D0 :: t)) ws with
        | none => rw [em] at e; cases e
        | some vs => rw [em] at e; rw [m em]; exact e
      · cases e
    | _ => exact e
theorem HOk.dead {a b : Ob} {t : Hs} (hh : HOk (a :: b :: t)) : HOk (D0 :: D0 :: t) := by
  unfold HOk at hh ⊢
  rw [List.all_cons, List.all_cons, Bool.and_eq_true, Bool.and_eq_true] at hh
  rw [List.all_cons, List.all_cons, Bool.and_eq_true, Bool.and_eq_true]
  exact ⟨rfl, rfl, hh.2.2⟩
theorem viewL {n : Nat} {h : Hs} {k : Nat} {ws : List W} {vs : List Vw} (e : h[k]? = some (Ob.lst ws)) (hl : ws.length ≤ lineW) (m : mapO (viewF n h) ws = some vs) : viewF (n + 1) h (.ref k) = some (.row vs) := by
  simp only [viewF, e, if_pos hl, m, Option.map_some]
theorem viewT {n : Nat} {h : Hs} {ws : List W} {vs : List Vw} (hl : ws.length ≤ lineW) (m : mapO (viewF n h) ws = some vs) : viewF (n + 1) h (.tup ws) = some (.row vs) := by
  simp only [viewF, if_pos hl, m, Option.map_some]
/-- at a call's end a thing keeps its view -/
theorem gc_any {N M : Nat} {a b a' b' : Ob} {t j : Hs} {w : W} {v : Vw} {k : Nat} (h1 : St2 N a b) (h2 : St2 M a' b') (hh : HOk (a :: b :: t)) (hh2 : HOk (a' :: b' :: (t ++ j))) (hw : w.under ((t ++ j).length + 2) = true) (hv : viewF k (D0 :: D0 :: (t ++ j)) w = some v) :
    ∃ w2 j2, gc (a :: b :: t) w (a' :: b' :: (t ++ j)) = .ok w2 (a' :: b' :: (t ++ j2)) ∧ HOk (a' :: b' :: (t ++ j2)) ∧ w2.under ((t ++ j2).length + 2) = true ∧ viewF k (D0 :: D0 :: (t ++ j2)) w2 = some v := by
  have hs := HOk.swap2 h1 h2 hh
  have e : (a' :: b' :: (t ++ j)).take (a :: b :: t).length = a' :: b' :: t := by simp
  have e2 : (a' :: b' :: t).all (Ob.under (a :: b :: t).length) = true := hs
  have pre : ∀ {n w}, w.under (t.length + 2) = true → viewF n (D0 :: D0 :: (t ++ j)) w = viewF n (D0 :: D0 :: t) w := fun {n w} hu => view_pre (pre := D0 :: D0 :: t) (j := j) (HOk.dead hh) (by simpa using hu)
  have keep : ∃ w2 j2, (R.ok w (a' :: b' :: (t ++ j)) : R W) = .ok w2 (a' :: b' :: (t ++ j2)) ∧ HOk (a' :: b' :: (t ++ j2)) ∧ w2.under ((t ++ j2).length + 2) = true ∧ viewF k (D0 :: D0 :: (t ++ j2)) w2 = some v := ⟨w, j, rfl, hh2, hw, hv⟩
  unfold gc
  simp only [e, e2, or_true, if_true]
  by_cases c : w.under (a :: b :: t).length = true
  · rw [if_pos c]
    have c' : w.under (t.length + 2) = true := by simpa using c
    refine ⟨w, [], by rw [List.append_nil], by rw [List.append_nil]; exact hs, by rw [List.append_nil]; exact c', ?_⟩
    rw [List.append_nil, ← pre c']; exact hv
  · rw [if_neg c]
    cases w with
    | ref r =>
      simp only
      cases eo : (a' :: b' :: (t ++ j))[r]? with
      | none => exact keep
      | some o =>
        simp only
        by_cases co : o.under (a :: b :: t).length = true
        · rw [if_pos co]
          have co' : o.under (t.length + 2) = true := by simpa using co
          refine ⟨.ref (t.length + 2), [o], by simp, HOk.snoc2 hs (Ob.under_mono (by omega) co'), by simp [W.under], ?_⟩
          have hr : ∃ r', r = r' + 2 := by
            match r with
            | 0 => cases k <;> cases hv
            | 1 => cases k <;> cases hv
            | r + 2 => exact ⟨r, rfl⟩
          obtain ⟨r', rfl⟩ := hr
          have eo' : (D0 :: D0 :: (t ++ j))[r' + 2]? = some o := eo
          have en : (D0 :: D0 :: (t ++ [o]))[t.length + 2]? = some o := by simp
          cases k with
          | zero =>
            simp only [viewF, eo'] at hv
            simp only [viewF, en]
            exact hv
          | succ k =>
            simp only [viewF, eo'] at hv
            simp only [viewF, en]
            cases o with
            | lst ws =>
              have hu : W.unders (t.length + 2) ws = true := co'
              have pr2 : mapO (viewF k (D0 :: D0 :: (t ++ [Ob.lst ws]))) ws = mapO (viewF k (D0 :: D0 :: (t ++ j))) ws := mapO_congr fun x hx => by
                rw [pre (unders_mem hu hx)]
                exact view_pre (pre := D0 :: D0 :: t) (j := [Ob.lst ws]) (HOk.dead hh) (by simpa using unders_mem hu hx)
              simp only [pr2]
              exact hv
            | _ => exact hv
        · rw [if_neg co]; exact keep
    | _ => exact keep
theorem get_in (a b o : Ob) (t j r : Hs) : (a :: b :: (t ++ (j ++ o :: r)))[t.length + j.length + 1 + 1]? = some o := by
  rw [List.getElem?_cons_succ, List.getElem?_cons_succ, ← List.append_assoc, ← List.length_append, get_new]
/-- how many draws a thing takes -/
def szV : Nat → Vw → Nat
  | k + 1, .row vs => (vs.map (szV k)).sum + 1
  | _, _ => 0
def looseB (f nb : Nat) (X : S) : S :=
  S.seq (S.iff (E.isi (E.var 1) [Ty.dic]) X S.skip)
    (S.seq (S.iff (E.not (E.isi (E.var 1) [Ty.lst, Ty.tup])) (S.seq (S.ret (E.var 1)) S.skip) S.skip)
      (S.seq
        (S.asg (Tg.nm 2)
          (E.comp [3] (Tg.nm 3) (It.val (E.var 1)) Es.nil (E.call f (Es.cons (E.var 0) (Es.cons (E.var 3) Es.nil)))))
        (S.seq
          (S.ret
            (E.ite
              (E.cmp Co.eq (E.call nb (Es.cons (E.var 0) (Es.cons (E.con (W.int 2)) Es.nil)))
                (E.con (W.int 0)))
              (E.var 2) (E.bi Bi.tuple (Es.cons (E.var 2) Es.nil))))
          S.skip)))
def LooseAt (P : Prog) (wf f k n : Nat) : Prop := ∀ {N : Nat} {a b : Ob} {t : Hs} {w : W} {v : Vw}, viewF k (D0 :: D0 :: t) w = some v → Vw.plain k v → St2 (N + szV k v) a b → HOk (a :: b :: t) → w.under (t.length + 2) = true →
    ∃ a' b' w' j, St2 N a' b' ∧ HOk (a' :: b' :: (t ++ j)) ∧ w'.under ((t ++ j).length + 2) = true ∧ viewF k (D0 :: D0 :: (t ++ j)) w' = some v ∧ lev P wf n f [.ref 1, w] (a :: b :: t) = .ok w' (a' :: b' :: (t ++ j))
theorem under_app {t j : Hs} {w : W} (h : w.under (t.length + 2) = true) : w.under ((t ++ j).length + 2) = true := W.under_mono (by simp) h
/-- the turns: each thing loosened -/
theorem loose_comp {P : Prog} {wf f k n : Nat} (ih : LooseAt P wf f k n) {x0 x2 x3 : Option W} {w : W} {t0 : Hs} {g : Hs → Bool} (hg : ∀ a b j, g (a :: b :: (t0 ++ j)) = true) :
    ∀ (ws : List W) (vs : List Vw) (acc : List W) (avs : List Vw) (N : Nat) (a b : Ob) (j : Hs), mapO (viewF k (D0 :: D0 :: t0)) ws = some vs → (∀ v ∈ vs, Vw.plain k v) → mapO (viewF k (D0 :: D0 :: (t0 ++ j))) acc = some avs → W.unders ((t0 ++ j).length + 2) acc = true → W.unders (t0.length + 2) ws = true → St2 (N + (vs.map (szV k)).sum) a b → HOk (a :: b :: (t0 ++ j)) → acc.length + ws.length ≤ lineW →
    ∃ a' b' ys j', St2 N a' b' ∧ HOk (a' :: b' :: (t0 ++ j')) ∧ ys.length = acc.length + ws.length ∧ W.unders ((t0 ++ j').length + 2) ys = true ∧ mapO (viewF k (D0 :: D0 :: (t0 ++ j'))) ys = some (avs ++ vs) ∧ compL (compF (clOf P wf n) [some (.ref 1), some w, x2, x3, none] [3] (.nm 3) .nil (E.call f (Es.cons (E.var 0) (Es.cons (E.var 3) Es.nil)))) g ws acc (a :: b :: (t0 ++ j)) = .ok ys (a' :: b' :: (t0 ++ j'))
  | [], vs, acc, avs, N, a, b, j, e, hp, ea, hu, hu2, hs, hh, hl => by
    cases e
    exact ⟨a, b, acc, j, hs, hh, by simp, hu, by simpa using ea, by unfold compL; rw [if_pos (hg a b j)]⟩
  | x :: r, vs, acc, avs, N, a, b, j, e, hp, ea, hu, hu2, hs, hh, hl => by
    obtain ⟨v, u, e1, e2, rfl⟩ := mapO_cons_some e
    have hl' : acc.length + (r.length + 1) ≤ lineW := hl
    simp only [W.unders, Bool.and_eq_true] at hu2
    have e1' : viewF k (D0 :: D0 :: (t0 ++ j)) x = some v := by
      have := view_app (h := D0 :: D0 :: t0) j e1
      exact this
    obtain ⟨a1, b1, x', j1, k1, k2, k3, k4, k5⟩ := ih (N := N + (u.map (szV k)).sum) (t := t0 ++ j) e1' (hp v (by simp)) (by
      have q : N + ((v :: u).map (szV k)).sum = N + (u.map (szV k)).sum + szV k v := by simp; omega
      rwa [q] at hs) hh (under_app hu2.1)
    rw [List.append_assoc] at k2 k3 k4 k5
    have ea1 : mapO (viewF k (D0 :: D0 :: (t0 ++ (j ++ j1)))) acc = some avs := by
      have := views_app (h := D0 :: D0 :: (t0 ++ j)) j1 ea
      simpa using this
    have eac : mapO (viewF k (D0 :: D0 :: (t0 ++ (j ++ j1)))) (acc ++ [x']) = some (avs ++ [v]) := by
      have cat : ∀ (l : List W) (m : List Vw), mapO (viewF k (D0 :: D0 :: (t0 ++ (j ++ j1)))) l = some m → mapO (viewF k (D0 :: D0 :: (t0 ++ (j ++ j1)))) (l ++ [x']) = some (m ++ [v]) := by
        intro l
        induction l with
        | nil => intro m e; cases e; rw [List.nil_append, mapO_cons, k4]; rfl
        | cons p q ihq =>
          intro m e
          obtain ⟨b, t, e1, e2, rfl⟩ := mapO_cons_some e
          rw [List.cons_append, mapO_cons, e1, ihq t e2]; rfl
      exact cat _ _ ea1
    obtain ⟨a2, b2, ys, j2, q1, q2, q3, q4, q5, q6⟩ := loose_comp ih hg (x0 := x0) (x2 := x2) (x3 := x3) (w := w) r u (acc ++ [x']) (avs ++ [v]) N a1 b1 (j ++ j1) e2 (fun v hv => hp v (by simp [hv])) eac (by
      rw [unders_app, Bool.and_eq_true]
      refine ⟨W.unders_mono (by simp <;> omega) hu, ?_⟩
      simp only [W.unders, Bool.and_true]
      exact k3) hu2.2 k1 k2 (by simp; omega)
    refine ⟨a2, b2, ys, j2, q1, q2, by simp at q3 ⊢; omega, q4, by simpa using q5, ?_⟩
    unfold compL
    rw [if_pos (hg a b j)]
    have st : compF (clOf P wf n) [some (.ref 1), some w, x2, x3, none] [3] (.nm 3) .nil (E.call f (Es.cons (E.var 0) (Es.cons (E.var 3) Es.nil))) x (a :: b :: (t0 ++ j)) = .ok (some x') (a1 :: b1 :: (t0 ++ (j ++ j1))) := by
      simp [cl_call', k5]
    rw [st]
    show (if acc.length < lineW then compL _ g r (acc ++ [x']) (a1 :: b1 :: (t0 ++ (j ++ j1))) else .stk) = _
    rw [if_pos (by omega)]
    exact q6
theorem loose_ok {P : Prog} {wf f nb : Nat} {X : S} (hwf : 64 ≤ wf) (hb : P.fns nb = some ⟨2, 5, belowB⟩) (hf : P.fns f = some ⟨2, 5, looseB f nb X⟩) : ∀ (k n : Nat), LooseAt P wf f k (n + k + 2) := by
  intro k
  induction k with
  | zero =>
    intro n N a b t w v hv hp hs hh hu
    have flat : (∃ ty, typeW (a :: b :: t) w = some ty ∧ subTy ty .dic = false ∧ subTy ty .lst = false ∧ subTy ty .tup = false) ∧ szV 0 v = 0 := by
      obtain ⟨ty, e, m⟩ := view_ty (view_live (a := a) (b := b) hv)
      cases hp <;> (simp only [Vw.ty, List.mem_singleton] at m; subst m; exact ⟨⟨_, e, rfl, rfl, rfl⟩, rfl⟩)
    obtain ⟨⟨ty, e1, e2, e3, e4⟩, e5⟩ := flat
    rw [e5] at hs
    refine ⟨a, b, w, [], hs, by rw [List.append_nil]; exact hh, by rw [List.append_nil]; exact hu, by rw [List.append_nil]; exact hv, ?_⟩
    rw [lev_fn hf rfl, List.append_nil]
    simp [looseB, e1, e2, e3, e4]
    exact gc_id (by simpa using hu)
  | succ k ihk =>
    intro n N a b t w v hv hp hs hh hu
    by_cases hr : ∃ vs, v = .row vs
    · obtain ⟨vs, rfl⟩ := hr
      cases hp with
      | row _ _ hp =>
      obtain ⟨k', ws, hk, hi, hm, hl1, hl2, hw⟩ := view_row hv
      cases hk
      have hus : W.unders (t.length + 2) ws = true := by
        rcases hw with rfl | ⟨r, rfl, er⟩
        · exact hu
        · have := HOk.at (HOk.dead hh) er
          simpa [Ob.under] using this
      have hi2 : ∀ a b j, items (a :: b :: (t ++ j)) w = some ws := by
        intro a b j
        rcases hw with rfl | ⟨r, rfl, er⟩
        · rfl
        · have hr : ∃ r', r = r' + 2 := by
            match r with
            | 0 => cases er
            | 1 => cases er
            | r + 2 => exact ⟨r, rfl⟩
          obtain ⟨r', rfl⟩ := hr
          have er' : t[r']? = some (Ob.lst ws) := er
          simp [get_app j er']
      have st : ∀ a b a' b' j, still (a :: b :: t) (a' :: b' :: (t ++ j)) w = true := by
        intro a b a' b' j
        rcases hw with rfl | ⟨r, rfl, er⟩
        · rfl
        · have hr : ∃ r', r = r' + 2 := by
            match r with
            | 0 => cases er
            | 1 => cases er
            | r + 2 => exact ⟨r, rfl⟩
          obtain ⟨r', rfl⟩ := hr
          have er' : t[r']? = some (Ob.lst ws) := er
          simp [still, er', get_app j er']
      have ty : ∃ ty, typeW (a :: b :: t) w = some ty ∧ (ty = .lst ∨ ty = .tup) := by
        rcases hw with rfl | ⟨r, rfl, er⟩
        · exact ⟨.tup, rfl, .inr rfl⟩
        · have hr : ∃ r', r = r' + 2 := by
            match r with
            | 0 => cases er
            | 1 => cases er
            | r + 2 => exact ⟨r, rfl⟩
          obtain ⟨r', rfl⟩ := hr
          have er' : t[r']? = some (Ob.lst ws) := er
          exact ⟨.lst, by simp [er'], .inl rfl⟩
      obtain ⟨ty, et, hty⟩ := ty
      have hd : subTy ty .dic = false := by rcases hty with rfl | rfl <;> rfl
      have hlt : (subTy ty .lst || subTy ty .tup) = true := by rcases hty with rfl | rfl <;> rfl
      have e0 : (t ++ ([] : Hs)) = t := List.append_nil t
      obtain ⟨a1, b1, ys, j1, c1, c2, c3, c4, c5, c6⟩ := loose_comp (ihk n) (t0 := t) (g := fun h' => still (a :: b :: t) h' w) (fun a' b' j => st a b a' b' j) (x0 := none) (x2 := none) (x3 := none) (w := w) ws vs [] [] (N + 1) a b [] hm hp rfl rfl hus (by
        have q : N + szV (k + 1) (.row vs) = N + 1 + (vs.map (szV k)).sum := by simp [szV]; omega
        rwa [q] at hs) (by rw [e0]; exact hh) (by simpa using hl1)
      rw [e0] at c6
      have hly : ys.length ≤ lineW := by rw [c3]; simpa using hl1
      have hh2 : HOk (a1 :: b1 :: (t ++ (j1 ++ [Ob.lst ys]))) := by
        have := HOk.snoc2 (o := Ob.lst ys) c2 (W.unders_mono (by omega) c4)
        simpa using this
      obtain ⟨a2, b2, i, d1, d2, d3⟩ := below2 hwf hb (n + k + 1) (N := N) (m := 2) c1 hh2 (by decide) (by decide)
      have d3' : lev P wf (n + k + 2) nb [.ref 1, .int 2] (a1 :: b1 :: (t ++ (j1 ++ [Ob.lst ys]))) = .ok (.int (i : Int)) (a2 :: b2 :: (t ++ (j1 ++ [Ob.lst ys]))) := d3
      have hh3 := HOk.swap2 c1 d1 hh2
      have c5' : mapO (viewF k (D0 :: D0 :: (t ++ (j1 ++ [Ob.lst ys])))) ys = some vs := by
        have := views_app (h := D0 :: D0 :: (t ++ j1)) [Ob.lst ys] c5
        simpa using this
      have ecomp : ∀ fr : Fr, fr = [some (.ref 1), some w, none, none, none] → ev (clOf P wf (n + k + 2)) (E.comp [3] (Tg.nm 3) (It.val (E.var 1)) Es.nil (E.call f (Es.cons (E.var 0) (Es.cons (E.var 3) Es.nil)))) fr (a :: b :: t) = .ok (.ref (t.length + j1.length + 1 + 1)) (a1 :: b1 :: (t ++ (j1 ++ [Ob.lst ys]))) := by
        intro fr hfr
        subst hfr
        rw [ev_compF, evi_row (w := w) (ws := ws) (h' := a :: b :: t) (by simp) (by have := hi2 a b []; rwa [e0] at this)]
        simp only [R.bind_ok]
        rw [c6]
        simp [new]
      have hf' : lev P wf (n + (k + 1) + 2) f [.ref 1, w] (a :: b :: t) = endOf (a :: b :: t) (ex (clOf P wf (n + k + 2)) wf (looseB f nb X) [some (.ref 1), some w, none, none, none] (a :: b :: t)) := by
        rw [show n + (k + 1) + 2 = (n + k + 2) + 1 by omega, lev_fn hf rfl]; rfl
      rw [hf']
      by_cases ci : i = 0
      · subst ci
        have er : ex (clOf P wf (n + k + 2)) wf (looseB f nb X) [some (.ref 1), some w, none, none, none] (a :: b :: t) = .rt (.ref (t.length + j1.length + 1 + 1)) (a2 :: b2 :: (t ++ (j1 ++ [Ob.lst ys]))) := by
          simp [looseB, et, hd, hlt, ecomp, cl_call', d3']
        rw [er, endOf_rt]
        have hv2 : viewF (k + 1) (D0 :: D0 :: (t ++ (j1 ++ [Ob.lst ys]))) (.ref (t.length + j1.length + 1 + 1)) = some (.row vs) := viewL (ws := ys) (get_in _ _ _ _ _ _) hly c5'
        obtain ⟨w2, j2, g1, g2, g3, g4⟩ := gc_any hs d1 hh hh3 (by simp [W.under] <;> omega) hv2
        exact ⟨a2, b2, w2, j2, d1, g2, g3, g4, g1⟩
      · have ci' : ¬ (i : Int) = 0 := by omega
        have tu : biV .tuple [.ref (t.length + j1.length + 1 + 1)] (a2 :: b2 :: (t ++ (j1 ++ [Ob.lst ys]))) = .ok (.tup ys) (a2 :: b2 :: (t ++ (j1 ++ [Ob.lst ys]))) := tuple_of (by rw [items_ref, get_in])
        have er : ex (clOf P wf (n + k + 2)) wf (looseB f nb X) [some (.ref 1), some w, none, none, none] (a :: b :: t) = .rt (.tup ys) (a2 :: b2 :: (t ++ (j1 ++ [Ob.lst ys]))) := by
          simp [looseB, et, hd, hlt, ecomp, cl_call', d3', ci', tu, ci]
        rw [er, endOf_rt]
        obtain ⟨w2, j2, g1, g2, g3, g4⟩ := gc_any hs d1 hh hh3 (w := .tup ys) (by simp only [W.under]; exact W.unders_mono (by simp) c4) (viewT hly c5')
        exact ⟨a2, b2, w2, j2, d1, g2, g3, g4, g1⟩
    · have flat : (∃ ty, typeW (a :: b :: t) w = some ty ∧ subTy ty .dic = false ∧ subTy ty .lst = false ∧ subTy ty .tup = false) ∧ szV (k + 1) v = 0 := by
        obtain ⟨ty, e, m⟩ := view_ty (view_live (a := a) (b := b) hv)
        cases hp with
        | row _ vs _ => exact absurd ⟨vs, rfl⟩ hr
        | _ => simp only [Vw.ty, List.mem_singleton] at m; subst m; exact ⟨⟨_, e, rfl, rfl, rfl⟩, rfl⟩
      obtain ⟨⟨ty, e1, e2, e3, e4⟩, e5⟩ := flat
      rw [e5] at hs
      refine ⟨a, b, w, [], hs, by rw [List.append_nil]; exact hh, by rw [List.append_nil]; exact hu, by rw [List.append_nil]; exact hv, ?_⟩
      rw [show n + (k + 1) + 2 = (n + k + 2) + 1 by omega, lev_fn hf rfl, List.append_nil]
      simp [looseB, e1, e2, e3, e4]
      exact gc_id (by simpa using hu)
end Mi
end
section
set_option Elab.async false
set_option linter.all false
set_option maxRecDepth 100000
set_option maxHeartbeats 4000000
/-! Plain part: spoilt, is_once of plain things and lists of them. -/
namespace Mi
def LATE : Tx := [76, 65, 84, 69]
def sgnT (s : Tx) : Prop := ∀ c ∈ s, c < 1114112
inductive Pw : Nat → W → Prop
  | non (k) : Pw k .non
  | int (k) (i : Int) : Pw k (.int i)
  | str (k) (s : Tx) : s ≠ LATE → sgnT s → Pw k (.str s)
  | tup (k) (xs : List W) : xs.length < lineW → (∀ x ∈ xs, Pw k x) → Pw (k + 1) (.tup xs)
def spoiltB (f : Nat) (X : S) : S :=
  S.seq
    (S.iff (E.isi (E.var 0) [Ty.dic]) X S.skip)
    (S.seq
      (S.iff (E.isi (E.var 0) [Ty.lst, Ty.tup])
        (S.seq (S.for (Tg.nm 2) (It.val (E.var 0)) (S.seq (S.ex (E.call f (Es.cons (E.var 2) Es.nil))) S.skip)) S.skip)
        S.skip)
      (S.seq
        (S.iff (E.isi (E.var 0) [Ty.lst])
          (S.seq (S.ex (E.me Me.append (E.var 0) (Es.cons (E.con (W.str [76, 65, 84, 69])) Es.nil))) S.skip) S.skip)
        S.skip))
def onceB (f : Nat) (X : S) : S :=
  S.seq
    (S.iff (E.isi (E.var 0) [Ty.dic]) X S.skip)
    (S.seq
      (S.iff (E.isi (E.var 0) [Ty.lst, Ty.tup])
        (S.seq (S.asg (Tg.nm 1) (E.bi Bi.int (Es.cons (E.isi (E.var 0) [Ty.lst]) Es.nil)))
          (S.seq
            (S.ret
              (E.and
                (E.cmp Co.eq
                  (E.me Me.count (E.bi Bi.list (Es.cons (E.var 0) Es.nil))
                    (Es.cons (E.con (W.str [76, 65, 84, 69])) Es.nil))
                  (E.var 1))
                (E.bi Bi.all
                  (Es.cons (E.comp [3] (Tg.nm 3) (It.val (E.var 0)) Es.nil (E.call f (Es.cons (E.var 3) Es.nil)))
                    Es.nil))))
            S.skip))
        S.skip)
      (S.seq (S.ret (E.con (W.bl true))) S.skip))
def apartB (f g : Nat) : S := S.seq (S.ex (E.call f (Es.cons (E.var 0) Es.nil))) (S.seq (S.ret (E.call g (Es.cons (E.var 0) Es.nil))) S.skip)
theorem Pw.under (m : Nat) : ∀ {k : Nat} {w : W}, Pw k w → w.under m = true := by
  intro k
  induction k with
  | zero => intro w h; cases h <;> rfl
  | succ k ih =>
    intro w h
    cases h with
    | tup _ xs hl hx => exact unders_of fun x h => ih (hx x h)
    | _ => rfl
theorem data_strT {n : Nat} {h : Hs} {s : Tx} (hs : sgnT s) : dataF n h (.str s) = some (.str s) := by
  have : (s.all fun c => decide (c < 1114112)) = true := List.all_eq_true.mpr fun c hc => decide_eq_true (hs c hc)
  cases n <;> exact if_pos this
theorem Pw.data {h : Hs} : ∀ {k m : Nat} {w : W}, Pw k w → k ≤ m → ∃ d, dataF m h w = some d ∧ D.eqv d (.str LATE) = false := by
  intro k
  induction k with
  | zero =>
    intro m w p hm
    cases p with
    | non => exact ⟨.non, by cases m <;> rfl, rfl⟩
    | int _ i => exact ⟨.int i, by cases m <;> rfl, rfl⟩
    | str _ s h1 h2 => exact ⟨.str s, data_strT h2, by simpa [D.eqv] using h1⟩
  | succ k ih =>
    intro m w p hm
    cases p with
    | non => exact ⟨.non, by cases m <;> rfl, rfl⟩
    | int _ i => exact ⟨.int i, by cases m <;> rfl, rfl⟩
    | str _ s h1 h2 => exact ⟨.str s, data_strT h2, by simpa [D.eqv] using h1⟩
    | tup _ xs hl hx =>
      cases m with
      | zero => omega
      | succ m =>
        have : ∃ ds, mapO (dataF m h) xs = some ds := by
          clear hl
          induction xs with
          | nil => exact ⟨[], rfl⟩
          | cons a r ihr =>
            obtain ⟨d, e1, _⟩ := ih (hx a (by simp)) (show k ≤ m by omega)
            obtain ⟨ds, e2⟩ := ihr fun x h => hx x (by simp [h])
            exact ⟨d :: ds, by rw [mapO_cons, e1, e2]⟩
        obtain ⟨ds, e⟩ := this
        refine ⟨.tup ds, ?_, rfl⟩
        simp only [dataF, e, Option.map_some]
theorem Pw.datas {h : Hs} {k m : Nat} (hm : k ≤ m) : ∀ {xs : List W}, (∀ x ∈ xs, Pw k x) → ∃ ds, mapO (dataF m h) xs = some ds ∧ (ds.filter fun e => D.eqv e (.str LATE)) = []
  | [], _ => ⟨[], rfl, rfl⟩
  | a :: r, hx => by
    obtain ⟨d, e1, e2⟩ := (hx a (by simp)).data (h := h) hm
    obtain ⟨ds, e3, e4⟩ := Pw.datas (xs := r) hm fun x h => hx x (by simp [h])
    exact ⟨d :: ds, by rw [mapO_cons, e1, e3], by rw [List.filter_cons, e2, e4]; rfl⟩
theorem Pw.ty {k : Nat} {w : W} {h : Hs} (p : Pw k w) : ∃ t, typeW h w = some t ∧ subTy t .dic = false ∧ subTy t .lst = false ∧ (subTy t .tup = true ↔ ∃ xs, w = .tup xs) := by
  cases p with
  | non => exact ⟨_, rfl, rfl, rfl, by simp⟩
  | int => exact ⟨_, rfl, rfl, rfl, by simp⟩
  | str => exact ⟨_, rfl, rfl, rfl, by simp⟩
  | tup => exact ⟨_, rfl, rfl, rfl, by simp⟩
section
variable {P : Prog} {wf f : Nat} {X : S}
theorem for_calls {n : Nat} {h : Hs} {w : W} {g : Hs → Bool} (hg : g h = true) {x1 : Option W} : ∀ (xs : List W) (y : Option W), (∀ x ∈ xs, lev P wf n f [x] h = .ok .non h) → ∃ y', forL (forB (clOf P wf n) wf (.nm 2) (S.seq (S.ex (E.call f (Es.cons (E.var 2) Es.nil))) S.skip)) g xs [some w, x1, y] h = .nx [some w, x1, y'] h
  | [], y, _ => ⟨y, by rw [forL_nil hg]⟩
  | x :: r, y, hx => by
    obtain ⟨y', e⟩ := for_calls hg (w := w) (x1 := x1) r (some x) fun z hz => hx z (by simp [hz])
    refine ⟨y', ?_⟩
    have c := hx x (by simp)
    have st : forB (clOf P wf n) wf (.nm 2) (S.seq (S.ex (E.call f (Es.cons (E.var 2) Es.nil))) S.skip) x [some w, x1, y] h = .nx [some w, x1, some x] h := by
      simp [cl_call', c]
    rw [forL_cons hg, st]
    exact e
theorem spoilt_plain (hf : P.fns f = some ⟨1, 3, spoiltB f X⟩) {h : Hs} : ∀ (k : Nat) {w : W} (n : Nat), Pw k w → lev P wf (n + k + 1) f [w] h = .ok .non h := by
  intro k
  induction k with
  | zero =>
    intro w n p
    rw [lev_fn hf rfl]
    cases p with
    | _ => simp [spoiltB]; exact gc_id (by rfl)
  | succ k ih =>
    intro w n p
    rw [lev_fn hf rfl]
    cases p with
    | tup _ xs hl hx =>
      obtain ⟨y', e⟩ := for_calls (P := P) (wf := wf) (f := f) (n := n + (k + 1)) (h := h) (w := .tup xs) (g := fun _ => true) rfl (x1 := none) xs none fun x hx' => ih n (hx x hx')
      have ef : ∀ fr : Fr, fr = [some (.tup xs), none, none] → ex (clOf P wf (n + (k + 1))) wf (S.for (Tg.nm 2) (It.val (E.var 0)) (S.seq (S.ex (E.call f (Es.cons (E.var 2) Es.nil))) S.skip)) fr h = .nx [some (.tup xs), none, y'] h := by
        intro fr hfr
        subst hfr
        rw [ex_for_ok (evi_row (w := .tup xs) (ws := xs) (h' := h) (by simp) rfl)]
        exact e
      simp [spoiltB, ef _ rfl]
      exact gc_id (by rfl)
    | _ => simp [spoiltB]; exact gc_id (by rfl)
theorem gc_mut {h0 h' j : Hs} {w : W} (hl : h'.length = h0.length) (hh : HOk h') (hw : w.under h0.length = true) : gc h0 w (h' ++ j) = .ok w h' := by
  unfold gc
  have e : (h' ++ j).take h0.length = h' := by rw [← hl, List.take_append_of_le_length (Nat.le_refl _), List.take_length]
  have e2 : h'.all (Ob.under h0.length) = true := by rw [← hl]; exact hh
  simp only [e, e2, or_true, if_true, hw]
theorem HOk.set {h : Hs} {r : Nat} {o : Ob} (hh : HOk h) (ho : o.under h.length = true) : HOk (h.set r o) := by
  unfold HOk at hh ⊢
  rw [List.length_set]
  rw [List.all_eq_true] at hh ⊢
  intro x hx
  rcases List.mem_or_eq_of_mem_set hx with hx | rfl
  · exact hh x hx
  · exact ho
theorem spoilt_list (hf : P.fns f = some ⟨1, 3, spoiltB f X⟩) {h : Hs} {r k : Nat} {xs : List W} (n : Nat) (hr : h[r]? = some (Ob.lst xs)) (hl : xs.length < lineW) (hx : ∀ x ∈ xs, Pw k x) (hh : HOk h) : lev P wf (n + k + 2) f [.ref r] h = .ok .non (h.set r (Ob.lst (xs ++ [W.str LATE]))) := by
  rw [lev_fn hf rfl]
  obtain ⟨y', e⟩ := for_calls (P := P) (wf := wf) (f := f) (n := n + k + 1) (h := h) (w := .ref r) (g := fun h' => still h h' (.ref r)) (still_self _ _) (x1 := none) xs none fun x hx' => spoilt_plain hf k n (hx x hx')
  have ef : ∀ fr : Fr, fr = [some (.ref r), none, none] → ex (clOf P wf (n + k + 1)) wf (S.for (Tg.nm 2) (It.val (E.var 0)) (S.seq (S.ex (E.call f (Es.cons (E.var 2) Es.nil))) S.skip)) fr h = .nx [some (.ref r), none, y'] h := by
    intro fr hfr
    subst hfr
    rw [ex_for_ok (evi_row (w := .ref r) (ws := xs) (h' := h) (by simp) (by simp [hr]))]
    exact e
  have ap : meV .append (.ref r) [.str [76, 65, 84, 69]] h = .ok .non (h.set r (Ob.lst (xs ++ [W.str LATE]))) := by
    show (match h[r]? with
      | some (.lst xs) => if xs.length < lineW then R.ok W.non (h.set r (Ob.lst (xs ++ [W.str LATE]))) else .stk
      | _ => .stk) = _
    rw [hr]
    exact if_pos hl
  simp [spoiltB, hr, ef _ rfl, Me.tys, ap]
  have q := gc_mut (h0 := h) (h' := h.set r (Ob.lst (xs ++ [W.str LATE]))) (j := []) (w := .non) (by simp) (hh.set (unders_of fun x hx' => by
    rcases List.mem_append.mp hx' with q | q
    · exact (hx x q).under _
    · rw [List.mem_singleton.mp q]; rfl)) rfl
  rwa [List.append_nil] at q
theorem spoilt_outer (hf : P.fns f = some ⟨1, 3, spoiltB f X⟩) {h : Hs} {r q k : Nat} {xs : List W} (n : Nat) (hq : h[q]? = some (Ob.lst [.ref r])) (hne : r ≠ q) (hr : h[r]? = some (Ob.lst xs)) (hl : xs.length < lineW) (hx : ∀ x ∈ xs, Pw k x) (hh : HOk h) : lev P wf (n + k + 3) f [.ref q] h = .ok .non ((h.set r (Ob.lst (xs ++ [W.str LATE]))).set q (Ob.lst [W.ref r, W.str LATE])) := by
  rw [lev_fn hf rfl]
  have c := spoilt_list (wf := wf) hf n hr hl hx hh
  have hq2 : (h.set r (Ob.lst (xs ++ [W.str LATE])))[q]? = some (Ob.lst [.ref r]) := by rw [List.getElem?_set_ne hne]; exact hq
  have ef : ∀ fr : Fr, fr = [some (.ref q), none, none] → ex (clOf P wf (n + k + 2)) wf (S.for (Tg.nm 2) (It.val (E.var 0)) (S.seq (S.ex (E.call f (Es.cons (E.var 2) Es.nil))) S.skip)) fr h = .nx [some (.ref q), none, some (.ref r)] (h.set r (Ob.lst (xs ++ [W.str LATE]))) := by
    intro fr hfr
    subst hfr
    rw [ex_for_ok (evi_row (w := .ref q) (ws := [.ref r]) (h' := h) (by simp) (by simp [hq])), forL_cons (still_self _ _)]
    have st : forB (clOf P wf (n + k + 2)) wf (.nm 2) (S.seq (S.ex (E.call f (Es.cons (E.var 2) Es.nil))) S.skip) (.ref r) [some (.ref q), none, none] h = .nx [some (.ref q), none, some (.ref r)] (h.set r (Ob.lst (xs ++ [W.str LATE]))) := by
      simp [cl_call', c]
    rw [st]
    show forL _ _ [] _ _ = _
    rw [forL_nil (by simp [still, hq, hq2])]
  have ap : meV .append (.ref q) [.str [76, 65, 84, 69]] (h.set r (Ob.lst (xs ++ [W.str LATE]))) = .ok .non ((h.set r (Ob.lst (xs ++ [W.str LATE]))).set q (Ob.lst [W.ref r, W.str LATE])) := by
    show (match (h.set r (Ob.lst (xs ++ [W.str LATE])))[q]? with
      | some (.lst ys) => if ys.length < lineW then R.ok W.non ((h.set r (Ob.lst (xs ++ [W.str LATE]))).set q (Ob.lst (ys ++ [W.str LATE]))) else .stk
      | _ => .stk) = _
    rw [hq2]
    exact if_pos (show 1 < lineW by decide)
  have ux : W.unders h.length (xs ++ [W.str LATE]) = true := unders_of fun x hx' => by
    rcases List.mem_append.mp hx' with q | q
    · exact (hx x q).under _
    · rw [List.mem_singleton.mp q]; rfl
  have hrl : r < h.length := (List.getElem?_eq_some_iff.mp hr).1
  simp [spoiltB, hq, hq2, ef _ rfl, Me.tys, ap]
  have g := gc_mut (h0 := h) (h' := (h.set r (Ob.lst (xs ++ [W.str LATE]))).set q (Ob.lst [W.ref r, W.str LATE])) (j := []) (w := .non) (by simp) ((hh.set (o := Ob.lst (xs ++ [W.str LATE])) ux).set (by simp [Ob.under, W.unders, W.under, hrl])) rfl
  rwa [List.append_nil] at g
theorem sgn_late : sgnT LATE := by
  intro c hc
  have : ∀ c ∈ LATE, c < 1114112 := by decide
  exact this c hc
theorem count_ok {h : Hs} {m : Nat} {xs : List W} {ds : List D} (hm : h[m]? = some (Ob.lst xs)) (hd : mapO (dataF 63 h) xs = some ds) : meV .count (.ref m) [.str [76, 65, 84, 69]] h = .ok (.int ((ds.filter fun e => D.eqv e (.str LATE)).length : Nat)) h := by
  have e1 : dataF 64 h (.str LATE) = some (.str LATE) := data_strT sgn_late
  show (match h[m]? with
    | some (.lst xs) => (match dataF 64 h (.str LATE), mapO (dataF 63 h) xs with
      | some d, some ds => R.ok (W.int ((ds.filter fun e => D.eqv e d).length : Nat)) h
      | _, _ => .stk : R W)
    | _ => .stk) = _
  rw [hm]
  simp only [e1, hd]
theorem once_all {n : Nat} {h h' : Hs} {w : W} {xs : List W} {fr : Fr} (hfr : 3 < fr.length) (he : ev (clOf P wf n) (.var 0) fr h = .ok w h) (hi : items h w = some xs) (hl : xs.length ≤ lineW) (hc : ∀ x ∈ xs, lev P wf n f [x] h = .ok (.bl true) h) :
    ∃ o, ev (clOf P wf n) (E.bi Bi.all (Es.cons (E.comp [3] (Tg.nm 3) (It.val (E.var 0)) Es.nil (E.call f (Es.cons (E.var 3) Es.nil))) Es.nil)) fr h = .ok (.bl true) (h ++ [o]) := by
  rw [ev_bi, evs_cons, ev_compF, evi_row he hi]
  simp only [R.bind_ok, evs_nil]
  rw [compL_map (m := fun _ => .bl true) (still_self _ _) _ (fun x hx => ?_) hl]
  · refine ⟨Ob.lst (xs.map fun _ => W.bl true), ?_⟩
    have q := all_new (h := h) (fun _ : W => true) xs
    have e : xs.all (fun _ => true) = true := List.all_eq_true.mpr fun _ _ => rfl
    rw [e] at q
    exact q
  · have c := hc x hx
    simp [hfr, cl_call', c]
@[simp] theorem bi_int_bl (b : Bool) (h : Hs) : biV .int [.bl b] h = .ok (.int (if b then 1 else 0)) h := rfl
theorem once_str (hf : P.fns f = some ⟨1, 4, onceB f X⟩) {h : Hs} (n : Nat) (s : Tx) : lev P wf (n + 1) f [.str s] h = .ok (.bl true) h := by
  rw [lev_fn hf rfl]
  simp [onceB]
  exact gc_id (by rfl)
theorem once_plain (hf : P.fns f = some ⟨1, 4, onceB f X⟩) : ∀ (k : Nat) {h : Hs} {w : W} (n : Nat), k ≤ 60 → Pw k w → lev P wf (n + k + 1) f [w] h = .ok (.bl true) h := by
  intro k
  induction k with
  | zero =>
    intro h w n hk p
    rw [lev_fn hf rfl]
    cases p with
    | _ => simp [onceB]; exact gc_id (by rfl)
  | succ k ih =>
    intro h w n hk p
    rw [lev_fn hf rfl]
    cases p with
    | tup _ xs hl hx =>
      obtain ⟨ds, d1, d2⟩ := Pw.datas (h := h ++ [Ob.lst xs]) (k := k) (m := 63) (by omega) hx
      have co := count_ok (h := h ++ [Ob.lst xs]) (m := h.length) (xs := xs) (by simp) d1
      rw [d2] at co
      have co' : meV .count (.ref h.length) [.str [76, 65, 84, 69]] (h ++ [Ob.lst xs]) = .ok (.int 0) (h ++ [Ob.lst xs]) := co
      obtain ⟨o, al⟩ := once_all (P := P) (wf := wf) (f := f) (n := n + (k + 1)) (h := h ++ [Ob.lst xs]) (h' := h) (w := .tup xs) (xs := xs) (fr := [some (.tup xs), some (.int 0), none, none]) (by simp) rfl rfl (by omega) (fun x hx' => ih n (by omega) (hx x hx'))
      rw [List.append_assoc] at al
      simp [onceB, list_of, new, Me.tys, co', al]
      exact gc_same (by rfl)
    | _ => simp [onceB]; exact gc_id (by rfl)
theorem once_list (hf : P.fns f = some ⟨1, 4, onceB f X⟩) {h : Hs} {r k : Nat} {xs : List W} (n : Nat) (hk : k ≤ 60) (hr : h[r]? = some (Ob.lst (xs ++ [W.str LATE]))) (hl : xs.length < lineW) (hx : ∀ x ∈ xs, Pw k x) : lev P wf (n + k + 2) f [.ref r] h = .ok (.bl true) h := by
  rw [lev_fn hf rfl]
  obtain ⟨ds, d1, d2⟩ := Pw.datas (h := h ++ [Ob.lst (xs ++ [W.str LATE])]) (k := k) (m := 63) (by omega) hx
  have d3 : mapO (dataF 63 (h ++ [Ob.lst (xs ++ [W.str LATE])])) (xs ++ [W.str LATE]) = some (ds ++ [.str LATE]) := by
    have cat : ∀ (l : List W) (m : List D), mapO (dataF 63 (h ++ [Ob.lst (xs ++ [W.str LATE])])) l = some m → mapO (dataF 63 (h ++ [Ob.lst (xs ++ [W.str LATE])])) (l ++ [.str LATE]) = some (m ++ [.str LATE]) := by
      intro l
      induction l with
      | nil => intro m e; cases e; rw [List.nil_append, mapO_cons, data_strT sgn_late]; rfl
      | cons p q ihq =>
        intro m e
        obtain ⟨b, t, e1, e2, rfl⟩ := mapO_cons_some e
        rw [List.cons_append, mapO_cons, e1, ihq t e2]; rfl
    exact cat _ _ d1
  have co := count_ok (h := h ++ [Ob.lst (xs ++ [W.str LATE])]) (m := h.length) (xs := xs ++ [.str LATE]) (by simp) d3
  have c1 : ((ds ++ [D.str LATE]).filter fun e => D.eqv e (.str LATE)).length = 1 := by
    rw [List.filter_append, d2]; rfl
  rw [c1] at co
  have co' : meV .count (.ref h.length) [.str [76, 65, 84, 69]] (h ++ [Ob.lst (xs ++ [W.str LATE])]) = .ok (.int 1) (h ++ [Ob.lst (xs ++ [W.str LATE])]) := co
  have hr2 := get_app [Ob.lst (xs ++ [W.str LATE])] hr
  obtain ⟨o, al⟩ := once_all (P := P) (wf := wf) (f := f) (n := n + k + 1) (h := h ++ [Ob.lst (xs ++ [W.str LATE])]) (h' := h) (w := .ref r) (xs := xs ++ [.str LATE]) (fr := [some (.ref r), some (.int 1), none, none]) (by simp) rfl (by simp [hr2]) (by simp; omega) (fun x hx' => by
    rcases List.mem_append.mp hx' with q | q
    · exact once_plain hf k n (by omega) (hx x q)
    · rw [List.mem_singleton.mp q]; exact once_str hf (n + k) _)
  have li := list_of (w := .ref r) (ws := xs ++ [.str LATE]) (h := h) (by simp [hr])
  rw [List.append_assoc] at al
  simp only [new] at li
  simp [onceB, hr, li, Me.tys, co', al]
  exact gc_same (by rfl)
theorem once_outer (hf : P.fns f = some ⟨1, 4, onceB f X⟩) {h : Hs} {r q k : Nat} {xs : List W} (n : Nat) (hk : k ≤ 60) (hq : h[q]? = some (Ob.lst [W.ref r, W.str LATE])) (hr : h[r]? = some (Ob.lst (xs ++ [W.str LATE]))) (hl : xs.length < lineW) (hx : ∀ x ∈ xs, Pw k x) : lev P wf (n + k + 3) f [.ref q] h = .ok (.bl true) h := by
  rw [lev_fn hf rfl]
  obtain ⟨ds, d1, d2⟩ := Pw.datas (h := h ++ [Ob.lst [W.ref r, W.str LATE]]) (k := k) (m := 62) (by omega) hx
  have d3 : mapO (dataF 62 (h ++ [Ob.lst [W.ref r, W.str LATE]])) (xs ++ [W.str LATE]) = some (ds ++ [.str LATE]) := by
    have cat : ∀ (l : List W) (m : List D), mapO (dataF 62 (h ++ [Ob.lst [W.ref r, W.str LATE]])) l = some m → mapO (dataF 62 (h ++ [Ob.lst [W.ref r, W.str LATE]])) (l ++ [.str LATE]) = some (m ++ [.str LATE]) := by
      intro l
      induction l with
      | nil => intro m e; cases e; rw [List.nil_append, mapO_cons, data_strT sgn_late]; rfl
      | cons p q ihq =>
        intro m e
        obtain ⟨b, t, e1, e2, rfl⟩ := mapO_cons_some e
        rw [List.cons_append, mapO_cons, e1, ihq t e2]; rfl
    exact cat _ _ d1
  have hr2 := get_app [Ob.lst [W.ref r, W.str LATE]] hr
  have d4 : dataF 63 (h ++ [Ob.lst [W.ref r, W.str LATE]]) (.ref r) = some (.lst (ds ++ [.str LATE])) := by
    show (match (h ++ [Ob.lst [W.ref r, W.str LATE]])[r]? with
    | some (.lst ws) => (mapO (dataF 62 (h ++ [Ob.lst [W.ref r, W.str LATE]])) ws).map D.lst
    | _ => none) = _
    rw [hr2]
    simp only [d3, Option.map_some]
  have d5 : mapO (dataF 63 (h ++ [Ob.lst [W.ref r, W.str LATE]])) [.ref r, .str LATE] = some [.lst (ds ++ [.str LATE]), .str LATE] := by
    rw [mapO_cons, d4, mapO_cons, data_strT sgn_late]; rfl
  have co := count_ok (h := h ++ [Ob.lst [W.ref r, W.str LATE]]) (m := h.length) (xs := [.ref r, .str LATE]) (by simp) d5
  have co' : meV .count (.ref h.length) [.str [76, 65, 84, 69]] (h ++ [Ob.lst [W.ref r, W.str LATE]]) = .ok (.int 1) (h ++ [Ob.lst [W.ref r, W.str LATE]]) := co
  have hq2 := get_app [Ob.lst [W.ref r, W.str LATE]] hq
  obtain ⟨o, al⟩ := once_all (P := P) (wf := wf) (f := f) (n := n + k + 2) (h := h ++ [Ob.lst [W.ref r, W.str LATE]]) (h' := h) (w := .ref q) (xs := [.ref r, .str LATE]) (fr := [some (.ref q), some (.int 1), none, none]) (by simp) rfl (by simp [hq2]) (by simp) (fun x hx' => by
    simp only [List.mem_cons, List.not_mem_nil, or_false] at hx'
    rcases hx' with rfl | rfl
    · exact once_list hf n hk hr2 hl hx
    · exact once_str hf (n + k + 1) _)
  have li := list_of (w := .ref q) (ws := [.ref r, .str LATE]) (h := h) (by simp [hq])
  rw [List.append_assoc] at al
  simp only [new] at li
  simp [onceB, hq, li, Me.tys, co', al]
  exact gc_same (by rfl)
theorem apart_ok {fs fo fa : Nat} {Y : S} (hs : P.fns fs = some ⟨1, 3, spoiltB fs X⟩) (ho : P.fns fo = some ⟨1, 4, onceB fo Y⟩) (ha : P.fns fa = some ⟨1, 1, apartB fs fo⟩) {h : Hs} {r q k : Nat} {xs : List W} (n : Nat) (hk : k ≤ 60) (hq : h[q]? = some (Ob.lst [.ref r])) (hne : r ≠ q) (hr : h[r]? = some (Ob.lst xs)) (hl : xs.length < lineW) (hx : ∀ x ∈ xs, Pw k x) (hh : HOk h) :
    lev P wf (n + k + 4) fa [.ref q] h = .ok (.bl true) ((h.set r (Ob.lst (xs ++ [W.str LATE]))).set q (Ob.lst [W.ref r, W.str LATE])) := by
  rw [lev_fn ha rfl]
  have s := spoilt_outer (wf := wf) hs n hq hne hr hl hx hh
  have ql : q < h.length := (List.getElem?_eq_some_iff.mp hq).1
  have rl : r < h.length := (List.getElem?_eq_some_iff.mp hr).1
  have o := once_outer (wf := wf) ho (h := (h.set r (Ob.lst (xs ++ [W.str LATE]))).set q (Ob.lst [W.ref r, W.str LATE])) (r := r) (q := q) n hk (by simp [ql]) (by rw [List.getElem?_set_ne (Ne.symm hne)]; simp [rl]) hl hx
  simp [apartB, cl_call', s, o]
  have ux : W.unders h.length (xs ++ [W.str LATE]) = true := unders_of fun x hx' => by
    rcases List.mem_append.mp hx' with q | q
    · exact (hx x q).under _
    · rw [List.mem_singleton.mp q]; rfl
  have g := gc_mut (h0 := h) (h' := (h.set r (Ob.lst (xs ++ [W.str LATE]))).set q (Ob.lst [W.ref r, W.str LATE])) (j := []) (w := .bl true) (by simp) ((hh.set (o := Ob.lst (xs ++ [W.str LATE])) ux).set (by simp [Ob.under, W.unders, W.under, rl])) rfl
  rwa [List.append_nil] at g
end
end Mi
end
section
set_option Elab.async false
set_option linter.all false
set_option maxRecDepth 100000
set_option maxHeartbeats 0
/-! k74: _law_mbent. -/
namespace K74P
open K74 hiding R
open Mi
def be0 : S := (S.asg (Tg.nm 2)
      (E.bin Bo.add
        (E.slc (E.me Me.split (E.var 1) (Es.cons (E.con (W.str [10])) Es.nil)) Es.nil
          (Es.cons (E.neg (E.con (W.int 1))) Es.nil))
        (E.lst
          (Es.cons
            (E.call 17
              (Es.cons (E.var 0)
                (Es.cons
                  (E.lst
                    (Es.cons (E.con (W.str [112, 105, 110, 32, 97]))
                      (Es.cons (E.con (W.str [116, 97, 107, 101, 32, 49]))
                        (Es.cons (E.con (W.str [109, 111, 118, 101])) Es.nil))))
                  Es.nil)))
            Es.nil))))
def be1 : S := (S.par 6 7 (E.call 16 (Es.cons (E.var 0) (Es.cons (E.bi Bi.len (Es.cons (E.var 2) Es.nil)) Es.nil)))
        (E.call 16 (Es.cons (E.var 0) (Es.cons (E.con (W.int 6)) Es.nil))))
def be2 : S := (S.asg (Tg.nm 3) (E.me Me.split (E.idx (E.var 2) (E.var 6)) (Es.cons (E.con (W.str [32])) Es.nil)))
def be3 : S := (S.asg (Tg.nm 4) (E.call 16 (Es.cons (E.var 0) (Es.cons (E.bi Bi.len (Es.cons (E.var 3) Es.nil)) Es.nil))))
def be4 : S := (S.iff (E.cmp Co.eq (E.var 7) (E.con (W.int 0)))
              (S.seq
                (S.asg (Tg.nm 3)
                  (E.bin Bo.add (E.slc (E.var 3) Es.nil (Es.cons (E.var 4) Es.nil))
                    (E.slc (E.var 3) (Es.cons (E.bin Bo.add (E.var 4) (E.con (W.int 1))) Es.nil) Es.nil)))
                S.skip)
              S.skip)
def be5 : S := (S.iff (E.cmp Co.eq (E.var 7) (E.con (W.int 1)))
                (S.seq
                  (S.asg (Tg.nm 3)
                    (E.bin Bo.add
                      (E.bin Bo.add (E.slc (E.var 3) Es.nil (Es.cons (E.var 4) Es.nil))
                        (E.lst
                          (Es.cons
                            (E.call 17
                              (Es.cons (E.var 0)
                                (Es.cons
                                  (E.lst
                                    (Es.cons (E.con (W.str [97]))
                                      (Es.cons (E.con (W.str [48]))
                                        (Es.cons (E.con (W.str [48, 49]))
                                          (Es.cons (E.con (W.str [116, 97, 107, 101]))
                                            (Es.cons (E.con (W.str [112, 105, 110]))
                                              (Es.cons (E.con (W.str []))
                                                (Es.cons (E.con (W.str [65]))
                                                  (Es.cons (E.con (W.str [109, 101, 110, 100]))
                                                    (Es.cons (E.con (W.str [109, 111, 118, 101]))
                                                      (Es.cons (E.con (W.str [49, 97])) Es.nil)))))))))))
                                  Es.nil)))
                            Es.nil)))
                      (E.slc (E.var 3) (Es.cons (E.var 4) Es.nil) Es.nil)))
                  S.skip)
                S.skip)
def be6 : S := (S.asg (Tg.nm 2)
                  (E.bin Bo.add
                    (E.bin Bo.add (E.slc (E.var 2) Es.nil (Es.cons (E.var 6) Es.nil))
                      (E.lst (Es.cons (E.me Me.join (E.con (W.str [32])) (Es.cons (E.var 3) Es.nil)) Es.nil)))
                    (E.slc (E.var 2) (Es.cons (E.bin Bo.add (E.var 6) (E.con (W.int 1))) Es.nil) Es.nil)))
def be7 : S := (S.asg (Tg.nm 5)
                    (E.me Me.join (E.con (W.str []))
                      (Es.cons
                        (E.comp [9] (Tg.nm 9) (It.val (E.var 2)) Es.nil (E.bin Bo.add (E.var 9) (E.con (W.str [10]))))
                        Es.nil)))
def be8 : S := (S.iff (E.cmp Co.eq (E.var 7) (E.con (W.int 2)))
                      (S.seq
                        (S.asg (Tg.nm 8)
                          (E.call 16
                            (Es.cons (E.var 0)
                              (Es.cons
                                (E.bin Bo.add (E.bi Bi.len (Es.cons (E.var 5) Es.nil)) (E.con (W.int 1)))
                                Es.nil))))
                        (S.seq
                          (S.ret
                            (E.bin Bo.add
                              (E.bin Bo.add (E.slc (E.var 5) Es.nil (Es.cons (E.var 8) Es.nil))
                                (E.call 17
                                  (Es.cons (E.var 0)
                                    (Es.cons
                                      (E.bin Bo.add
                                        (E.bi Bi.list (Es.cons (E.con (W.str [32, 10, 97, 98, 122, 48, 49, 65])) Es.nil))
                                        (E.lst (Es.cons (E.con (W.str [])) Es.nil)))
                                      Es.nil))))
                              (E.slc (E.var 5)
                                (Es.cons
                                  (E.bin Bo.add (E.var 8)
                                    (E.call 16 (Es.cons (E.var 0) (Es.cons (E.con (W.int 2)) Es.nil))))
                                  Es.nil)
                                Es.nil)))
                          S.skip))
                      S.skip)
def be9 : S := (S.ret
                        (E.ite (E.cmp Co.eq (E.var 7) (E.con (W.int 3)))
                          (E.slc (E.var 5) Es.nil
                            (Es.cons (E.bin Bo.sub (E.bi Bi.len (Es.cons (E.var 5) Es.nil)) (E.con (W.int 1)))
                              Es.nil))
                          (E.var 5)))
theorem b28_eq : b28 = S.seq be0 (S.seq be1 (S.seq be2 (S.seq be3 (S.seq be4 (S.seq be5 (S.seq be6 (S.seq be7 (S.seq be8 (S.seq be9 S.skip))))))))) := rfl
/-- nice texts: not long, of signs -/
def NT (m : Nat) (s : Tx) : Prop := s.length ≤ m ∧ sgn s
def NL (m : Nat) (L : List Tx) : Prop := ∀ s ∈ L, NT m s
theorem NL.app {m : Nat} {A B : List Tx} (a : NL m A) (b : NL m B) : NL m (A ++ B) := fun s h => by
  rcases List.mem_append.mp h with h | h
  · exact a s h
  · exact b s h
theorem NL.take {m k : Nat} {A : List Tx} (a : NL m A) : NL m (A.take k) := fun s h => a s (List.mem_of_mem_take h)
theorem NL.drop {m k : Nat} {A : List Tx} (a : NL m A) : NL m (A.drop k) := fun s h => a s (List.mem_of_mem_drop h)
theorem NL.one {m : Nat} {s : Tx} (a : NT m s) : NL m [s] := fun t h => by rw [List.mem_singleton.mp h]; exact a
theorem NT.mono {m n : Nat} {s : Tx} (h : m ≤ n) (a : NT m s) : NT n s := ⟨Nat.le_trans a.1 h, a.2⟩
theorem NL.split {m c : Nat} {s : Tx} (h : NT m s) : NL m (splitC c [] s) := fun w hw => ⟨by
    have := split_piece c s [] w hw
    have := h.1
    simp at *; omega, fun d hd => by
    rcases split_mem s [] w hw d hd with q | q
    · simp at q
    · exact h.2 d q⟩
theorem hok_app {a b : Ob} {T : Hs} : ∀ {j : Hs}, HOk (a :: b :: T) → (∀ o ∈ j, o.under 0 = true) → HOk (a :: b :: (T ++ j))
  | [], h, _ => by rwa [List.append_nil]
  | o :: j, h, hj => by
    have h1 := HOk.snoc2 (o := o) h (Ob.under_mono (Nat.zero_le _) (hj o (by simp)))
    have h2 := hok_app (T := T ++ [o]) (j := j) h1 fun o ho => hj o (by simp [ho])
    rwa [List.append_assoc] at h2
theorem strs_under (L : List Tx) : (Ob.lst (L.map W.str)).under 0 = true := unders_strs 0 L
def CH3 : List Tx := [[112, 105, 110, 32, 97], [116, 97, 107, 101, 32, 49], [109, 111, 118, 101]]
theorem dec_NL {m : Nat} {L : List Tx} (h : (L.all fun s => decide (s.length ≤ m) && s.all fun c => decide (c < 1114112)) = true) : NL m L := fun s hs => by
  have := List.all_eq_true.mp h s hs
  rw [Bool.and_eq_true] at this
  exact ⟨of_decide_eq_true this.1, fun c hc => of_decide_eq_true (List.all_eq_true.mp this.2 c hc)⟩
/-- a pick among texts that lie as the last new list -/
theorem pick_strs (n : Nat) {N : Nat} {a b : Ob} {T : Hs} {L : List Tx} (hs : St2 (N + 1) a b) (hh : HOk (a :: b :: (T ++ [Ob.lst (L.map W.str)]))) (hne : L ≠ []) (hl : L.length ≤ 100) :
    ∃ a' b' p, St2 N a' b' ∧ HOk (a' :: b' :: (T ++ [Ob.lst (L.map W.str)])) ∧ p ∈ L ∧ lev Pr wf (n + 2) 17 [.ref 1, .ref (T.length + 1 + 1)] (a :: b :: (T ++ [Ob.lst (L.map W.str)])) = .ok (.str p) (a' :: b' :: (T ++ [Ob.lst (L.map W.str)])) := by
  have lw : (100 : Nat) ≤ lineW := by decide
  obtain ⟨a', b', x, h1, h2, h3, h4⟩ := pik n (w := .ref (T.length + 1 + 1)) (ws := L.map W.str) hs hh (fun a b => by simp) (by simpa using hne) (by simp; omega) (fun x hx => by
    obtain ⟨s, _, rfl⟩ := List.mem_map.mp hx
    rfl)
  obtain ⟨p, hp, rfl⟩ := List.mem_map.mp h3
  exact ⟨a', b', p, h1, h2, hp, h4⟩
theorem be0_ok (n : Nat) {N : Nat} {a b : Ob} {T : Hs} {s : Tx} {x2 x3 x4 x5 x6 x7 x8 x9 : Option W} (hs : St2 (N + 1) a b) (hh : HOk (a :: b :: T)) (ht : NT 1000 s) :
    ∃ (a' b' : Ob) (j : Hs) (k : Nat) (L : List Tx), St2 N a' b' ∧ (∀ o ∈ j, o.under 0 = true) ∧ (T ++ j)[k]? = some (Ob.lst (L.map W.str)) ∧ L ≠ [] ∧ L.length ≤ 1002 ∧ NL 1000 L ∧ ex (clOf Pr wf (n + 2)) wf be0 [some (.ref 1), some (.str s), x2, x3, x4, x5, x6, x7, x8, x9] (a :: b :: T) = .nx [some (.ref 1), some (.str s), some (.ref (k + 1 + 1)), x3, x4, x5, x6, x7, x8, x9] (a' :: b' :: (T ++ j)) := by
  have lw : (10000 : Nat) ≤ lineW := by decide
  have h1000 := ht.1
  have sp := split_ok (s := s) (c := 10) (h := a :: b :: T) (by omega) (by decide)
  have nl := NL.split (c := 10) ht
  have sl := split_len 10 s []
  generalize splitC 10 [] s = ws at sp nl sl
  obtain ⟨ds, hds⟩ : ∃ ds, ws.dropLast = ds := ⟨_, rfl⟩
  have nd : NL 1000 ds := fun l hl => nl l (mem_dl (hds ▸ hl))
  have dln : ds.length ≤ ws.length := by rw [← hds, List.length_dropLast]; omega
  have dl : (ws.map W.str).dropLast = ds.map W.str := by rw [← hds, List.map_dropLast]
  have slc := slc_ref (h := a :: b :: (T ++ [Ob.lst (ws.map W.str)])) (n := T.length + 1 + 1) (ws := ws.map W.str) (by simp) none (some (-1))
  rw [cut_init, dl] at slc
  obtain ⟨a1, b1, p, k1, k2, k3, k4⟩ := pick_strs n (N := N) (T := T ++ [Ob.lst (ws.map W.str), Ob.lst (ds.map W.str)]) (L := CH3) hs (by
    rw [List.append_assoc]
    refine hok_app hh fun o ho => ?_
    simp only [List.mem_append, List.mem_cons, List.not_mem_nil, or_false] at ho
    rcases ho with (rfl | rfl) | rfl
    · exact strs_under _
    · exact strs_under _
    · rfl) (by decide) (by decide)
  have np : NT 1000 p := dec_NL (m := 1000) (L := CH3) (by decide) p k3
  have ar := add_refs (h := a1 :: b1 :: (T ++ [Ob.lst (ws.map W.str), Ob.lst (ds.map W.str), Ob.lst (CH3.map W.str), Ob.lst [.str p]])) (n := T.length + 1 + 1 + 1) (m := T.length + 3 + 1 + 1) (xs := ds.map W.str) (ys := [.str p]) (by simp) (by simp) (by simp; omega)
  refine ⟨a1, b1, [Ob.lst (ws.map W.str), Ob.lst (ds.map W.str), Ob.lst (CH3.map W.str), Ob.lst [.str p], Ob.lst ((ds ++ [p]).map W.str)], T.length + 4, ds ++ [p], k1, ?_, by simp, by simp, by simp; omega, nd.app (NL.one np), ?_⟩
  · intro o ho
    simp only [List.mem_cons, List.not_mem_nil, or_false] at ho
    rcases ho with rfl | rfl | rfl | rfl | rfl
    · exact strs_under _
    · exact strs_under _
    · rfl
    · rfl
    · exact strs_under _
  · simp [CH3] at slc k4 ar sp
    simp [be0, Me.tys, sp, slc, new, k4, ar, CH3]
end K74P
end
section
set_option Elab.async false
set_option linter.all false
set_option maxRecDepth 100000
set_option maxHeartbeats 0
/-! k74: _law_mbent, stages. -/
namespace K74P
open K74 hiding R
open Mi
theorem get_lst {T : Hs} {k : Nat} {o : Ob} (j : Hs) (h : T[k]? = some o) : (T ++ j)[k]? = some o := get_app j h
theorem be13_ok (n : Nat) {N : Nat} {a b : Ob} {T : Hs} {s : Tx} {k : Nat} {L : List Tx} {x3 x4 x5 x6 x7 x8 x9 : Option W} (hs : St2 (N + 3) a b) (hh : HOk (a :: b :: T)) (hk : T[k]? = some (Ob.lst (L.map W.str))) (hne : L ≠ []) (hl : L.length ≤ 1002) (nl : NL 1000 L) :
    ∃ (a' b' : Ob) (Wd : List Tx) (at_ kind place : Nat), St2 N a' b' ∧ at_ < L.length ∧ Wd ≠ [] ∧ place < Wd.length ∧ Wd.length ≤ 1001 ∧ NL 1000 Wd ∧
      (ex (clOf Pr wf (n + 2)) wf be1 [some (.ref 1), some (.str s), some (.ref (k + 1 + 1)), x3, x4, x5, x6, x7, x8, x9] (a :: b :: T) = .nx [some (.ref 1), some (.str s), some (.ref (k + 1 + 1)), x3, x4, x5, some (.int (at_ : Int)), some (.int (kind : Int)), x8, x9] (a :: b :: T) ∨ True) ∧
      ex (clOf Pr wf (n + 2)) wf (.seq be1 (.seq be2 (.seq be3 .skip))) [some (.ref 1), some (.str s), some (.ref (k + 1 + 1)), x3, x4, x5, x6, x7, x8, x9] (a :: b :: T) = .nx [some (.ref 1), some (.str s), some (.ref (k + 1 + 1)), some (.ref (T.length + 1 + 1)), some (.int (place : Int)), x5, some (.int (at_ : Int)), some (.int (kind : Int)), x8, x9] (a' :: b' :: (T ++ [Ob.lst (Wd.map W.str)])) := by
  have lp : 0 < L.length := List.length_pos_iff.mpr hne
  obtain ⟨a1, b1, i, h1, h2, h3, h4⟩ := bel (n + 1) L.length (N := N + 2) hs hh lp (by omega)
  obtain ⟨a2, b2, q, k1, k2, k3, k4⟩ := bel (n + 1) 6 (N := N + 1) h1 h2 (by decide) (by decide)
  have k4' : lev Pr wf (n + 2) 16 [.ref 1, .int 6] (a1 :: b1 :: T) = .ok (.int (q : Int)) (a2 :: b2 :: T) := k4
  have nt := nl L[i] (List.getElem_mem h3)
  have lw : (10000 : Nat) ≤ lineW := by decide
  have h1000 := nt.1
  have sp := split_ok (s := L[i]) (c := 32) (h := a2 :: b2 :: T) (by omega) (by decide)
  have nw := NL.split (c := 32) nt
  have wl := split_len 32 L[i] []
  have wn := split_ne 32 L[i] []
  have ai : atI (L.map W.str) (i : Int) = some (.str L[i]) := by
    rw [atI_nat, List.getElem?_map, List.getElem?_eq_getElem h3]; rfl
  generalize splitC 32 [] L[i] = Wd at sp nw wl wn
  have wp : 0 < Wd.length := List.length_pos_iff.mpr wn
  have hh3 : HOk (a2 :: b2 :: (T ++ [Ob.lst (Wd.map W.str)])) := hok_app k2 fun o ho => by rw [List.mem_singleton.mp ho]; exact strs_under _
  obtain ⟨a3, b3, pl, p1, p2, p3, p4⟩ := bel (n + 1) Wd.length (N := N) k1 hh3 wp (by omega)
  refine ⟨a3, b3, Wd, i, q, pl, p1, h3, wn, p3, by omega, nw, .inr trivial, ?_⟩
  have ix : ∀ a b, idxV (a :: b :: T) (.ref (k + 1 + 1)) (.int (i : Int)) = some (.str L[i]) := fun a b => by
    rw [idxV_lst _ _ (show (a :: b :: T)[k + 1 + 1]? = some (Ob.lst (L.map W.str)) from hk), ai]
  simp at sp
  simp [be1, be2, be3, hk, h4, k4', Me.tys, ix, sp, p4]
theorem be4_ok (n : Nat) {a b : Ob} {T : Hs} {kw : Nat} {Wd : List Tx} {s : W} {x2 x5 x6 x8 x9 : Option W} {kind place : Nat} (hk : T[kw]? = some (Ob.lst (Wd.map W.str))) (hp : place < Wd.length) (hl : Wd.length ≤ 1001) (nw : NL 1000 Wd) :
    ∃ (j : Hs) (kw' : Nat) (W2 : List Tx), (∀ o ∈ j, o.under 0 = true) ∧ (T ++ j)[kw']? = some (Ob.lst (W2.map W.str)) ∧ W2.length ≤ 1001 ∧ (kind ≠ 0 → place ≤ W2.length) ∧ NL 1000 W2 ∧
      ex (clOf Pr wf (n + 2)) wf be4 [some (.ref 1), some s, x2, some (.ref (kw + 1 + 1)), some (.int (place : Int)), x5, x6, some (.int (kind : Int)), x8, x9] (a :: b :: T) = .nx [some (.ref 1), some s, x2, some (.ref (kw' + 1 + 1)), some (.int (place : Int)), x5, x6, some (.int (kind : Int)), x8, x9] (a :: b :: (T ++ j)) := by
  have lw : (10000 : Nat) ≤ lineW := by decide
  by_cases c : kind = 0
  · subst c
    have s1 := slc_ref (h := a :: b :: T) (n := kw + 1 + 1) (ws := Wd.map W.str) hk none (some (place : Int))
    rw [cut_to, ← List.map_take] at s1
    have hk2 := get_app [Ob.lst ((Wd.take place).map W.str)] hk
    have s2 := slc_ref (h := a :: b :: (T ++ [Ob.lst ((Wd.take place).map W.str)])) (n := kw + 1 + 1) (ws := Wd.map W.str) hk2 (some ((place + 1 : Nat) : Int)) none
    rw [cut_from, ← List.map_drop] at s2
    obtain ⟨A, hA⟩ : ∃ A, Wd.take place = A := ⟨_, rfl⟩
    obtain ⟨B, hB⟩ : ∃ B, Wd.drop (place + 1) = B := ⟨_, rfl⟩
    have lA : A.length ≤ 1001 := by rw [← hA]; simp; omega
    have lAB : A.length + B.length ≤ 1001 := by rw [← hA, ← hB]; simp; omega
    have nA : NL 1000 A := hA ▸ nw.take
    have nB : NL 1000 B := hB ▸ nw.drop
    rw [hA] at s1 s2
    rw [hB] at s2
    have s2' : slcV (a :: b :: (T ++ [Ob.lst (A.map W.str)])) (.ref (kw + 1 + 1)) (some ((place : Int) + 1)) none = .ok (.ref (a :: b :: (T ++ [Ob.lst (A.map W.str)])).length) (a :: b :: (T ++ [Ob.lst (A.map W.str)]) ++ [Ob.lst (B.map W.str)]) := s2
    have ar := add_refs (h := a :: b :: (T ++ [Ob.lst (A.map W.str), Ob.lst (B.map W.str)])) (n := T.length + 1 + 1) (m := T.length + 1 + 1 + 1) (xs := A.map W.str) (ys := B.map W.str) (by simp) (by simp) (by simp; omega)
    refine ⟨[Ob.lst (A.map W.str), Ob.lst (B.map W.str), Ob.lst ((A ++ B).map W.str)], T.length + 2, A ++ B, ?_, by simp, by simp; omega, fun q => absurd rfl q, nA.app nB, ?_⟩
    · intro o ho
      simp only [List.mem_cons, List.not_mem_nil, or_false] at ho
      rcases ho with rfl | rfl | rfl <;> exact strs_under _
    · simp at s1 s2' ar
      simp [be4, s1, s2', ar]
  · have c' : ¬ (kind : Int) = 0 := by omega
    refine ⟨[], kw, Wd, by simp, by simpa using hk, hl, fun _ => by omega, nw, ?_⟩
    simp [be4, c', c]
def CH10 : List Tx := [[97], [48], [48, 49], [116, 97, 107, 101], [112, 105, 110], [], [65], [109, 101, 110, 100], [109, 111, 118, 101], [49, 97]]
theorem be5_ok (n : Nat) {N : Nat} {a b : Ob} {T : Hs} {kw : Nat} {Wd : List Tx} {s : W} {x2 x5 x6 x8 x9 : Option W} {kind place : Nat} (hs : St2 (N + 1) a b) (hh : HOk (a :: b :: T)) (hk : T[kw]? = some (Ob.lst (Wd.map W.str))) (hp : kind ≠ 0 → place ≤ Wd.length) (hl : Wd.length ≤ 1001) (nw : NL 1000 Wd) :
    ∃ (a' b' : Ob) (j : Hs) (kw' : Nat) (W2 : List Tx), St2 N a' b' ∧ (∀ o ∈ j, o.under 0 = true) ∧ (T ++ j)[kw']? = some (Ob.lst (W2.map W.str)) ∧ W2.length ≤ 1002 ∧ NL 1000 W2 ∧
      ex (clOf Pr wf (n + 2)) wf be5 [some (.ref 1), some s, x2, some (.ref (kw + 1 + 1)), some (.int (place : Int)), x5, x6, some (.int (kind : Int)), x8, x9] (a :: b :: T) = .nx [some (.ref 1), some s, x2, some (.ref (kw' + 1 + 1)), some (.int (place : Int)), x5, x6, some (.int (kind : Int)), x8, x9] (a' :: b' :: (T ++ j)) := by
  have lw : (10000 : Nat) ≤ lineW := by decide
  by_cases c : kind = 1
  · subst c
    have hp := hp (by decide)
    have s1 := slc_ref (h := a :: b :: T) (n := kw + 1 + 1) (ws := Wd.map W.str) hk none (some (place : Int))
    rw [cut_to, ← List.map_take] at s1
    obtain ⟨A, hA⟩ : ∃ A, Wd.take place = A := ⟨_, rfl⟩
    obtain ⟨B, hB⟩ : ∃ B, Wd.drop place = B := ⟨_, rfl⟩
    have lAB : A.length + B.length ≤ 1001 := by rw [← hA, ← hB]; simp; omega
    have nA : NL 1000 A := hA ▸ nw.take
    have nB : NL 1000 B := hB ▸ nw.drop
    rw [hA] at s1
    obtain ⟨a1, b1, p, k1, k2, k3, k4⟩ := pick_strs n (N := N) (T := T ++ [Ob.lst (A.map W.str)]) (L := CH10) hs (by
      rw [List.append_assoc]
      refine hok_app hh fun o ho => ?_
      simp only [List.mem_append, List.mem_cons, List.not_mem_nil, or_false] at ho
      rcases ho with rfl | rfl
      · exact strs_under _
      · rfl) (by decide) (by decide)
    have np : NT 1000 p := dec_NL (m := 1000) (L := CH10) (by decide) p k3
    have ar := add_refs (h := a1 :: b1 :: (T ++ [Ob.lst (A.map W.str), Ob.lst (CH10.map W.str), Ob.lst [.str p]])) (n := T.length + 1 + 1) (m := T.length + 2 + 1 + 1) (xs := A.map W.str) (ys := [.str p]) (by simp) (by simp) (by simp; omega)
    have hk2 := get_app [Ob.lst (A.map W.str), Ob.lst (CH10.map W.str), Ob.lst [.str p], Ob.lst ((A ++ [p]).map W.str)] hk
    have s2 := slc_ref (h := a1 :: b1 :: (T ++ [Ob.lst (A.map W.str), Ob.lst (CH10.map W.str), Ob.lst [.str p], Ob.lst ((A ++ [p]).map W.str)])) (n := kw + 1 + 1) (ws := Wd.map W.str) hk2 (some (place : Int)) none
    rw [cut_from, ← List.map_drop, hB] at s2
    have ar2 := add_refs (h := a1 :: b1 :: (T ++ [Ob.lst (A.map W.str), Ob.lst (CH10.map W.str), Ob.lst [.str p], Ob.lst ((A ++ [p]).map W.str), Ob.lst (B.map W.str)])) (n := T.length + 3 + 1 + 1) (m := T.length + 4 + 1 + 1) (xs := (A ++ [p]).map W.str) (ys := B.map W.str) (by simp) (by simp) (by simp; omega)
    refine ⟨a1, b1, [Ob.lst (A.map W.str), Ob.lst (CH10.map W.str), Ob.lst [.str p], Ob.lst ((A ++ [p]).map W.str), Ob.lst (B.map W.str), Ob.lst ((A ++ [p] ++ B).map W.str)], T.length + 5, A ++ [p] ++ B, k1, ?_, by simp, by simp; omega, (nA.app (NL.one np)).app nB, ?_⟩
    · intro o ho
      simp only [List.mem_cons, List.not_mem_nil, or_false] at ho
      rcases ho with rfl | rfl | rfl | rfl | rfl | rfl
      · exact strs_under _
      · rfl
      · rfl
      · exact strs_under _
      · exact strs_under _
      · exact strs_under _
    · simp [CH10] at s1 s2 k4 ar ar2
      simp [be5, new, s1, k4, ar, s2, ar2, CH10]
  · have c' : ¬ (kind : Int) = 1 := by omega
    refine ⟨a, b, [], kw, Wd, hs.mono (by omega), by simp, by simpa using hk, by omega, nw, ?_⟩
    simp [be5, c', c]
end K74P
end
section
set_option Elab.async false
set_option linter.all false
set_option maxRecDepth 100000
set_option maxHeartbeats 0
/-! k74: _law_mbent, the end. -/
namespace K74P
open K74 hiding R
open Mi
/-- texts of at most so many signs in all, with an end to each -/
def sumT (L : List Tx) : Nat := (L.map fun s : Tx => s.length + 1).sum
theorem sumT_app (A B : List Tx) : sumT (A ++ B) = sumT A + sumT B := by simp [sumT]
theorem sumT_le {m : Nat} : ∀ {L : List Tx}, NL m L → sumT L ≤ L.length * (m + 1)
  | [], _ => by simp [sumT]
  | a :: r, h => by
    have h1 := (h a (by simp)).1
    have h2 := sumT_le (L := r) fun s hs => h s (by simp [hs])
    have e : sumT (a :: r) = a.length + 1 + sumT r := by simp [sumT]
    rw [e, List.length_cons, Nat.add_mul]
    omega
theorem join_sgn {L : List Tx} {c : Nat} (hc : c < 1114112) (h : ∀ s ∈ L, sgn s) : sgn (joinT [c] L) := fun d hd => by
  rcases join_mem hd with q | ⟨w, hw, q⟩
  · rw [List.mem_singleton.mp q]; exact hc
  · exact h w hw d q
theorem be6_ok (n : Nat) {a b : Ob} {T : Hs} {k kw : Nat} {L Wd : List Tx} {s : W} {x4 x5 x8 x9 : Option W} {kind at_ : Nat} (hk : T[k]? = some (Ob.lst (L.map W.str))) (hw : T[kw]? = some (Ob.lst (Wd.map W.str))) (hl : L.length ≤ 1002) (nl : NL 1000 L) (ha : at_ < L.length) (hwl : Wd.length ≤ 1002) (nw : NL 1000 Wd) :
    ∃ (j : Hs) (k' : Nat) (L2 : List Tx), (∀ o ∈ j, o.under 0 = true) ∧ (T ++ j)[k']? = some (Ob.lst (L2.map W.str)) ∧ L2.length ≤ 1002 ∧ NL 3000000 L2 ∧ sumT L2 ≤ 3000000 ∧
      ex (clOf Pr wf (n + 2)) wf be6 [some (.ref 1), some s, some (.ref (k + 1 + 1)), some (.ref (kw + 1 + 1)), x4, x5, some (.int (at_ : Int)), some (.int (kind : Int)), x8, x9] (a :: b :: T) = .nx [some (.ref 1), some s, some (.ref (k' + 1 + 1)), some (.ref (kw + 1 + 1)), x4, x5, some (.int (at_ : Int)), some (.int (kind : Int)), x8, x9] (a :: b :: (T ++ j)) := by
  have lw : (16000000 : Nat) ≤ lineW := by decide
  have s1 := slc_ref (h := a :: b :: T) (n := k + 1 + 1) (ws := L.map W.str) hk none (some (at_ : Int))
  rw [cut_to, ← List.map_take] at s1
  obtain ⟨A, hA⟩ : ∃ A, L.take at_ = A := ⟨_, rfl⟩
  obtain ⟨B, hB⟩ : ∃ B, L.drop (at_ + 1) = B := ⟨_, rfl⟩
  have lAB : A.length + 1 + B.length ≤ 1002 := by rw [← hA, ← hB]; simp; omega
  have nA : NL 1000 A := hA ▸ nl.take
  have nB : NL 1000 B := hB ▸ nl.drop
  rw [hA] at s1
  have sj : (Wd.map (·.length)).sum + Wd.length * 1 ≤ 1002 * 1001 := by
    have h1 := sum_le (k := 1000) (l := Wd) fun s hs => (nw s hs).1
    have h2 : Wd.length * 1000 ≤ 1002 * 1000 := Nat.mul_le_mul_right _ hwl
    omega
  have jo := join_ok (h := a :: b :: (T ++ [Ob.lst (A.map W.str)])) (sep := [32]) (w := .ref (kw + 1 + 1)) (ls := Wd) (by simp [get_app _ hw]) (Nat.le_trans sj (by omega))
  have jl := join_len [32] Wd
  have nj : NT 1003002 (joinT [32] Wd) := ⟨Nat.le_trans jl sj, join_sgn (by decide) fun s hs => (nw s hs).2⟩
  obtain ⟨x, hx⟩ : ∃ x, joinT [32] Wd = x := ⟨_, rfl⟩
  rw [hx] at jo nj
  have ar := add_refs (h := a :: b :: (T ++ [Ob.lst (A.map W.str), Ob.lst [.str x]])) (n := T.length + 1 + 1) (m := T.length + 1 + 1 + 1) (xs := A.map W.str) (ys := [.str x]) (by simp) (by simp) (by simp; omega)
  have hk2 := get_app [Ob.lst (A.map W.str), Ob.lst [.str x], Ob.lst ((A ++ [x]).map W.str)] hk
  have s2 := slc_ref (h := a :: b :: (T ++ [Ob.lst (A.map W.str), Ob.lst [.str x], Ob.lst ((A ++ [x]).map W.str)])) (n := k + 1 + 1) (ws := L.map W.str) hk2 (some ((at_ + 1 : Nat) : Int)) none
  rw [cut_from, ← List.map_drop, hB] at s2
  have s2' : slcV (a :: b :: (T ++ [Ob.lst (A.map W.str), Ob.lst [.str x], Ob.lst ((A ++ [x]).map W.str)])) (.ref (k + 1 + 1)) (some ((at_ : Int) + 1)) none = .ok (.ref (a :: b :: (T ++ [Ob.lst (A.map W.str), Ob.lst [.str x], Ob.lst ((A ++ [x]).map W.str)])).length) (a :: b :: (T ++ [Ob.lst (A.map W.str), Ob.lst [.str x], Ob.lst ((A ++ [x]).map W.str)]) ++ [Ob.lst (B.map W.str)]) := s2
  have ar2 := add_refs (h := a :: b :: (T ++ [Ob.lst (A.map W.str), Ob.lst [.str x], Ob.lst ((A ++ [x]).map W.str), Ob.lst (B.map W.str)])) (n := T.length + 2 + 1 + 1) (m := T.length + 3 + 1 + 1) (xs := (A ++ [x]).map W.str) (ys := B.map W.str) (by simp) (by simp) (by simp; omega)
  have big : ∀ {m : Nat} {Z : List Tx}, m ≤ 3000000 → NL m Z → NL 3000000 Z := fun h z s hs => (z s hs).mono h
  have sA := sumT_le nA
  have sB := sumT_le nB
  have sx : sumT [x] ≤ 1003003 := by have := nj.1; simp [sumT]; omega
  refine ⟨[Ob.lst (A.map W.str), Ob.lst [.str x], Ob.lst ((A ++ [x]).map W.str), Ob.lst (B.map W.str), Ob.lst ((A ++ [x] ++ B).map W.str)], T.length + 4, A ++ [x] ++ B, ?_, by simp, by simp; omega, ((big (by decide) nA).app (big (by decide) (NL.one nj))).app (big (by decide) nB), by rw [sumT_app, sumT_app]; omega, ?_⟩
  · intro o ho
    simp only [List.mem_cons, List.not_mem_nil, or_false] at ho
    rcases ho with rfl | rfl | rfl | rfl | rfl
    · exact strs_under _
    · rfl
    · exact strs_under _
    · exact strs_under _
    · exact strs_under _
  · simp at s1 s2' ar ar2 jo
    simp [be6, Me.tys, new, s1, jo, ar, s2', ar2]
theorem lines_comp2 {c : Cl} {fr : Fr} {h : Hs} {ls : List Tx} {i k : Nat} (hv : fr[i]? = some (some (.ref k))) (hk : h[k]? = some (Ob.lst (ls.map W.str))) (hl : ls.length ≤ 10000) (hs : NL 3000000 ls) {v : Nat} (hvl : v < fr.length) :
    ev c (E.comp [v] (Tg.nm v) (It.val (E.var i)) Es.nil (E.bin Bo.add (E.var v) (E.con (W.str [10])))) fr h = .ok (.ref h.length) (h ++ [Ob.lst ((ls.map fun l => l ++ [10]).map W.str)]) := by
  have lw : (16000000 : Nat) ≤ lineW := by decide
  rw [ev_comp, evi_row (w := .ref k) (ws := ls.map W.str) (h' := h) (by simp [hv]) (by simp [hk])]
  simp only [R.bind_ok]
  rw [compL_map (m := fun w => match w with | .str s => .str (s ++ [10]) | _ => .non) (still_self _ _) _ (fun w hw => ?_) (by simp; omega)]
  · simp [new, List.map_map, Function.comp_def]
  · obtain ⟨s, hs', rfl⟩ := List.mem_map.mp hw
    have := (hs s hs').1
    have h2 : List.length s + 1 ≤ lineW := by omega
    simp [hvl, h2]
theorem lines_sum2 : ∀ ls : List Tx, ((ls.map fun l => l ++ [10]).map (·.length)).sum + (ls.map fun l => l ++ [10]).length * 0 = sumT ls
  | [] => rfl
  | a :: r => by
    have := lines_sum2 r
    rw [Nat.mul_zero, Nat.add_zero] at this ⊢
    rw [List.map_cons, List.map_cons, List.sum_cons, this]
    simp [sumT]
theorem linesT_len : ∀ ls : List Tx, (linesT 10 ls).length = sumT ls
  | [] => rfl
  | a :: r => by
    rw [linesT_cons, List.length_append, List.length_cons, linesT_len r]
    simp [sumT]; omega
theorem linesT_sgn : ∀ {ls : List Tx}, (∀ s ∈ ls, sgn s) → sgn (linesT 10 ls)
  | [], _ => fun c hc => by simp [linesT] at hc
  | a :: r, h => fun c hc => by
    rw [linesT_cons] at hc
    rcases List.mem_append.mp hc with q | q
    · exact h a (by simp) c q
    · rcases List.mem_cons.mp q with rfl | q
      · decide
      · exact linesT_sgn (fun s hs => h s (by simp [hs])) c q
theorem be7_ok (n : Nat) {a b : Ob} {T : Hs} {k : Nat} {L : List Tx} {s : W} {x3 x4 x5 x6 x7 x8 x9 : Option W} (hk : T[k]? = some (Ob.lst (L.map W.str))) (hl : L.length ≤ 1002) (nl : NL 3000000 L) (hsum : sumT L ≤ 3000000) :
    ∃ (j : Hs) (bt : Tx), (∀ o ∈ j, o.under 0 = true) ∧ NT 3000000 bt ∧
      ex (clOf Pr wf (n + 2)) wf be7 [some (.ref 1), some s, some (.ref (k + 1 + 1)), x3, x4, x5, x6, x7, x8, x9] (a :: b :: T) = .nx [some (.ref 1), some s, some (.ref (k + 1 + 1)), x3, x4, some (.str bt), x6, x7, x8, x9] (a :: b :: (T ++ j)) := by
  have lw : (16000000 : Nat) ≤ lineW := by decide
  have cp := lines_comp2 (c := clOf Pr wf (n + 2)) (fr := [some (.ref 1), some s, some (.ref (k + 1 + 1)), x3, x4, x5, x6, x7, x8, x9]) (h := a :: b :: T) (ls := L) (i := 2) (k := k + 1 + 1) (v := 9) rfl hk (by omega) nl (by simp)
  have jo := join_ok (h := a :: b :: T ++ [Ob.lst ((L.map fun l => l ++ [10]).map W.str)]) (sep := []) (w := .ref (a :: b :: T).length) (ls := L.map fun l => l ++ [10]) (by rw [items_ref, get_new]) (by rw [List.length_nil, lines_sum2]; omega)
  rw [join_empty] at jo
  have lt : (L.map fun l => l ++ [10]).flatten = linesT 10 L := rfl
  rw [lt] at jo
  refine ⟨[Ob.lst ((L.map fun l => l ++ [10]).map W.str)], linesT 10 L, ?_, ⟨by rw [linesT_len]; exact hsum, linesT_sgn fun s hs => (nl s hs).2⟩, ?_⟩
  · intro o ho
    rw [List.mem_singleton.mp ho]; exact strs_under _
  · generalize (L.map fun l => l ++ [10]) = M at cp jo ⊢
    generalize linesT 10 L = bt at jo ⊢
    simp at cp jo
    simp [be7, Me.tys, cp, jo]
def CH9 : List Tx := [[32], [10], [97], [98], [122], [48], [49], [65], []]
theorem slc_str {s : Tx} {h : Hs} {lo hi : Option Int} (hl : s.length ≤ lineW) : slcV h (.str s) lo hi = .ok (.str (cut s lo hi)) h := by
  show okIf (decide (s.length ≤ lineW)) (W.str (cut s lo hi)) h = _
  rw [decide_eq_true hl]; rfl
theorem end_ok (n : Nat) {N : Nat} {a b : Ob} {T : Hs} {s : W} {bt : Tx} {x2 x3 x4 x6 x8 x9 : Option W} {kind : Nat} (hs : St2 (N + 3) a b) (hh : HOk (a :: b :: T)) (nb : NT 3000000 bt) :
    ∃ (a' b' : Ob) (j : Hs) (r : Tx), St2 N a' b' ∧ NT 3001000 r ∧
      ex (clOf Pr wf (n + 2)) wf (.seq be8 (.seq be9 .skip)) [some (.ref 1), some s, x2, x3, x4, some (.str bt), x6, some (.int (kind : Int)), x8, x9] (a :: b :: T) = .rt (.str r) (a' :: b' :: (T ++ j)) := by
  have lw : (16000000 : Nat) ≤ lineW := by decide
  have hbl := nb.1
  have hbl2 : List.length bt ≤ lineW := by omega
  by_cases c : kind = 2
  · subst c
    obtain ⟨a1, b1, i, h1, h2, h3, h4⟩ := bel (n + 1) (bt.length + 1) (N := N + 2) hs hh (by omega) (by omega)
    have h4' : lev Pr wf (n + 2) 16 [.ref 1, .int ((bt.length : Int) + 1)] (a :: b :: T) = .ok (.int (i : Int)) (a1 :: b1 :: T) := h4
    obtain ⟨C, hC⟩ : ∃ C : List Tx, C = [[32], [10], [97], [98], [122], [48], [49], [65]] := ⟨_, rfl⟩
    have ar := add_refs (h := a1 :: b1 :: (T ++ [Ob.lst (C.map W.str), Ob.lst [.str []]])) (n := T.length + 1 + 1) (m := T.length + 1 + 1 + 1) (xs := C.map W.str) (ys := [.str []]) (by simp) (by simp) (by rw [hC]; decide)
    have hc9 : C.map W.str ++ [W.str []] = CH9.map W.str := by rw [hC]; rfl
    rw [hc9] at ar
    obtain ⟨a2, b2, p, k1, k2, k3, k4⟩ := pick_strs n (N := N + 1) (T := T ++ [Ob.lst (C.map W.str), Ob.lst [.str []]]) (L := CH9) h1 (by
      rw [List.append_assoc]
      refine hok_app h2 fun o ho => ?_
      simp only [List.mem_append, List.mem_cons, List.not_mem_nil, or_false] at ho
      rcases ho with (rfl | rfl) | rfl
      · exact strs_under _
      · rfl
      · rfl) (by decide) (by decide)
    have np : NT 1000 p := dec_NL (m := 1000) (L := CH9) (by decide) p k3
    obtain ⟨a3, b3, q, p1, p2, p3, p4⟩ := bel (n + 1) 2 (N := N) k1 k2 (by decide) (by decide)
    have p4' : lev Pr wf (n + 2) 16 [.ref 1, .int 2] (a2 :: b2 :: (T ++ [Ob.lst (C.map W.str), Ob.lst [.str []]] ++ [Ob.lst (CH9.map W.str)])) = .ok (.int (q : Int)) (a3 :: b3 :: (T ++ [Ob.lst (C.map W.str), Ob.lst [.str []]] ++ [Ob.lst (CH9.map W.str)])) := p4
    have li : biV .list [.str [32, 10, 97, 98, 122, 48, 49, 65]] (a1 :: b1 :: T) = .ok (.ref (T.length + 1 + 1)) (a1 :: b1 :: (T ++ [Ob.lst (C.map W.str)])) := by rw [hC]; rfl
    have l1 := np.1
    have c1 : cut bt none (some (i : Int)) = bt.take i := cut_to _ _
    have c2 : cut bt (some ((i : Int) + (q : Int))) none = bt.drop (i + q) := cut_from bt (i + q)
    refine ⟨a3, b3, [Ob.lst (C.map W.str), Ob.lst [.str []], Ob.lst (CH9.map W.str)], bt.take i ++ p ++ bt.drop (i + q), p1, ⟨?_, ?_⟩, ?_⟩
    · simp
      omega
    · intro d hd
      rcases List.mem_append.mp hd with hd | hd
      · rcases List.mem_append.mp hd with hd | hd
        · exact nb.2 d (List.mem_of_mem_take hd)
        · exact np.2 d hd
      · exact nb.2 d (List.mem_of_mem_drop hd)
    · have b1' : min i (List.length bt) + List.length p ≤ lineW := by omega
      have b2' : min i (List.length bt) + List.length p + (List.length bt - (i + q)) ≤ lineW := by omega
      generalize CH9.map W.str = Z at ar k4 p4'
      generalize C.map W.str = Y at ar k4 p4' li
      simp at ar k4 p4'
      rw [Nat.add_assoc] at b2'
      simp [be8, hbl2, h4', slc_str, c1, li, new, ar, k4, p4', c2, b1', b2', Nat.add_assoc]
  · have c' : ¬ (kind : Int) = 2 := by omega
    have hN := hs.mono (M := N) (by omega)
    by_cases c3 : kind = 3
    · subst c3
      refine ⟨a, b, [], cut bt none (some ((bt.length : Int) - 1)), hN, ?_, ?_⟩
      · unfold cut
        exact ⟨by simp; omega, fun d hd => nb.2 d (List.mem_of_mem_drop (List.mem_of_mem_take hd))⟩
      · simp [be8, be9, hbl2, slc_str]
    · have c3' : ¬ (kind : Int) = 3 := by omega
      refine ⟨a, b, [], bt, hN, nb.mono (by decide), ?_⟩
      simp [be8, be9, c', c, c3', c3]
theorem mbent_ok (n : Nat) {N : Nat} {a b : Ob} {t : Hs} {s : Tx} (hs : St2 (N + 10) a b) (hh : HOk (a :: b :: t)) (ht : NT 1000 s) : ∃ (a' b' : Ob) (r : Tx), St2 N a' b' ∧ HOk (a' :: b' :: t) ∧ NT 3001000 r ∧ lev Pr wf (n + 3) 28 [.ref 1, .str s] (a :: b :: t) = .ok (.str r) (a' :: b' :: t) := by
  rw [L28, if_pos (show [W.ref 1, W.str s].length = 2 from rfl), b28_eq]
  have fr0 : startFr 10 [W.ref 1, .str s] = [some (.ref 1), some (.str s), none, none, none, none, none, none, none, none] := rfl
  rw [fr0]
  obtain ⟨a1, b1, j1, k, L, h1, o1, k1, l1, l2, l3, e0⟩ := be0_ok n (N := N + 9) (x2 := none) (x3 := none) (x4 := none) (x5 := none) (x6 := none) (x7 := none) (x8 := none) (x9 := none) hs hh ht
  have hh1 := hok_app (HOk.swap2 hs h1 hh) o1
  obtain ⟨a2, b2, Wd, i, kind, place, h2, p1, p2, p3, p4, p5, _, e1⟩ := be13_ok n (N := N + 6) (s := s) (x3 := none) (x4 := none) (x5 := none) (x6 := none) (x7 := none) (x8 := none) (x9 := none) h1 hh1 k1 l1 l2 l3
  have hh2 := hok_app (HOk.swap2 h1 h2 hh1) (j := [Ob.lst (Wd.map W.str)]) fun o ho => by rw [List.mem_singleton.mp ho]; exact strs_under _
  obtain ⟨j3, kw, W2, o3, k3, w1, w2, w3, e3⟩ := be4_ok n (a := a2) (b := b2) (T := t ++ j1 ++ [Ob.lst (Wd.map W.str)]) (kw := (t ++ j1).length) (Wd := Wd) (s := .str s) (x2 := some (.ref (k + 1 + 1))) (x5 := none) (x6 := some (.int (i : Int))) (x8 := none) (x9 := none) (kind := kind) (place := place) (get_new _ _ []) p3 p4 p5
  have hh3 := hok_app hh2 o3
  obtain ⟨a4, b4, j4, kw2, W3, h4, o4, k4, y1, y2, e4⟩ := be5_ok n (N := N + 5) (s := .str s) (x2 := some (.ref (k + 1 + 1))) (x5 := none) (x6 := some (.int (i : Int))) (x8 := none) (x9 := none) h2 hh3 k3 w2 w1 w3
  have hh4 := hok_app (HOk.swap2 h2 h4 hh3) o4
  have kL : (t ++ j1 ++ [Ob.lst (Wd.map W.str)] ++ j3 ++ j4)[k]? = some (Ob.lst (L.map W.str)) := get_app _ (get_app _ (get_app _ k1))
  obtain ⟨j5, k5, L2, o5, kk5, z1, z2, z3, e5⟩ := be6_ok n (a := a4) (b := b4) (s := .str s) (x4 := some (.int (place : Int))) (x5 := none) (x8 := none) (x9 := none) (kind := kind) kL k4 l2 l3 p1 y1 y2
  have hh5 := hok_app hh4 o5
  obtain ⟨j6, bt, o6, n6, e6⟩ := be7_ok n (a := a4) (b := b4) (s := .str s) (x3 := some (.ref (kw2 + 1 + 1))) (x4 := some (.int (place : Int))) (x5 := none) (x6 := some (.int (i : Int))) (x7 := some (.int (kind : Int))) (x8 := none) (x9 := none) kk5 z1 z2 z3
  have hh6 := hok_app hh5 o6
  obtain ⟨a7, b7, j7, r, h7, n7, e7⟩ := end_ok n (N := N + 2) (s := .str s) (x2 := some (.ref (k5 + 1 + 1))) (x3 := some (.ref (kw2 + 1 + 1))) (x4 := some (.int (place : Int))) (x6 := some (.int (i : Int))) (x8 := none) (x9 := none) (kind := kind) h4 hh6 n6
  refine ⟨a7, b7, r, h7.mono (by omega), HOk.swap2 hs h7 hh, n7, ?_⟩
  have hb : ex (clOf Pr wf (n + 2)) wf (.seq be0 (.seq be1 (.seq be2 (.seq be3 (.seq be4 (.seq be5 (.seq be6 (.seq be7 (.seq be8 (.seq be9 .skip)))))))))) [some (.ref 1), some (.str s), none, none, none, none, none, none, none, none] (a :: b :: t) = .rt (.str r) (a7 :: b7 :: (t ++ j1 ++ [Ob.lst (Wd.map W.str)] ++ j3 ++ j4 ++ j5 ++ j6 ++ j7)) := by
    have sq : ∀ (A B : S) fr h fr' h', ex (clOf Pr wf (n + 2)) wf A fr h = .nx fr' h' → ex (clOf Pr wf (n + 2)) wf (.seq A B) fr h = ex (clOf Pr wf (n + 2)) wf B fr' h' := fun A B fr h fr' h' e => by rw [ex_seq, e]
    rw [sq _ _ _ _ _ _ e0]
    have as : ∀ (R : S) fr h fr' h', ex (clOf Pr wf (n + 2)) wf (.seq be1 (.seq be2 (.seq be3 .skip))) fr h = .nx fr' h' → ex (clOf Pr wf (n + 2)) wf (.seq be1 (.seq be2 (.seq be3 R))) fr h = ex (clOf Pr wf (n + 2)) wf R fr' h' := fun R fr h fr' h' e => by
      rw [ex_seq] at e ⊢
      cases q1 : ex (clOf Pr wf (n + 2)) wf be1 fr h with
      | nx fr1 h1 =>
        rw [q1] at e
        simp only [ex_seq] at e ⊢
        cases q2 : ex (clOf Pr wf (n + 2)) wf be2 fr1 h1 with
        | nx fr2 h2 =>
          rw [q2] at e
          simp only at e ⊢
          cases q3 : ex (clOf Pr wf (n + 2)) wf be3 fr2 h2 with
          | nx fr3 h3 => rw [q3] at e; simp only [ex_skip] at e; cases e; rfl
          | _ => rw [q3] at e; cases e
        | _ => rw [q2] at e; cases e
      | _ => rw [q1] at e; cases e
    rw [as _ _ _ _ _ e1, sq _ _ _ _ _ _ e3, sq _ _ _ _ _ _ e4, sq _ _ _ _ _ _ e5, sq _ _ _ _ _ _ e6]
    exact e7
  rw [hb, endOf_rt]
  have e : t ++ j1 ++ [Ob.lst (Wd.map W.str)] ++ j3 ++ j4 ++ j5 ++ j6 ++ j7 = t ++ (j1 ++ [Ob.lst (Wd.map W.str)] ++ j3 ++ j4 ++ j5 ++ j6 ++ j7) := by simp
  rw [e]
  exact gc_draw2 hs h7 hh (by rfl)
end K74P
end
section
set_option Elab.async false
set_option linter.all false
set_option maxRecDepth 100000
set_option maxHeartbeats 0
/-! k74: the law's statements, the first ones. -/
namespace K74P
open K74 hiding R
open Mi
def lt0 : S := S.asg (Tg.nm 3)
            (E.comp [14] (Tg.nm 14)
              (It.rng (Es.cons (E.call 16 (Es.cons (E.var 1) (Es.cons (E.con (W.int 9)) Es.nil))) Es.nil))
              Es.nil (E.call 24 (Es.cons (E.var 1) Es.nil)))
def lt1 : S := S.asg (Tg.nm 4)
              (E.me Me.join (E.con (W.str []))
                (Es.cons
                  (E.comp [15] (Tg.nm 15) (It.val (E.var 3)) Es.nil
                    (E.bin Bo.add (E.call 25 (Es.cons (E.var 15) Es.nil)) (E.con (W.str [10]))))
                  Es.nil))
def lt2 : S := S.asg (Tg.nm 5) (E.told 0 (E.call 12 (Es.cons (E.var 4) Es.nil)))
def lt3 : S := S.iff
                  (E.or
                    (E.not
                      (E.call 19
                        (Es.cons (E.var 5)
                          (Es.cons (E.tup (Es.cons (E.con (W.str [116, 111, 108, 100])) (Es.cons (E.var 3) Es.nil)))
                            Es.nil))))
                    (E.or
                      (E.not
                        (E.call 23
                          (Es.cons (E.lst (Es.cons (E.idx (E.var 5) (E.con (W.int 1))) Es.nil)) Es.nil)))
                      (E.cmp Co.isnot (E.call 11 (Es.cons (E.var 4) Es.nil)) (E.con W.non))))
                  (S.seq (S.ret (E.con (W.bl false))) S.skip) S.skip
def lt4 : S := S.iff
                    (E.not
                      (E.call 19
                        (Es.cons
                          (E.told 0
                            (E.call 8 (Es.cons (E.call 20 (Es.cons (E.var 1) (Es.cons (E.var 3) Es.nil))) Es.nil)))
                          (Es.cons (E.tup (Es.cons (E.con (W.str [116, 111, 108, 100])) (Es.cons (E.var 4) Es.nil)))
                            Es.nil))))
                    (S.seq (S.ret (E.con (W.bl false))) S.skip) S.skip
def lt5_0 : S := S.asg (Tg.nm 10) (E.call 28 (Es.cons (E.var 1) (Es.cons (E.var 4) Es.nil)))
def lt5_1 : S := S.asg (Tg.nm 11)
                            (E.comp [16] (Tg.nm 16)
                              (It.val
                                (E.slc (E.me Me.split (E.var 10) (Es.cons (E.con (W.str [10])) Es.nil)) Es.nil
                                  (Es.cons (E.neg (E.con (W.int 1))) Es.nil)))
                              Es.nil (E.call 27 (Es.cons (E.var 16) Es.nil)))
def lt5_2 : S := S.asg (Tg.nm 12)
                              (E.ite
                                (E.cmp Co.isin
                                  (E.slc (E.var 10) (Es.cons (E.neg (E.con (W.int 1))) Es.nil) Es.nil)
                                  (E.tup (Es.cons (E.con (W.str [])) (Es.cons (E.con (W.str [10])) Es.nil))))
                                (E.con W.non)
                                (E.bin Bo.add (E.bi Bi.len (Es.cons (E.var 11) Es.nil)) (E.con (W.int 1))))
def lt5_3 : S := S.asg (Tg.nm 12)
                                (E.ite (E.cmp Co.isin (E.con W.non) (E.var 11))
                                  (E.bin Bo.add (E.me Me.index (E.var 11) (Es.cons (E.con W.non) Es.nil))
                                    (E.con (W.int 1)))
                                  (E.var 12))
def lt5_4 : S := S.iff
                                  (E.not
                                    (E.call 19
                                      (Es.cons (E.call 11 (Es.cons (E.var 10) Es.nil)) (Es.cons (E.var 12) Es.nil))))
                                  (S.seq (S.ret (E.con (W.bl false))) S.skip) S.skip
def lt5_5 : S := S.iff
                                    (E.not
                                      (E.call 19
                                        (Es.cons (E.told 0 (E.call 12 (Es.cons (E.var 10) Es.nil)))
                                          (Es.cons
                                            (E.ite (E.cmp Co.is (E.var 12) (E.con W.non))
                                              (E.tup
                                                (Es.cons (E.con (W.str [116, 111, 108, 100]))
                                                  (Es.cons (E.var 11) Es.nil)))
                                              (E.tup
                                                (Es.cons (E.con (W.str [116, 101, 120, 116]))
                                                  (Es.cons (E.var 12) Es.nil))))
                                            Es.nil))))
                                    (S.seq (S.ret (E.con (W.bl false))) S.skip) S.skip
def lb5 : S := (S.seq lt5_0 (S.seq lt5_1 (S.seq lt5_2 (S.seq lt5_3 (S.seq lt5_4 (S.seq lt5_5 S.skip))))))
def lt5 : S := S.for (Tg.nm 6) (It.rng (Es.cons (E.con (W.int 10)) Es.nil)) lb5
def lt6 : S := S.asg (Tg.nm 7)
                        (E.call 16
                          (Es.cons (E.var 1)
                            (Es.cons (E.bin Bo.add (E.bi Bi.len (Es.cons (E.var 3) Es.nil)) (E.con (W.int 1)))
                              Es.nil)))
def lt7 : S := S.asg (Tg.nm 8)
                          (E.lst
                            (Es.cons (E.con W.non)
                              (Es.cons (E.con (W.int 5))
                                (Es.cons (E.con (W.str [112, 105, 110]))
                                  (Es.cons (E.tup (Es.cons (E.con (W.str [112, 105, 110])) Es.nil))
                                    (Es.cons
                                      (E.tup
                                        (Es.cons (E.con (W.str [112, 105, 110])) (Es.cons (E.con (W.str [65])) Es.nil)))
                                      (Es.cons
                                        (E.tup
                                          (Es.cons (E.con (W.str [112, 105, 110]))
                                            (Es.cons (E.con (W.int 5)) Es.nil)))
                                        (Es.cons
                                          (E.tup
                                            (Es.cons (E.con (W.str [115, 116, 111, 112]))
                                              (Es.cons (E.con (W.str [97])) Es.nil)))
                                          (Es.cons
                                            (E.tup
                                              (Es.cons (E.con (W.str [116, 97, 107, 101]))
                                                (Es.cons (E.con (W.bl true)) Es.nil)))
                                            (Es.cons
                                              (E.tup
                                                (Es.cons (E.con (W.str [116, 97, 107, 101]))
                                                  (Es.cons (E.neg (E.con (W.int 1))) Es.nil)))
                                              (Es.cons
                                                (E.tup
                                                  (Es.cons (E.con (W.str [116, 97, 107, 101]))
                                                    (Es.cons (E.con (W.str [49])) Es.nil)))
                                                Es.nil)))))))))))
def lt8 : S := S.asg (Tg.nm 8)
                            (E.bin Bo.add (E.var 8)
                              (E.lst
                                (Es.cons
                                  (E.tup
                                    (Es.cons (E.con (W.str [112, 117, 116]))
                                      (Es.cons (E.con (W.str [97])) (Es.cons (E.tup Es.nil) Es.nil))))
                                  (Es.cons
                                    (E.tup
                                      (Es.cons (E.con (W.str [112, 117, 116]))
                                        (Es.cons (E.con (W.str [97])) (Es.cons (E.con (W.str [97, 98])) Es.nil))))
                                    (Es.cons
                                      (E.tup
                                        (Es.cons (E.con (W.str [112, 117, 116]))
                                          (Es.cons (E.con (W.str [97]))
                                            (Es.cons
                                              (E.tup
                                                (Es.cons (E.con (W.str [97]))
                                                  (Es.cons (E.con (W.str [98]))
                                                    (Es.cons (E.con (W.str [99]))
                                                      (Es.cons (E.con (W.str [100])) Es.nil)))))
                                              Es.nil))))
                                      (Es.cons
                                        (E.tup
                                          (Es.cons (E.con (W.str [109, 111, 118, 101]))
                                            (Es.cons
                                              (E.tup (Es.cons (E.tup (Es.cons (E.con (W.str [97])) Es.nil)) Es.nil))
                                              Es.nil)))
                                        (Es.cons
                                          (E.tup
                                            (Es.cons (E.con (W.str [109, 111, 118, 101])) (Es.cons (E.con W.non) Es.nil)))
                                          Es.nil)))))))
def lt9 : S := S.asg (Tg.nm 8)
                              (E.bin Bo.add (E.var 8)
                                (E.lst
                                  (Es.cons
                                    (E.tup
                                      (Es.cons (E.con (W.str [109, 101, 110, 100]))
                                        (Es.cons (E.con (W.str [97])) (Es.cons (E.con (W.str [98])) Es.nil))))
                                    (Es.cons
                                      (E.tup
                                        (Es.cons (E.con (W.str [109, 101, 110, 100]))
                                          (Es.cons (E.con (W.str [97]))
                                            (Es.cons (E.con (W.str [98]))
                                              (Es.cons
                                                (E.tup
                                                  (Es.cons
                                                    (E.tup
                                                      (Es.cons (E.con (W.str [97]))
                                                        (Es.cons (E.con (W.str [66])) Es.nil)))
                                                    Es.nil))
                                                Es.nil)))))
                                      (Es.cons
                                        (E.tup
                                          (Es.cons (E.con (W.str [99, 104, 97, 110, 103, 101]))
                                            (Es.cons (E.con (W.str [97])) (Es.cons (E.con W.non) Es.nil))))
                                        (Es.cons (E.tup Es.nil)
                                          (Es.cons
                                            (E.tup
                                              (Es.cons (E.con (W.str [108, 101, 97, 118, 101]))
                                                (Es.cons (E.con (W.str [97])) (Es.cons (E.con (W.str [98])) Es.nil))))
                                            Es.nil)))))))
def lt10_0 : S := S.asg (Tg.nm 13)
                                    (E.bin Bo.add
                                      (E.bin Bo.add (E.slc (E.var 3) Es.nil (Es.cons (E.var 7) Es.nil))
                                        (E.lst (Es.cons (E.var 9) Es.nil)))
                                      (E.slc (E.var 3) (Es.cons (E.var 7) Es.nil) Es.nil))
def lt10_1 : S := S.iff
                                      (E.not
                                        (E.call 19
                                          (Es.cons (E.told 0 (E.call 8 (Es.cons (E.var 13) Es.nil)))
                                            (Es.cons
                                              (E.tup
                                                (Es.cons (E.con (W.str [100, 101, 101, 100])) (Es.cons (E.var 7) Es.nil)))
                                              Es.nil))))
                                      (S.seq (S.ret (E.con (W.bl false))) S.skip) S.skip
def lb10 : S := (S.seq lt10_0 (S.seq lt10_1 S.skip))
def lt10 : S := S.for (Tg.nm 9) (It.val (E.var 8)) lb10
def lt11_0 : S := S.iff
                                      (E.not
                                        (E.call 19
                                          (Es.cons (E.told 0 (E.call 8 (Es.cons (E.var 9) Es.nil)))
                                            (Es.cons
                                              (E.tup
                                                (Es.cons (E.con (W.str [100, 101, 101, 100]))
                                                  (Es.cons (E.con (W.int 0)) Es.nil)))
                                              Es.nil))))
                                      (S.seq (S.ret (E.con (W.bl false))) S.skip) S.skip
def lb11 : S := (S.seq lt11_0 S.skip)
def lt11 : S := S.for (Tg.nm 9) (It.val
                                    (E.lst
                                      (Es.cons (E.con W.non)
                                        (Es.cons (E.con (W.int 3))
                                          (Es.cons (E.con (W.str [])) (Es.cons (E.dis [] Es.nil) Es.nil)))))) lb11
def lt12_0 : S := S.iff
                                        (E.or
                                          (E.not
                                            (E.call 19
                                              (Es.cons (E.call 11 (Es.cons (E.var 9) Es.nil))
                                                (Es.cons (E.con (W.int 0)) Es.nil))))
                                          (E.not
                                            (E.call 19
                                              (Es.cons (E.told 0 (E.call 12 (Es.cons (E.var 9) Es.nil)))
                                                (Es.cons
                                                  (E.tup
                                                    (Es.cons (E.con (W.str [116, 101, 120, 116]))
                                                      (Es.cons (E.con (W.int 0)) Es.nil)))
                                                  Es.nil)))))
                                        (S.seq (S.ret (E.con (W.bl false))) S.skip) S.skip
def lb12 : S := (S.seq lt12_0 S.skip)
def lt12 : S := S.for (Tg.nm 9) (It.val
                                      (E.lst
                                        (Es.cons (E.con W.non)
                                          (Es.cons (E.con (W.int 5))
                                            (Es.cons (E.lst (Es.cons (E.var 4) Es.nil)) Es.nil))))) lb12
def ltB : S := (S.seq lt0 (S.seq lt1 (S.seq lt2 (S.seq lt3 (S.seq lt4 (S.seq lt5 (S.seq lt6 (S.seq lt7 (S.seq lt8 (S.seq lt9 (S.seq lt10 (S.seq lt11 (S.seq lt12 S.skip)))))))))))))
def lawR : S := S.seq (S.for (Tg.nm 2) (It.rng (Es.cons (E.con (W.int 3)) Es.nil)) ltB) (S.seq (S.ret (E.con (W.bl true))) S.skip)
theorem b29_eq : b29 = S.seq (S.asg (Tg.nm 1) (E.call 15 (Es.cons (E.var 0) Es.nil))) lawR := rfl

theorem fs19 : ∃ X, Pr.fns 19 = some ⟨2, 4, sameB 19 X⟩ := ⟨(S.seq
          (S.ret
            (E.and (E.isi (E.var 0) [Ty.dic])
              (E.call 19
                (Es.cons (E.bi Bi.list (Es.cons E.bad Es.nil)) (Es.cons (E.bi Bi.list (Es.cons E.bad Es.nil)) Es.nil)))))
          S.skip), by rw [show sameB 19 _ = b19 from rfl, ← e19]; rfl⟩
theorem fs20 : ∃ X, Pr.fns 20 = some ⟨2, 5, looseB 20 16 X⟩ := ⟨(S.seq (S.ret E.bad) S.skip), by rw [show looseB 20 16 _ = b20 from rfl, ← e20]; rfl⟩
theorem fs21 : ∃ X, Pr.fns 21 = some ⟨1, 3, spoiltB 21 X⟩ := ⟨(S.seq
        (S.for (Tg.nm 1) (It.val (E.bi Bi.list (Es.cons (E.var 0) Es.nil)))
          (S.seq (S.ex (E.call 21 (Es.cons (E.idx (E.var 0) (E.var 1)) Es.nil))) S.skip))
        (S.seq (S.sti (E.var 0) (E.con (W.str [76, 65, 84, 69])) (E.bin Bo.add E.bad (E.con (W.int 1))))
          S.skip)), by rw [show spoiltB 21 _ = b21 from rfl, ← e21]; rfl⟩
theorem fs22 : ∃ X, Pr.fns 22 = some ⟨1, 4, onceB 22 X⟩ := ⟨(S.seq
        (S.ret
          (E.and (E.cmp Co.eq (E.idx (E.var 0) (E.con (W.str [76, 65, 84, 69]))) (E.con (W.int 1)))
            (E.bi Bi.all
              (Es.cons
                (E.comp [2] (Tg.nm 2) (It.val (E.var 0))
                  (Es.cons (E.cmp Co.ne (E.var 2) (E.con (W.str [76, 65, 84, 69]))) Es.nil)
                  (E.call 22 (Es.cons (E.idx (E.var 0) (E.var 2)) Es.nil)))
                Es.nil))))
        S.skip), by rw [show onceB 22 _ = b22 from rfl, ← e22]; rfl⟩
theorem fs23 : Pr.fns 23 = some ⟨1, 1, apartB 21 22⟩ := by rw [show apartB 21 22 = b23 from rfl, ← e23]; rfl
theorem same_t (k n : Nat) {h : Hs} {x y : W} (s : Sm h k x y) : lev Pr wf (n + k + 1) 19 [x, y] h = .ok (.bl true) h := by
  obtain ⟨X, hf⟩ := fs19
  exact same_ok hf k n s
/-! ### sameness -/
theorem sm_pairL {h : Hs} : ∀ l : List Tx, ∀ p ∈ (pairL l).zip (pairL l), Sm h 1 p.1 p.2
  | a :: b :: r => by
    intro p hp
    rw [pairL, List.zip_cons_cons] at hp
    rcases List.mem_cons.mp hp with rfl | hp
    · refine .tup 0 _ _ rfl (by simp) ?_
      intro p hp
      simp only [List.zip_cons_cons, List.zip_nil_left, List.mem_cons, List.not_mem_nil, or_false] at hp
      rcases hp with rfl | rfl <;> exact .str 0 _
    · exact sm_pairL r p hp
  | [a] => by intro p hp; simp [pairL] at hp
  | [] => by intro p hp; simp [pairL] at hp
theorem sm_strs {h : Hs} {k : Nat} : ∀ l : List Tx, ∀ p ∈ (l.map W.str).zip (l.map W.str), Sm h k p.1 p.2
  | a :: r => by
    intro p hp
    rw [List.map_cons, List.zip_cons_cons] at hp
    rcases List.mem_cons.mp hp with rfl | hp
    · exact .str k _
    · exact sm_strs r p hp
  | [] => by intro p hp; simp at hp
theorem sm_pl {h : Hs} {l : List Tx} (hl : (pairL l).length ≤ lineW) : ∀ pre : List Tx, ∀ p ∈ (pre.map W.str ++ [W.tup (pairL l)]).zip (pre.map W.str ++ [W.tup (pairL l)]), Sm h 2 p.1 p.2
  | a :: r => by
    intro p hp
    rw [List.map_cons, List.cons_append, List.zip_cons_cons] at hp
    rcases List.mem_cons.mp hp with rfl | hp
    · exact .str 2 _
    · exact sm_pl hl r p hp
  | [] => by
    intro p hp
    simp only [List.map_nil, List.nil_append, List.zip_cons_cons, List.zip_nil_left, List.mem_singleton] at hp
    subst hp
    exact .tup 1 _ _ rfl hl (sm_pairL l)
theorem sm_w {h : Hs} {d : Dd} (hl : d.words.length ≤ 4000000) : Sm h 3 d.w d.w := by
  have lw : (16000000 : Nat) ≤ lineW := by decide
  cases d with
  | nm wd args =>
    have hl : args.length + 1 ≤ 4000000 := hl
    refine .tup 2 _ _ rfl (by simp; omega) (sm_strs (wd :: args))
  | take i =>
    refine .tup 2 _ _ rfl (by simp) ?_
    intro p hp
    simp only [List.zip_cons_cons, List.zip_nil_left, List.mem_cons, List.not_mem_nil, or_false] at hp
    rcases hp with rfl | rfl
    · exact .str 2 _
    · exact .int 2 _
  | put a ps =>
    have hl : ps.length + 1 + 1 ≤ 4000000 := hl
    refine .tup 2 _ _ rfl (by simp) ?_
    intro p hp
    simp only [List.zip_cons_cons, List.zip_nil_left, List.mem_cons, List.not_mem_nil, or_false] at hp
    rcases hp with rfl | rfl | rfl
    · exact .str 2 _
    · exact .str 2 _
    · exact .tup 1 _ _ rfl (by simp; omega) (sm_strs ps)
  | plan wd pre l =>
    have hl : (pre ++ l).length + 1 ≤ 4000000 := hl
    simp at hl
    have h2 := pairL_len l
    refine .tup 2 _ _ rfl (by simp; omega) ?_
    intro p hp
    rw [List.zip_cons_cons] at hp
    rcases List.mem_cons.mp hp with rfl | hp
    · exact .str 2 _
    · exact sm_pl (by omega) pre p hp
theorem sm_zip {α : Type} {h : Hs} {k : Nat} {f : α → W} : ∀ {l : List α}, (∀ x ∈ l, Sm h k (f x) (f x)) → ∀ p ∈ (l.map f).zip (l.map f), Sm h k p.1 p.2
  | a :: r, hx => by
    intro p hp
    rw [List.map_cons, List.zip_cons_cons] at hp
    rcases List.mem_cons.mp hp with rfl | hp
    · exact hx a (by simp)
    · exact sm_zip (fun x h => hx x (by simp [h])) p hp
  | [], _ => by intro p hp; simp at hp
theorem sm_two {h : Hs} {k : Nat} {s : Tx} {x y : W} (e : Sm h k x y) : Sm h (k + 1) (.tup [.str s, x]) (.tup [.str s, y]) := by
  refine .tup k _ _ rfl (by simp) ?_
  intro p hp
  simp only [List.zip_cons_cons, List.zip_nil_left, List.mem_cons, List.not_mem_nil, or_false] at hp
  rcases hp with rfl | rfl
  · exact .str k _
  · exact e
/-! ### plain things -/
theorem pw_name {k : Nat} {s : Tx} (h : nameT s = true) : Pw k (.str s) := by
  have w := name_word h
  refine .str k s ?_ fun c hc => by have := (w.2 c hc).2; omega
  intro e
  subst e
  revert h; decide
theorem pw_ar {k : Nat} {s : Tx} {m : Nat} (h : arN s = some m) : Pw k (.str s) := by
  have w := arN_word h
  refine .str k s ?_ fun c hc => by have := (w.2 c hc).2; omega
  intro e
  subst e
  have : arN LATE = none := by decide +kernel
  rw [this] at h; cases h
theorem pw_pairL {k : Nat} : ∀ {l : List Tx}, l.all nameT = true → ∀ x ∈ pairL l, Pw (k + 1) x
  | a :: b :: r, h => by
    simp only [List.all_cons, Bool.and_eq_true] at h
    intro x hx
    rw [pairL] at hx
    rcases List.mem_cons.mp hx with rfl | hx
    · refine .tup k _ (by show 2 < lineW; decide) ?_
      intro y hy
      simp only [List.mem_cons, List.not_mem_nil, or_false] at hy
      rcases hy with rfl | rfl
      · exact pw_name h.1
      · exact pw_name h.2.1
    · exact pw_pairL h.2.2 x hx
  | [a], _ => by intro x hx; simp [pairL] at hx
  | [], _ => by intro x hx; simp [pairL] at hx
theorem pw_names {k : Nat} {l : List Tx} (h : l.all nameT = true) : ∀ x ∈ l.map W.str, Pw k x := by
  intro x hx
  obtain ⟨s, hs, rfl⟩ := List.mem_map.mp hx
  exact pw_name (List.all_eq_true.mp h s hs)
theorem pw_con {k : Nat} {s : Tx} (h1 : s ≠ LATE) (h2 : (s.all fun c => decide (c < 1114112)) = true) : Pw k (.str s) := .str k s h1 fun c hc => of_decide_eq_true (List.all_eq_true.mp h2 c hc)
theorem pw_w {d : Dd} (hd : d.ok) (hl : d.words.length ≤ 4000000) : Pw 3 d.w := by
  have lw : (16000000 : Nat) < lineW := by decide
  cases d with
  | nm wd args =>
    have hl : args.length + 1 ≤ 4000000 := hl
    refine .tup 2 _ (by simp; omega) ?_
    intro x hx
    rcases List.mem_cons.mp hx with rfl | hx
    · exact pw_ar hd.1
    · exact pw_names hd.2 x hx
  | take i =>
    refine .tup 2 _ (by show 2 < lineW; decide) ?_
    intro x hx
    simp only [List.mem_cons, List.not_mem_nil, or_false] at hx
    rcases hx with rfl | rfl
    · exact pw_con (by decide) (by decide)
    · exact .int 2 _
  | put a ps =>
    have hl : ps.length + 1 + 1 ≤ 4000000 := hl
    obtain ⟨_, _, h3⟩ := hd
    simp only [List.all_cons, Bool.and_eq_true] at h3
    refine .tup 2 _ (by show 3 < lineW; decide) ?_
    intro x hx
    simp only [List.mem_cons, List.not_mem_nil, or_false] at hx
    rcases hx with rfl | rfl | rfl
    · exact pw_con (by decide) (by decide)
    · exact pw_name h3.1
    · exact .tup 1 _ (by simp; omega) (pw_names h3.2)
  | plan wd pre l =>
    have hl : (pre ++ l).length + 1 ≤ 4000000 := hl
    simp at hl
    obtain ⟨h1, _, _, h4⟩ := hd
    rw [List.all_append, Bool.and_eq_true] at h4
    have h2 := pairL_len l
    refine .tup 2 _ (by simp; omega) ?_
    intro x hx
    rcases List.mem_cons.mp hx with rfl | hx
    · rcases h1 with rfl | rfl <;> exact pw_con (by decide) (by decide)
    · rcases List.mem_append.mp hx with hx | hx
      · exact pw_names h4.1 x hx
      · rw [List.mem_singleton.mp hx]
        exact .tup 1 _ (by omega) (pw_pairL h4.2)
/-- what the drawn deeds are -/
def DL (ds : List Dd) : Prop := ds.length ≤ 8 ∧ ∀ d ∈ ds, d.ok ∧ d.words.length ≤ 12
theorem dl_100 {ds : List Dd} (h : DL ds) : ∀ d ∈ ds, d.ok ∧ d.words.length ≤ 100 := fun d hd => ⟨(h.2 d hd).1, Nat.le_trans (h.2 d hd).2 (by decide)⟩
theorem deeds_of : ∀ {xs : List W}, (∀ x ∈ xs, ∃ d : Dd, (d.ok ∧ d.words.length ≤ 12) ∧ x = d.w) → ∃ ds : List Dd, ds.length = xs.length ∧ (∀ d ∈ ds, d.ok ∧ d.words.length ≤ 12) ∧ xs = ds.map Dd.w
  | [], _ => ⟨[], rfl, by simp, rfl⟩
  | x :: r, h => by
    obtain ⟨d, h1, rfl⟩ := h x (by simp)
    obtain ⟨l, e1, e2, e3⟩ := deeds_of (xs := r) fun y hy => h y (by simp [hy])
    refine ⟨d :: l, by simp [e1], ?_, by rw [List.map_cons, e3]⟩
    intro y hy
    rcases List.mem_cons.mp hy with rfl | hy
    · exact h1
    · exact e2 y hy
theorem deeds_under (ds : List Dd) (m : Nat) : (Ob.lst (ds.map Dd.w)).under m = true := unders_of fun w hw => by
  obtain ⟨d, _, rfl⟩ := List.mem_map.mp hw
  exact w_under m
theorem compL_map2 {α : Type} {f : W → Hs → R (Option W)} {g : Hs → Bool} {p q : α → W} {h : Hs} (hg : g h = true) : ∀ (l : List α) (acc : List W), (∀ x ∈ l, f (p x) h = .ok (some (q x)) h) → acc.length + l.length ≤ lineW → compL f g (l.map p) acc h = .ok (acc ++ l.map q) h
  | [], acc, _, _ => by rw [List.map_nil]; unfold compL; rw [if_pos hg]; simp
  | x :: r, acc, hf, hl => by
    have hl' : acc.length + (r.length + 1) ≤ lineW := hl
    rw [List.map_cons]
    unfold compL
    rw [if_pos hg, hf x (by simp)]
    show (if acc.length < lineW then compL f g (r.map p) (acc ++ [q x]) h else .stk) = _
    rw [if_pos (by omega), compL_map2 hg r (acc ++ [q x]) (fun y hy => hf y (by simp [hy])) (by simp; omega)]
    simp
section
variable {x0 x2 x3 x4 x5 x6 x7 x8 x9 x10 x11 x12 x13 x14 x15 x16 : Option W}
theorem lt0_ok (n : Nat) {N : Nat} {a b : Ob} {T : Hs} (hs : St2 (N + 321) a b) (hh : HOk (a :: b :: T)) : ∃ (a' b' : Ob) (ds : List Dd), St2 N a' b' ∧ HOk (a' :: b' :: (T ++ [Ob.lst (ds.map Dd.w)])) ∧ DL ds ∧ ex (clOf Pr wf (n + 5)) wf lt0 [x0, some (.ref 1), x2, x3, x4, x5, x6, x7, x8, x9, x10, x11, x12, x13, x14, x15, x16] (a :: b :: T) = .nx [x0, some (.ref 1), x2, some (.ref (T.length + 1 + 1)), x4, x5, x6, x7, x8, x9, x10, x11, x12, x13, x14, x15, x16] (a' :: b' :: (T ++ [Ob.lst (ds.map Dd.w)])) := by
  have lw : (1000 : Nat) < lineW := by decide
  obtain ⟨a1, b1, i, h1, h2, h3, h4⟩ := bel (n + 4) 9 (N := N + 320) hs hh (by decide) (by decide)
  have h4' : lev Pr wf (n + 5) 16 [.ref 1, .int 9] (a :: b :: T) = .ok (.int (i : Int)) (a1 :: b1 :: T) := h4
  obtain ⟨a2, b2, xs, k1, k2, k3, k4⟩ := compL_draw (g := fun _ => true) (t := T) (c := 40) (Q := fun x => ∃ d : Dd, (d.ok ∧ d.words.length ≤ 12) ∧ x = d.w)
    (f := compF (clOf Pr wf (n + 5)) [x0, some (.ref 1), x2, x3, x4, x5, x6, x7, x8, x9, x10, x11, x12, x13, x14, x15, x16] [14] (.nm 14) .nil (E.call 24 (Es.cons (E.var 1) Es.nil))) (fun _ _ => rfl) (fun w M a b hs hh => by
      obtain ⟨a', b', d, q1, q2, q3, q4, q5⟩ := mform_ok n hs hh
      exact ⟨a', b', _, q1, ⟨d, ⟨q3, q4⟩, rfl⟩, by simp [q5]⟩) (rangeL 0 1 i) [] (N + 40 * (8 - i)) a1 b1 (by rw [rangeL_length]; exact h1.mono (by omega)) h2 (by rw [rangeL_length]; simp; omega) (by simp)
  rw [rangeL_length] at k3
  obtain ⟨ds, d1, d2, rfl⟩ := deeds_of k4
  have hh2 := HOk.swap2 h1 k1 h2
  refine ⟨a2, b2, ds, k1.mono (by omega), HOk.snoc2 hh2 (deeds_under ds _), ⟨by simp at k3; omega, d2⟩, ?_⟩
  have ec : ∀ fr : Fr, fr = [x0, some (.ref 1), x2, x3, x4, x5, x6, x7, x8, x9, x10, x11, x12, x13, x14, x15, x16] → ev (clOf Pr wf (n + 5)) (E.comp [14] (Tg.nm 14)
              (It.rng (Es.cons (E.call 16 (Es.cons (E.var 1) (Es.cons (E.con (W.int 9)) Es.nil))) Es.nil))
              Es.nil (E.call 24 (Es.cons (E.var 1) Es.nil))) fr (a :: b :: T) = .ok (.ref (T.length + 1 + 1)) (a2 :: b2 :: (T ++ [Ob.lst (ds.map Dd.w)])) := by
    intro fr hfr
    subst hfr
    rw [ev_compF, rng_bind (k := i) (h' := a1 :: b1 :: T) (by simp [h4']) (by omega)]
    simp only [R.bind_ok]
    rw [k2]
    simp [new]
  simp [lt0, ec]
theorem text_nt {ds : List Dd} (h : DL ds) : NT 1000 (linesT 10 (ds.map Dd.line)) := by
  have nl : NL 120 (ds.map Dd.line) := fun s hs => by
    obtain ⟨d, hd, rfl⟩ := List.mem_map.mp hs
    have q := h.2 d hd
    refine ⟨?_, fun c hc => ?_⟩
    · have := line_len q.1
      omega
    · have := line_signs q.1 c hc
      omega
  refine ⟨?_, linesT_sgn fun s hs => (nl s hs).2⟩
  rw [linesT_len]
  have := sumT_le nl
  have hl := h.1
  rw [List.length_map] at this
  have : ds.length * 121 ≤ 8 * 121 := Nat.mul_le_mul_right _ hl
  omega
theorem lt1_ok (n : Nat) {a b : Ob} {T : Hs} {k : Nat} {ds : List Dd} (hk : T[k]? = some (Ob.lst (ds.map Dd.w))) (hd : DL ds) : ∃ j, (∀ o ∈ j, o.under 0 = true) ∧ ex (clOf Pr wf (n + 1)) wf lt1 [x0, some (.ref 1), x2, some (.ref (k + 1 + 1)), x4, x5, x6, x7, x8, x9, x10, x11, x12, x13, x14, x15, x16] (a :: b :: T) = .nx [x0, some (.ref 1), x2, some (.ref (k + 1 + 1)), some (.str (linesT 10 (ds.map Dd.line))), x5, x6, x7, x8, x9, x10, x11, x12, x13, x14, x15, x16] (a :: b :: (T ++ j)) := by
  have lw : (16000000 : Nat) ≤ lineW := by decide
  have h8 := hd.1
  have cp : ∀ fr : Fr, fr = [x0, some (.ref 1), x2, some (.ref (k + 1 + 1)), x4, x5, x6, x7, x8, x9, x10, x11, x12, x13, x14, x15, x16] → ev (clOf Pr wf (n + 1)) (E.comp [15] (Tg.nm 15) (It.val (E.var 3)) Es.nil
                    (E.bin Bo.add (E.call 25 (Es.cons (E.var 15) Es.nil)) (E.con (W.str [10])))) fr (a :: b :: T) = .ok (.ref (a :: b :: T).length) (a :: b :: T ++ [Ob.lst (((ds.map Dd.line).map fun l => l ++ [10]).map W.str)]) := by
    intro fr hfr
    subst hfr
    rw [ev_compF, evi_row (w := .ref (k + 1 + 1)) (ws := ds.map Dd.w) (h' := a :: b :: T) (by simp) (by simp [hk])]
    simp only [R.bind_ok]
    rw [compL_map2 (q := fun d : Dd => .str (d.line ++ [10])) (still_self _ _) ds [] (fun d hd' => by
      have q := hd.2 d hd'
      have sd := said_ok n q.1 (by omega) (a :: b :: T)
      have ll := line_len q.1
      have l2 : List.length d.line + 1 ≤ lineW := by omega
      simp [sd, l2]) (by simp; omega)]
    simp [new, List.map_map, Function.comp_def]
  have nl : NL 3000000 (ds.map Dd.line) := fun s hs => by
    obtain ⟨d, hd', rfl⟩ := List.mem_map.mp hs
    have q := hd.2 d hd'
    have ll := line_len q.1
    exact ⟨by omega, fun c hc => by have := line_signs q.1 c hc; omega⟩
  have tn := (text_nt hd).1
  rw [linesT_len] at tn
  have jo := join_ok (h := a :: b :: T ++ [Ob.lst (((ds.map Dd.line).map fun l => l ++ [10]).map W.str)]) (sep := []) (w := .ref (a :: b :: T).length) (ls := (ds.map Dd.line).map fun l => l ++ [10]) (by rw [items_ref, get_new]) (by rw [List.length_nil, lines_sum2]; omega)
  rw [join_empty] at jo
  have lt : ((ds.map Dd.line).map fun l => l ++ [10]).flatten = linesT 10 (ds.map Dd.line) := rfl
  rw [lt] at jo
  refine ⟨[Ob.lst (((ds.map Dd.line).map fun l => l ++ [10]).map W.str)], fun o ho => by rw [List.mem_singleton.mp ho]; exact strs_under _, ?_⟩
  generalize ((ds.map Dd.line).map fun l => l ++ [10]) = M at cp jo ⊢
  generalize linesT 10 (ds.map Dd.line) = bt at jo ⊢
  simp at cp jo
  simp [lt1, Me.tys, cp, jo]
theorem told_val (w : W) (h : Hs) : toldV Pr toldT (.ok w h) = .ok (.tup [.str [116, 111, 108, 100], w]) h := rfl
theorem told_deed (i : Int) (h : Hs) : toldV Pr toldT (.exc ⟨1, [.int i]⟩ h) = .ok (.tup [.str [100, 101, 101, 100], .int i]) h := rfl
theorem told_text (i : Int) (h : Hs) : toldV Pr toldT (.exc ⟨2, [.int i]⟩ h) = .ok (.tup [.str [116, 101, 120, 116], .int i]) h := rfl
theorem text_split {ds : List Dd} (h : DL ds) : splitC 10 [] (linesT 10 (ds.map Dd.line)) = ds.map Dd.line ++ [[]] := split_lines _ fun w hw c hc => by
  obtain ⟨d, hd, rfl⟩ := List.mem_map.mp hw
  have := line_signs (h.2 d hd).1 c hc
  omega
theorem badAt_none : ∀ {ls : List Tx} (k : Nat), (∀ l ∈ ls, lineT l ≠ .non) → badAt k ls = none
  | [], _, _ => rfl
  | l :: r, k, h => by
    unfold badAt
    rw [if_neg (h l (by simp)), badAt_none (k + 1) fun l' hl => h l' (by simp [hl])]
theorem w_ne (d : Dd) : d.w ≠ .non := by cases d <;> (intro h; cases h)
theorem text_good {ds : List Dd} (h : DL ds) : faultD (linesT 10 (ds.map Dd.line)) = .non ∧ (splitC 10 [] (linesT 10 (ds.map Dd.line))).dropLast.map lineT = ds.map Dd.w := by
  unfold faultD
  rw [text_split h, List.dropLast_concat, List.getLast?_concat, badAt_none 0 (fun l hl => by
    obtain ⟨d, hd, rfl⟩ := List.mem_map.mp hl
    rw [lineT_line (h.2 d hd).1]
    exact w_ne d)]
  refine ⟨if_pos rfl, ?_⟩
  rw [List.map_map]
  exact List.map_congr_left fun d hd => lineT_line (h.2 d hd).1
theorem lt2_ok (n : Nat) {a b : Ob} {T : Hs} {ds : List Dd} (hd : DL ds) : ex (clOf Pr wf (n + 7)) wf lt2 [x0, some (.ref 1), x2, x3, some (.str (linesT 10 (ds.map Dd.line))), x5, x6, x7, x8, x9, x10, x11, x12, x13, x14, x15, x16] (a :: b :: T) = .nx [x0, some (.ref 1), x2, x3, some (.str (linesT 10 (ds.map Dd.line))), some (.tup [.str [116, 111, 108, 100], .ref (T.length + 1 + 1)]), x6, x7, x8, x9, x10, x11, x12, x13, x14, x15, x16] (a :: b :: (T ++ [Ob.lst (ds.map Dd.w)])) := by
  have lw : (16000000 : Nat) ≤ lineW := by decide
  have tn := (text_nt hd).1
  obtain ⟨g1, g2⟩ := text_good hd
  have rd := read_ok n (h := a :: b :: T) (by omega) g1
  rw [g2] at rd
  generalize linesT 10 (ds.map Dd.line) = bt at rd ⊢
  simp at rd
  simp [lt2, cl_told, rd, told_val]
end
end K74P
end
section
set_option Elab.async false
set_option linter.all false
set_option maxRecDepth 100000
set_option maxHeartbeats 0
/-! k74: the law's statements: told deeds, apart; loose deeds. -/
namespace K74P
open K74 hiding R
open Mi
section
variable {x0 x2 x3 x4 x5 x6 x7 x8 x9 x10 x11 x12 x13 x14 x15 x16 : Option W}
theorem lt3_ok (n : Nat) {a b : Ob} {T : Hs} {kD kR : Nat} {ds : List Dd} (hh : HOk (a :: b :: T)) (hD : T[kD]? = some (Ob.lst (ds.map Dd.w))) (hR : T[kR]? = some (Ob.lst (ds.map Dd.w))) (hd : DL ds) : ∃ T', HOk (a :: b :: T') ∧ (∀ k o, k ≠ kR → T[k]? = some o → T'[k]? = some o) ∧
    ex (clOf Pr wf (n + 20)) wf lt3 [x0, some (.ref 1), x2, some (.ref (kD + 1 + 1)), some (.str (linesT 10 (ds.map Dd.line))), some (.tup [.str [116, 111, 108, 100], .ref (kR + 1 + 1)]), x6, x7, x8, x9, x10, x11, x12, x13, x14, x15, x16] (a :: b :: T) = .nx [x0, some (.ref 1), x2, some (.ref (kD + 1 + 1)), some (.str (linesT 10 (ds.map Dd.line))), some (.tup [.str [116, 111, 108, 100], .ref (kR + 1 + 1)]), x6, x7, x8, x9, x10, x11, x12, x13, x14, x15, x16] (a :: b :: T') := by
  have lw : (16000000 : Nat) ≤ lineW := by decide
  have h8 := hd.1
  have kl : kR < T.length := (List.getElem?_eq_some_iff.mp hR).1
  have sm := same_t 5 (n + 14) (h := a :: b :: T) (sm_two (s := [116, 111, 108, 100]) (Sm.lst 3 (kR + 1 + 1) (kD + 1 + 1) (ds.map Dd.w) (ds.map Dd.w) hR hD rfl (by simp; omega) (sm_zip fun d hd' => sm_w (by have := (hd.2 d hd').2; omega))))
  obtain ⟨X, f21⟩ := fs21
  obtain ⟨Y, f22⟩ := fs22
  have hh2 : HOk (a :: b :: (T ++ [Ob.lst [W.ref (kR + 1 + 1)]])) := HOk.snoc2 hh (by simp [Ob.under, W.unders, W.under]; omega)
  have ap := apart_ok (wf := wf) f21 f22 fs23 (h := a :: b :: (T ++ [Ob.lst [W.ref (kR + 1 + 1)]])) (r := kR + 1 + 1) (q := T.length + 1 + 1) (k := 3) (xs := ds.map Dd.w) (n + 13) (by decide) (by simp) (by omega) (by simp [get_app _ hR]) (by simp; omega) (fun x hx => by
    obtain ⟨d, hd', rfl⟩ := List.mem_map.mp hx
    exact pw_w (dl_100 hd d hd').1 (by have := (dl_100 hd d hd').2; omega)) hh2
  have tn := (text_nt hd).1
  obtain ⟨g1, _⟩ := text_good hd
  refine ⟨(((T ++ [Ob.lst [W.ref (kR + 1 + 1)]]).set kR (Ob.lst (ds.map Dd.w ++ [W.str LATE]))).set T.length (Ob.lst [W.ref (kR + 1 + 1), W.str LATE])), ?_, ?_, ?_⟩
  · have q := (hh2.set (r := kR + 1 + 1) (o := Ob.lst (ds.map Dd.w ++ [W.str LATE])) (unders_of fun x hx => by
      rcases List.mem_append.mp hx with hx | hx
      · obtain ⟨d, hd', rfl⟩ := List.mem_map.mp hx
        exact w_under _
      · rw [List.mem_singleton.mp hx]; rfl)).set (r := T.length + 1 + 1) (o := Ob.lst [W.ref (kR + 1 + 1), W.str LATE]) (by simp [Ob.under, W.unders, W.under]; omega)
    exact q
  · intro k o hk e
    have kT : k < T.length := (List.getElem?_eq_some_iff.mp e).1
    rw [List.getElem?_set_ne (by omega), List.getElem?_set_ne (by omega)]
    exact get_app _ e
  · have fo := fault_ok (n + 14) (s := linesT 10 (ds.map Dd.line)) (h := a :: b :: (((T ++ [Ob.lst [W.ref (kR + 1 + 1)]]).set kR (Ob.lst (ds.map Dd.w ++ [W.str LATE]))).set T.length (Ob.lst [W.ref (kR + 1 + 1), W.str LATE]))) (by omega)
    rw [g1] at fo
    generalize linesT 10 (ds.map Dd.line) = bt at fo ⊢
    have sm' : lev Pr wf (n + 20) 19 [.tup [.str [116, 111, 108, 100], .ref (kR + 1 + 1)], .tup [.str [116, 111, 108, 100], .ref (kD + 1 + 1)]] (a :: b :: T) = .ok (.bl true) (a :: b :: T) := sm
    have ap' : lev Pr wf (n + 20) 23 [.ref (T.length + 1 + 1)] (a :: b :: (T ++ [Ob.lst [W.ref (kR + 1 + 1)]])) = .ok (.bl true) (a :: b :: (((T ++ [Ob.lst [W.ref (kR + 1 + 1)]]).set kR (Ob.lst (ds.map Dd.w ++ [W.str LATE]))).set T.length (Ob.lst [W.ref (kR + 1 + 1), W.str LATE]))) := ap
    have fo' : lev Pr wf (n + 20) 11 [.str bt] (a :: b :: (((T ++ [Ob.lst [W.ref (kR + 1 + 1)]]).set kR (Ob.lst (ds.map Dd.w ++ [W.str LATE]))).set T.length (Ob.lst [W.ref (kR + 1 + 1), W.str LATE]))) = .ok .non (a :: b :: (((T ++ [Ob.lst [W.ref (kR + 1 + 1)]]).set kR (Ob.lst (ds.map Dd.w ++ [W.str LATE]))).set T.length (Ob.lst [W.ref (kR + 1 + 1), W.str LATE]))) := fo
    generalize (((T ++ [Ob.lst [W.ref (kR + 1 + 1)]]).set kR (Ob.lst (ds.map Dd.w ++ [W.str LATE]))).set T.length (Ob.lst [W.ref (kR + 1 + 1), W.str LATE])) = T' at ap' fo' ⊢
    have two : ∀ x : W, ([W.str [116, 111, 108, 100], x] : List W).length ≤ lineW := fun x => by simp
    simp [lt3, sm', atI_one, new, ap', fo']
theorem view_strsT {h : Hs} {k : Nat} {l : List Tx} (hl : l.length ≤ 1000) (hs : ∀ s ∈ l, s.length ≤ 1000) : viewF (k + 1) h (.tup (l.map W.str)) = some (.row (l.map Vw.str)) := by
  have lw : (1000 : Nat) ≤ lineW := by decide
  exact view_tup (by simp; omega) (view_strs k fun s h => by have := hs s h; omega)
theorem name_len {s : Tx} (h : nameT s = true) : s.length ≤ 1000 := by have := (name_word h).1; omega
theorem names_len {l : List Tx} (h : l.all nameT = true) : ∀ s ∈ l, s.length ≤ 1000 := fun s hs => name_len (List.all_eq_true.mp h s hs)
theorem view_w {h : Hs} {d : Dd} (hd : d.ok) (hl : d.words.length ≤ 100) : viewF 3 h d.w = some d.v := by
  have lw : (1000 : Nat) ≤ lineW := by decide
  cases d with
  | nm wd args =>
    have hl : args.length + 1 ≤ 100 := hl
    refine view_strsT (l := wd :: args) (by simp; omega) fun s hs => ?_
    rcases List.mem_cons.mp hs with rfl | hs
    · have := (arN_word hd.1).1; omega
    · exact names_len hd.2 s hs
  | take i => rfl
  | put a ps =>
    have hl : ps.length + 1 + 1 ≤ 100 := hl
    obtain ⟨_, _, h3⟩ := hd
    simp only [List.all_cons, Bool.and_eq_true] at h3
    have v1 : viewF 2 h (.str a) = some (.str a) := if_pos (by have := name_len h3.1; omega)
    have v2 := view_strsT (h := h) (k := 1) (l := ps) (by omega) (names_len h3.2)
    refine view_tup (by simp) ?_
    rw [mapO_cons, mapO_cons, mapO_cons, v1, v2]
    rfl
  | plan wd pre l =>
    have hl : (pre ++ l).length + 1 ≤ 100 := hl
    simp at hl
    obtain ⟨h1, _, _, h4⟩ := hd
    rw [List.all_append, Bool.and_eq_true] at h4
    have h2 := pairL_len l
    have v0 : viewF 2 h (.str wd) = some (.str wd) := by rcases h1 with rfl | rfl <;> rfl
    have v1 := view_strs (h := h) 2 (l := pre) fun s hs => by have := names_len h4.1 s hs; omega
    have v2 : viewF 2 h (.tup (pairL l)) = some (.row (pairV l)) := view_tup (by omega) (view_pairs 0 fun s hs => by have := names_len h4.2 s hs; omega)
    have v3 : mapO (viewF 2 h) [W.tup (pairL l)] = some [.row (pairV l)] := by rw [mapO_cons, v2]; rfl
    refine view_tup (by simp; omega) ?_
    rw [mapO_cons, v0, mapO_app v1 v3]
theorem plain_strs {k : Nat} : ∀ l : List Tx, ∀ v ∈ l.map Vw.str, Vw.plain k v := fun l v hv => by
  obtain ⟨s, _, rfl⟩ := List.mem_map.mp hv
  exact .str k s
theorem plain_pairs {k : Nat} : ∀ l : List Tx, ∀ v ∈ pairV l, Vw.plain (k + 1) v
  | a :: b :: r => fun v hv => by
    rw [pairV] at hv
    rcases List.mem_cons.mp hv with rfl | hv
    · exact .row k _ (plain_strs [a, b])
    · exact plain_pairs r v hv
  | [a] => fun v hv => by simp [pairV] at hv
  | [] => fun v hv => by simp [pairV] at hv
theorem plain_v (d : Dd) : Vw.plain 3 d.v := by
  cases d with
  | nm wd args => exact .row 2 _ (plain_strs (wd :: args))
  | take i =>
    refine .row 2 _ fun v hv => ?_
    simp only [List.mem_cons, List.not_mem_nil, or_false] at hv
    rcases hv with rfl | rfl
    · exact .str 2 _
    · exact .int 2 _
  | put a ps =>
    refine .row 2 _ fun v hv => ?_
    simp only [List.mem_cons, List.not_mem_nil, or_false] at hv
    rcases hv with rfl | rfl | rfl
    · exact .str 2 _
    · exact .str 2 _
    · exact .row 1 _ (plain_strs ps)
  | plan wd pre l =>
    refine .row 2 _ fun v hv => ?_
    rcases List.mem_cons.mp hv with rfl | hv
    · exact .str 2 _
    · rcases List.mem_append.mp hv with hv | hv
      · exact plain_strs pre v hv
      · rw [List.mem_singleton.mp hv]
        exact .row 1 _ (plain_pairs l)
theorem sz_strs (k : Nat) : ∀ l : List Tx, ((l.map Vw.str).map (szV k)).sum = 0
  | [] => rfl
  | a :: r => by
    have : szV k (Vw.str a) = 0 := by cases k <;> rfl
    simp only [List.map_cons, List.sum_cons, this, sz_strs k r]
theorem sz_pairs (k : Nat) : ∀ l : List Tx, ((pairV l).map (szV (k + 1))).sum ≤ l.length
  | a :: b :: r => by
    have h1 := sz_pairs k r
    have h2 := sz_strs k [a, b]
    have : szV (k + 1) (.row [.str a, .str b]) = 1 := by
      show (([Vw.str a, Vw.str b]).map (szV k)).sum + 1 = 1
      have : [Vw.str a, Vw.str b] = [a, b].map Vw.str := rfl
      rw [this, h2]
    simp only [pairV, List.map_cons, List.sum_cons, this, List.length_cons]
    omega
  | [a] => by simp [pairV]
  | [] => by simp [pairV]
theorem sz_v {d : Dd} (hl : d.words.length ≤ 12) : szV 3 d.v ≤ 20 := by
  cases d with
  | nm wd args =>
    show ((((wd :: args).map Vw.str).map (szV 2)).sum + 1 ≤ 20)
    rw [sz_strs]; decide
  | take i => show (1 : Nat) ≤ 20; decide
  | put a ps =>
    show ([Vw.str PUT, .str a, .row (ps.map Vw.str)].map (szV 2)).sum + 1 ≤ 20
    have : szV 2 (.row (ps.map Vw.str)) = 1 := by
      show ((ps.map Vw.str).map (szV 1)).sum + 1 = 1
      rw [sz_strs]
    have e1 : szV 2 (Vw.str PUT) = 0 := rfl
    have e2 : szV 2 (Vw.str a) = 0 := rfl
    rw [List.map_cons, List.map_cons, List.map_cons, List.map_nil, List.sum_cons, List.sum_cons, List.sum_cons, List.sum_nil, this, e1, e2]
    decide
  | plan wd pre l =>
    have hl : (pre ++ l).length + 1 ≤ 12 := hl
    simp at hl
    show ((Vw.str wd :: (pre.map Vw.str ++ [.row (pairV l)])).map (szV 2)).sum + 1 ≤ 20
    have h1 : szV 2 (.row (pairV l)) ≤ l.length + 1 := by
      show ((pairV l).map (szV 1)).sum + 1 ≤ l.length + 1
      exact Nat.add_le_add_right (sz_pairs 0 l) 1
    have h2 := sz_strs 2 pre
    have h3 : szV 2 (Vw.str wd) = 0 := rfl
    rw [List.map_cons, List.sum_cons, List.map_append, List.sum_append, h2, h3]
    simp only [List.map_cons, List.map_nil, List.sum_cons, List.sum_nil]
    omega
theorem sz_ds : ∀ {ds : List Dd}, (∀ d ∈ ds, d.ok ∧ d.words.length ≤ 12) → ((ds.map Dd.v).map (szV 3)).sum ≤ ds.length * 20
  | [], _ => by simp
  | d :: r, h => by
    have h1 := sz_v (h d (by simp)).2
    have h2 := sz_ds (ds := r) fun d hd => h d (by simp [hd])
    simp only [List.map_cons, List.sum_cons, List.length_cons, Nat.add_mul, Nat.one_mul]
    omega
theorem views_w {h : Hs} : ∀ {ds : List Dd}, (∀ d ∈ ds, d.ok ∧ d.words.length ≤ 100) → mapO (viewF 3 h) (ds.map Dd.w) = some (ds.map Dd.v)
  | [], _ => rfl
  | d :: r, hd => by
    rw [List.map_cons, mapO_cons, view_w (hd d (by simp)).1 (hd d (by simp)).2, views_w fun d h => hd d (by simp [h])]
    rfl
theorem lt4_ok (n : Nat) {N : Nat} {a b : Ob} {T : Hs} {kD : Nat} {ds : List Dd} (hs : St2 (N + 200) a b) (hh : HOk (a :: b :: T)) (hD : T[kD]? = some (Ob.lst (ds.map Dd.w))) (hd : DL ds) : ∃ a' b' j, St2 N a' b' ∧ HOk (a' :: b' :: (T ++ j)) ∧
    ex (clOf Pr wf (n + 20)) wf lt4 [x0, some (.ref 1), x2, some (.ref (kD + 1 + 1)), some (.str (linesT 10 (ds.map Dd.line))), x5, x6, x7, x8, x9, x10, x11, x12, x13, x14, x15, x16] (a :: b :: T) = .nx [x0, some (.ref 1), x2, some (.ref (kD + 1 + 1)), some (.str (linesT 10 (ds.map Dd.line))), x5, x6, x7, x8, x9, x10, x11, x12, x13, x14, x15, x16] (a' :: b' :: (T ++ j)) := by
  have lw : (16000000 : Nat) ≤ lineW := by decide
  have h8 := hd.1
  have kl : kD < T.length := (List.getElem?_eq_some_iff.mp hD).1
  have vw : viewF 4 (D0 :: D0 :: T) (.ref (kD + 1 + 1)) = some (.row (ds.map Dd.v)) := viewL (ws := ds.map Dd.w) hD (by simp; omega) (views_w (dl_100 hd))
  have pl : Vw.plain 4 (.row (ds.map Dd.v)) := .row 3 _ fun v hv => by
    obtain ⟨d, _, rfl⟩ := List.mem_map.mp hv
    exact plain_v d
  have sz : szV 4 (.row (ds.map Dd.v)) ≤ 161 := by
    show ((ds.map Dd.v).map (szV 3)).sum + 1 ≤ 161
    have h1 := sz_ds hd.2
    have : ds.length * 20 ≤ 8 * 20 := Nat.mul_le_mul_right _ h8
    omega
  obtain ⟨X, f20⟩ := fs20
  obtain ⟨a1, b1, w, j, h1, h2, h3, h4, h5⟩ := loose_ok (wf := wf) (by decide) fb f20 4 (n + 14) (N := N) vw pl (hs.mono (by omega)) hh (by simp [W.under]; omega)
  have tx := text_ok (n + 15) (view_live (a := a1) (b := b1) h4) (dl_100 hd) (by omega)
  have sm := same_t 5 (n + 14) (h := a1 :: b1 :: (T ++ j)) (sm_two (s := [116, 111, 108, 100]) (Sm.str 4 (linesT 10 (ds.map Dd.line))))
  refine ⟨a1, b1, j, h1, h2, ?_⟩
  generalize linesT 10 (ds.map Dd.line) = bt at tx sm ⊢
  have h5' : lev Pr wf (n + 20) 20 [.ref 1, .ref (kD + 1 + 1)] (a :: b :: T) = .ok w (a1 :: b1 :: (T ++ j)) := h5
  have tx' : lev Pr wf (n + 20) 8 [w] (a1 :: b1 :: (T ++ j)) = .ok (.str bt) (a1 :: b1 :: (T ++ j)) := tx
  have sm' : lev Pr wf (n + 20) 19 [.tup [.str [116, 111, 108, 100], .str bt], .tup [.str [116, 111, 108, 100], .str bt]] (a1 :: b1 :: (T ++ j)) = .ok (.bl true) (a1 :: b1 :: (T ++ j)) := sm
  simp [lt4, cl_told, h5', tx', told_val, sm']
end
end K74P
end
section
set_option Elab.async false
set_option linter.all false
set_option maxRecDepth 100000
set_option maxHeartbeats 0
/-! k74: the law's statements: bent texts. -/
namespace K74P
open K74 hiding R
open Mi
theorem split_last {c : Nat} : ∀ (s acc : Tx), (splitC c acc s).getLast? = some [] ↔ (s = [] ∧ acc = []) ∨ s.getLast? = some c
  | [], acc => by simp [splitC]
  | d :: r, acc => by
    have gl : (d :: r).getLast? = some c ↔ (r = [] ∧ d = c) ∨ r.getLast? = some c := by
      cases r with
      | nil => simp
      | cons x t => rw [List.getLast?_cons_cons]; simp
    by_cases h : d = c
    · subst h
      rw [splitC, if_pos (by simp), List.getLast?_cons]
      have ih := split_last (c := d) r []
      have ne := split_ne d r []
      cases e : (splitC d [] r).getLast? with
      | none => exact absurd (List.getLast?_eq_none_iff.mp e) ne
      | some x =>
        rw [e] at ih
        rw [gl]
        simp only [Option.getD_some]
        rw [ih]
        simp
    · have h' : (d == c) = false := by simpa using h
      rw [splitC, h', if_neg (by simp)]
      rw [split_last (c := c) r (acc ++ [d]), gl]
      simp [h]
theorem last_sign (s : Tx) : (s.drop (s.length - 1) = [] ∨ s.drop (s.length - 1) = [10]) ↔ (splitC 10 [] s).getLast? = some [] := by
  rw [split_last]
  by_cases h : s = []
  · subst h; simp
  · obtain ⟨t, x, e⟩ : ∃ t x, s = t ++ [x] := ⟨_, _, (List.dropLast_concat_getLast h).symm⟩
    subst e
    rw [List.getLast?_concat]
    simp
theorem cut_last (s : Tx) : cut s (some (-1)) none = s.drop (s.length - 1) := by
  unfold cut
  rw [sIx_none, sIx_neg]
  exact List.take_of_length_le (by simp)
theorem lineT_cases2 {l : Tx} (hl : l.length ≤ 3001000) : lineT l = .non ∨ ∃ d : Dd, (d.ok ∧ d.words.length ≤ 4000000) ∧ lineT l = d.w := by
  rcases lineD_cases2 (splitC 32 [] l) with h | ⟨d, h1, h2⟩
  · exact .inl h
  · refine .inr ⟨d, ⟨h1.1, ?_⟩, h2⟩
    have := split_len 32 l []
    have := h1.2
    omega
theorem w_tup (d : Dd) : ∃ xs, d.w = .tup xs := by cases d <;> exact ⟨_, rfl⟩
/-- the data of the lines' deeds: the first that is none -/
theorem data_lines {h : Hs} : ∀ {ls : List Tx}, NL 3001000 ls → ∃ ds, mapO (dataF 63 h) (ls.map lineT) = some ds ∧ (∀ k, firstAt (fun e => D.eqv e .non) ds k = badAt k ls) ∧ (∀ k, ds.any (fun e => D.eqv e .non) = (badAt k ls).isSome)
  | [], _ => ⟨[], rfl, fun _ => rfl, fun _ => rfl⟩
  | l :: r, hn => by
    obtain ⟨ds, e1, e2, e3⟩ := data_lines (ls := r) fun s hs => hn s (by simp [hs])
    rcases lineT_cases2 (hn l (by simp)).1 with q | ⟨d, q1, q⟩
    · refine ⟨.non :: ds, by rw [List.map_cons, mapO_cons, q, e1]; rfl, fun k => ?_, fun k => ?_⟩
      · unfold firstAt badAt
        rw [if_pos q]; rfl
      · unfold badAt
        rw [if_pos q]; rfl
    · obtain ⟨D', p1, _⟩ := (pw_w q1.1 q1.2).data (h := h) (m := 63) (by decide)
      have p2 : D.eqv D' .non = false := by
        obtain ⟨xs, hx⟩ := w_tup d
        rw [hx] at p1
        simp only [dataF] at p1
        cases em : mapO (dataF 62 h) xs with
        | none => rw [em] at p1; cases p1
        | some y => rw [em] at p1; cases p1; rfl
      have ne : ¬ lineT l = .non := by rw [q]; exact w_ne d
      refine ⟨D' :: ds, by rw [List.map_cons, mapO_cons, q, p1, e1], fun k => ?_, fun k => ?_⟩
      · unfold firstAt badAt
        rw [if_neg ne, p2, e2 (k + 1)]; rfl
      · unfold badAt
        rw [if_neg ne, List.any_cons, p2, e3 (k + 1)]; rfl
theorem flat_lines : ∀ {ls : List Tx} (k : Nat), (ls.map lineT).any (fun y => eqFl y .non) = (badAt k ls).isSome
  | [], _ => rfl
  | l :: r, k => by
    rw [List.map_cons, List.any_cons, flat_lines (ls := r) (k + 1)]
    rcases lineT_cases l with q | ⟨d, _, q⟩
    · show _ = (if lineT l = .non then some k else badAt (k + 1) r).isSome
      rw [if_pos q, q]; rfl
    · have ne : ¬ lineT l = .non := by rw [q]; exact w_ne d
      obtain ⟨xs, hx⟩ := w_tup d
      show _ = (if lineT l = .non then some k else badAt (k + 1) r).isSome
      rw [if_neg ne, q, hx]; rfl
theorem in_non {h : Hs} {k : Nat} {ls : List Tx} (e : h[k]? = some (Ob.lst (ls.map lineT))) (hn : NL 3001000 ls) : inV h .non (.ref k) = some (badAt 0 ls).isSome := by
  show (match h[k]? with
    | some (.dic kvs) => if keyOk .non then some (dget kvs .non).isSome else none
    | some (.lst _) => inSeq h .non (.ref k)
    | _ => none) = _
  rw [e]
  show inSeq h .non (.ref k) = _
  have i : items h (.ref k) = some (ls.map lineT) := by simp [e]
  unfold inSeq
  rw [i]
  show (if flat .non && (ls.map lineT).all flat then some ((ls.map lineT).any fun y => eqFl y .non) else (match dataF 64 h .non, mapO (dataF 63 h) (ls.map lineT) with
      | some d, some ds => some (ds.any fun e => D.eqv e d)
      | _, _ => none)) = _
  rw [flat_lines 0]
  split
  · rfl
  · obtain ⟨ds, e1, _, e3⟩ := data_lines (h := h) hn
    rw [e1]
    show some (ds.any fun e => D.eqv e .non) = _
    rw [e3 0]
theorem index_non {h : Hs} {k i : Nat} {ls : List Tx} (e : h[k]? = some (Ob.lst (ls.map lineT))) (hn : NL 3001000 ls) (hb : badAt 0 ls = some i) : meV .index (.ref k) [.non] h = .ok (.int (i : Int)) h := by
  obtain ⟨ds, e1, e2, _⟩ := data_lines (h := h) hn
  show (match h[k]? with
    | some (.lst xs) => (match dataF 64 h .non, mapO (dataF 63 h) xs with
      | some d, some ds => (match firstAt (fun e => D.eqv e d) ds 0 with
        | some j => R.ok (W.int (j : Nat)) h
        | none => .stk : R W)
      | _, _ => .stk : R W)
    | _ => .stk) = _
  rw [e]
  simp only [e1]
  show (match firstAt (fun e => D.eqv e .non) ds 0 with
        | some j => R.ok (W.int (j : Nat)) h
        | none => .stk : R W) = _
  rw [e2 0, hb]
section
variable {x0 x2 x3 x4 x5 x6 x7 x8 x9 x10 x11 x12 x13 x14 x15 x16 : Option W}
theorem lt5_1_ok (n : Nat) {a b : Ob} {T : Hs} {bt : Tx} (hb : NT 3001000 bt) : ∃ (j : Hs) (k : Nat), (∀ o ∈ j, o.under 0 = true) ∧ (T ++ j)[k]? = some (Ob.lst ((splitC 10 [] bt).dropLast.map lineT)) ∧
    ex (clOf Pr wf (n + 20)) wf lt5_1 [x0, some (.ref 1), x2, x3, x4, x5, x6, x7, x8, x9, some (.str bt), x11, x12, x13, x14, x15, x16] (a :: b :: T) = .nx [x0, some (.ref 1), x2, x3, x4, x5, x6, x7, x8, x9, some (.str bt), some (.ref (k + 1 + 1)), x12, x13, x14, x15, x16] (a :: b :: (T ++ j)) := by
  have lw : (16000000 : Nat) ≤ lineW := by decide
  have hbl := hb.1
  have sp := split_ok (s := bt) (c := 10) (h := a :: b :: T) (by omega) (by decide)
  have nl := NL.split (c := 10) hb
  have sl := split_len 10 bt []
  generalize splitC 10 [] bt = ws at sp nl sl ⊢
  obtain ⟨ds, hds⟩ : ∃ ds, ws.dropLast = ds := ⟨_, rfl⟩
  have nd : NL 3001000 ds := fun l hl => nl l (mem_dl (hds ▸ hl))
  have dln : ds.length ≤ ws.length := by rw [← hds, List.length_dropLast]; omega
  have dl : (ws.map W.str).dropLast = ds.map W.str := by rw [← hds, List.map_dropLast]
  have slc := slc_ref (h := a :: b :: (T ++ [Ob.lst (ws.map W.str)])) (n := T.length + 1 + 1) (ws := ws.map W.str) (by simp) none (some (-1))
  rw [cut_init, dl] at slc
  rw [hds]
  have cp : ∀ fr : Fr, fr = [x0, some (.ref 1), x2, x3, x4, x5, x6, x7, x8, x9, some (.str bt), x11, x12, x13, x14, x15, x16] → ev (clOf Pr wf (n + 20)) (E.comp [16] (Tg.nm 16)
                              (It.val
                                (E.slc (E.me Me.split (E.var 10) (Es.cons (E.con (W.str [10])) Es.nil)) Es.nil
                                  (Es.cons (E.neg (E.con (W.int 1))) Es.nil)))
                              Es.nil (E.call 27 (Es.cons (E.var 16) Es.nil))) fr (a :: b :: T) = .ok (.ref (T.length + 2 + 1 + 1)) (a :: b :: (T ++ [Ob.lst (ws.map W.str), Ob.lst (ds.map W.str), Ob.lst (ds.map lineT)])) := by
    intro fr hfr
    subst hfr
    simp at sp slc
    rw [ev_compF, evi_row (w := .ref (T.length + 1 + 1 + 1)) (ws := ds.map W.str) (h' := a :: b :: (T ++ [Ob.lst (ws.map W.str), Ob.lst (ds.map W.str)])) (by simp [Me.tys, sp, slc]) (by simp)]
    simp only [R.bind_ok]
    rw [compL_map2 (q := lineT) (still_self _ _) ds [] (fun l hl => by
      have q := nd l hl
      have q1 := q.1
      have mr := mread_ok (n + 18) (s := l) (h := a :: b :: (T ++ [Ob.lst (ws.map W.str), Ob.lst (ds.map W.str)])) (by omega) q.2
      simp [mr]) (by simp; omega)]
    simp [new]
  refine ⟨[Ob.lst (ws.map W.str), Ob.lst (ds.map W.str), Ob.lst (ds.map lineT)], T.length + 2, ?_, by simp, ?_⟩
  · intro o ho
    simp only [List.mem_cons, List.not_mem_nil, or_false] at ho
    rcases ho with rfl | rfl | rfl
    · exact strs_under _
    · exact strs_under _
    · exact unders_of fun w hw => by
        obtain ⟨l, _, rfl⟩ := List.mem_map.mp hw
        exact lineT_under _ l
  · simp [lt5_1, cp]
theorem due_ok (n : Nat) {a b : Ob} {T : Hs} {k : Nat} {bt : Tx} (hb : NT 3001000 bt) (hk : T[k]? = some (Ob.lst ((splitC 10 [] bt).dropLast.map lineT))) : ex (clOf Pr wf (n + 20)) wf (.seq lt5_2 (.seq lt5_3 .skip)) [x0, some (.ref 1), x2, x3, x4, x5, x6, x7, x8, x9, some (.str bt), some (.ref (k + 1 + 1)), x12, x13, x14, x15, x16] (a :: b :: T) = .nx [x0, some (.ref 1), x2, x3, x4, x5, x6, x7, x8, x9, some (.str bt), some (.ref (k + 1 + 1)), some (faultD bt), x13, x14, x15, x16] (a :: b :: T) := by
  have lw : (16000000 : Nat) ≤ lineW := by decide
  have hbl := hb.1
  have hbl2 : List.length bt ≤ lineW := by omega
  have nl := NL.split (c := 10) hb
  have ls := last_sign bt
  have cl := cut_last bt
  have ne := split_ne 10 bt []
  unfold faultD
  generalize splitC 10 [] bt = ws at nl ls hk ne ⊢
  generalize bt.drop (bt.length - 1) = tl at ls cl
  obtain ⟨ds, hds⟩ : ∃ ds, ws.dropLast = ds := ⟨_, rfl⟩
  have nd : NL 3001000 ds := fun l hl => nl l (mem_dl (hds ▸ hl))
  have dln : (ds.length : Int) + 1 = (ws.length : Int) := by
    have := List.length_pos_iff.mpr ne
    rw [← hds, List.length_dropLast]; omega
  rw [hds] at hk ⊢
  have inn := in_non (h := a :: b :: T) (k := k + 1 + 1) (ls := ds) hk nd
  have e2 : ex (clOf Pr wf (n + 20)) wf lt5_2 [x0, some (.ref 1), x2, x3, x4, x5, x6, x7, x8, x9, some (.str bt), some (.ref (k + 1 + 1)), x12, x13, x14, x15, x16] (a :: b :: T) = .nx [x0, some (.ref 1), x2, x3, x4, x5, x6, x7, x8, x9, some (.str bt), some (.ref (k + 1 + 1)), some (if ws.getLast? = some [] then .non else .int (ws.length : Int)), x13, x14, x15, x16] (a :: b :: T) := by
    by_cases c : ws.getLast? = some []
    · rw [if_pos c]
      have c' : (decide (tl = []) || decide ([10] = tl)) = true := by
        rcases ls.mpr c with q | q
        · rw [decide_eq_true q]; rfl
        · rw [decide_eq_true q.symm, Bool.or_true]
      simp [lt5_2, slc_str, hbl2, cl, c']
    · rw [if_neg c]
      have c' : (decide (tl = []) || decide ([10] = tl)) = false := by
        rw [decide_eq_false (fun q => c (ls.mp (.inl q))), decide_eq_false (fun q => c (ls.mp (.inr q.symm)))]; rfl
      simp [lt5_2, slc_str, hbl2, cl, c', hk, dln]
  rw [ex_seq, e2]
  simp only [ex_seq, ex_skip]
  cases eb : badAt 0 ds with
  | none =>
    rw [eb] at inn
    simp [lt5_3, inn]
  | some i =>
    rw [eb] at inn
    have ix := index_non (h := a :: b :: T) (k := k + 1 + 1) hk nd eb
    simp [lt5_3, inn, hk, Me.tys, ix]
end
end K74P
end
section
set_option Elab.async false
set_option linter.all false
set_option maxRecDepth 100000
set_option maxHeartbeats 0
/-! k74: the law's statements: the ten bent texts. -/
namespace K74P
open K74 hiding R
open Mi
section
variable {x0 x2 x3 x4 x5 x6 x7 x8 x9 x10 x11 x12 x13 x14 x15 x16 : Option W}
theorem sm_fault {h : Hs} {k : Nat} (s : Tx) : Sm h k (faultD s) (faultD s) := by
  rcases faultD_cases s with q | ⟨i, q⟩
  · rw [q]; exact .non k
  · rw [q]; exact .int k _
theorem sm_line {h : Hs} {l : Tx} (hl : l.length ≤ 3001000) : Sm h 3 (lineT l) (lineT l) := by
  rcases lineT_cases2 hl with q | ⟨d, q1, q⟩
  · rw [q]; exact .non 3
  · rw [q]; exact sm_w q1.2
theorem lt5_4_ok (n : Nat) {a b : Ob} {T : Hs} {bt : Tx} (hb : NT 3001000 bt) : ex (clOf Pr wf (n + 20)) wf lt5_4 [x0, some (.ref 1), x2, x3, x4, x5, x6, x7, x8, x9, some (.str bt), x11, some (faultD bt), x13, x14, x15, x16] (a :: b :: T) = .nx [x0, some (.ref 1), x2, x3, x4, x5, x6, x7, x8, x9, some (.str bt), x11, some (faultD bt), x13, x14, x15, x16] (a :: b :: T) := by
  have lw : (16000000 : Nat) ≤ lineW := by decide
  have hbl := hb.1
  have fo : lev Pr wf (n + 20) 11 [.str bt] (a :: b :: T) = .ok (faultD bt) (a :: b :: T) := fault_ok (n + 14) (by omega)
  have sm : lev Pr wf (n + 20) 19 [faultD bt, faultD bt] (a :: b :: T) = .ok (.bl true) (a :: b :: T) := same_t 5 (n + 14) (sm_fault bt)
  simp [lt5_4, fo, sm]
theorem lt5_5_ok (n : Nat) {a b : Ob} {T : Hs} {k : Nat} {bt : Tx} (hb : NT 3001000 bt) (hk : T[k]? = some (Ob.lst ((splitC 10 [] bt).dropLast.map lineT))) : ∃ j, (∀ o ∈ j, o.under 0 = true) ∧ ex (clOf Pr wf (n + 20)) wf lt5_5 [x0, some (.ref 1), x2, x3, x4, x5, x6, x7, x8, x9, some (.str bt), some (.ref (k + 1 + 1)), some (faultD bt), x13, x14, x15, x16] (a :: b :: T) = .nx [x0, some (.ref 1), x2, x3, x4, x5, x6, x7, x8, x9, some (.str bt), some (.ref (k + 1 + 1)), some (faultD bt), x13, x14, x15, x16] (a :: b :: (T ++ j)) := by
  have lw : (16000000 : Nat) ≤ lineW := by decide
  have hbl := hb.1
  rcases faultD_cases bt with q | ⟨i, q⟩
  · have rd : lev Pr wf (n + 20) 12 [.str bt] (a :: b :: T) = .ok (.ref (a :: b :: T).length) (a :: b :: T ++ [Ob.lst ((splitC 10 [] bt).dropLast.map lineT)]) := read_ok (n + 13) (by omega) q
    have nl := NL.split (c := 10) hb
    have sl := split_len 10 bt []
    generalize splitC 10 [] bt = ws at nl sl hk rd
    obtain ⟨ds, hds⟩ : ∃ ds, ws.dropLast = ds := ⟨_, rfl⟩
    have nd : NL 3001000 ds := fun l hl => nl l (mem_dl (hds ▸ hl))
    have dln : ds.length ≤ ws.length := by rw [← hds, List.length_dropLast]; omega
    rw [hds] at hk rd
    have sm : lev Pr wf (n + 20) 19 [.tup [.str [116, 111, 108, 100], .ref (T.length + 1 + 1)], .tup [.str [116, 111, 108, 100], .ref (k + 1 + 1)]] (a :: b :: (T ++ [Ob.lst (ds.map lineT)])) = .ok (.bl true) (a :: b :: (T ++ [Ob.lst (ds.map lineT)])) := same_t 5 (n + 14) (sm_two (Sm.lst 3 (T.length + 1 + 1) (k + 1 + 1) (ds.map lineT) (ds.map lineT) (by simp) (by simp [get_app _ hk]) rfl (by simp; omega) (sm_zip fun l hl => sm_line (nd l hl).1)))
    rw [q]
    refine ⟨[Ob.lst (ds.map lineT)], fun o ho => by
      rw [List.mem_singleton.mp ho]
      exact unders_of fun w hw => by
        obtain ⟨l, _, rfl⟩ := List.mem_map.mp hw
        exact lineT_under _ l, ?_⟩
    simp at rd
    simp [lt5_5, cl_told, rd, told_val, sm]
  · have rd : lev Pr wf (n + 20) 12 [.str bt] (a :: b :: T) = .exc ⟨2, [.int ((i : Int) + 1)]⟩ (a :: b :: T) := read_bad (n + 13) (by omega) q
    have sm : lev Pr wf (n + 20) 19 [.tup [.str [116, 101, 120, 116], .int ((i : Int) + 1)], .tup [.str [116, 101, 120, 116], .int ((i : Int) + 1)]] (a :: b :: T) = .ok (.bl true) (a :: b :: T) := same_t 5 (n + 14) (sm_two (.int 4 _))
    rw [q]
    refine ⟨[], by simp, ?_⟩
    generalize (i : Int) + 1 = z at rd sm
    simp [lt5_5, cl_told, rd, told_text, sm]
theorem sqx {c : Cl} {wf : Nat} {A B : S} {fr fr' : Fr} {h h' : Hs} (e : ex c wf A fr h = .nx fr' h') : ex c wf (.seq A B) fr h = ex c wf B fr' h' := by rw [ex_seq, e]
theorem lb5_ok (n : Nat) {N : Nat} {a b : Ob} {T : Hs} {s : Tx} {w : W} (hs : St2 (N + 10) a b) (hh : HOk (a :: b :: T)) (ht : NT 1000 s) : ∃ a' b' j y10 y11 y12, St2 N a' b' ∧ HOk (a' :: b' :: (T ++ j)) ∧
    forB (clOf Pr wf (n + 20)) wf (.nm 6) lb5 w [x0, some (.ref 1), x2, x3, some (.str s), x5, x6, x7, x8, x9, x10, x11, x12, x13, x14, x15, x16] (a :: b :: T) = .nx [x0, some (.ref 1), x2, x3, some (.str s), x5, some w, x7, x8, x9, y10, y11, y12, x13, x14, x15, x16] (a' :: b' :: (T ++ j)) := by
  obtain ⟨a1, b1, bt, h1, h2, h3, h4⟩ := mbent_ok (n + 17) hs hh ht
  have h4' : lev Pr wf (n + 20) 28 [.ref 1, .str s] (a :: b :: T) = .ok (.str bt) (a1 :: b1 :: T) := h4
  obtain ⟨j1, k, o1, k1, e1⟩ := lt5_1_ok n (a := a1) (b := b1) (T := T) (x0 := x0) (x2 := x2) (x3 := x3) (x4 := some (.str s)) (x5 := x5) (x6 := some w) (x7 := x7) (x8 := x8) (x9 := x9) (x11 := x11) (x12 := x12) (x13 := x13) (x14 := x14) (x15 := x15) (x16 := x16) h3
  have hh1 := hok_app h2 o1
  have e2 := due_ok n (a := a1) (b := b1) (T := T ++ j1) (k := k) (x0 := x0) (x2 := x2) (x3 := x3) (x4 := some (.str s)) (x5 := x5) (x6 := some w) (x7 := x7) (x8 := x8) (x9 := x9) (x12 := x12) (x13 := x13) (x14 := x14) (x15 := x15) (x16 := x16) h3 k1
  have e4 := lt5_4_ok n (a := a1) (b := b1) (T := T ++ j1) (x0 := x0) (x2 := x2) (x3 := x3) (x4 := some (.str s)) (x5 := x5) (x6 := some w) (x7 := x7) (x8 := x8) (x9 := x9) (x11 := some (.ref (k + 1 + 1))) (x13 := x13) (x14 := x14) (x15 := x15) (x16 := x16) h3
  obtain ⟨j5, o5, e5⟩ := lt5_5_ok n (a := a1) (b := b1) (T := T ++ j1) (k := k) (x0 := x0) (x2 := x2) (x3 := x3) (x4 := some (.str s)) (x5 := x5) (x6 := some w) (x7 := x7) (x8 := x8) (x9 := x9) (x13 := x13) (x14 := x14) (x15 := x15) (x16 := x16) h3 k1
  have hh5 := hok_app hh1 o5
  rw [List.append_assoc] at hh5 e5
  refine ⟨a1, b1, j1 ++ j5, some (.str bt), some (.ref (k + 1 + 1)), some (faultD bt), h1, hh5, ?_⟩
  have e0 : ex (clOf Pr wf (n + 20)) wf lt5_0 [x0, some (.ref 1), x2, x3, some (.str s), x5, some w, x7, x8, x9, x10, x11, x12, x13, x14, x15, x16] (a :: b :: T) = .nx [x0, some (.ref 1), x2, x3, some (.str s), x5, some w, x7, x8, x9, some (.str bt), x11, x12, x13, x14, x15, x16] (a1 :: b1 :: T) := by
    simp [lt5_0, h4']
  have fb : forB (clOf Pr wf (n + 20)) wf (.nm 6) lb5 w [x0, some (.ref 1), x2, x3, some (.str s), x5, x6, x7, x8, x9, x10, x11, x12, x13, x14, x15, x16] (a :: b :: T) = ex (clOf Pr wf (n + 20)) wf lb5 [x0, some (.ref 1), x2, x3, some (.str s), x5, some w, x7, x8, x9, x10, x11, x12, x13, x14, x15, x16] (a :: b :: T) := rfl
  rw [fb]
  unfold lb5
  rw [sqx e0, sqx e1]
  rw [ex_seq] at e2
  rw [ex_seq]
  cases q2 : ex (clOf Pr wf (n + 20)) wf lt5_2 [x0, some (.ref 1), x2, x3, some (.str s), x5, some w, x7, x8, x9, some (.str bt), some (.ref (k + 1 + 1)), x12, x13, x14, x15, x16] (a1 :: b1 :: (T ++ j1)) with
  | nx fr1 h1 =>
    rw [q2] at e2
    simp only [ex_seq] at e2 ⊢
    cases q3 : ex (clOf Pr wf (n + 20)) wf lt5_3 fr1 h1 with
    | nx fr3 h3 =>
      rw [q3] at e2
      simp only [ex_skip] at e2 ⊢
      cases e2
      rw [e4]
      simp only
      rw [e5]
    | _ => rw [q3] at e2; cases e2
  | _ => rw [q2] at e2; cases e2
end
theorem lt5_loop (n : Nat) {g : Hs → Bool} (hg : ∀ h, g h = true) {s : Tx} (ht : NT 1000 s) {x0 x2 x3 x5 x7 x8 x9 x13 x14 x15 x16 : Option W} : ∀ (ws : List W) (N : Nat) (a b : Ob) (T : Hs) (x6 x10 x11 x12 : Option W), St2 (N + 10 * ws.length) a b → HOk (a :: b :: T) → ∃ a' b' j y6 y10 y11 y12, St2 N a' b' ∧ HOk (a' :: b' :: (T ++ j)) ∧
    forL (forB (clOf Pr wf (n + 20)) wf (.nm 6) lb5) g ws [x0, some (.ref 1), x2, x3, some (.str s), x5, x6, x7, x8, x9, x10, x11, x12, x13, x14, x15, x16] (a :: b :: T) = .nx [x0, some (.ref 1), x2, x3, some (.str s), x5, y6, x7, x8, x9, y10, y11, y12, x13, x14, x15, x16] (a' :: b' :: (T ++ j))
  | [], N, a, b, T, x6, x10, x11, x12, hs, hh => ⟨a, b, [], x6, x10, x11, x12, hs, by rwa [List.append_nil], by rw [forL_nil (hg _), List.append_nil]⟩
  | w :: r, N, a, b, T, x6, x10, x11, x12, hs, hh => by
    obtain ⟨a1, b1, j1, y10, y11, y12, h1, h2, e⟩ := lb5_ok n (N := N + 10 * r.length) (x0 := x0) (x2 := x2) (x3 := x3) (x5 := x5) (x6 := x6) (x7 := x7) (x8 := x8) (x9 := x9) (x10 := x10) (x11 := x11) (x12 := x12) (x13 := x13) (x14 := x14) (x15 := x15) (x16 := x16) (w := w) (by
      have q : N + 10 * (w :: r).length = N + 10 * r.length + 10 := by simp; omega
      rwa [q] at hs) hh ht
    obtain ⟨a2, b2, j2, z6, z10, z11, z12, k1, k2, k3⟩ := lt5_loop n hg ht r N a1 b1 (T ++ j1) (some w) y10 y11 y12 h1 h2
    rw [List.append_assoc] at k2 k3
    refine ⟨a2, b2, j1 ++ j2, z6, z10, z11, z12, k1, k2, ?_⟩
    rw [forL_cons (hg _), e]
    exact k3
theorem lt5_ok (n : Nat) {N : Nat} {a b : Ob} {T : Hs} {s : Tx} {x0 x2 x3 x5 x6 x7 x8 x9 x10 x11 x12 x13 x14 x15 x16 : Option W} (hs : St2 (N + 100) a b) (hh : HOk (a :: b :: T)) (ht : NT 1000 s) : ∃ a' b' j y6 y10 y11 y12, St2 N a' b' ∧ HOk (a' :: b' :: (T ++ j)) ∧
    ex (clOf Pr wf (n + 20)) wf lt5 [x0, some (.ref 1), x2, x3, some (.str s), x5, x6, x7, x8, x9, x10, x11, x12, x13, x14, x15, x16] (a :: b :: T) = .nx [x0, some (.ref 1), x2, x3, some (.str s), x5, y6, x7, x8, x9, y10, y11, y12, x13, x14, x15, x16] (a' :: b' :: (T ++ j)) := by
  obtain ⟨a1, b1, j, y6, y10, y11, y12, h1, h2, e⟩ := lt5_loop n (g := fun _ => true) (fun _ => rfl) ht (x0 := x0) (x2 := x2) (x3 := x3) (x5 := x5) (x7 := x7) (x8 := x8) (x9 := x9) (x13 := x13) (x14 := x14) (x15 := x15) (x16 := x16) (rangeL 0 1 10) N a b T x6 x10 x11 x12 hs hh
  refine ⟨a1, b1, j, y6, y10, y11, y12, h1, h2, ?_⟩
  unfold lt5
  rw [ex_for_ok (rng_ok (k := 10) (h' := a :: b :: T) (by rfl) (by decide))]
  exact e
end K74P
end
section
set_option Elab.async false
set_option linter.all false
set_option maxRecDepth 100000
set_option maxHeartbeats 0
/-! k74: the law's statements: things that are none. -/
namespace K74P
open K74 hiding R
open Mi
def cPIN : Tx := [112, 105, 110]
def B1 : List W := [.non, .int 5, .str cPIN, .tup [.str cPIN], .tup [.str cPIN, .str [65]], .tup [.str cPIN, .int 5], .tup [.str [115, 116, 111, 112], .str [97]], .tup [.str TAKE, .bl true], .tup [.str TAKE, .int (-1)], .tup [.str TAKE, .str [49]]]
def B2 : List W := [.tup [.str PUT, .str [97], .tup []], .tup [.str PUT, .str [97], .str [97, 98]], .tup [.str PUT, .str [97], .tup [.str [97], .str [98], .str [99], .str [100]]], .tup [.str MOVE, .tup [.tup [.str [97]]]], .tup [.str MOVE, .non]]
def B3 : List W := [.tup [.str MEND, .str [97], .str [98]], .tup [.str MEND, .str [97], .str [98], .tup [.tup [.str [97], .str [66]]]], .tup [.str [99, 104, 97, 110, 103, 101], .str [97], .non], .tup [], .tup [.str [108, 101, 97, 118, 101], .str [97], .str [98]]]
def BV : List Vw := [.non, .int 5, .str cPIN, .row [.str cPIN], .row [.str cPIN, .str [65]], .row [.str cPIN, .int 5], .row [.str [115, 116, 111, 112], .str [97]], .row [.str TAKE, .bl true], .row [.str TAKE, .int (-1)], .row [.str TAKE, .str [49]],
  .row [.str PUT, .str [97], .row []], .row [.str PUT, .str [97], .str [97, 98]], .row [.str PUT, .str [97], .row [.str [97], .str [98], .str [99], .str [100]]], .row [.str MOVE, .row [.row [.str [97]]]], .row [.str MOVE, .non],
  .row [.str MEND, .str [97], .str [98]], .row [.str MEND, .str [97], .str [98], .row [.row [.str [97], .str [66]]]], .row [.str [99, 104, 97, 110, 103, 101], .str [97], .non], .row [], .row [.str [108, 101, 97, 118, 101], .str [97], .str [98]]]
theorem bad_view (H : Hs) : mapO (viewF 3 H) (B1 ++ B2 ++ B3) = some BV := rfl
theorem bad_non : (BV.all fun v => deedV v == .non) = true := by decide +kernel
theorem bad_each {x : W} (h : x ∈ B1 ++ B2 ++ B3) : ∃ v, deedV v = .non ∧ ∀ H, viewF 3 H x = some v := by
  obtain ⟨v, h1, h2⟩ := mapO_mem (bad_view []) h
  refine ⟨v, eq_of_beq (List.all_eq_true.mp bad_non v h1), fun H => ?_⟩
  obtain ⟨i, hi, e⟩ := List.getElem_of_mem h
  have e1 : (B1 ++ B2 ++ B3)[i]? = some x := by rw [List.getElem?_eq_getElem hi, e]
  obtain ⟨v1, q1, q2⟩ := mapO_get i (bad_view []) e1
  obtain ⟨v2, q3, q4⟩ := mapO_get i (bad_view H) e1
  rw [h2] at q1
  cases q1
  rw [q2] at q4
  cases q4
  exact q3
theorem bad_under (m : Nat) : W.unders m (B1 ++ B2 ++ B3) = true := rfl
section
variable {x0 x2 x3 x4 x5 x6 x7 x8 x9 x10 x11 x12 x13 x14 x15 x16 : Option W}
theorem lt6_ok (n : Nat) {N : Nat} {a b : Ob} {T : Hs} {kD : Nat} {ds : List Dd} (hs : St2 (N + 1) a b) (hh : HOk (a :: b :: T)) (hD : T[kD]? = some (Ob.lst (ds.map Dd.w))) (hd : DL ds) : ∃ a' b' i, St2 N a' b' ∧ HOk (a' :: b' :: T) ∧ i ≤ ds.length ∧
    ex (clOf Pr wf (n + 20)) wf lt6 [x0, some (.ref 1), x2, some (.ref (kD + 1 + 1)), x4, x5, x6, x7, x8, x9, x10, x11, x12, x13, x14, x15, x16] (a :: b :: T) = .nx [x0, some (.ref 1), x2, some (.ref (kD + 1 + 1)), x4, x5, x6, some (.int (i : Int)), x8, x9, x10, x11, x12, x13, x14, x15, x16] (a' :: b' :: T) := by
  have h8 := hd.1
  obtain ⟨a1, b1, i, h1, h2, h3, h4⟩ := bel (n + 19) (ds.length + 1) (N := N) hs hh (by omega) (by omega)
  have h4' : lev Pr wf (n + 20) 16 [.ref 1, .int ((ds.length : Int) + 1)] (a :: b :: T) = .ok (.int (i : Int)) (a1 :: b1 :: T) := h4
  exact ⟨a1, b1, i, h1, h2, by omega, by simp [lt6, hD, h4']⟩
theorem lt789_ok (n : Nat) {a b : Ob} {T : Hs} : ∃ j k, (∀ o ∈ j, o.under 0 = true) ∧ (T ++ j)[k]? = some (Ob.lst (B1 ++ B2 ++ B3)) ∧
    ex (clOf Pr wf (n + 20)) wf (.seq lt7 (.seq lt8 (.seq lt9 .skip))) [x0, some (.ref 1), x2, x3, x4, x5, x6, x7, x8, x9, x10, x11, x12, x13, x14, x15, x16] (a :: b :: T) = .nx [x0, some (.ref 1), x2, x3, x4, x5, x6, x7, some (.ref (k + 1 + 1)), x9, x10, x11, x12, x13, x14, x15, x16] (a :: b :: (T ++ j)) := by
  have ar := add_refs (h := a :: b :: (T ++ [Ob.lst B1, Ob.lst B2])) (n := T.length + 1 + 1) (m := T.length + 1 + 1 + 1) (xs := B1) (ys := B2) (by simp) (by simp) (by decide)
  have ar2 := add_refs (h := a :: b :: (T ++ [Ob.lst B1, Ob.lst B2, Ob.lst (B1 ++ B2), Ob.lst B3])) (n := T.length + 2 + 1 + 1) (m := T.length + 3 + 1 + 1) (xs := B1 ++ B2) (ys := B3) (by simp) (by simp) (by decide)
  have e7 : ex (clOf Pr wf (n + 20)) wf lt7 [x0, some (.ref 1), x2, x3, x4, x5, x6, x7, x8, x9, x10, x11, x12, x13, x14, x15, x16] (a :: b :: T) = .nx [x0, some (.ref 1), x2, x3, x4, x5, x6, x7, some (.ref (T.length + 1 + 1)), x9, x10, x11, x12, x13, x14, x15, x16] (a :: b :: (T ++ [Ob.lst B1])) := by
    simp [lt7, new, B1, cPIN, TAKE]
  have e8 : ex (clOf Pr wf (n + 20)) wf lt8 [x0, some (.ref 1), x2, x3, x4, x5, x6, x7, some (.ref (T.length + 1 + 1)), x9, x10, x11, x12, x13, x14, x15, x16] (a :: b :: (T ++ [Ob.lst B1])) = .nx [x0, some (.ref 1), x2, x3, x4, x5, x6, x7, some (.ref (T.length + 2 + 1 + 1)), x9, x10, x11, x12, x13, x14, x15, x16] (a :: b :: (T ++ [Ob.lst B1, Ob.lst B2, Ob.lst (B1 ++ B2)])) := by
    have ar' : binV Bo.add (W.ref (T.length + 1 + 1)) (W.ref (T.length + 1 + 1 + 1)) (a :: b :: (T ++ [Ob.lst B1, Ob.lst B2])) = .ok (.ref (T.length + 2 + 1 + 1)) (a :: b :: (T ++ [Ob.lst B1, Ob.lst B2, Ob.lst (B1 ++ B2)])) := by
      simpa using ar
    generalize B1 = Y1 at ar' ⊢
    generalize Y1 ++ B2 = Y2 at ar' ⊢
    simp only [B2, PUT, MOVE] at ar' ⊢
    simp [lt8, new, ar']
  have e9 : ex (clOf Pr wf (n + 20)) wf lt9 [x0, some (.ref 1), x2, x3, x4, x5, x6, x7, some (.ref (T.length + 2 + 1 + 1)), x9, x10, x11, x12, x13, x14, x15, x16] (a :: b :: (T ++ [Ob.lst B1, Ob.lst B2, Ob.lst (B1 ++ B2)])) = .nx [x0, some (.ref 1), x2, x3, x4, x5, x6, x7, some (.ref (T.length + 4 + 1 + 1)), x9, x10, x11, x12, x13, x14, x15, x16] (a :: b :: (T ++ [Ob.lst B1, Ob.lst B2, Ob.lst (B1 ++ B2), Ob.lst B3, Ob.lst (B1 ++ B2 ++ B3)])) := by
    have ar' : binV Bo.add (W.ref (T.length + 2 + 1 + 1)) (W.ref (T.length + 3 + 1 + 1)) (a :: b :: (T ++ [Ob.lst B1, Ob.lst B2, Ob.lst (B1 ++ B2), Ob.lst B3])) = .ok (.ref (T.length + 4 + 1 + 1)) (a :: b :: (T ++ [Ob.lst B1, Ob.lst B2, Ob.lst (B1 ++ B2), Ob.lst B3, Ob.lst (B1 ++ B2 ++ B3)])) := by
      simpa using ar2
    generalize B1 ++ B2 = Y2 at ar' ⊢
    generalize Y2 ++ B3 = Y3 at ar' ⊢
    generalize B1 = Y1 at ar' ⊢
    generalize B2 = Y4 at ar' ⊢
    simp only [B3, MEND] at ar' ⊢
    simp [lt9, new, ar']
  refine ⟨[Ob.lst B1, Ob.lst B2, Ob.lst (B1 ++ B2), Ob.lst B3, Ob.lst (B1 ++ B2 ++ B3)], T.length + 4, ?_, by simp, ?_⟩
  · intro o ho
    simp only [List.mem_cons, List.not_mem_nil, or_false] at ho
    rcases ho with rfl | rfl | rfl | rfl | rfl <;> rfl
  · rw [sqx e7, sqx e8, sqx e9, ex_skip]
theorem lb10_ok (n : Nat) {a b : Ob} {T : Hs} {kD i : Nat} {ds : List Dd} {x : W} {v : Vw} (hh : HOk (a :: b :: T)) (hD : T[kD]? = some (Ob.lst (ds.map Dd.w))) (hd : DL ds) (hi : i ≤ ds.length) (hv : ∀ H, viewF 3 H x = some v) (hn : deedV v = .non) (hx : x.under 0 = true) : ∃ j y13, HOk (a :: b :: (T ++ j)) ∧
    forB (clOf Pr wf (n + 20)) wf (.nm 9) lb10 x [x0, some (.ref 1), x2, some (.ref (kD + 1 + 1)), x4, x5, x6, some (.int (i : Int)), x8, x9, x10, x11, x12, x13, x14, x15, x16] (a :: b :: T) = .nx [x0, some (.ref 1), x2, some (.ref (kD + 1 + 1)), x4, x5, x6, some (.int (i : Int)), x8, some x, x10, x11, x12, y13, x14, x15, x16] (a :: b :: (T ++ j)) := by
  have lw : (16000000 : Nat) ≤ lineW := by decide
  have h8 := hd.1
  have s1 := slc_ref (h := a :: b :: T) (n := kD + 1 + 1) (ws := ds.map Dd.w) hD none (some (i : Int))
  rw [cut_to, ← List.map_take] at s1
  obtain ⟨A, hA⟩ : ∃ A, ds.take i = A := ⟨_, rfl⟩
  obtain ⟨B, hB⟩ : ∃ B, ds.drop i = B := ⟨_, rfl⟩
  have lA : A.length = i := by rw [← hA]; simp; omega
  have lAB : A.length + B.length ≤ 8 := by rw [← hA, ← hB]; simp; omega
  have dA : ∀ d ∈ A, d.ok ∧ d.words.length ≤ 100 := fun d h => dl_100 hd d (List.mem_of_mem_take (hA ▸ h))
  have dB : ∀ d ∈ B, d.ok ∧ d.words.length ≤ 100 := fun d h => dl_100 hd d (List.mem_of_mem_drop (hB ▸ h))
  rw [hA] at s1
  have ar := add_refs (h := a :: b :: (T ++ [Ob.lst (A.map Dd.w), Ob.lst [x]])) (n := T.length + 1 + 1) (m := T.length + 1 + 1 + 1) (xs := A.map Dd.w) (ys := [x]) (by simp) (by simp) (by simp; omega)
  have hk2 := get_app [Ob.lst (A.map Dd.w), Ob.lst [x], Ob.lst (A.map Dd.w ++ [x])] hD
  have s2 := slc_ref (h := a :: b :: (T ++ [Ob.lst (A.map Dd.w), Ob.lst [x], Ob.lst (A.map Dd.w ++ [x])])) (n := kD + 1 + 1) (ws := ds.map Dd.w) hk2 (some (i : Int)) none
  rw [cut_from, ← List.map_drop, hB] at s2
  have ar2 := add_refs (h := a :: b :: (T ++ [Ob.lst (A.map Dd.w), Ob.lst [x], Ob.lst (A.map Dd.w ++ [x]), Ob.lst (B.map Dd.w)])) (n := T.length + 2 + 1 + 1) (m := T.length + 3 + 1 + 1) (xs := A.map Dd.w ++ [x]) (ys := B.map Dd.w) (by simp) (by simp) (by simp; omega)
  obtain ⟨J, hJ⟩ : ∃ J, [Ob.lst (A.map Dd.w), Ob.lst [x], Ob.lst (A.map Dd.w ++ [x]), Ob.lst (B.map Dd.w), Ob.lst (A.map Dd.w ++ [x] ++ B.map Dd.w)] = J := ⟨_, rfl⟩
  have hJg : (T ++ J)[T.length + 4]? = some (Ob.lst (A.map Dd.w ++ [x] ++ B.map Dd.w)) := by rw [← hJ]; simp
  have vw : viewF 4 (a :: b :: (T ++ J)) (.ref (T.length + 4 + 1 + 1)) = some (.row (A.map Dd.v ++ v :: B.map Dd.v)) := by
    refine viewL (ws := A.map Dd.w ++ [x] ++ B.map Dd.w) hJg (by simp; omega) ?_
    rw [List.append_assoc]
    refine mapO_app (views_w dA) ?_
    show mapO _ (x :: B.map Dd.w) = _
    rw [mapO_cons, hv, views_w dB]
  have tb : lev Pr wf (n + 20) 8 [.ref (T.length + 4 + 1 + 1)] (a :: b :: (T ++ J)) = .exc ⟨1, [.int (i : Int)]⟩ (a :: b :: (T ++ J)) := by
    have := text_bad (n + 15) vw dA (by omega) hn
    rwa [lA] at this
  have sm : lev Pr wf (n + 20) 19 [.tup [.str [100, 101, 101, 100], .int (i : Int)], .tup [.str [100, 101, 101, 100], .int (i : Int)]] (a :: b :: (T ++ J)) = .ok (.bl true) (a :: b :: (T ++ J)) := same_t 5 (n + 14) (sm_two (.int 4 _))
  have hJu : ∀ o ∈ J, o.under 0 = true := by
    rw [← hJ]
    have u1 : ∀ l : List Dd, W.unders 0 (l.map Dd.w) = true := fun l => deeds_under l 0
    have ux : W.unders 0 [x] = true := by simp [W.unders, hx]
    intro o ho
    simp only [List.mem_cons, List.not_mem_nil, or_false] at ho
    rcases ho with rfl | rfl | rfl | rfl | rfl
    · exact u1 A
    · exact ux
    · show W.unders 0 _ = true
      rw [unders_app, u1 A, ux]; rfl
    · exact u1 B
    · show W.unders 0 _ = true
      rw [unders_app, unders_app, u1 A, ux, u1 B]; rfl
  refine ⟨J, some (.ref (T.length + 4 + 1 + 1)), hok_app hh hJu, ?_⟩
  have e0 : ex (clOf Pr wf (n + 20)) wf lt10_0 [x0, some (.ref 1), x2, some (.ref (kD + 1 + 1)), x4, x5, x6, some (.int (i : Int)), x8, some x, x10, x11, x12, x13, x14, x15, x16] (a :: b :: T) = .nx [x0, some (.ref 1), x2, some (.ref (kD + 1 + 1)), x4, x5, x6, some (.int (i : Int)), x8, some x, x10, x11, x12, some (.ref (T.length + 4 + 1 + 1)), x14, x15, x16] (a :: b :: (T ++ J)) := by
    rw [← hJ]
    generalize A.map Dd.w = YA at s1 ar s2 ar2 ⊢
    generalize B.map Dd.w = YB at s2 ar2 ⊢
    simp at s1 ar s2 ar2
    simp [lt10_0, new, s1, ar, s2, ar2]
  have fb : forB (clOf Pr wf (n + 20)) wf (.nm 9) lb10 x [x0, some (.ref 1), x2, some (.ref (kD + 1 + 1)), x4, x5, x6, some (.int (i : Int)), x8, x9, x10, x11, x12, x13, x14, x15, x16] (a :: b :: T) = ex (clOf Pr wf (n + 20)) wf lb10 [x0, some (.ref 1), x2, some (.ref (kD + 1 + 1)), x4, x5, x6, some (.int (i : Int)), x8, some x, x10, x11, x12, x13, x14, x15, x16] (a :: b :: T) := rfl
  rw [fb]
  unfold lb10
  rw [sqx e0]
  simp [lt10_1, cl_told, tb, told_deed, sm]
end
theorem lt10_loop (n : Nat) {kD kB i : Nat} {ds : List Dd} {T0 : Hs} {BL : List W} {a0 b0 : Ob} (hB : T0[kB]? = some (Ob.lst BL)) (hd : DL ds) (hi : i ≤ ds.length) {a b : Ob} {x0 x2 x4 x5 x6 x8 x10 x11 x12 x14 x15 x16 : Option W} : ∀ (ws : List W) (j : Hs) (x9 x13 : Option W), (∀ x ∈ ws, x.under 0 = true ∧ ∃ v, deedV v = .non ∧ ∀ H, viewF 3 H x = some v) → T0[kD]? = some (Ob.lst (ds.map Dd.w)) → HOk (a :: b :: (T0 ++ j)) → ∃ j' y9 y13, HOk (a :: b :: (T0 ++ j')) ∧
    forL (forB (clOf Pr wf (n + 20)) wf (.nm 9) lb10) (fun h' => still (a0 :: b0 :: T0) h' (.ref (kB + 1 + 1))) ws [x0, some (.ref 1), x2, some (.ref (kD + 1 + 1)), x4, x5, x6, some (.int (i : Int)), x8, x9, x10, x11, x12, x13, x14, x15, x16] (a :: b :: (T0 ++ j)) = .nx [x0, some (.ref 1), x2, some (.ref (kD + 1 + 1)), x4, x5, x6, some (.int (i : Int)), x8, y9, x10, x11, x12, y13, x14, x15, x16] (a :: b :: (T0 ++ j'))
  | [], j, x9, x13, _, _, hh => ⟨j, x9, x13, hh, by rw [forL_nil (by simp [still, hB, get_app j hB])]⟩
  | x :: r, j, x9, x13, hx, hD, hh => by
    obtain ⟨hu, v, hn, hv⟩ := hx x (by simp)
    obtain ⟨j1, y13, h1, e⟩ := lb10_ok n (T := T0 ++ j) (x0 := x0) (x2 := x2) (x4 := x4) (x5 := x5) (x6 := x6) (x8 := x8) (x9 := x9) (x10 := x10) (x11 := x11) (x12 := x12) (x13 := x13) (x14 := x14) (x15 := x15) (x16 := x16) hh (get_app j hD) hd hi hv hn hu
    rw [List.append_assoc] at h1 e
    obtain ⟨j2, z9, z13, k1, k2⟩ := lt10_loop n hB hd hi r (j ++ j1) (some x) y13 (fun y hy => hx y (by simp [hy])) hD h1
    refine ⟨j2, z9, z13, k1, ?_⟩
    rw [forL_cons (by simp [still, hB, get_app j hB]), e]
    exact k2
section
variable {x0 x2 x3 x4 x5 x6 x7 x8 x9 x10 x11 x12 x13 x14 x15 x16 : Option W}
theorem lt10_ok (n : Nat) {a b : Ob} {T : Hs} {kD kB i : Nat} {ds : List Dd} (hh : HOk (a :: b :: T)) (hD : T[kD]? = some (Ob.lst (ds.map Dd.w))) (hB : T[kB]? = some (Ob.lst (B1 ++ B2 ++ B3))) (hd : DL ds) (hi : i ≤ ds.length) : ∃ j y9 y13, HOk (a :: b :: (T ++ j)) ∧
    ex (clOf Pr wf (n + 20)) wf lt10 [x0, some (.ref 1), x2, some (.ref (kD + 1 + 1)), x4, x5, x6, some (.int (i : Int)), some (.ref (kB + 1 + 1)), x9, x10, x11, x12, x13, x14, x15, x16] (a :: b :: T) = .nx [x0, some (.ref 1), x2, some (.ref (kD + 1 + 1)), x4, x5, x6, some (.int (i : Int)), some (.ref (kB + 1 + 1)), y9, x10, x11, x12, y13, x14, x15, x16] (a :: b :: (T ++ j)) := by
  obtain ⟨j, y9, y13, h1, e⟩ := lt10_loop n (a0 := a) (b0 := b) hB hd hi (x0 := x0) (x2 := x2) (x4 := x4) (x5 := x5) (x6 := x6) (x8 := some (.ref (kB + 1 + 1))) (x10 := x10) (x11 := x11) (x12 := x12) (x14 := x14) (x15 := x15) (x16 := x16) (B1 ++ B2 ++ B3) [] x9 x13 (fun x hx => ⟨unders_mem (bad_under 0) hx, bad_each hx⟩) hD (by rwa [List.append_nil])
  rw [List.append_nil] at e
  refine ⟨j, y9, y13, h1, ?_⟩
  unfold lt10
  rw [ex_for_ok (evi_row (w := .ref (kB + 1 + 1)) (ws := B1 ++ B2 ++ B3) (h' := a :: b :: T) (by simp) (by simp [hB]))]
  exact e
theorem lb11_ok (n : Nat) {h : Hs} {x : W} {k : Nat} {v : Vw} (hv : viewF k h x = some v) (hr : rowV v = false) : forB (clOf Pr wf (n + 20)) wf (.nm 9) lb11 x [x0, some (.ref 1), x2, x3, x4, x5, x6, x7, x8, x9, x10, x11, x12, x13, x14, x15, x16] h = .nx [x0, some (.ref 1), x2, x3, x4, x5, x6, x7, x8, some x, x10, x11, x12, x13, x14, x15, x16] h := by
  have tn : lev Pr wf (n + 20) 8 [x] h = .exc ⟨1, [.int 0]⟩ h := text_norow (n + 15) hv hr
  have sm : lev Pr wf (n + 20) 19 [.tup [.str [100, 101, 101, 100], .int 0], .tup [.str [100, 101, 101, 100], .int 0]] h = .ok (.bl true) h := same_t 5 (n + 14) (sm_two (.int 4 _))
  simp [lb11, lt11_0, cl_told, tn, told_deed, sm]
theorem lt11_ok (n : Nat) {a b : Ob} {T : Hs} (hh : HOk (a :: b :: T)) : ∃ j y9, HOk (a :: b :: (T ++ j)) ∧
    ex (clOf Pr wf (n + 20)) wf lt11 [x0, some (.ref 1), x2, x3, x4, x5, x6, x7, x8, x9, x10, x11, x12, x13, x14, x15, x16] (a :: b :: T) = .nx [x0, some (.ref 1), x2, x3, x4, x5, x6, x7, x8, y9, x10, x11, x12, x13, x14, x15, x16] (a :: b :: (T ++ j)) := by
  have hh2 : HOk (a :: b :: (T ++ [Ob.dic [], Ob.lst [.non, .int 3, .str [], .ref (T.length + 1 + 1)]])) := by
    have h1 := HOk.snoc2 (o := Ob.dic []) hh rfl
    have h2 := HOk.snoc2 (o := Ob.lst [.non, .int 3, .str [], .ref (T.length + 1 + 1)]) h1 (by simp [Ob.under, W.unders, W.under])
    simpa using h2
  refine ⟨[Ob.dic [], Ob.lst [.non, .int 3, .str [], .ref (T.length + 1 + 1)]], some (.ref (T.length + 1 + 1)), hh2, ?_⟩
  unfold lt11
  rw [ex_for_ok (evi_row (w := .ref (T.length + 1 + 1 + 1)) (ws := [.non, .int 3, .str [], .ref (T.length + 1 + 1)]) (h' := a :: b :: (T ++ [Ob.dic [], Ob.lst [.non, .int 3, .str [], .ref (T.length + 1 + 1)]])) (by simp [ev_dis, new]) (by simp))]
  have vd : viewF 1 (a :: b :: (T ++ [Ob.dic [], Ob.lst [.non, .int 3, .str [], .ref (T.length + 1 + 1)]])) (.ref (T.length + 1 + 1)) = some .dic := by
    have : (a :: b :: (T ++ [Ob.dic [], Ob.lst [.non, .int 3, .str [], .ref (T.length + 1 + 1)]]))[T.length + 1 + 1]? = some (Ob.dic []) := by simp
    simp only [viewF, this]
  rw [forL_cons (still_self _ _), lb11_ok n (k := 1) (v := .non) rfl rfl]
  show forL _ _ [.int 3, .str [], .ref (T.length + 1 + 1)] _ _ = _
  rw [forL_cons (still_self _ _), lb11_ok n (k := 1) (v := .int 3) rfl rfl]
  show forL _ _ [.str [], .ref (T.length + 1 + 1)] _ _ = _
  rw [forL_cons (still_self _ _), lb11_ok n (k := 1) (v := .str []) rfl rfl]
  show forL _ _ [.ref (T.length + 1 + 1)] _ _ = _
  rw [forL_cons (still_self _ _), lb11_ok n vd rfl]
  show forL _ _ [] _ _ = _
  rw [forL_nil (still_self _ _)]
theorem lb12_ok (n : Nat) {h : Hs} {x : W} {t : Ty} (ht : typeW h x = some t) (hn : subTy t .str = false) : forB (clOf Pr wf (n + 20)) wf (.nm 9) lb12 x [x0, some (.ref 1), x2, x3, x4, x5, x6, x7, x8, x9, x10, x11, x12, x13, x14, x15, x16] h = .nx [x0, some (.ref 1), x2, x3, x4, x5, x6, x7, x8, some x, x10, x11, x12, x13, x14, x15, x16] h := by
  have f : lev Pr wf (n + 20) 11 [x] h = .ok (.int 0) h := fault_odd (n + 19) ht hn
  have r : lev Pr wf (n + 20) 12 [x] h = .exc ⟨2, [.int 0]⟩ h := read_odd (n + 18) ht hn
  have s1 : lev Pr wf (n + 20) 19 [.int 0, .int 0] h = .ok (.bl true) h := same_t 5 (n + 14) (.int 5 _)
  have sm : lev Pr wf (n + 20) 19 [.tup [.str [116, 101, 120, 116], .int 0], .tup [.str [116, 101, 120, 116], .int 0]] h = .ok (.bl true) h := same_t 5 (n + 14) (sm_two (.int 4 _))
  simp [lb12, lt12_0, cl_told, f, r, s1, told_text, sm]
theorem lt12_ok (n : Nat) {a b : Ob} {T : Hs} {s : Tx} (hh : HOk (a :: b :: T)) : ∃ j y9, HOk (a :: b :: (T ++ j)) ∧
    ex (clOf Pr wf (n + 20)) wf lt12 [x0, some (.ref 1), x2, x3, some (.str s), x5, x6, x7, x8, x9, x10, x11, x12, x13, x14, x15, x16] (a :: b :: T) = .nx [x0, some (.ref 1), x2, x3, some (.str s), x5, x6, x7, x8, y9, x10, x11, x12, x13, x14, x15, x16] (a :: b :: (T ++ j)) := by
  have hh2 : HOk (a :: b :: (T ++ [Ob.lst [.str s], Ob.lst [.non, .int 5, .ref (T.length + 1 + 1)]])) := by
    have h1 := HOk.snoc2 (o := Ob.lst [.str s]) hh rfl
    have h2 := HOk.snoc2 (o := Ob.lst [.non, .int 5, .ref (T.length + 1 + 1)]) h1 (by simp [Ob.under, W.unders, W.under])
    simpa using h2
  refine ⟨[Ob.lst [.str s], Ob.lst [.non, .int 5, .ref (T.length + 1 + 1)]], some (.ref (T.length + 1 + 1)), hh2, ?_⟩
  unfold lt12
  rw [ex_for_ok (evi_row (w := .ref (T.length + 1 + 1 + 1)) (ws := [.non, .int 5, .ref (T.length + 1 + 1)]) (h' := a :: b :: (T ++ [Ob.lst [.str s], Ob.lst [.non, .int 5, .ref (T.length + 1 + 1)]])) (by simp [new]) (by simp))]
  rw [forL_cons (still_self _ _), lb12_ok n (t := .non) rfl rfl]
  show forL _ _ [.int 5, .ref (T.length + 1 + 1)] _ _ = _
  rw [forL_cons (still_self _ _), lb12_ok n (t := .int) rfl rfl]
  show forL _ _ [.ref (T.length + 1 + 1)] _ _ = _
  rw [forL_cons (still_self _ _), lb12_ok n (t := .lst) (by simp) rfl]
  show forL _ _ [] _ _ = _
  rw [forL_nil (still_self _ _)]
end
end K74P
end
section
set_option Elab.async false
set_option linter.all false
set_option maxRecDepth 100000
set_option maxHeartbeats 0
/-! k74: the law. -/
namespace K74P
open K74 hiding R
open Mi
theorem turn_ok (n : Nat) {N : Nat} {a b : Ob} {T : Hs} {x0 x2 x3 x4 x5 x6 x7 x8 x9 x10 x11 x12 x13 x14 x15 x16 : Option W} (hs : St2 (N + 700) a b) (hh : HOk (a :: b :: T)) : ∃ a' b' T' y3 y4 y5 y6 y7 y8 y9 y10 y11 y12 y13, St2 N a' b' ∧ HOk (a' :: b' :: T') ∧
    ex (clOf Pr wf (n + 20)) wf ltB [x0, some (.ref 1), x2, x3, x4, x5, x6, x7, x8, x9, x10, x11, x12, x13, x14, x15, x16] (a :: b :: T) = .nx [x0, some (.ref 1), x2, y3, y4, y5, y6, y7, y8, y9, y10, y11, y12, y13, x14, x15, x16] (a' :: b' :: T') := by
  obtain ⟨a1, b1, ds, h1, g1, hd, e0⟩ := lt0_ok (n + 15) (N := N + 301) (x0 := x0) (x2 := x2) (x3 := x3) (x4 := x4) (x5 := x5) (x6 := x6) (x7 := x7) (x8 := x8) (x9 := x9) (x10 := x10) (x11 := x11) (x12 := x12) (x13 := x13) (x14 := x14) (x15 := x15) (x16 := x16) (hs.mono (by omega)) hh
  obtain ⟨j1, o1, e1⟩ := lt1_ok (n + 19) (a := a1) (b := b1) (T := T ++ [Ob.lst (ds.map Dd.w)]) (k := T.length) (x0 := x0) (x2 := x2) (x4 := x4) (x5 := x5) (x6 := x6) (x7 := x7) (x8 := x8) (x9 := x9) (x10 := x10) (x11 := x11) (x12 := x12) (x13 := x13) (x14 := x14) (x15 := x15) (x16 := x16) (by simp) hd
  have g2 := hok_app g1 o1
  have e2 := lt2_ok (n + 13) (a := a1) (b := b1) (T := T ++ [Ob.lst (ds.map Dd.w)] ++ j1) (x0 := x0) (x2 := x2) (x3 := some (.ref (T.length + 1 + 1))) (x5 := x5) (x6 := x6) (x7 := x7) (x8 := x8) (x9 := x9) (x10 := x10) (x11 := x11) (x12 := x12) (x13 := x13) (x14 := x14) (x15 := x15) (x16 := x16) hd
  have g3 := HOk.snoc2 (o := Ob.lst (ds.map Dd.w)) g2 (deeds_under ds _)
  have kD : (T ++ [Ob.lst (ds.map Dd.w)] ++ j1 ++ [Ob.lst (ds.map Dd.w)])[T.length]? = some (Ob.lst (ds.map Dd.w)) := get_app _ (get_app _ (by simp))
  have kR : (T ++ [Ob.lst (ds.map Dd.w)] ++ j1 ++ [Ob.lst (ds.map Dd.w)])[(T ++ [Ob.lst (ds.map Dd.w)] ++ j1).length]? = some (Ob.lst (ds.map Dd.w)) := get_new _ _ []
  obtain ⟨T3, g4, keep, e3⟩ := lt3_ok n (a := a1) (b := b1) (x0 := x0) (x2 := x2) (x6 := x6) (x7 := x7) (x8 := x8) (x9 := x9) (x10 := x10) (x11 := x11) (x12 := x12) (x13 := x13) (x14 := x14) (x15 := x15) (x16 := x16) g3 kD kR hd
  have kD3 := keep _ _ (by simp) kD
  obtain ⟨a4, b4, j4, h4, g5, e4⟩ := lt4_ok n (N := N + 101) (a := a1) (b := b1) (x0 := x0) (x2 := x2) (x5 := some (.tup [.str [116, 111, 108, 100], .ref ((T ++ [Ob.lst (ds.map Dd.w)] ++ j1).length + 1 + 1)])) (x6 := x6) (x7 := x7) (x8 := x8) (x9 := x9) (x10 := x10) (x11 := x11) (x12 := x12) (x13 := x13) (x14 := x14) (x15 := x15) (x16 := x16) h1 g4 kD3 hd
  have kD4 := get_app j4 kD3
  obtain ⟨a5, b5, j5, y6, y10, y11, y12, h5, g6, e5⟩ := lt5_ok n (N := N + 1) (a := a4) (b := b4) (T := T3 ++ j4) (s := linesT 10 (ds.map Dd.line)) (x0 := x0) (x2 := x2) (x3 := some (.ref (T.length + 1 + 1))) (x5 := some (.tup [.str [116, 111, 108, 100], .ref ((T ++ [Ob.lst (ds.map Dd.w)] ++ j1).length + 1 + 1)])) (x6 := x6) (x7 := x7) (x8 := x8) (x9 := x9) (x10 := x10) (x11 := x11) (x12 := x12) (x13 := x13) (x14 := x14) (x15 := x15) (x16 := x16) h4 g5 (text_nt hd)
  have kD5 := get_app j5 kD4
  obtain ⟨a6, b6, i, h6, g7, hi, e6⟩ := lt6_ok n (N := N) (a := a5) (b := b5) (x0 := x0) (x2 := x2) (x4 := some (.str (linesT 10 (ds.map Dd.line)))) (x5 := some (.tup [.str [116, 111, 108, 100], .ref ((T ++ [Ob.lst (ds.map Dd.w)] ++ j1).length + 1 + 1)])) (x6 := y6) (x7 := x7) (x8 := x8) (x9 := x9) (x10 := y10) (x11 := y11) (x12 := y12) (x13 := x13) (x14 := x14) (x15 := x15) (x16 := x16) h5 g6 kD5 hd
  obtain ⟨j7, kB, o7, kB7, e7⟩ := lt789_ok n (a := a6) (b := b6) (T := T3 ++ j4 ++ j5) (x0 := x0) (x2 := x2) (x3 := some (.ref (T.length + 1 + 1))) (x4 := some (.str (linesT 10 (ds.map Dd.line)))) (x5 := some (.tup [.str [116, 111, 108, 100], .ref ((T ++ [Ob.lst (ds.map Dd.w)] ++ j1).length + 1 + 1)])) (x6 := y6) (x7 := some (.int (i : Int))) (x8 := x8) (x9 := x9) (x10 := y10) (x11 := y11) (x12 := y12) (x13 := x13) (x14 := x14) (x15 := x15) (x16 := x16)
  have g8 := hok_app g7 o7
  obtain ⟨j8, y9, y13, g9, e8⟩ := lt10_ok n (a := a6) (b := b6) (T := T3 ++ j4 ++ j5 ++ j7) (x0 := x0) (x2 := x2) (x4 := some (.str (linesT 10 (ds.map Dd.line)))) (x5 := some (.tup [.str [116, 111, 108, 100], .ref ((T ++ [Ob.lst (ds.map Dd.w)] ++ j1).length + 1 + 1)])) (x6 := y6) (x9 := x9) (x10 := y10) (x11 := y11) (x12 := y12) (x13 := x13) (x14 := x14) (x15 := x15) (x16 := x16) g8 (get_app j7 kD5) kB7 hd hi
  obtain ⟨j9, z9, g10, e9⟩ := lt11_ok n (a := a6) (b := b6) (T := T3 ++ j4 ++ j5 ++ j7 ++ j8) (x0 := x0) (x2 := x2) (x3 := some (.ref (T.length + 1 + 1))) (x4 := some (.str (linesT 10 (ds.map Dd.line)))) (x5 := some (.tup [.str [116, 111, 108, 100], .ref ((T ++ [Ob.lst (ds.map Dd.w)] ++ j1).length + 1 + 1)])) (x6 := y6) (x7 := some (.int (i : Int))) (x8 := some (.ref (kB + 1 + 1))) (x9 := y9) (x10 := y10) (x11 := y11) (x12 := y12) (x13 := y13) (x14 := x14) (x15 := x15) (x16 := x16) g9
  obtain ⟨j10, w9, g11, e10⟩ := lt12_ok n (a := a6) (b := b6) (T := T3 ++ j4 ++ j5 ++ j7 ++ j8 ++ j9) (s := linesT 10 (ds.map Dd.line)) (x0 := x0) (x2 := x2) (x3 := some (.ref (T.length + 1 + 1))) (x5 := some (.tup [.str [116, 111, 108, 100], .ref ((T ++ [Ob.lst (ds.map Dd.w)] ++ j1).length + 1 + 1)])) (x6 := y6) (x7 := some (.int (i : Int))) (x8 := some (.ref (kB + 1 + 1))) (x9 := z9) (x10 := y10) (x11 := y11) (x12 := y12) (x13 := y13) (x14 := x14) (x15 := x15) (x16 := x16) g10
  refine ⟨a6, b6, T3 ++ j4 ++ j5 ++ j7 ++ j8 ++ j9 ++ j10, some (.ref (T.length + 1 + 1)), some (.str (linesT 10 (ds.map Dd.line))), some (.tup [.str [116, 111, 108, 100], .ref ((T ++ [Ob.lst (ds.map Dd.w)] ++ j1).length + 1 + 1)]), y6, some (.int (i : Int)), some (.ref (kB + 1 + 1)), w9, y10, y11, y12, y13, h6, g11, ?_⟩
  have as : ∀ (Z : S) fr h fr' h', ex (clOf Pr wf (n + 20)) wf (.seq lt7 (.seq lt8 (.seq lt9 .skip))) fr h = .nx fr' h' → ex (clOf Pr wf (n + 20)) wf (.seq lt7 (.seq lt8 (.seq lt9 Z))) fr h = ex (clOf Pr wf (n + 20)) wf Z fr' h' := fun Z fr h fr' h' e => by
    rw [ex_seq] at e ⊢
    cases q1 : ex (clOf Pr wf (n + 20)) wf lt7 fr h with
    | nx fr1 h1 =>
      rw [q1] at e
      simp only [ex_seq] at e ⊢
      cases q2 : ex (clOf Pr wf (n + 20)) wf lt8 fr1 h1 with
      | nx fr2 h2 =>
        rw [q2] at e
        simp only at e ⊢
        cases q3 : ex (clOf Pr wf (n + 20)) wf lt9 fr2 h2 with
        | nx fr3 h3 => rw [q3] at e; simp only [ex_skip] at e; cases e; rfl
        | _ => rw [q3] at e; cases e
      | _ => rw [q2] at e; cases e
    | _ => rw [q1] at e; cases e
  unfold ltB
  rw [sqx e0, sqx e1, sqx e2, sqx e3, sqx e4, sqx e5, sqx e6, as _ _ _ _ _ e7, sqx e8, sqx e9, sqx e10, ex_skip]
theorem turns_ok (n : Nat) {g : Hs → Bool} (hg : ∀ h, g h = true) {x0 x14 x15 x16 : Option W} : ∀ (ws : List W) (N : Nat) (a b : Ob) (T : Hs) (x2 x3 x4 x5 x6 x7 x8 x9 x10 x11 x12 x13 : Option W), St2 (N + 700 * ws.length) a b → HOk (a :: b :: T) → ∃ fr h,
    forL (forB (clOf Pr wf (n + 20)) wf (.nm 2) ltB) g ws [x0, some (.ref 1), x2, x3, x4, x5, x6, x7, x8, x9, x10, x11, x12, x13, x14, x15, x16] (a :: b :: T) = .nx fr h
  | [], N, a, b, T, x2, x3, x4, x5, x6, x7, x8, x9, x10, x11, x12, x13, hs, hh => ⟨_, _, by rw [forL_nil (hg _)]⟩
  | w :: r, N, a, b, T, x2, x3, x4, x5, x6, x7, x8, x9, x10, x11, x12, x13, hs, hh => by
    obtain ⟨a1, b1, T1, y3, y4, y5, y6, y7, y8, y9, y10, y11, y12, y13, h1, h2, e⟩ := turn_ok n (N := N + 700 * r.length) (x0 := x0) (x2 := some w) (x3 := x3) (x4 := x4) (x5 := x5) (x6 := x6) (x7 := x7) (x8 := x8) (x9 := x9) (x10 := x10) (x11 := x11) (x12 := x12) (x13 := x13) (x14 := x14) (x15 := x15) (x16 := x16) (by
      have q : N + 700 * (w :: r).length = N + 700 * r.length + 700 := by simp; omega
      rwa [q] at hs) hh
    obtain ⟨fr, h, ih⟩ := turns_ok n hg r N a1 b1 T1 (some w) y3 y4 y5 y6 y7 y8 y9 y10 y11 y12 y13 h1 h2
    refine ⟨fr, h, ?_⟩
    have fb : forB (clOf Pr wf (n + 20)) wf (.nm 2) ltB w [x0, some (.ref 1), x2, x3, x4, x5, x6, x7, x8, x9, x10, x11, x12, x13, x14, x15, x16] (a :: b :: T) = ex (clOf Pr wf (n + 20)) wf ltB [x0, some (.ref 1), some w, x3, x4, x5, x6, x7, x8, x9, x10, x11, x12, x13, x14, x15, x16] (a :: b :: T) := rfl
    rw [forL_cons (hg _), fb, e]
    exact ih
theorem rest_eq : MiS.sqL (K74.rest.map (MiS.cS pe 30 20 (MiS.cxD dLaw (top 42)))) = lawR := by kernel_rfl
theorem plain74 : Plain74 := by
  intro l hl
  rw [rest_eq]
  have hs : St2 1000000 (Ob.lst (l.map W.int)) (Ob.lst [.ref 0, .int 0, .int 0, .int 43]) := ⟨l, 0, 0, 43, rfl, hl, by decide, by decide, by decide, by decide, by decide⟩
  have hh : HOk [Ob.lst (l.map W.int), Ob.lst [.ref 0, .int 0, .int 0, .int 43]] := by
    unfold HOk
    simp [Ob.under, unders_ints, W.unders, W.under]
  obtain ⟨fr, h, e⟩ := turns_ok 5 (g := fun _ => true) (fun _ => rfl) (x0 := none) (x14 := none) (x15 := none) (x16 := none) (rangeL 0 1 3) 1000 (Ob.lst (l.map W.int)) (Ob.lst [.ref 0, .int 0, .int 0, .int 43]) [] none none none none none none none none none none none none (hs.mono (by rw [rangeL_length]; decide)) hh
  refine ⟨h, ?_⟩
  have ef : ∀ f : Fr, f = [none, some (.ref 1), none, none, none, none, none, none, none, none, none, none, none, none, none, none, none] → ex (clOf Pr wf 25) wf (S.for (Tg.nm 2) (It.rng (Es.cons (E.con (W.int 3)) Es.nil)) ltB) f [Ob.lst (l.map W.int), Ob.lst [.ref 0, .int 0, .int 0, .int 43]] = .nx fr h := by
    intro f hf
    subst hf
    rw [ex_for_ok (rng_ok (k := 3) (h' := [Ob.lst (l.map W.int), Ob.lst [.ref 0, .int 0, .int 0, .int 43]]) (by rfl) (by decide))]
    exact e
  show ex (clOf Pr wf 25) wf lawR [none, some (.ref 1), none, none, none, none, none, none, none, none, none, none, none, none, none, none, none] [Ob.lst (l.map W.int), Ob.lst [.ref 0, .int 0, .int 0, .int 43]] = _
  unfold lawR
  rw [sqx (ef _ rfl)]
  rfl
end K74P
open PySem PySem.W PySem.Calls PyProof.Rows
theorem k74_holds : PySem.Challenge.rw_mendsnear_k74_whole_texts_of_deeds.Holds := k74_of K74P.plain74
end
theorem PySem.Challenge.cw_mendsnear_k74_whole_texts_of_deeds_holds : PySem.Challenge.rw_mendsnear_k74_whole_texts_of_deeds.Holds := by
  exact k74_holds
