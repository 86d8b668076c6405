import PyProof.Rows.All
import HandS.ForMost
import HandS.WideBits
import HandS.Exc
import HandS.Wide
import HandS.Defaults
import HandS.TupAny
import HandS.Deep
import PyProof.Rows.StrOr
import PyProof.ReprRoads
import HandS.Steps
import HandS.Style
import HandS.IsInst
import HandS.Flow
import HandS.Walk
import HandS.Zip
import HandS.Conv
import HandS.Ends
import HandS.HeadEnd
import HandS.Codes
import HandS.HeadHook1
import HandS.HeadHook2
import HandS.Head0
import HandS.Head1
import HandS.Head2
import PySem.Challenge.RW_fewthrows_k45_whole_shares_of_several_ta
set_option Elab.async false
set_option linter.all false
set_option maxRecDepth 100000
set_option maxHeartbeats 0
/-! DLb: pure data, stores, the small language and what it reckons. -/
namespace DL
open PySem

/-- pure data -/
inductive D where
  | non | bl (b : Bool) | int (i : Int) | str (x : Str)
  | tup (xs : List D) | lst (xs : List D)
  /-- a list that is read alone -/
  | rol (xs : List D)
  deriving Inhabited
/-- what a name stands for: pure data, or a place of the store -/
inductive W where
  | d (x : D) | l (n : Nat)
  deriving Inhabited
/-- what lies in the store -/
inductive Ob where
  | lst (xs : List W)
  | dead
abbrev Store := List Ob
abbrev Ev := List (Option W)

/-- outcomes -/
inductive Out (α : Type) where
  | ok (a : α) (S : Store)
  | err (c : Str) (x : D) (S : Store)
  | bad
def Out.bind {α β : Type} (o : Out α) (f : α → Store → Out β) : Out β := match o with
  | .ok a S => f a S
  | .err c x S => .err c x S
  | .bad => .bad
@[simp] theorem Out.bind_ok {α β : Type} (a : α) (S : Store) (f : α → Store → Out β) : (Out.ok a S).bind f = f a S := rfl
@[simp] theorem Out.bind_err {α β : Type} (c : Str) (x : D) (S : Store) (f : α → Store → Out β) : (Out.err c x S : Out α).bind f = .err c x S := rfl
@[simp] theorem Out.bind_bad {α β : Type} (f : α → Store → Out β) : (Out.bad : Out α).bind f = .bad := rfl
/-- nothing may be raised there -/
def Out.noErr {α : Type} (o : Out α) : Out α := match o with
  | .err _ _ _ => .bad
  | o => o
@[simp] theorem Out.noErr_ok {α : Type} (a : α) (S : Store) : (Out.ok a S).noErr = .ok a S := rfl
/-- a value that may not be there -/
def Out.of {α : Type} (o : Option α) (S : Store) : Out α := match o with
  | some a => .ok a S
  | none => .bad
@[simp] theorem Out.of_some {α : Type} (a : α) (S : Store) : Out.of (some a) S = .ok a S := rfl
@[simp] theorem Out.of_none {α : Type} (S : Store) : (Out.of none S : Out α) = .bad := rfl

abbrev Fn := List W → Store → Out W

/-! ### data -/
mutual
/-- as the library's data -/
def D.py : D → PyData
  | .non => .none
  | .bl b => .bool b
  | .int i => .int i
  | .str x => .str x
  | .tup xs => .tuple (D.pys xs)
  | .lst xs => .list (D.pys xs)
  | .rol xs => .list (D.pys xs)
def D.pys : List D → List PyData
  | [] => []
  | x :: xs => D.py x :: D.pys xs
end
mutual
/-- == of data -/
def deq : D → D → Bool
  | .non, .non => true
  | .bl a, .bl b => a == b
  | .bl a, .int j => decide ((if a then 1 else 0) = j)
  | .int i, .bl b => decide (i = (if b then 1 else 0))
  | .int i, .int j => decide (i = j)
  | .str x, .str y => decide (x = y)
  | .lst xs, .lst ys => deqs xs ys
  | .lst xs, .rol ys => deqs xs ys
  | .rol xs, .lst ys => deqs xs ys
  | .rol xs, .rol ys => deqs xs ys
  | .tup xs, .tup ys => deqs xs ys
  | _, _ => false
def deqs : List D → List D → Bool
  | [], [] => true
  | x :: xs, y :: ys => deq x y && deqs xs ys
  | _, _ => false
end
def strF (x : Str) : Bool := x.cps.all (· < 0x110000)
mutual
/-- no deeper than so much, with texts as they may be -/
def sh : Nat → D → Bool
  | _, .non | _, .bl _ | _, .int _ => true
  | _, .str x => strF x
  | 0, .tup _ | 0, .lst _ | 0, .rol _ => false
  | n + 1, .tup xs => shs n xs
  | n + 1, .lst xs => shs n xs
  | n + 1, .rol xs => shs n xs
def shs : Nat → List D → Bool
  | _, [] => true
  | n, x :: xs => sh n x && shs n xs
end

/-- what repr tells has no longer integers -/
def digitL : Nat := 10 ^ 4300
mutual
/-- repr tells it: no dict -/
def tells : PyData → Bool
  | .int i => decide (i.natAbs < digitL)
  | .none => true
  | .bool _ => true
  | .str _ => true
  | .list xs => tellsAll xs
  | .tuple xs => tellsAll xs
  | _ => false
def tellsAll : List PyData → Bool
  | [] => true
  | x :: xs => tells x && tellsAll xs
end

mutual
def sameD : D → D → Bool
  | .non, .non => true
  | .bl a, .bl b => a == b
  | .int a, .int b => decide (a = b)
  | .str a, .str b => decide (a = b)
  | .tup a, .tup b => sameDs a b
  | .lst a, .lst b => sameDs a b
  | .rol a, .rol b => sameDs a b
  | _, _ => false
def sameDs : List D → List D → Bool
  | [], [] => true
  | a :: as, b :: bs => sameD a b && sameDs as bs
  | _, _ => false
end
mutual
theorem sameD_eq : ∀ {a b : D}, sameD a b = true → a = b
  | .non, b, h => by cases b <;> first | rfl | cases h
  | .bl a, b, h => by cases b <;> first | (simp only [sameD, beq_iff_eq] at h; rw [h]) | cases h
  | .int a, b, h => by cases b <;> first | (simp only [sameD, decide_eq_true_eq] at h; rw [h]) | cases h
  | .str a, b, h => by cases b <;> first | (simp only [sameD, decide_eq_true_eq] at h; rw [h]) | cases h
  | .tup a, b, h => by cases b <;> first | (simp only [sameD] at h; rw [sameDs_eq h]) | cases h
  | .lst a, b, h => by cases b <;> first | (simp only [sameD] at h; rw [sameDs_eq h]) | cases h
  | .rol a, b, h => by cases b <;> first | (simp only [sameD] at h; rw [sameDs_eq h]) | cases h
theorem sameDs_eq : ∀ {a b : List D}, sameDs a b = true → a = b
  | [], [], _ => rfl
  | [], _ :: _, h => by cases h
  | _ :: _, [], h => by cases h
  | a :: as, b :: bs, h => by
    simp only [sameDs, Bool.and_eq_true] at h
    rw [sameD_eq h.1, sameDs_eq h.2]
end
mutual
theorem sameD_refl : ∀ a : D, sameD a a = true
  | .non => rfl
  | .bl a => by simp [sameD]
  | .int a => by simp [sameD]
  | .str a => by simp [sameD]
  | .tup a => by simp [sameD, sameDs_refl a]
  | .lst a => by simp [sameD, sameDs_refl a]
  | .rol a => by simp [sameD, sameDs_refl a]
theorem sameDs_refl : ∀ a : List D, sameDs a a = true
  | [] => rfl
  | a :: as => by simp [sameDs, sameD_refl a, sameDs_refl as]
end
def sameW : W → W → Bool
  | .d a, .d b => sameD a b
  | .l a, .l b => decide (a = b)
  | _, _ => false
def sameWs : List W → List W → Bool
  | [], [] => true
  | a :: as, b :: bs => sameW a b && sameWs as bs
  | _, _ => false
theorem sameW_eq {a b : W} (h : sameW a b = true) : a = b := by
  cases a <;> cases b <;> first | (rw [sameD_eq h]) | (rw [of_decide_eq_true h]) | cases h
theorem sameWs_eq : ∀ {a b : List W}, sameWs a b = true → a = b
  | [], [], _ => rfl
  | [], _ :: _, h => by cases h
  | _ :: _, [], h => by cases h
  | a :: as, b :: bs, h => by
    simp only [sameWs, Bool.and_eq_true] at h
    rw [sameW_eq h.1, sameWs_eq h.2]
theorem sameW_refl (a : W) : sameW a a = true := by
  cases a with
  | d a => exact sameD_refl a
  | l n => exact decide_eq_true rfl
@[simp] theorem sameWs_refl : ∀ a : List W, sameWs a a = true
  | [] => rfl
  | a :: as => by simp [sameWs, sameW_refl a, sameWs_refl as]
/-- the list that is walked stays as it is -/
def keeps (k : Option Nat) (ws : List W) (S : Store) : Bool := match k with
  | none => true
  | some n => match S[n]? with
    | some (.lst ys) => sameWs ys ws
    | _ => false
@[simp] theorem keeps_none (ws : List W) (S : Store) : keeps none ws S = true := rfl

/-! ### sequences -/
def pures : List W → Option (List D)
  | [] => some []
  | .d x :: r => (pures r).map (x :: ·)
  | .l _ :: _ => none
/-- what a list, a tuple, a list of the store holds -/
def seqOf (S : Store) : W → Option (List W)
  | .d (.tup xs) => some (xs.map .d)
  | .d (.lst xs) => some (xs.map .d)
  | .d (.rol xs) => some (xs.map .d)
  | .l n => match S[n]? with
    | some (.lst xs) => some xs
    | _ => none
  | _ => none
/-- what a list holds -/
def lseq (S : Store) : W → Option (List W)
  | .d (.tup _) => none
  | w => seqOf S w
def at_ {α : Type} (xs : List α) : Int → Option α
  | .ofNat n => xs[n]?
  | .negSucc n => if n < xs.length then xs[xs.length - 1 - n]? else none
/-- the place in a list of so many, of an integer -/
def ixOf (n : Nat) : Int → Option Nat
  | .ofNat i => if i < n then some i else none
  | .negSucc i => if i < n then some (n - 1 - i) else none
def cut_ {α : Type} (xs : List α) (lo hi : Option Int) : List α :=
  (xs.drop (HT.sIx xs.length 0 lo)).take (HT.sIx xs.length xs.length hi - HT.sIx xs.length 0 lo)
def lineS : Nat := 16777216

/-! ### operators -/
def mulOk (i j : Int) : Bool := decide (Builtin.Int.intBits i + Builtin.Int.intBits j ≤ 134217728)
def powOk (i j : Int) : Bool := decide (0 ≤ j ∧ (Builtin.Int.intBits i : Int) * j ≤ 100000000)
def divOk (j : Int) : Bool := decide (0 < j ∧ j.natAbs.log2 < 9000)
def opD (op : Operator) (x y : D) : Option D :=
  match op, x, y with
  | .Add, .int i, .int j => some (.int (i + j))
  | .Sub, .int i, .int j => some (.int (i - j))
  | .Mult, .int i, .int j => if mulOk i j then some (.int (i * j)) else none
  | .Mod, .int i, .int j => if 0 < j then some (.int (i % j)) else none
  | .FloorDiv, .int i, .int j => if divOk j then some (.int (i / j)) else none
  | .Pow, .int i, .int j => if powOk i j then some (.int (i ^ j.toNat)) else none
  | .Add, .str a, .str b => if a.length + b.length ≤ lineS then some (.str (a ++ b)) else none
  | .Add, .tup a, .tup b => if a.length + b.length ≤ lineS then some (.tup (a ++ b)) else none
  | .Add, .lst a, .lst b => if a.length + b.length ≤ lineS then some (.lst (a ++ b)) else none
  | _, _, _ => none
def evOp (op : Operator) (x y : W) (S : Store) : Out W := match x, y with
  | .d x, .d y => Out.of ((opD op x y).map .d) S
  | _, _ => .bad
def isNon : W → Bool
  | .d .non => true
  | _ => false
def hasD (x : D) : List D → Bool
  | [] => false
  | y :: r => deq y x || hasD x r
def flatD : D → Bool
  | .non | .bl _ | .int _ | .str _ => true
  | _ => false
def inD (x y : D) : Option Bool := match y with
  | .lst ys => if sh 59 x && shs 59 ys then some (hasD x ys) else none
  | .tup ys => if flatD x && ys.all flatD then some (hasD x ys) else none
  | .str z => match x with
    | .str ⟨⟨[c]⟩⟩ => some (decide (c ∈ z.cps.toList))
    | _ => none
  | _ => none
def cmpD (op : CmpOp) (x y : D) : Option Bool :=
  match op with
  | .Eq => if sh 60 x && sh 60 y then some (deq x y) else none
  | .NotEq => if sh 60 x && sh 60 y then some (!deq x y) else none
  | .Lt => match x, y with
    | .int i, .int j => some (decide (i < j))
    | _, _ => none
  | .LtE => match x, y with
    | .int i, .int j => some (decide (i ≤ j))
    | _, _ => none
  | .Gt => match x, y with
    | .int i, .int j => some (decide (j < i))
    | _, _ => none
  | .GtE => match x, y with
    | .int i, .int j => some (decide (j ≤ i))
    | _, _ => none
  | .In => inD x y
  | .NotIn => (inD x y).map (!·)
  | .Is => match x, y with
    | .bl a, .bl b => some (decide (a = b))
    | x, .non => some (match x with | .non => true | _ => false)
    | _, _ => none
  | .IsNot => match x, y with
    | .bl a, .bl b => some (!decide (a = b))
    | x, .non => some (match x with | .non => false | _ => true)
    | _, _ => none
def evCmp (op : CmpOp) (x y : W) (S : Store) : Out Bool := match x, y with
  | .d x, .d y => Out.of (cmpD op x y) S
  | .l _, .d .non => match op with
    | .Is => .ok false S
    | .IsNot => .ok true S
    | _ => .bad
  | _, _ => .bad
/-- truth -/
def tru (S : Store) : W → Option Bool
  | .d .non => some false
  | .d (.bl b) => some b
  | .d (.int i) => some (!decide (i = 0))
  | .d (.str x) => if x.length ≤ lineS then some (!decide (x.length = 0)) else none
  | .d (.tup xs) => some (!xs.isEmpty)
  | .d (.lst xs) => some (!xs.isEmpty)
  | .d (.rol xs) => some (!xs.isEmpty)
  | .l n => match S[n]? with
    | some (.lst xs) => some (!xs.isEmpty)
    | _ => none
def tyD : D → String
  | .non => "NoneType"
  | .bl _ => "bool"
  | .int _ => "int"
  | .str _ => "str"
  | .tup _ => "tuple"
  | .lst _ => "list"
  | .rol _ => "list"
def tyW (S : Store) : W → Option String
  | .d x => some (tyD x)
  | .l n => match S[n]? with
    | some (.lst _) => some "list"
    | _ => none
/-- a new list: of the store, or pure -/
def newL (m : Bool) (xs : List W) (S : Store) : Out W :=
  if xs.length ≤ lineS then (if m then .ok (.l S.length) (S ++ [.lst xs]) else Out.of ((pures xs).map fun ds => .d (.lst ds)) S) else .bad

/-! ### the language -/
inductive Bi where
  | len | int | tuple | list (m : Bool) | isinst (t : String) | repr | abs | sum | all | any | min | max | str
inductive Mt where
  | append | extend | popAt | pop | split | join | count
inductive T where
  | name (i : Nat)
  | tup (ts : List T)
mutual
inductive E where
  | var (i : Nat)
  | const (x : D)
  | glob (x : Str) (v : D)
  | bin (op : Operator) (a b : E)
  | neg (a : E)
  | cmp (op : CmpOp) (a b : E)
  | chain (op op' : CmpOp) (a b c : E)
  | not (a : E)
  | bop (conj : Bool) (es : List E)
  | ifx (c : B) (a b : E)
  | tup (es : List E)
  | lst (m : Bool) (es : List E)
  | ix (a i : E)
  | slice (a lo hi : E) (l h : Bool)
  | call (f : Nat) (es : List E)
  | bi (b : Bi) (es : List E)
  | mt (m : Mt) (a : E) (es : List E)
  | lrange (m : Bool) (es : List E)
  | comp (m : Bool) (e : E) (t : T) (it : I) (c : B) (own : List Nat)
inductive B where
  | val (a : E)
  | yes
  | not (a : B)
  | bop (conj : Bool) (bs : List B)
  | cmp (op : CmpOp) (a b : E)
  | chain (op op' : CmpOp) (a b c : E)
inductive I where
  | seq (a : E)
  | range (es : List E)
  | enum (a : E)
  | zip (a b : E)
end

/-! ### what it reckons -/
def getE (env : Ev) (i : Nat) : Option W := (env[i]?).bind id
/-- several names at once -/
def bindT : T → W → Ev → Option Ev
  | .name i, w, env => if i < env.length then some (env.set i (some w)) else none
  | .tup ts, w, env => match w with
    | .d (.tup xs) => bindTs ts (xs.map .d) env
    | _ => none
where
  bindTs : List T → List W → Ev → Option Ev
  | [], [], env => some env
  | t :: ts, w :: ws, env => (bindT t w env).bind (bindTs ts ws)
  | _, _, _ => none
def wipeE (env : Ev) : List Nat → Ev
  | [] => env
  | v :: vs => (wipeE env vs).set v none

def intsOf : List W → Option (List Int)
  | [] => some []
  | .d (.int i) :: r => (intsOf r).map (i :: ·)
  | _ :: _ => none
def blsOf : List W → Option (List Bool)
  | [] => some []
  | .d (.bl i) :: r => (blsOf r).map (i :: ·)
  | _ :: _ => none
def strsOf : List W → Option (List Str)
  | [] => some []
  | .d (.str i) :: r => (strsOf r).map (i :: ·)
  | _ :: _ => none
def least : Int → List Int → Int
  | a, [] => a
  | a, b :: r => least (if b < a then b else a) r
def most : Int → List Int → Int
  | a, [] => a
  | a, b :: r => most (if b > a then b else a) r
def isTy (ty t : String) : Bool := ty == t || (ty == "bool" && t == "int")
/-- what a call of a built-in gives -/
def biLen (x : W) (S : Store) : Out W := match seqOf S x with
  | some ys => .ok (.d (.int ys.length)) S
  | none => match x with
    | .d (.str s) => if s.length ≤ lineS then .ok (.d (.int s.length)) S else .bad
    | _ => .bad
def biInt (x : W) (S : Store) : Out W := match x with
  | .d (.int i) => .ok (.d (.int i)) S
  | .d (.bl k) => .ok (.d (.int (if k then 1 else 0))) S
  | .d (.str a) => match PySem.intText? a with
    | some n => if a.length ≤ 640 then .ok (.d (.int n)) S else .bad
    | none => .bad
  | _ => .bad
def biAbs (x : W) (S : Store) : Out W := match x with
  | .d (.int i) => .ok (.d (.int (if i < 0 then -i else i))) S
  | _ => .bad
def biStr (x : W) (S : Store) : Out W := match x with
  | .d (.int i) => if i.natAbs.log2 < 1920 then .ok (.d (.str (toString i))) S else .bad
  | _ => .bad
def biRepr (x : W) (S : Store) : Out W := match x with
  | .d x => if (sh 60 x && tells x.py && decide (x.py.shown.length ≤ lineS)) = true then .ok (.d (.str x.py.shown)) S else .bad
  | .l _ => .bad
def biMin (x : W) (S : Store) : Out W := match (lseq S x).bind intsOf with
  | some (a :: r) => .ok (.d (.int (least a r))) S
  | _ => .bad
def biMax (x : W) (S : Store) : Out W := match (lseq S x).bind intsOf with
  | some (a :: r) => .ok (.d (.int (most a r))) S
  | _ => .bad
def evBi1 (b : Bi) (x : W) (S : Store) : Out W := match b with
  | .len => biLen x S
  | .int => biInt x S
  | .tuple => Out.of (((seqOf S x).bind pures).map fun ds => .d (.tup ds)) S
  | .list m => (Out.of (seqOf S x) S).bind fun ys S => newL m ys S
  | .isinst t => Out.of ((tyW S x).map fun ty => .d (.bl (isTy ty t))) S
  | .abs => biAbs x S
  | .sum => Out.of (((lseq S x).bind intsOf).map fun ns => .d (.int ns.sum)) S
  | .all => Out.of (((lseq S x).bind blsOf).map fun bs => .d (.bl (bs.all id))) S
  | .any => Out.of (((lseq S x).bind blsOf).map fun bs => .d (.bl (bs.any id))) S
  | .str => biStr x S
  | .repr => biRepr x S
  | .min => biMin x S
  | .max => biMax x S
def evBi2 (b : Bi) (x y : W) (S : Store) : Out W := match b with
  | .min => match x, y with
    | .d (.int i), .d (.int j) => .ok (.d (.int (if j < i then j else i))) S
    | _, _ => .bad
  | .max => match x, y with
    | .d (.int i), .d (.int j) => .ok (.d (.int (if j > i then j else i))) S
    | _, _ => .bad
  | _ => .bad
def evBi (b : Bi) (ws : List W) (S : Store) : Out W := match ws with
  | [x] => evBi1 b x S
  | [x, y] => evBi2 b x y S
  | _ => .bad
/-- what a method of a built-in gives -/
def mtAppend (n : Nat) (y : W) (S : Store) : Out W := match S[n]? with
  | some (.lst xs) => if xs.length < lineS then .ok (.d .non) (S.set n (.lst (xs ++ [y]))) else .bad
  | _ => .bad
def mtExtend (n : Nat) (y : W) (S : Store) : Out W := match S[n]? with
  | some (.lst xs) => match y with
    | .d (.lst ys) => if xs.length + ys.length ≤ lineS then .ok (.d .non) (S.set n (.lst (xs ++ ys.map .d))) else .bad
    | _ => .bad
  | _ => .bad
def mtPop (n : Nat) (S : Store) : Out W := match S[n]? with
  | some (.lst xs) => (Out.of xs[xs.length - 1]? S).bind fun y S => .ok y (S.set n (.lst xs.dropLast))
  | _ => .bad
def mtPopAt (n : Nat) (i : Int) (S : Store) : Out W := match S[n]? with
  | some (.lst xs) => if -(2 ^ 63) ≤ i ∧ i < 2 ^ 63 then
      (Out.of (ixOf xs.length i) S).bind fun k S => (Out.of xs[k]? S).bind fun y S => .ok y (S.set n (.lst (xs.eraseIdx k)))
    else .bad
  | _ => .bad
def mtSplit (a b : Str) (S : Store) : Out W :=
  if (b.length == 0) = false ∧ a.length + 2 ≤ lineS then .ok (.d (.lst ((Txt.split a b).map .str))) S else .bad
def mtJoin (a : Str) (x : W) (S : Store) : Out W := (Out.of ((seqOf S x).bind strsOf) S).bind fun ys S =>
  if (ys.map (·.length)).sum + ys.length * a.length ≤ lineS then .ok (.d (.str (Txt.join a ys))) S else .bad
def mtCount (o x : W) (S : Store) : Out W := match x with
  | .d x => (Out.of ((lseq S o).bind pures) S).bind fun ys S => if (sh 59 x && shs 59 ys) = true then .ok (.d (.int (ys.countP fun y => deq y x : Nat))) S else .bad
  | .l _ => .bad
/-- the kind that a method is of -/
def mtT : Mt → String
  | .split | .join => "str"
  | _ => "list"
def mtIs (t : String) (w : W) (S : Store) : Bool := if t = "str" then (match w with | .d (.str _) => true | _ => false) else (lseq S w).isSome
def evMt0 (m : Mt) (o : W) (S : Store) : Out W := match m, o with
  | .pop, .l n => mtPop n S
  | _, _ => .bad
def evMt1 (m : Mt) (o x : W) (S : Store) : Out W := match m with
  | .append => match o with
    | .l n => mtAppend n x S
    | .d _ => .bad
  | .extend => match o with
    | .l n => mtExtend n x S
    | .d _ => .bad
  | .popAt => match o, x with
    | .l n, .d (.int i) => mtPopAt n i S
    | _, _ => .bad
  | .split => match o, x with
    | .d (.str a), .d (.str b) => mtSplit a b S
    | _, _ => .bad
  | .join => match o with
    | .d (.str a) => mtJoin a x S
    | _ => .bad
  | .count => mtCount o x S
  | .pop => .bad
def evMt (m : Mt) (o : W) (ws : List W) (S : Store) : Out W := match ws with
  | [] => evMt0 m o S
  | [x] => evMt1 m o x S
  | _ => .bad
def evIx (x i : W) (S : Store) : Out W := match i with
  | .d (.int k) => match seqOf S x with
    | some xs => Out.of (at_ xs k) S
    | none => match x with
      | .d (.str z) => if z.length ≤ lineS then Out.of ((at_ z.cps.toList k).map fun c => .d (.str ⟨#[c]⟩)) S else .bad
      | _ => .bad
  | _ => .bad
def boundI (w : W) (S : Store) : Out (Option Int) := match w with
  | .d (.int i) => .ok (some i) S
  | _ => .bad
def evSlice (x : W) (lo hi : Option Int) (S : Store) : Out W := match x with
  | .d (.tup xs) => .ok (.d (.tup (cut_ xs lo hi))) S
  | .d (.lst xs) => .ok (.d (.lst (cut_ xs lo hi))) S
  | .d (.rol xs) => .ok (.d (.lst (cut_ xs lo hi))) S
  | .l n => match S[n]? with
    | some (.lst xs) => Out.of ((pures (cut_ xs lo hi)).map fun ds => .d (.lst ds)) S
    | _ => .bad
  | _ => .bad
def rangeL (lo hi : Int) : List W := (List.range (hi - lo).toNat).map fun (i : Nat) => .d (.int (lo + (i : Int)))
def rangeOk (i : Int) : Bool := decide (-(2 ^ 62) ≤ i ∧ i < 2 ^ 62)
def rangeOf : List W → Option (List W)
  | [.d (.int n)] => if rangeOk n then some (rangeL 0 n) else none
  | [.d (.int a), .d (.int b)] => if rangeOk a && rangeOk b then some (rangeL a b) else none
  | _ => none
/-- one item behind another, through a comprehension -/
def compL (ok : Store → Bool) (f : W → Store → Out (Option W)) : List W → Store → Out (List W)
  | [], S => if ok S = true then .ok [] S else .bad
  | x :: xs, S => if ok S = true then (f x S).bind fun y S => (compL ok f xs S).bind fun ys S => match y with
    | some y => .ok (y :: ys) S
    | none => .ok ys S else .bad
/-- the pairs of two lists, as tuples -/
def zipW : List D → List D → List W
  | x :: xs, y :: ys => .d (.tup [x, y]) :: zipW xs ys
  | _, _ => []
def enumW : Nat → List D → List W
  | _, [] => []
  | n, x :: xs => .d (.tup [.int n, x]) :: enumW (n + 1) xs
/-- what a pure list holds -/
def dataL : W → Option (List D)
  | .d (.lst xs) => some xs
  | .d (.rol xs) => some xs
  | _ => none
def zipD (x y : W) : Option (List W) := match x, y with
  | .d (.tup xs), .d (.tup ys) => some (zipW xs ys)
  | x, y => (dataL x).bind fun xs => (dataL y).map fun ys => zipW xs ys
/-- what a list, a tuple holds, item by item -/
def itemsD (S : Store) : W → Option (List W × Option Nat)
  | .d (.tup xs) => some (xs.map .d, none)
  | .d (.lst xs) => some (xs.map .d, none)
  | .d (.rol xs) => some (xs.map .d, none)
  | .l n => match S[n]? with
    | some (.lst xs) => some (xs, some n)
    | _ => none
  | _ => none
/-- the places of the store among arguments, each once -/
def locsOf : List W → List Nat
  | [] => []
  | .l n :: r => n :: (locsOf r).filter (· ≠ n)
  | .d _ :: r => locsOf r
def reix (ls : List Nat) : W → W
  | .d x => .d x
  | .l n => .l (ls.idxOf n)
def isD : W → Bool
  | .d _ => true
  | .l _ => false
def flatO : Ob → Bool
  | .lst xs => xs.all isD
  | .dead => true
def getAll (S : Store) : List Nat → Option (List Ob)
  | [] => some []
  | n :: r => match S[n]? with
    | some o => if flatO o then (getAll S r).map (o :: ·) else none
    | none => none
def putAll (S : Store) : List Nat → List Ob → Store
  | n :: r, o :: os => putAll (S.set n o) r os
  | _, _ => S
/-- a call: the callee sees the places that are handed to it alone -/
def evCall (f : Fn) (ws : List W) (S : Store) : Out W :=
  match getAll S (locsOf ws) with
  | none => .bad
  | some os => match f (ws.map (reix (locsOf ws))) os with
    | .ok r S' => if ((S'.take os.length).all flatO && decide (os.length ≤ S'.length)) = true then
        match r with
        | .d x => .ok (.d x) (putAll S (locsOf ws) (S'.take os.length))
        | .l j => if j < os.length then Out.of ((locsOf ws)[j]?.map .l) (putAll S (locsOf ws) (S'.take os.length))
          else match S'[j]? with
            | some (.lst xs) => if xs.all isD = true then .ok (.l S.length) (putAll S (locsOf ws) (S'.take os.length) ++ [.lst xs]) else .bad
            | _ => .bad
      else .bad
    | .err c x S' => if ((S'.take os.length).all flatO && decide (os.length ≤ S'.length)) = true then .err c x (putAll S (locsOf ws) (S'.take os.length)) else .bad
    | .bad => .bad
mutual
def ev (fns : Nat → Fn) : E → Ev → Store → Out W
  | .var i, env, S => Out.of (getE env i) S
  | .const x, _, S => .ok (.d x) S
  | .glob _ v, _, S => .ok (.d v) S
  | .bin op a b, env, S => (ev fns a env S).bind fun x S => (ev fns b env S).bind fun y S => evOp op x y S
  | .neg a, env, S => (ev fns a env S).bind fun x S => match x with
    | .d (.int i) => .ok (.d (.int (-i))) S
    | _ => .bad
  | .cmp op a b, env, S => (ev fns a env S).bind fun x S => (ev fns b env S).bind fun y S => (evCmp op x y S).bind fun k S => .ok (.d (.bl k)) S
  | .chain op op' a b c, env, S => (ev fns a env S).bind fun x S => (ev fns b env S).bind fun y S => (evCmp op x y S).bind fun k S =>
    if k = true then (ev fns c env S).bind fun z S => (evCmp op' y z S).bind fun k S => .ok (.d (.bl k)) S else .ok (.d (.bl false)) S
  | .not a, env, S => (ev fns a env S).bind fun x S => Out.of ((tru S x).map fun k => .d (.bl (!k))) S
  | .bop conj es, env, S => evBop fns conj es env S
  | .ifx c a b, env, S => (evB fns c env S).bind fun k S => if k = true then ev fns a env S else ev fns b env S
  | .tup es, env, S => (evs fns es env S).bind fun ws S => if ws.length ≤ lineS then Out.of ((pures ws).map fun ds => .d (.tup ds)) S else .bad
  | .lst m es, env, S => (evs fns es env S).bind fun ws S => newL m ws S
  | .ix a i, env, S => (ev fns a env S).bind fun x S => (ev fns i env S).bind fun y S => evIx x y S
  | .slice a lo hi l h, env, S => (ev fns a env S).bind fun x S => (if l = true then (ev fns lo env S).bind boundI else .ok none S).bind fun y S => (if h = true then (ev fns hi env S).bind boundI else .ok none S).bind fun z S => evSlice x y z S
  | .call f es, env, S => (evs fns es env S).bind fun ws S => evCall (fns f) ws S
  | .bi b es, env, S => (evs fns es env S).bind fun ws S => evBi b ws S
  | .mt m a es, env, S => (ev fns a env S).bind fun x S => if mtIs (mtT m) x S = true then (evs fns es env S).bind fun ws S => evMt m x ws S else .bad
  | .lrange m es, env, S => (evs fns es env S).bind fun ws S => (Out.of (rangeOf ws) S).bind fun xs S => newL m xs S
  | .comp m e t it c own, env, S => (evI fns it env S).bind fun p S => if p.1.length < lineS then
    (compL (keeps p.2 p.1) (fun x S => (Out.of (bindT t x (wipeE env own)) S).bind fun env1 S => (evB fns c env1 S).noErr.bind fun k S =>
      if k = true then (ev fns e env1 S).noErr.bind fun y S => .ok (some y) S else .ok none S) p.1 S).bind fun ys S => newL m ys S else .bad
def evs (fns : Nat → Fn) : List E → Ev → Store → Out (List W)
  | [], _, S => .ok [] S
  | e :: es, env, S => (ev fns e env S).bind fun x S => (evs fns es env S).bind fun xs S => .ok (x :: xs) S
def evB (fns : Nat → Fn) : B → Ev → Store → Out Bool
  | .val a, env, S => (ev fns a env S).bind fun x S => Out.of (tru S x) S
  | .yes, _, S => .ok true S
  | .not a, env, S => (evB fns a env S).bind fun k S => .ok (!k) S
  | .bop conj bs, env, S => evBs fns conj bs env S
  | .cmp op a b, env, S => (ev fns a env S).bind fun x S => (ev fns b env S).bind fun y S => evCmp op x y S
  | .chain op op' a b c, env, S => (ev fns a env S).bind fun x S => (ev fns b env S).bind fun y S => (evCmp op x y S).bind fun k S =>
    if k = true then (ev fns c env S).bind fun z S => evCmp op' y z S else .ok false S
/-- values joined by and, or: the last one is the end if none ahead of it decides -/
def evBop (fns : Nat → Fn) (conj : Bool) : List E → Ev → Store → Out W
  | [], _, _ => .bad
  | [e], env, S => ev fns e env S
  | e :: es, env, S => (ev fns e env S).bind fun x S => (Out.of (tru S x) S).bind fun k S => if k = conj then evBop fns conj es env S else .ok x S
def evBs (fns : Nat → Fn) (conj : Bool) : List B → Ev → Store → Out Bool
  | [], _, _ => .bad
  | [b], env, S => evB fns b env S
  | b :: bs, env, S => (evB fns b env S).bind fun k S => if k = conj then evBs fns conj bs env S else .ok k S
def evI (fns : Nat → Fn) : I → Ev → Store → Out (List W × Option Nat)
  | .seq a, env, S => (ev fns a env S).bind fun x S => Out.of (itemsD S x) S
  | .range es, env, S => (evs fns es env S).bind fun ws S => Out.of ((rangeOf ws).map fun xs => (xs, none)) S
  | .enum a, env, S => (ev fns a env S).bind fun x S => Out.of ((dataL x).map fun xs => (enumW 0 xs, none)) S
  | .zip a b, env, S => (ev fns a env S).bind fun x S => (ev fns b env S).bind fun y S => Out.of ((zipD x y).map fun xs => (xs, none)) S
end
/-! ### statements -/
inductive Tg where
  | name (i : Nat)
  | ix (a i : E)
inductive Sm where
  | asg (t : T) (e : E)
  /-- several targets, as many values, the targets one behind another -/
  | asgs (ts : List Tg) (es : List E)
  /-- o[i] = e -/
  | set (a i e : E)
  /-- two or three plain names at once -/
  | par (is : List Nat) (es : List E)
  | aug (i : Nat) (op : Operator) (e : E)
  | expr (e : E)
  | ret (e : E)
  | retN
  | ife (c : B) (a b : List Sm)
  | for_ (t : T) (it : I) (b : List Sm)
  | while_ (n : Nat) (c : B) (b : List Sm)
  | brk | never | pass
/-- how a statement ends -/
inductive Fl where
  | nx (env : Ev) | rt (w : W) | bk (env : Ev)
def setIx (o i v : W) (st : Store) : Option Store := match o, i with
  | .l n, .d (.int k) => match st[n]? with
    | some (.lst xs) => (ixOf xs.length k).map fun j => st.set n (.lst (xs.set j v))
    | _ => none
  | _, _ => none
def setN (i : Nat) (w : W) (env : Ev) : Option Ev := if i < env.length then some (env.set i (some w)) else none
def setNs : List Nat → List W → Ev → Option Ev
  | [], [], env => some env
  | i :: is, w :: ws, env => (setN i w env).bind (setNs is ws)
  | _, _, _ => none
def evTg (fns : Nat → Fn) : Tg → W → Ev → Store → Out Ev
  | .name i, w, env, st => Out.of (setN i w env) st
  | .ix a i, w, env, st => (ev fns a env st).bind fun o st => (ev fns i env st).bind fun k st => match setIx o k w st with
    | some st => .ok env st
    | none => .bad
def evTgs (fns : Nat → Fn) : List Tg → List W → Ev → Store → Out Ev
  | [], [], env, st => .ok env st
  | t :: ts, w :: ws, env, st => (evTg fns t w env st).bind fun env st => evTgs fns ts ws env st
  | _, _, _, _ => .bad
def augD (op : Operator) (x y : W) (st : Store) : Out W := match op, x, y with
  | .Add, .d (.int i), .d (.int j) => .ok (.d (.int (i + j))) st
  | .Sub, .d (.int i), .d (.int j) => .ok (.d (.int (i - j))) st
  | .Add, .d (.str a), .d (.str b) => if a.length + b.length ≤ lineS then .ok (.d (.str (a ++ b))) st else .bad
  | _, _, _ => .bad
/-- the turns of a loop -/
def forL (ok : Store → Bool) (f : W → Ev → Store → Out Fl) : List W → Ev → Store → Out Fl
  | [], env, st => if ok st = true then .ok (.nx env) st else .bad
  | x :: xs, env, st => if ok st = true then (f x env st).bind fun r st => match r with
    | .nx env => forL ok f xs env st
    | .bk env => .ok (.nx env) st
    | .rt w => .ok (.rt w) st else .bad
def whileL (c : Ev → Store → Out Bool) (f : Ev → Store → Out Fl) : Nat → Ev → Store → Out Fl
  | 0, _, _ => .bad
  | n + 1, env, st => (c env st).bind fun k st => if k = true then (f env st).bind fun r st => match r with
      | .nx env => whileL c f n env st
      | .bk env => .ok (.nx env) st
      | .rt w => .ok (.rt w) st
    else .ok (.nx env) st
mutual
def evS (fns : Nat → Fn) : Sm → Ev → Store → Out Fl
  | .asg t e, env, st => (ev fns e env st).bind fun x st => Out.of ((bindT t x env).map .nx) st
  | .asgs ts es, env, st => (evs fns es env st).bind fun ws st => if ws.length ≤ lineS then (evTgs fns ts ws env st).bind fun env st => .ok (.nx env) st else .bad
  | .set a i e, env, st => (ev fns e env st).bind fun w st => ((ev fns a env st).bind fun o st => (ev fns i env st).bind fun k st => match setIx o k w st with
    | some st => .ok env st
    | none => .bad).bind fun env st => .ok (.nx env) st
  | .par is es, env, st => (evs fns es env st).bind fun ws st => Out.of ((setNs is ws env).map .nx) st
  | .aug i op e, env, st => (Out.of (getE env i) st).bind fun x st => (ev fns e env st).bind fun y st => (augD op x y st).bind fun z st => Out.of ((setN i z env).map .nx) st
  | .expr e, env, st => (ev fns e env st).bind fun _ st => .ok (.nx env) st
  | .ret e, env, st => (ev fns e env st).bind fun x st => .ok (.rt x) st
  | .retN, _, st => .ok (.rt (.d .non)) st
  | .ife c a b, env, st => (evB fns c env st).bind fun k st => if k = true then evSs fns a env st else evSs fns b env st
  | .for_ t it b, env, st => (evI fns it env st).bind fun p st => forL (keeps p.2 p.1) (fun x env st => (Out.of (bindT t x env) st).bind fun env st => evSs fns b env st) p.1 env st
  | .while_ n c b, env, st => whileL (evB fns c) (evSs fns b) n env st
  | .brk, env, st => .ok (.bk env) st
  | .never, _, _ => .bad
  | .pass, env, st => .ok (.nx env) st
def evSs (fns : Nat → Fn) : List Sm → Ev → Store → Out Fl
  | [], env, st => .ok (.nx env) st
  | s :: ss, env, st => (evS fns s env st).bind fun r st => match r with
    | .nx env => evSs fns ss env st
    | .bk env => .ok (.bk env) st
    | .rt w => .ok (.rt w) st
end
/-- a def by its body; n: its slots -/
def evF (fns : Nat → Fn) (n : Nat) (b : List Sm) : Fn := fun ws st =>
  (evSs fns b (ws.map some ++ List.replicate (n - ws.length) none) st).bind fun r st => match r with
    | .rt w => .ok w st
    | .nx _ => .ok (.d .non) st
    | .bk _ => .bad
end DL
/-! DLa: defs that are called with no repr under way (FnG), their calls. -/
namespace DL
open PySem PySem.Spec PyProof.Rows L2

/-- a def's promise where no repr is under way -/
structure FnG (P : Program) (w : World) (K : PySem.W.Frag) (mg : Str → Option Value) (base : Heap) (k : Nat) (f : Addr) (fd : FuncData) (ps : List Str) (sp : Sp) : Prop where
  len : ∀ vs H Q E, sp vs H Q E → vs.length = ps.length
  run : ∀ (A : Around) (outer : List Env) (s : Shared) (H : Hp) (args : Args) (us : List Value) (vs : List V) (Q : VK) (E : XK), Room k A → A.guards = some [] →
    Env0 P w K mg base A outer s H → BindsTo s fd args (ps.zip us) → Vals vs us → sp vs H Q E → codeAny (model P w) A (.call (.ref f) args) (CR (L2.CX P w) outer P w H s Q E) s

section
variable {P : Program} {w : World} {K : PySem.W.Frag} {mg : Str → Option Value} {base : Heap} {k : Nat} {f : Addr} {fd : FuncData} {ps : List Str} {sp : Sp}
theorem FnG.mono {j : Nat} (F : FnG P w K mg base j f fd ps sp) (h : j ≤ k) : FnG P w K mg base k f fd ps sp :=
  ⟨F.len, fun A outer s H args us vs Q E hr hg => F.run A outer s H args us vs Q E (hr.mono h) hg⟩
theorem FnG.imp {sp' : Sp} (F : FnG P w K mg base k f fd ps sp) (h : ∀ vs H Q E, sp' vs H Q E → sp vs H Q E) : FnG P w K mg base k f fd ps sp' :=
  ⟨fun vs H Q E q => F.len vs H Q E (h _ _ _ _ q), fun A outer s H args us vs Q E hr hg e0 hb hv hs => F.run A outer s H args us vs Q E hr hg e0 hb hv (h _ _ _ _ hs)⟩
end

/-- how positional and keyword values come to the parameters: ord tells for each parameter which value -/
def BindsK (fd : FuncData) (ps ks : List Str) (n : Nat) (ord : List Nat) : Prop :=
  ∀ (s : Shared) (us ws : List Value), us.length = n → ws.length = ks.length → BindsTo s fd ⟨us, ks.zip ws⟩ (ps.zip (ord.filterMap fun i => (us ++ ws)[i]?))

theorem vals_pick {vs : List V} {us : List Value} (r : Vals vs us) : ∀ (ord : List Nat), Vals (ord.filterMap fun i => vs[i]?) (ord.filterMap fun i => us[i]?)
  | [] => .nil
  | i :: ord => by
    have ih := vals_pick r ord
    rw [List.filterMap_cons, List.filterMap_cons]
    cases e : vs[i]? with
    | none =>
      rw [r.none_of e]
      exact ih
    | some x =>
      obtain ⟨u, hu, rx⟩ := r.get e
      rw [hu]
      exact .cons rx ih

section
variable {X : Cx} {k : Nat} {f : Addr} {fd : FuncData} {ps ks : List Str} {sp : Sp} {E : XK} {n : Nat} {ord : List Nat}
/-- the callee runs -/
theorem runG {pins : List (Addr × Obj)} {σ : L2.St} {H : Hp} {s : Shared} {Q : VK} {us ws : List Value} {vs zs : List V} (F : FnG X.prog X.w X.K X.mg X.base k f fd ps sp) (hr : Room k X.A) (hg : X.A.guards = some [])
    (hb : BindsK fd ps ks n ord) (hx : Passes (L2.CX X.prog X.w) X E) (I : Inv X pins σ H s) (r : Vals vs us) (rz : Vals zs ws) (hn : us.length = n) (hk : ws.length = ks.length)
    (h : sp (ord.filterMap fun i => (vs ++ zs)[i]?) H Q E) : wpAny (model X.prog X.w) X.A (call (.ref f) us (ks.zip ws)) (EP X pins σ Q) X.xe s := by
  refine wpAny_call (codeAny_mono (F.run X.A X.stack s H _ _ _ Q E hr hg I.env0 (hb s us ws hn hk) (vals_pick (r.append rz) ord) h) fun r s' hq => ?_)
  match r, hq with
  | .error e, hq => exact hx pins σ H s e s' I hq
  | .ok (.ret u), hq => exact I.after hq
  | .ok .next, hq => exact hq.elim
  | .ok .brk, hq => exact hq.elim
  | .ok .cont, hq => exact hq.elim

/-- an expression that is not starred -/
def plainE : Expr → Bool
  | .Starred .. => false
  | _ => true
theorem star_plain {e : Expr} (h : plainE e = true) (es : List Expr) (env : Env) : starEach (e :: es) env = (false, eval e env) :: starEach es env := by
  cases e <;> first | rfl | cases h
theorem star_any {pos : Pos} {env : Env} : ∀ {es : List Expr}, es.all plainE = true → (backTo pos (starEach es env)).any (·.1) = false
  | [], _ => rfl
  | e :: es, h => by
    rw [List.all_cons, Bool.and_eq_true] at h
    rw [star_plain h.1]
    show (false || (backTo pos (starEach es env)).any (·.1)) = false
    rw [star_any h.2]
    rfl
/-- keywords that are names, with their values -/
def kwNames : List Keyword → List Str
  | [] => []
  | ⟨some x, _, _⟩ :: r => x :: kwNames r
  | ⟨none, _, _⟩ :: r => kwNames r
def kwPlain : List Keyword → Bool
  | [] => true
  | ⟨some _, _, _⟩ :: r => kwPlain r
  | ⟨none, _, _⟩ :: _ => false
theorem kw_all {pos : Pos} {env : Env} : ∀ {kws : List Keyword}, kwPlain kws = true → (backToKw pos (keywordEach kws env)).all (·.1.isSome) = true
  | [], _ => rfl
  | ⟨some x, v, p⟩ :: r, h => by
    show (true && (backToKw pos (keywordEach r env)).all (·.1.isSome)) = true
    rw [kw_all (kws := r) h]
    rfl
theorem kw_none {pos : Pos} {env : Env} : ∀ {kws : List Keyword}, kwPlain kws = true → (backToKw pos (keywordEach kws env)).any (·.1.isNone) = false
  | [], _ => rfl
  | ⟨some x, v, p⟩ :: r, h => by
    show (false || (backToKw pos (keywordEach r env)).any (·.1.isNone)) = false
    rw [kw_none (kws := r) h]
    rfl
theorem kw_names {pos : Pos} {env : Env} : ∀ {kws : List Keyword}, kwPlain kws = true → (backToKw pos (keywordEach kws env)).filterMap (·.1) = kwNames kws
  | [], _ => rfl
  | ⟨some x, v, p⟩ :: r, h => by
    show x :: (backToKw pos (keywordEach r env)).filterMap (·.1) = _
    rw [kw_names (kws := r) h]
    rfl

def tCallG (n kn : Nat) (ord : List Nat) (sp : Sp) (E : XK) (t tk : TA) : TE := fun σ H Q => t σ H fun vs H1 => tk σ H1 fun zs H2 => vs.length = n ∧ zs.length = kn ∧ sp (ord.filterMap fun i => (vs ++ zs)[i]?) H2 Q E
/-- behind the positional values -/
theorem callG_kw {pos : Pos} {kws : List Keyword} {tk : TA} {pins : List (Addr × Obj)} {σ : L2.St} {H : Hp} {s : Shared} {Q : VK} {us : List Value} {vs : List V}
    (F : FnG X.prog X.w X.K X.mg X.base k f fd ps sp) (hr : Room k X.A) (hgd : X.A.guards = some []) (hb : BindsK fd ps (kwNames kws) n ord) (hx : Passes (L2.CX X.prog X.w) X E) (hkw : PK X kws tk) (hkp : kwPlain kws = true)
    (I : Inv X pins σ H s) (r : Vals vs us) (q : tk σ H fun zs H2 => vs.length = n ∧ zs.length = (kwNames kws).length ∧ sp (ord.filterMap fun i => (vs ++ zs)[i]?) H2 Q E) :
    wpAny (model X.prog X.w) X.A (evalAll ((backToKw pos (keywordEach kws X.env)).map (·.2))) (fun ks s₂ => X.K.In s₂.heap ∧
      wpAny (model X.prog X.w) X.A (call (.ref f) us (((backToKw pos (keywordEach kws X.env)).filterMap (·.1)).zip ks)) (EP X pins σ Q) X.xe s₂) X.xe s := by
  refine thn (hkw.run pos pins s σ H _ I q) fun ws s2 ⟨zs, H2, I2, rz, hn, hkn, q2⟩ => ⟨I2.kIn, ?_⟩
  rw [kw_names hkp]
  exact runG F hr hgd hb hx I2 r rz (by rw [← r.length]; exact hn) (by rw [← rz.length]; exact hkn) q2
/-- f(e, .., k = v, ..) -/
theorem pe_callG {x : Str} {p pos : Pos} {e : Expr} {es : List Expr} {kws : List Keyword} {t tk : TA} (F : FnG X.prog X.w X.K X.mg X.base k f fd ps sp) (hr : Room k X.A) (hgd : X.A.guards = some []) (hg : Gl X x) (hm : X.mg x = some (.ref f))
    (hk : PySem.W.keepIn X.K (.ref f) = true) (hb : BindsK fd ps (kwNames kws) n ord) (hx : Passes (L2.CX X.prog X.w) X E) (ha : PA X (e :: es) t) (hkw : PK X kws tk) (hpl : (e :: es).all plainE = true) (hkp : kwPlain kws = true)
    (hdb : (x == ("__debug__" : Str)) = false) : PE X (.Call (.Name x p) (e :: es) kws pos) (tCallG n (kwNames kws).length ord sp E t tk) := by
  refine ⟨fun pins s σ H Q I h => ?_⟩
  refine wpAny_Call_Name_kw (ld_glob I hg hm ?_ hdb)
  have hp2 := hpl
  rw [List.all_cons, Bool.and_eq_true] at hp2
  refine PySem.W.callWith_KW (h₀ := X.base) I.ok.mod.kin hk (kw_all hkp) (thn (ha.run pos pins s σ H _ I h) fun us s1 ⟨vs, H1, I1, r, q⟩ => callG_kw F hr hgd hb hx hkw hkp I1 r q) ?_ (star_plain hp2.1 es X.env)
  rw [star_any hpl, kw_none hkp]
  rfl
/-- f(k = v, ..) -/
theorem pe_callG0 {x : Str} {p pos : Pos} {kws : List Keyword} {tk : TA} (F : FnG X.prog X.w X.K X.mg X.base k f fd ps sp) (hr : Room k X.A) (hgd : X.A.guards = some []) (hg : Gl X x) (hm : X.mg x = some (.ref f))
    (hk : PySem.W.keepIn X.K (.ref f) = true) (hb : BindsK fd ps (kwNames kws) n ord) (hx : Passes (L2.CX X.prog X.w) X E) (hkw : PK X kws tk) (hkp : kwPlain kws = true)
    (hdb : (x == ("__debug__" : Str)) = false) : PE X (.Call (.Name x p) [] kws pos) (tCallG n (kwNames kws).length ord sp E tNil tk) := by
  refine ⟨fun pins s σ H Q I h => ?_⟩
  refine wpAny_Call_Name_kw (ld_glob I hg hm ?_ hdb)
  refine PySem.W.callWith_KW0 (h₀ := X.base) I.ok.mod.kin hk (kw_all hkp) (callG_kw F hr hgd hb hx hkw hkp I .nil h) ?_
  show (false || (backToKw pos (keywordEach kws X.env)).any (·.1.isNone)) = false
  rw [kw_none hkp]
  rfl
end

/-! ### a def's body keeps its promise -/
theorem okG {P : Program} {w : World} {K : PySem.W.Frag} {mg : Str → Option Value} {base : Heap} {x qual : Str} {params : Arguments} {body : List Stmt} {scope : Scope} {dvs : List V} {kws : List (Str × V)} {f : Addr} {fd : FuncData} {N ps : List Str} {k : Nat} {sp : Sp}
    (F : FunD K x qual params body scope dvs kws f fd) (S : FnScope N ps scope) (len : ∀ vs H Q E, sp vs H Q E → vs.length = ps.length)
    (hbody : ∀ (cdv : Value) (A : Around) (outer : List Env) (s : Shared) (H : Hp) (vs : List V) (Q : VK) (E : XK), Room k (A.deeper (envOfC qual scope s.heap.objs.size f cdv)) → A.guards = some [] → sp vs H Q E →
      ∃ t, PSs (cxOf (L2.CX P w) P w K mg base N qual scope f cdv A outer s H E) body t ∧ t { nx := fun _ H' => Q .non H', rt := Q } (start N vs) H) : FnG P w K mg base (k + 1) f fd ps sp := by
  obtain ⟨oc, od, dV, kV, doc, pm, an, cdv, ct, osl, rfl, lk, hcd, _, _⟩ := F.ex
  refine ⟨len, fun A outer s H args us vs Q E hr hgd e0 hb r hsp => ?_⟩
  have hl := len vs H Q E hsp
  have hin : K.In s.heap := e0.mod.kin.keeps fun b o q => (e0.bs b o q).1
  have hno : s.heap.NoLimit := e0.mod.nolimit.keeps fun b o q => (e0.bs b o q).1
  have hk : ∀ y ∈ ps.zip us, scope.names.lookup y.1 = some .local ∨ (scope.names.lookup y.1 = some .cell ∧ ((cellsFrom (s.heap.objs.size + 1) scope.names []).lookup y.1).isSome = true) := by
    intro y hy
    obtain ⟨n, v⟩ := y
    exact (S.par n (List.of_mem_zip hy).1).imp id fun q => ⟨q, PySem.W.cellsFrom_some _ _ _ (.inl q)⟩
  refine codeAny_call_function hr.depth (hin _ _ lk) rfl S.co S.gen rfl (PySem.W.codeRec_of hin hcd) (hb _ _ _ _ (wpAny_newFunctionEnv_cells S.kind hk ?_))
  intro env he s1 x
  subst he
  obtain ⟨t, ht, hq⟩ := hbody cdv A outer s H vs Q E (hr.deeper _) hgd hsp
  have I0 := inv_start (CX := L2.CX P w) (E := E) (cd := cdv) (f := f) (qual := qual) S hr.hd e0 hl r x
  refine ⟨hno.keeps x.toInCall.keep, codeAny_func (wpAny_mono (ht.run [] s1 _ H _ I0 hq) (fun fl s' hs => ?_) fun e s' z => z)⟩
  match fl, hs with
  | .ret u, hs =>
    obtain ⟨v, σ', H', J, rv, q⟩ := hs
    exact ⟨v, H', J.os, J.bare, J.base, J.hok, rv, q⟩
  | .next, hs =>
    obtain ⟨σ', H', J, q⟩ := hs
    exact ⟨V.non, H', J.os, J.bare, J.base, J.hok, rfl, q⟩
  | .brk, ⟨_, _, _, q⟩ => exact q.elim
  | .cont, ⟨_, _, _, q⟩ => exact q.elim
end DL
/-! DLc: how data and the store lie in the abstract heap. -/
namespace DL
open PySem PySem.Spec PyProof.Rows L2

mutual
/-- a value is such data, by what is frozen -/
inductive RepD (K : PySem.W.Frag) (F : Hp) : D → V → Prop
  | non : RepD K F .non .non
  | bl (b : Bool) : RepD K F (.bl b) (.bl b)
  | int (i : Int) : RepD K F (.int i) (.int i)
  | str (x : Str) : RepD K F (.str x) (.str x)
  | tup {a : Addr} {vs : List V} {xs : List D} : SqT K F a vs → RepDs K F xs vs → RepD K F (.tup xs) (.ref a)
  | lst {a : Addr} {vs : List V} {xs : List D} : F a = some (.lst vs) → RepDs K F xs vs → RepD K F (.lst xs) (.ref a)
  | rol {a : Addr} {vs : List V} {xs : List D} : SqL K F a vs → RepDs K F xs vs → RepD K F (.rol xs) (.ref a)
inductive RepDs (K : PySem.W.Frag) (F : Hp) : List D → List V → Prop
  | nil : RepDs K F [] []
  | cons {x : D} {xs : List D} {v : V} {vs : List V} : RepD K F x v → RepDs K F xs vs → RepDs K F (x :: xs) (v :: vs)
end
/-- what a name stands for -/
inductive RepW (K : PySem.W.Frag) (F : Hp) (m : List Addr) : W → V → Prop
  | d {x : D} {v : V} : RepD K F x v → RepW K F m (.d x) v
  | l {n : Nat} {a : Addr} : m[n]? = some a → RepW K F m (.l n) (.ref a)
abbrev RepWs (K : PySem.W.Frag) (F : Hp) (m : List Addr) : List W → List V → Prop := Paired (RepW K F m)
/-- one grows to the other -/
structure Le (F : Hp) (m : List Addr) (F' : Hp) (m' : List Addr) : Prop where
  f : ∀ a o, F a = some o → F' a = some o
  m : ∃ r, m' = m ++ r
theorem Le.refl {F : Hp} {m : List Addr} : Le F m F m := ⟨fun _ _ h => h, [], by simp⟩
theorem Le.trans {F F1 F2 : Hp} {m m1 m2 : List Addr} (a : Le F m F1 m1) (b : Le F1 m1 F2 m2) : Le F m F2 m2 := by
  refine ⟨fun x o h => b.f x o (a.f x o h), ?_⟩
  obtain ⟨r, e⟩ := a.m
  obtain ⟨r2, e2⟩ := b.m
  exact ⟨r ++ r2, by rw [e2, e, List.append_assoc]⟩
theorem Le.get {F F' : Hp} {m m' : List Addr} (h : Le F m F' m') {n : Nat} {a : Addr} (e : m[n]? = some a) : m'[n]? = some a := by
  obtain ⟨r, rfl⟩ := h.m
  rw [List.getElem?_append_left (List.getElem?_eq_some_iff.mp e).1]
  exact e
theorem rd_le {F F' : Hp} {a : Addr} {u : HO} (h : ∀ a o, F a = some o → F' a = some o) (r : Rd F a u) : Rd F' a u := by
  rcases r with r | ⟨o, r⟩
  · exact .inl (h _ _ r)
  · exact .inr ⟨o, h _ _ r⟩
theorem sqT_le {K : PySem.W.Frag} {F F' : Hp} {a : Addr} {vs : List V} (h : ∀ a o, F a = some o → F' a = some o) (r : SqT K F a vs) : SqT K F' a vs := r.imp (rd_le h) id
theorem sqL_le {K : PySem.W.Frag} {F F' : Hp} {a : Addr} {vs : List V} (h : ∀ a o, F a = some o → F' a = some o) (r : SqL K F a vs) : SqL K F' a vs := r.imp (rd_le h) id
mutual
theorem RepD.le {K : PySem.W.Frag} {F F' : Hp} (h : ∀ a o, F a = some o → F' a = some o) : ∀ {x : D} {v : V}, RepD K F x v → RepD K F' x v
  | _, _, .non => .non
  | _, _, .bl b => .bl b
  | _, _, .int i => .int i
  | _, _, .str x => .str x
  | _, _, .tup s r => .tup (sqT_le h s) (RepDs.le h r)
  | _, _, .lst s r => .lst (h _ _ s) (RepDs.le h r)
  | _, _, .rol s r => .rol (sqL_le h s) (RepDs.le h r)
theorem RepDs.le {K : PySem.W.Frag} {F F' : Hp} (h : ∀ a o, F a = some o → F' a = some o) : ∀ {x : List D} {v : List V}, RepDs K F x v → RepDs K F' x v
  | _, _, .nil => .nil
  | _, _, .cons a b => .cons (RepD.le h a) (RepDs.le h b)
end
theorem RepW.le {K : PySem.W.Frag} {F F' : Hp} {m m' : List Addr} (h : Le F m F' m') {w : W} {v : V} (r : RepW K F m w v) : RepW K F' m' w v := by
  cases r with
  | d r => exact .d (r.le h.f)
  | l e => exact .l (h.get e)
theorem RepWs.le {K : PySem.W.Frag} {F F' : Hp} {m m' : List Addr} (h : Le F m F' m') {w : List W} {v : List V} (r : RepWs K F m w v) : RepWs K F' m' w v := Paired.mapP r fun _ _ q => q.le h
theorem RepDs.length {K : PySem.W.Frag} {F : Hp} : ∀ {xs : List D} {vs : List V}, RepDs K F xs vs → xs.length = vs.length
  | _, _, .nil => rfl
  | _, _, .cons _ r => by rw [List.length_cons, List.length_cons, RepDs.length r]
theorem RepDs.ws {K : PySem.W.Frag} {F : Hp} {m : List Addr} : ∀ {xs : List D} {vs : List V}, RepDs K F xs vs → RepWs K F m (xs.map .d) vs
  | _, _, .nil => .nil
  | _, _, .cons a r => .cons (.d a) (RepDs.ws r)
theorem RepWs.ds {K : PySem.W.Frag} {F : Hp} {m : List Addr} : ∀ {ws : List W} {vs : List V} {xs : List D}, RepWs K F m ws vs → pures ws = some xs → RepDs K F xs vs
  | _, _, _, .nil, e => by
    cases e
    exact .nil
  | .d x :: ws, v :: vs, _, .cons (.d a) r, e => by
    unfold pures at e
    cases q : pures ws with
    | none => rw [q] at e; cases e
    | some ys =>
      rw [q] at e
      cases e
      exact .cons a (RepWs.ds r q)
  | .l n :: ws, v :: vs, _, .cons _ r, e => by cases e
theorem RepWs.get {K : PySem.W.Frag} {F : Hp} {m : List Addr} : ∀ {ws : List W} {vs : List V} {i : Nat} {w : W}, RepWs K F m ws vs → ws[i]? = some w → ∃ v, vs[i]? = some v ∧ RepW K F m w v
  | _, _, _, _, .nil, e => by simp at e
  | _, _, 0, _, .cons r _, e => by simp at e; subst e; exact ⟨_, rfl, r⟩
  | _, _, i + 1, w, .cons _ t, e => by
    obtain ⟨u, h1, h2⟩ := RepWs.get (i := i) (w := w) t (by simpa using e)
    exact ⟨u, by simpa using h1, h2⟩
theorem pures_map : ∀ xs : List D, pures (xs.map .d) = some xs
  | [] => rfl
  | x :: xs => by
    show (pures (xs.map .d)).map (x :: ·) = _
    rw [pures_map xs]
    rfl
theorem pures_length : ∀ {ws : List W} {xs : List D}, pures ws = some xs → ws = xs.map .d
  | [], xs, e => by cases e; rfl
  | .d x :: ws, xs, e => by
    unfold pures at e
    cases q : pures ws with
    | none => rw [q] at e; cases e
    | some ys =>
      rw [q] at e
      cases e
      rw [pures_length q]
      rfl
  | .l n :: ws, xs, e => by cases e

theorem nodup_get {α : Type} {a : α} : ∀ {m : List α} {i j : Nat}, m.Nodup → m[i]? = some a → m[j]? = some a → i = j
  | [], _, _, _, h, _ => by simp at h
  | _ :: _, 0, 0, _, _, _ => rfl
  | x :: m, 0, j + 1, nd, h1, h2 => by
    simp at h1 h2
    subst h1
    exact absurd (List.mem_of_getElem? h2) (List.nodup_cons.mp nd).1
  | x :: m, i + 1, 0, nd, h1, h2 => by
    simp at h1 h2
    subst h2
    exact absurd (List.mem_of_getElem? h1) (List.nodup_cons.mp nd).1
  | x :: m, i + 1, j + 1, nd, h1, h2 => by
    simp at h1 h2
    rw [nodup_get (List.nodup_cons.mp nd).2 h1 h2]

/-- the store in the heap: F what is frozen, G what is kept, m where the places lie -/
def ObjR (K : PySem.W.Frag) (F G : Hp) (m : List Addr) (H : Hp) (a : Addr) : Ob → Prop
  | .lst xs => ∃ vs, H a = some (.lst vs) ∧ F a = none ∧ G a = none ∧ RepWs K F m xs vs
  | .dead => True
structure Sim (K : PySem.W.Frag) (F G H : Hp) (m : List Addr) (S : Store) : Prop where
  fr : ∀ a o, F a = some o → H a = some o
  gr : ∀ a o, G a = some o → H a = some o
  dis : ∀ a o, G a = some o → F a = none
  mh : ∀ a ∈ m, ∃ o, H a = some o
  mg : ∀ a ∈ m, G a = none
  nd : m.Nodup
  len : m.length = S.length
  ob : ∀ (n : Nat) (o : Ob) (a : Addr), S[n]? = some o → m[n]? = some a → ObjR K F G m H a o
section
variable {K : PySem.W.Frag} {F G H : Hp} {m : List Addr} {S : Store}
theorem Sim.free (s : Sim K F G H m S) {p : Addr} (h : H p = none) : F p = none ∧ G p = none ∧ p ∉ m := by
  refine ⟨?_, ?_, fun hm => ?_⟩
  · cases e : F p with
    | none => rfl
    | some o => rw [s.fr _ _ e] at h; cases h
  · cases e : G p with
    | none => rfl
    | some o => rw [s.gr _ _ e] at h; cases h
  · obtain ⟨o, e⟩ := s.mh p hm
    rw [e] at h; cases h
theorem up_le {H : Hp} {p : Addr} {o : HO} (h : H p = none) : ∀ a u, H a = some u → upd H p o a = some u := fun a u e => by
  rw [upd_ne (ne_of_none e h)]; exact e
theorem ObjR.le {F' H' : Hp} {m' : List Addr} (l : Le F m F' m') {a : Addr} {o : Ob} (h : ObjR K F G m H a o) (hh : ∀ vs, H a = some (.lst vs) → F a = none → G a = none → H' a = some (.lst vs) ∧ F' a = none) : ObjR K F' G m' H' a o := by
  cases o with
  | lst xs =>
    obtain ⟨vs, h1, h2, h3, r⟩ := h
    exact ⟨vs, (hh vs h1 h2 h3).1, (hh vs h1 h2 h3).2, h3, RepWs.le l r⟩
  | dead => trivial
/-- a new thing, frozen at once -/
theorem Sim.froze (s : Sim K F G H m S) {p : Addr} (o : HO) (h : H p = none) : Sim K (upd F p o) G (upd H p o) m S ∧ Le F m (upd F p o) m := by
  obtain ⟨f, g, hm⟩ := s.free h
  have l : Le F m (upd F p o) m := ⟨up_le f, [], by simp⟩
  refine ⟨⟨fun a u e => ?_, fun a u e => up_le h _ _ (s.gr a u e), fun a u e => ?_, fun a ha => ?_, s.mg, s.nd, s.len, fun n u a e1 e2 => ?_⟩, l⟩
  · by_cases q : a = p
    · subst q; rw [upd_same] at e ⊢; exact e
    · rw [upd_ne q] at e ⊢; exact s.fr a u e
  · have q : a ≠ p := by rintro rfl; rw [g] at e; cases e
    rw [upd_ne q]; exact s.dis a u e
  · obtain ⟨u, e⟩ := s.mh a ha
    exact ⟨u, up_le h _ _ e⟩
  · refine (s.ob n u a e1 e2).le l fun vs e _ _ => ?_
    have q : a ≠ p := by rintro rfl; rw [h] at e; cases e
    rw [upd_ne q, upd_ne q]
    exact ⟨e, by assumption⟩
/-- a new list of the store -/
theorem Sim.grow (s : Sim K F G H m S) {p : Addr} {xs : List W} {vs : List V} (h : H p = none) (r : RepWs K F m xs vs) : Sim K F G (upd H p (.lst vs)) (m ++ [p]) (S ++ [.lst xs]) ∧ Le F m F (m ++ [p]) := by
  obtain ⟨f, g, hm⟩ := s.free h
  have l : Le F m F (m ++ [p]) := ⟨fun _ _ e => e, [p], rfl⟩
  refine ⟨⟨fun a u e => up_le h _ _ (s.fr a u e), fun a u e => up_le h _ _ (s.gr a u e), s.dis, fun a ha => ?_, fun a ha => ?_, ?_, by rw [List.length_append, List.length_append, s.len]; rfl, fun n u a e1 e2 => ?_⟩, l⟩
  · rcases List.mem_append.mp ha with ha | ha
    · obtain ⟨u, e⟩ := s.mh a ha
      exact ⟨u, up_le h _ _ e⟩
    · have : a = p := by simpa using ha
      subst this
      exact ⟨_, upd_same⟩
  · rcases List.mem_append.mp ha with ha | ha
    · exact s.mg a ha
    · rw [List.mem_singleton.mp ha]; exact g
  · refine List.nodup_append.mpr ⟨s.nd, by simp, fun a ha b hb => ?_⟩
    have : b = p := by simpa using hb
    subst this
    rintro rfl
    exact hm ha
  · by_cases q : n < S.length
    · rw [List.getElem?_append_left q] at e1
      rw [List.getElem?_append_left (by rw [s.len]; exact q)] at e2
      exact (s.ob n u a e1 e2).le l fun vs e z _ => ⟨up_le h _ _ e, z⟩
    · have q2 : n = S.length := by
        have := (List.getElem?_eq_some_iff.mp e1).1
        rw [List.length_append] at this
        simp at this
        omega
      subst q2
      rw [List.getElem?_append_right (Nat.le_refl _)] at e1
      rw [← s.len, List.getElem?_append_right (Nat.le_refl _)] at e2
      simp at e1 e2
      subst e1 e2
      exact ⟨vs, upd_same, f, g, RepWs.le l r⟩
/-- a list of the store changed -/
theorem Sim.put (s : Sim K F G H m S) {n : Nat} {a : Addr} {xs ys : List W} {vs : List V} (e : S[n]? = some (.lst xs)) (ea : m[n]? = some a) (r : RepWs K F m ys vs) : Sim K F G (upd H a (.lst vs)) m (S.set n (.lst ys)) := by
  obtain ⟨us, h1, h2, h3, _⟩ := s.ob n _ a e ea
  refine ⟨fun b u q => ?_, fun b u q => ?_, s.dis, fun b hb => ?_, s.mg, s.nd, by rw [List.length_set]; exact s.len, fun k u b e1 e2 => ?_⟩
  · rw [upd_ne (by rintro rfl; rw [h2] at q; cases q)]; exact s.fr b u q
  · rw [upd_ne (by rintro rfl; rw [h3] at q; cases q)]; exact s.gr b u q
  · by_cases q : b = a
    · subst q; exact ⟨_, upd_same⟩
    · rw [upd_ne q]; exact s.mh b hb
  · by_cases q : k = n
    · subst q
      rw [ea] at e2; cases e2
      rw [List.getElem?_set_self (List.getElem?_eq_some_iff.mp e).1] at e1
      cases e1
      exact ⟨vs, upd_same, h2, h3, r⟩
    · rw [List.getElem?_set_ne (by omega)] at e1
      have ne : b ≠ a := by
        rintro rfl
        exact q (nodup_get s.nd e2 ea)
      exact (s.ob k u b e1 e2).le .refl fun vs e z _ => ⟨by rw [upd_ne ne]; exact e, z⟩
theorem Sim.at_ (s : Sim K F G H m S) {n : Nat} {xs : List W} (e : S[n]? = some (.lst xs)) : ∃ a vs, m[n]? = some a ∧ H a = some (.lst vs) ∧ RepWs K F m xs vs := by
  have h : n < m.length := by rw [s.len]; exact (List.getElem?_eq_some_iff.mp e).1
  obtain ⟨vs, h1, _, _, r⟩ := s.ob n _ _ e (List.getElem?_eq_getElem h)
  exact ⟨_, vs, List.getElem?_eq_getElem h, h1, r⟩
theorem Sim.unG {D : Addr} {o : HO} (s : Sim K F (upd G D o) H m S) (hD : G D = none) : Sim K F G H m S := by
  have le := up_le (p := D) (o := o) hD
  have no : ∀ {a : Addr}, upd G D o a = none → G a = none := fun {a} h => by
    cases e : G a with
    | none => rfl
    | some u => rw [le _ _ e] at h; cases h
  refine ⟨s.fr, fun a u e => s.gr a u (le a u e), fun a u e => s.dis a u (le a u e), s.mh, fun a ha => no (s.mg a ha), s.nd, s.len, fun n u a e1 e2 => ?_⟩
  have q := s.ob n u a e1 e2
  cases u with
  | lst xs => obtain ⟨vs, h1, h2, h3, r⟩ := q; exact ⟨vs, h1, h2, no h3, r⟩
  | dead => trivial
/-- what was kept is frozen -/
theorem Sim.gF {D : Addr} {o : HO} (s : Sim K F (upd G D o) H m S) (hD : G D = none) : Sim K (upd F D o) G H m S ∧ Le F m (upd F D o) m := by
  have t := s.unG hD
  have fD : F D = none := s.dis D o upd_same
  have l : Le F m (upd F D o) m := ⟨up_le fD, [], by simp⟩
  have nD : ∀ a ∈ m, a ≠ D := fun a ha e => by subst e; have := s.mg a ha; rw [upd_same] at this; cases this
  refine ⟨⟨fun a u e => ?_, t.gr, fun a u e => ?_, t.mh, t.mg, t.nd, t.len, fun n u a e1 e2 => ?_⟩, l⟩
  · by_cases q : a = D
    · subst q; rw [upd_same] at e; cases e; exact s.gr _ _ upd_same
    · rw [upd_ne q] at e; exact s.fr a u e
  · rw [upd_ne (by rintro rfl; rw [hD] at e; cases e)]; exact t.dis a u e
  · have ne := nD a (List.mem_of_getElem? e2)
    exact (t.ob n u a e1 e2).le l fun vs e z _ => ⟨e, by rw [upd_ne ne]; exact z⟩
/-- what was kept comes to the store -/
theorem Sim.gM {D : Addr} {vs : List V} {xs : List W} (s : Sim K F (upd G D (.lst vs)) H m S) (hD : G D = none) (r : RepWs K F m xs vs) : Sim K F G H (m ++ [D]) (S ++ [.lst xs]) ∧ Le F m F (m ++ [D]) := by
  have t := s.unG hD
  have fD : F D = none := s.dis D _ upd_same
  have hH : H D = some (.lst vs) := s.gr _ _ upd_same
  have l : Le F m F (m ++ [D]) := ⟨fun _ _ e => e, [D], rfl⟩
  have nD : ∀ a ∈ m, a ≠ D := fun a ha e => by subst e; have := s.mg a ha; rw [upd_same] at this; cases this
  refine ⟨⟨t.fr, t.gr, t.dis, fun a ha => ?_, fun a ha => ?_, ?_, by rw [List.length_append, List.length_append, t.len]; rfl, fun n u a e1 e2 => ?_⟩, l⟩
  · rcases List.mem_append.mp ha with ha | ha
    · exact t.mh a ha
    · rw [List.mem_singleton.mp ha]; exact ⟨_, hH⟩
  · rcases List.mem_append.mp ha with ha | ha
    · exact t.mg a ha
    · rw [List.mem_singleton.mp ha]; exact hD
  · refine List.nodup_append.mpr ⟨t.nd, by simp, fun a ha b hb => ?_⟩
    rw [List.mem_singleton.mp hb]
    exact nD a ha
  · by_cases q : n < S.length
    · rw [List.getElem?_append_left q] at e1
      rw [List.getElem?_append_left (by rw [t.len]; exact q)] at e2
      exact (t.ob n u a e1 e2).le l fun vs e z _ => ⟨e, z⟩
    · have q2 : n = S.length := by
        have := (List.getElem?_eq_some_iff.mp e1).1
        rw [List.length_append] at this
        simp at this
        omega
      subst q2
      rw [List.getElem?_append_right (Nat.le_refl _)] at e1
      rw [← t.len, List.getElem?_append_right (Nat.le_refl _)] at e2
      simp at e1 e2
      subst e1 e2
      exact ⟨vs, hH, fD, hD, RepWs.le l r⟩
end
end DL
/-! DLd: ends, readings, operators by values. -/
namespace DL
open PySem PySem.Spec PyProof.Rows L2

/-- what is wanted of an outcome -/
def Post (K : PySem.W.Frag) (mg : Str → Option Value) (G : Hp) (E : XK) {α : Type} (F : Hp) (m : List Addr) (o : Out α) (k : α → Store → Hp → List Addr → Hp → Prop) : Prop := match o with
  | .ok a S => ∀ F' m' H', Le F m F' m' → Sim K F' G H' m' S → k a S F' m' H'
  | .err c x S => ∀ F' m' H' C d v, Le F m F' m' → Sim K F' G H' m' S → mg c = some (.ref C) → H' d = some (.xd [("value", v)]) → RepD K F' x v → E (.ref C) (some d) H'
  | .bad => False
section
variable {K : PySem.W.Frag} {mg : Str → Option Value} {G F H : Hp} {E : XK} {m : List Addr} {S : Store} {α β : Type}
theorem Post.mono {o : Out α} {k k' : α → Store → Hp → List Addr → Hp → Prop} (h : Post K mg G E F m o k) (hk : ∀ a S F' m' H', Le F m F' m' → Sim K F' G H' m' S → k a S F' m' H' → k' a S F' m' H') : Post K mg G E F m o k' := by
  cases o with
  | ok a S => exact fun F' m' H' l s => hk a S F' m' H' l s (h F' m' H' l s)
  | err c x S => exact h
  | bad => exact h
theorem Post.le {F1 : Hp} {m1 : List Addr} {o : Out α} {k : α → Store → Hp → List Addr → Hp → Prop} (h : Post K mg G E F m o k) (l : Le F m F1 m1) : Post K mg G E F1 m1 o k := by
  cases o with
  | ok a S => exact fun F' m' H' l2 s => h F' m' H' (l.trans l2) s
  | err c x S => exact fun F' m' H' C d v l2 => h F' m' H' C d v (l.trans l2)
  | bad => exact h
theorem Post.bind {o : Out α} {f : α → Store → Out β} {k : β → Store → Hp → List Addr → Hp → Prop} (h : Post K mg G E F m (o.bind f) k) : Post K mg G E F m o fun a S F' m' H' => Post K mg G E F' m' (f a S) k := by
  cases o with
  | ok a S => exact fun F' m' H' l s => Post.le h l
  | err c x S => exact h
  | bad => exact h
/-- at once -/
theorem Post.now {a : α} {k : α → Store → Hp → List Addr → Hp → Prop} (h : Post K mg G E F m (.ok a S) k) (s : Sim K F G H m S) : k a S F m H := h F m H .refl s
theorem Post.of {o : Option α} {k : α → Store → Hp → List Addr → Hp → Prop} (h : Post K mg G E F m (Out.of o S) k) : ∃ a, o = some a ∧ Post K mg G E F m (.ok a S) k := by
  cases o with
  | none => exact h.elim
  | some a => exact ⟨a, rfl, h⟩
/-- .. a value -/
abbrev kW (K : PySem.W.Frag) (Q : VK) : W → Store → Hp → List Addr → Hp → Prop := fun w _ F' m' H' => ∀ v, RepW K F' m' w v → Q v H'
abbrev kB (Q : Bool → Hp → Prop) : Bool → Store → Hp → List Addr → Hp → Prop := fun b _ _ _ H' => Q b H'
abbrev kWs (K : PySem.W.Frag) (Q : List V → Hp → Prop) : List W → Store → Hp → List Addr → Hp → Prop := fun ws _ F' m' H' => ∀ vs, RepWs K F' m' ws vs → Q vs H'
/-- a new frozen thing as the end -/
theorem Post.frozen {x : D} {o : HO} {Q : VK} (h : Post K mg G E F m (.ok (.d x) S) (kW K Q)) (s : Sim K F G H m S) (r : ∀ p F', (∀ a u, F a = some u → F' a = some u) → F' p = some o → RepD K F' x (.ref p)) : ∀ p, H p = none → Q (.ref p) (upd H p o) := fun p hp => by
  obtain ⟨s1, l1⟩ := s.froze o hp
  exact h _ _ _ l1 s1 _ (.d (r p _ l1.f upd_same))
/-- a new list of the store as the end -/
theorem Post.newL {xs : List W} {vs : List V} {Q : VK} (h : Post K mg G E F m (.ok (.l S.length) (S ++ [.lst xs])) (kW K Q)) (s : Sim K F G H m S) (r : RepWs K F m xs vs) : ∀ p, H p = none → Q (.ref p) (upd H p (.lst vs)) := fun p hp => by
  obtain ⟨s1, l1⟩ := s.grow hp r
  exact h _ _ _ l1 s1 _ (.l (by rw [← s.len, List.getElem?_append_right (Nat.le_refl _)]; simp))
end

/-- two values reckoned with -/
def rW2 (K : PySem.W.Frag) (mg : Str → Option Value) (E : XK) (f : W → W → Store → Out W) : R2 := fun x y H Q => ∃ F G m S wx wy, Sim K F G H m S ∧ RepW K F m wx x ∧ RepW K F m wy y ∧ Post K mg G E F m (f wx wy S) (kW K Q)

theorem intOf {K : PySem.W.Frag} {F : Hp} {i : Int} {v : V} (r : RepD K F (.int i) v) : v = .int i := by cases r; rfl
theorem strOf {K : PySem.W.Frag} {F : Hp} {i : Str} {v : V} (r : RepD K F (.str i) v) : v = .str i := by cases r; rfl
theorem blOf {K : PySem.W.Frag} {F : Hp} {i : Bool} {v : V} (r : RepD K F (.bl i) v) : v = .bl i := by cases r; rfl
theorem tupOf {K : PySem.W.Frag} {F : Hp} {xs : List D} {v : V} (r : RepD K F (.tup xs) v) : ∃ a vs, v = .ref a ∧ SqT K F a vs ∧ RepDs K F xs vs := by cases r with | tup s q => exact ⟨_, _, rfl, s, q⟩
theorem lstOf {K : PySem.W.Frag} {F : Hp} {xs : List D} {v : V} (r : RepD K F (.lst xs) v) : ∃ a vs, v = .ref a ∧ F a = some (.lst vs) ∧ RepDs K F xs vs := by cases r with | lst s q => exact ⟨_, _, rfl, s, q⟩
theorem rolOf {K : PySem.W.Frag} {F : Hp} {xs : List D} {v : V} (r : RepD K F (.rol xs) v) : ∃ a vs, v = .ref a ∧ SqL K F a vs ∧ RepDs K F xs vs := by cases r with | rol s q => exact ⟨_, _, rfl, s, q⟩
theorem RepDs.append {K : PySem.W.Frag} {F : Hp} : ∀ {xs ys : List D} {us vs : List V}, RepDs K F xs us → RepDs K F ys vs → RepDs K F (xs ++ ys) (us ++ vs)
  | _, _, _, _, .nil, b => b
  | _, _, _, _, .cons a r, b => .cons a (RepDs.append r b)

section
variable {X : Cx} {mg : Str → Option Value} {E : XK}
theorem opr_bin (op : Operator) : OpR X (binaryOp op) (rW2 X.K mg E (evOp op)) := by
  rintro pins s σ H x y v u Q I rx ry ⟨F, G, m, S, wx, wy, hs, hx, hy, hp⟩
  cases hx with
  | l e => exact hp.elim
  | @d dx _ hx =>
  cases hy with
  | l e => exact hp.elim
  | @d dy _ hy =>
  obtain ⟨z, ez, hp⟩ := Post.of hp
  cases e : opD op dx dy with
  | none => rw [e] at ez; cases ez
  | some d =>
    rw [e] at ez
    cases ez
    unfold opD at e
    split at e
    · cases intOf hx; cases intOf hy; cases e
      exact op_add pins s σ H _ _ v u Q I rx ry ⟨_, _, rfl, rfl, hp.now hs _ (.d (.int _))⟩
    · cases intOf hx; cases intOf hy; cases e
      exact op_sub pins s σ H _ _ v u Q I rx ry ⟨_, _, rfl, rfl, hp.now hs _ (.d (.int _))⟩
    · cases intOf hx; cases intOf hy
      split at e
      · rename_i hm
        cases e
        have hm := of_decide_eq_true hm
        exact op_mulX pins s σ H _ _ v u Q I rx ry ⟨_, _, rfl, rfl, by unfold CMulX; omega, hp.now hs _ (.d (.int _))⟩
      · cases e
    · cases intOf hx; cases intOf hy
      split at e
      · rename_i hm
        cases e
        exact op_mod pins s σ H _ _ v u Q I rx ry ⟨_, _, rfl, rfl, hm, hp.now hs _ (.d (.int _))⟩
      · cases e
    · cases intOf hx; cases intOf hy
      split at e
      · rename_i hm
        cases e
        have hm := of_decide_eq_true hm
        exact op_fdivW pins s σ H _ _ v u Q I rx ry ⟨_, _, rfl, rfl, hm, hp.now hs _ (.d (.int _))⟩
      · cases e
    · cases intOf hx; cases intOf hy
      split at e
      · rename_i hm
        cases e
        have hm := of_decide_eq_true hm
        obtain ⟨t, rfl⟩ := rx
        obtain ⟨t', rfl⟩ := ry
        exact pow_int hm.1 (Int.le_trans hm.2 (by decide)) ⟨.int _, H, I.tok _, ⟨_, rfl⟩, hp.now hs _ (.d (.int _))⟩
      · cases e
    · cases strOf hx; cases strOf hy
      split at e
      · rename_i hm
        cases e
        exact op_add_str pins s σ H _ _ v u Q I rx ry ⟨_, _, rfl, rfl, Nat.le_trans hm (by decide), hp.now hs _ (.d (.str _))⟩
      · cases e
    · obtain ⟨a, us, rfl, sa, ra⟩ := tupOf hx
      obtain ⟨b, vs, rfl, sb, rb⟩ := tupOf hy
      split at e
      · rename_i hm
        cases e
        rw [ra.length, rb.length] at hm
        refine op_catA pins s σ H _ _ v u Q I rx ry ⟨a, b, us, vs, rfl, rfl, sqT_le hs.fr sa, sqT_le hs.fr sb, Nat.le_trans hm (by decide), fun e => ?_, fun _ e => ?_, fun _ _ => Post.frozen hp hs fun p F' l h => .tup (.inl (.inl h)) ((ra.append rb).le l)⟩
        · subst e
          cases ra
          exact hp.now hs _ (.d (.tup sb rb))
        · subst e
          cases rb
          refine hp.now hs _ (.d (.tup sa ?_))
          rw [List.append_nil]
          exact ra
      · cases e
    · obtain ⟨a, us, rfl, sa, ra⟩ := lstOf hx
      obtain ⟨b, vs, rfl, sb, rb⟩ := lstOf hy
      split at e
      · rename_i hm
        cases e
        rw [ra.length, rb.length] at hm
        exact op_cat pins s σ H _ _ v u Q I rx ry ⟨a, b, us, vs, rfl, rfl, hs.fr _ _ sa, hs.fr _ _ sb, Nat.le_trans hm (by decide), Post.frozen hp hs fun p F' l h => .lst h ((ra.append rb).le l)⟩
      · cases e
    · cases e

/-! ### comparisons -/
mutual
theorem RepD.dp {K : PySem.W.Frag} {F H : Hp} (h : ∀ a o, F a = some o → H a = some o) : ∀ {x : D} {v : V}, RepD K F x v → Dp K H v x.py
  | _, _, .non => .non
  | _, _, .bl b => .bl b
  | _, _, .int i => .int i
  | _, _, .str x => .str x
  | _, _, .tup s r => .tup (sqT_le h s) (RepDs.dp h r)
  | _, _, .lst s r => .lst (.inl (.inl (h _ _ s))) (RepDs.dp h r)
  | _, _, .rol s r => .lst (sqL_le h s) (RepDs.dp h r)
theorem RepDs.dp {K : PySem.W.Frag} {F H : Hp} (h : ∀ a o, F a = some o → H a = some o) : ∀ {x : List D} {v : List V}, RepDs K F x v → DpAll K H v (D.pys x)
  | _, _, .nil => .nil
  | _, _, .cons a b => .cons (RepD.dp h a) (RepDs.dp h b)
end
mutual
theorem deq_py : ∀ x y : D, deq x y = PyData.eqv x.py y.py
  | .non, y => by cases y <;> rfl
  | .bl a, y => by
    cases y with
    | int j => show decide _ = ((if a = true then 1 else 0 : Int) == j); exact (Bool.beq_eq_decide_eq _ _).symm
    | _ => rfl
  | .int i, y => by
    cases y with
    | int j => exact (Bool.beq_eq_decide_eq i j).symm
    | bl b => show decide _ = (i == (if b = true then 1 else 0 : Int)); exact (Bool.beq_eq_decide_eq _ _).symm
    | _ => rfl
  | .str x, y => by
    cases y with
    | str z => exact (Bool.beq_eq_decide_eq x z).symm
    | _ => rfl
  | .tup xs, y => by
    cases y with
    | tup ys => exact deqs_py xs ys
    | _ => rfl
  | .lst xs, y => by
    cases y with
    | lst ys => exact deqs_py xs ys
    | rol ys => exact deqs_py xs ys
    | _ => rfl
  | .rol xs, y => by
    cases y with
    | lst ys => exact deqs_py xs ys
    | rol ys => exact deqs_py xs ys
    | _ => rfl
theorem deqs_py : ∀ x y : List D, deqs x y = PyData.eqvAll (D.pys x) (D.pys y)
  | [], [] => rfl
  | [], _ :: _ => rfl
  | _ :: _, [] => rfl
  | x :: xs, y :: ys => by
    show (deq x y && deqs xs ys) = (PyData.eqv x.py y.py && PyData.eqvAll (D.pys xs) (D.pys ys))
    rw [deq_py x y, deqs_py xs ys]
end
mutual
theorem sh_can : ∀ (n : Nat) (x : D), sh n x = true → x.py.canLay0 = true ∧ x.py.depth ≤ n + 1
  | n, .non, _ => ⟨rfl, by simp [D.py, PyData.depth]⟩
  | n, .bl b, _ => ⟨rfl, by simp [D.py, PyData.depth]⟩
  | n, .int i, _ => ⟨rfl, by simp [D.py, PyData.depth]⟩
  | n, .str x, h => ⟨by
      have h' : strF x = true := by cases n <;> exact h
      exact h', by simp [D.py, PyData.depth]⟩
  | 0, .tup xs, h => by cases h
  | 0, .lst xs, h => by cases h
  | 0, .rol xs, h => by cases h
  | n + 1, .tup xs, h => by
    obtain ⟨a, b⟩ := shs_can n xs h
    refine ⟨a, ?_⟩
    simp only [D.py, PyData.depth]
    omega
  | n + 1, .lst xs, h => by
    obtain ⟨a, b⟩ := shs_can n xs h
    refine ⟨a, ?_⟩
    simp only [D.py, PyData.depth]
    omega
  | n + 1, .rol xs, h => by
    obtain ⟨a, b⟩ := shs_can n xs h
    refine ⟨a, ?_⟩
    simp only [D.py, PyData.depth]
    omega
theorem shs_can : ∀ (n : Nat) (x : List D), shs n x = true → PyData.canLayAll0 (D.pys x) = true ∧ PyData.depthAll (D.pys x) ≤ n + 1
  | n, [], _ => ⟨rfl, by simp [D.pys, PyData.depthAll]⟩
  | n, x :: xs, h => by
    have h' : (sh n x && shs n xs) = true := by cases n <;> exact h
    rw [Bool.and_eq_true] at h'
    obtain ⟨a, b⟩ := sh_can n x h'.1
    obtain ⟨c, d⟩ := shs_can n xs h'.2
    refine ⟨by show (PyData.canLay0 _ && PyData.canLayAll0 _) = true; rw [a, c]; rfl, ?_⟩
    simp only [D.pys, PyData.depthAll]
    omega
end
theorem sh_shaped {n : Nat} {x : D} (hn : n ≤ 60) (h : sh n x = true) : SeqAt.shaped x.py = true := by
  obtain ⟨a, b⟩ := sh_can n x h
  unfold SeqAt.shaped
  rw [a, decide_eq_true (show x.py.depth ≤ 64 by omega)]
  rfl
theorem has_any (x : D) : ∀ ys : List D, hasD x ys = (D.pys ys).any fun z => PyData.eqv z x.py
  | [] => rfl
  | y :: ys => by
    show (deq y x || hasD x ys) = (PyData.eqv y.py x.py || _)
    rw [deq_py y x, has_any x ys]
end
end DL
/-! DLf0: repr of data with long integers. -/
namespace DL
open PySem PySem.Spec PyProof.Rows L2

section
variable {prog : Program} {w : World} {A : Around} {E : Value → Shared → Prop} {s : Shared} {h0 : Heap}
theorem int_text {a : Int} {t : Tok} {Q : Value → Shared → Prop} (hn : s.heap.NoDigits) (ha : a.natAbs < digitL) (h : Q (.str (toString a) s.toks) { s with toks := s.toks + 1 }) :
    wpAny (model prog w) A (call (.builtin "int.__repr__") [.int a t]) Q E s := by
  refine wpAny_call_entry F.slot_int_repr (typeIs_int s a t) F.entry_int_repr ?_ (F.args_int_repr_1 _)
  unfold Builtin.«int.__repr__»
  show wpAny _ _ (do
    let r ← Builtin.overDigitLimit? a
    _) _ _ s
  refine wpAny_bind (overDigitLimit_any hn (fun lt => ?_) fun ge => absurd ha (Nat.not_lt.mpr ge))
  exact wpAny_bind (wpAny_mkStr (wpAny_pure ⟨_, rfl, h⟩) (int_text_fits10 lt))
theorem int_under {a : Int} {t : Tok} {as : List Addr} {d : Nat} (hn : h0.NoDigits) (ha : a.natAbs < digitL) : ReprK prog w as h0 d (.int a t) (toString a) := by
  intro base hb A g E s Q hg hcl hu hk hQ
  rw [pyReprUnder_leaf (v := .int a t) (by omega) (fun _ e => nomatch e)]
  unfold pyRepr
  exact wpAny_bind (wpAny_pyReprObj_slot (by omega) (typeIs_int s a t) F.slot_int_repr.toG (int_text (hn.keeps hk) ha ⟨_, _, rfl, wpAny_pure (hQ s.heap _ fun _ _ e => e)⟩))
mutual
theorem under_of (hn : h0.NoDigits) : ∀ {v : Value} {d : PyData} {as : List Addr}, Reads h0 v d as → tells d = true → d.shown.length ≤ sizeLine →
    ∃ bs, ReadAtMost h0 d.depth bs ∧ ReprK prog w bs h0 d.depth v d.shown
  | _, _, _, .none, _, _ => ⟨[], (fun _ h => nomatch h), by simp only [PyData.shown]; exact .of_is ReprIs.none _ _ _⟩
  | _, _, _, .bool b, _, _ => ⟨[], (fun _ h => nomatch h), by simp only [PyData.shown]; exact .of_is (ReprIs.bool b) _ _ _⟩
  | _, _, _, .int i t, ht, _ => ⟨[], (fun _ h => nomatch h), by simp only [PyData.shown]; exact int_under hn (by simpa [tells] using ht)⟩
  | _, _, _, .str x t, _, hz => ⟨[], (fun _ h => nomatch h), by simp only [PyData.shown]; exact .of_is (ReprIs.str x t (by simpa only [PyData.shown] using hz)) _ _ _⟩
  | _, _, _, .list (a := a) (vs := vs) (xs := xs) g1 g2 g3 g4, ht, hz => by
    simp only [PyData.shown] at hz
    obtain ⟨bs, le, all⟩ := under_all hn g4 (by simpa [tells] using ht) fun t ht => Nat.le_trans (listText_mem_le ht) hz
    have rd : Reads h0 (.ref a) (.list xs) _ := .list g1 g2 g3 g4
    have off : a ∉ bs := not_mem_of_deeper rd (by simp only [PyData.depth]; omega) le
    refine ⟨a :: bs, ReadAtMost.cons rd (by simp only [PyData.depth]; omega) le, ?_⟩
    simp only [PyData.depth, PyData.shown]
    obtain ⟨l⟩ := vs
    cases l with
    | nil =>
      cases (show ReadsAll h0 [] xs _ from g4)
      simp only [PyData.shownAll, listText_nil]
      exact .listEmpty g1 g2 g3
    | cons x l => exact .list g1 g2 g3 off (by simpa using all.length_eq) fun i y e => all.item i y (by simpa using e)
  | _, _, _, .tuple (a := a) (xs := xs) g1 g2 g3 g4, ht, hz => by
    simp only [PyData.shown] at hz
    obtain ⟨bs, le, all⟩ := under_all hn g4 (by simpa [tells] using ht) fun t ht => Nat.le_trans (tupleText_mem_le ht) hz
    have rd : Reads h0 (.ref a) (.tuple xs) _ := .tuple g1 g2 g3 g4
    have off : a ∉ bs := not_mem_of_deeper rd (by simp only [PyData.depth]; omega) le
    refine ⟨a :: bs, ReadAtMost.cons rd (by simp only [PyData.depth]; omega) le, ?_⟩
    simp only [PyData.depth, PyData.shown]
    exact .tuple g1 g2 g3 off all
  | _, _, _, .dict .., ht, _ => by simp [tells] at ht
theorem under_all (hn : h0.NoDigits) : ∀ {vs : List Value} {ds : List PyData} {as : List Addr}, ReadsAll h0 vs ds as → tellsAll ds = true → (∀ t ∈ PyData.shownAll ds, t.length ≤ sizeLine) →
    ∃ bs, ReadAtMost h0 (PyData.depthAll ds) bs ∧ ReprAllK prog w bs h0 (PyData.depthAll ds) vs (PyData.shownAll ds)
  | _, _, _, .nil, _, _ => ⟨[], (fun _ h => nomatch h), by simp only [PyData.shownAll]; exact .nil⟩
  | _, _, _, .cons (d := d) (ds := ds) r rs, ht, hz => by
    simp only [tellsAll, Bool.and_eq_true] at ht
    simp only [PyData.shownAll] at hz ⊢
    obtain ⟨bs, le1, k1⟩ := under_of hn r ht.1 (hz _ (List.mem_cons_self ..))
    obtain ⟨cs, le2, k2⟩ := under_all hn rs ht.2 fun t h => hz t (List.mem_cons_of_mem _ h)
    simp only [PyData.depthAll]
    refine ⟨bs ++ cs, (le1.mono (Nat.le_max_left ..)).append (le2.mono (Nat.le_max_right ..)), .cons ?_ ?_⟩
    · exact (k1.more fun b => List.mem_append_left _).level_le (Nat.le_max_left ..)
    · exact k2.more_le (fun b => List.mem_append_right _) (Nat.le_max_right ..)
end
theorem repr_any {v : Value} {d : PyData} {as : List Addr} {Q : Value → Shared → Prop} (rd : Reads s.heap v d as) (hv : ∃ a, v = .ref a) (ht : tells d = true) (hn : s.heap.NoDigits) (hg : A.guards = some []) (hu : A.units + (d.depth + 1) < cLine) (hz : d.shown.length ≤ sizeLine)
    (hQ : ∀ h' u tk, (∀ b o, s.heap.get? b = some o → h'.get? b = some o) → Q (.str d.shown u) { s with heap := h', toks := tk }) : wpAny (model prog w) A (call (.builtin "repr") [v]) Q E s := by
  obtain ⟨a, rfl⟩ := hv
  have hg1 : A.in1.guards = some [] := hg
  have hu1 : A.in1.units + d.depth < cLine := by show A.units + 1 + d.depth < cLine; omega
  cases rd with
  | list g1 g2 g3 g4 =>
    rename_i o vs n xs bs0
    simp only [PyData.shown] at hz hQ
    obtain ⟨bs, le, all⟩ := under_all (prog := prog) (w := w) hn g4 (by simpa [tells] using ht) fun t ht => Nat.le_trans (listText_mem_le ht) hz
    have off : a ∉ bs := not_mem_of_deeper (.list g1 g2 g3 g4) (by simp only [PyData.depth]; omega) le
    refine call_repr_slot (T := "list") (idr := "list.__repr__") (by omega) ⟨o, g1, g2⟩ F.slot_list_repr.toG ?_
    simp only [PyData.depth] at hu1
    obtain ⟨l⟩ := vs
    cases l with
    | nil =>
      cases (show ReadsAll s.heap [] xs _ from g4)
      simp only [PyData.shownAll, listText_nil] at hQ
      exact call_list_repr_empty ⟨o, g1, g2⟩ g1 g3 ⟨_, _, rfl, hQ s.heap _ _ fun _ _ e => e⟩
    | cons x l => exact call_list_reprK g1 g2 g3 off (by simpa using all.length_eq) (fun i y e => all.item i y (by simpa using e)) hg1 (fun b _ => Clear.nil b) hu1 (fun _ _ e => e) (fun h' u tk k => ⟨_, _, rfl, hQ h' u tk k⟩) hz
  | tuple g1 g2 g3 g4 =>
    rename_i o vs n xs
    simp only [PyData.shown] at hz hQ
    obtain ⟨bs, le, all⟩ := under_all (prog := prog) (w := w) hn g4 (by simpa [tells] using ht) fun t ht => Nat.le_trans (tupleText_mem_le ht) hz
    have off : a ∉ bs := not_mem_of_deeper (.tuple g1 g2 g3 g4) (by simp only [PyData.depth]; omega) le
    refine call_repr_slot (T := "tuple") (idr := "tuple.__repr__") (by omega) ⟨o, g1, g2⟩ F.slot_tuple_repr ?_
    simp only [PyData.depth] at hu1
    exact call_tuple_reprK g1 g2 g3 off all hg1 (fun b _ => Clear.nil b) hu1 (fun _ _ e => e) (fun h' u tk k => ⟨_, _, rfl, hQ h' u tk k⟩) hz
  | dict => simp [tells] at ht
theorem repr_int {a : Int} {t : Tok} {Q : Value → Shared → Prop} (hn : s.heap.NoDigits) (ha : a.natAbs < digitL) (hu : A.units + 1 < cLine) (h : Q (.str (toString a) s.toks) { s with toks := s.toks + 1 }) :
    wpAny (model prog w) A (call (.builtin "repr") [.int a t]) Q E s :=
  call_repr_slot hu (typeIs_int s a t) F.slot_int_repr.toG (int_text hn ha ⟨_, _, rfl, h⟩)
end
end DL
/-! DLe: comparisons, truth, built-ins, methods, subscripts by values. -/
namespace DL
open PySem PySem.Spec PyProof.Rows L2

def rB2 (K : PySem.W.Frag) (mg : Str → Option Value) (E : XK) (f : W → W → Store → Out Bool) : R2 := fun x y H Q => ∃ F G m S wx wy, Sim K F G H m S ∧ RepW K F m wx x ∧ RepW K F m wy y ∧ Post K mg G E F m (f wx wy S) (kB fun b H' => Q (.bl b) H')
theorem flat_rep {K : PySem.W.Frag} {F : Hp} {x : D} {v : V} (r : RepD K F x v) (h : flatD x = true) : flatV v = true := by cases r <;> first | rfl | cases h
theorem flats_rep {K : PySem.W.Frag} {F : Hp} : ∀ {x : List D} {v : List V}, RepDs K F x v → x.all flatD = true → v.all flatV = true
  | _, _, .nil, _ => rfl
  | _, _, .cons a r, h => by
    rw [List.all_cons, Bool.and_eq_true] at h
    rw [List.all_cons, flat_rep a h.1, flats_rep r h.2]
    rfl
theorem eqV_deq {K : PySem.W.Frag} {F : Hp} {x y : D} {u v : V} (rx : RepD K F x u) (ry : RepD K F y v) (hx : flatD x = true) (hy : flatD y = true) : eqV v u = deq y x := by
  cases rx <;> first | (cases hx; done) | skip
  all_goals (cases ry <;> first | (cases hy; done) | rfl | (simp only [eqV, deq]; exact Bool.beq_eq_decide_eq _ _))
theorem inV_has {K : PySem.W.Frag} {F : Hp} {x : D} {u : V} (rx : RepD K F x u) (hx : flatD x = true) : ∀ {ys : List D} {vs : List V}, RepDs K F ys vs → ys.all flatD = true → inV u vs = hasD x ys
  | _, _, .nil, _ => rfl
  | _, _, .cons a r, h => by
    rw [List.all_cons, Bool.and_eq_true] at h
    show (eqV _ u || inV u _) = (deq _ x || hasD x _)
    rw [eqV_deq rx a hx h.1, inV_has rx hx r h.2]
section
variable {X : Cx} {mg : Str → Option Value} {E : XK}
theorem opr_in (neg : Bool) {x y : D} {b : Bool} {pins : List (Addr × Obj)} {σ : L2.St} {H : Hp} {s : Shared} {F : Hp} {u w : V} {v v' : Value} {Q : VK} (hu : X.A.units + 65 < cLine) (I : Inv X pins σ H s) (hf : ∀ a o, F a = some o → H a = some o)
    (rx : RelV u v) (ry : RelV w v') (hx : RepD X.K F x u) (hy : RepD X.K F y w) (e : inD x y = some b) (q : Q (.bl (if neg then !b else b)) H) :
    wpAny (model X.prog X.w) X.A (compareOp (if neg then .NotIn else .In) v v') (EP X pins σ Q) X.xe s := by
  unfold inD at e
  split at e
  · split at e
    · rename_i h
      cases e
      rw [Bool.and_eq_true] at h
      have hd := hx.dp hf
      have he := hy.dp hf
      have s1 := sh_shaped (by decide) h.1
      have s2 : SeqAt.shaped (PyData.list (D.pys _)) = true := sh_shaped (n := 60) (x := .lst _) (by decide) h.2
      rw [has_any] at q
      cases neg with
      | false => exact op_inD hu pins s σ H _ _ v v' Q I rx ry ⟨_, _, hd, he, s1, s2, q⟩
      | true => exact op_notInD hu pins s σ H _ _ v v' Q I rx ry ⟨_, _, hd, he, s1, s2, q⟩
    · cases e
  · split at e
    · rename_i h
      cases e
      rw [Bool.and_eq_true] at h
      obtain ⟨a, us, rfl, sa, ra⟩ := tupOf hy
      rw [← inV_has hx h.1 ra h.2] at q
      cases neg with
      | false => exact op_in_seq pins s σ H _ _ v v' Q I rx ry ⟨a, us, rfl, .inr (sqT_le hf sa), flat_rep hx h.1, flats_rep ra h.2, q⟩
      | true => exact op_notIn_seq pins s σ H _ _ v v' Q I rx ry ⟨a, us, rfl, .inr (sqT_le hf sa), flat_rep hx h.1, flats_rep ra h.2, q⟩
    · cases e
  · split at e
    · cases e
      cases strOf hx; cases strOf hy
      cases neg with
      | false => exact op_inS pins s σ H _ _ v v' Q I rx ry ⟨_, _, rfl, rfl, q⟩
      | true => exact op_notInS pins s σ H _ _ v v' Q I rx ry ⟨_, _, rfl, rfl, q⟩
    · cases e
  · cases e
def isN : D → Bool
  | .non => true
  | _ => false
theorem non_iff {K : PySem.W.Frag} {F : Hp} {x : D} {u : V} (r : RepD K F x u) : decide (u = .non) = isN x := by
  cases r <;> first | rfl | exact decide_eq_false (fun e => nomatch e)
theorem opr_cmp (op : CmpOp) (hu : X.A.units + 65 < cLine) : OpR X (compareOp op) (rB2 X.K mg E (evCmp op)) := by
  rintro pins s σ H x y v u Q I rx ry ⟨F, G, m, S, wx, wy, hs, hx, hy, hp⟩
  cases hx with
  | @l n a e =>
    cases hy with
    | l e2 => exact hp.elim
    | @d dy _ hy =>
      cases dy with
      | non =>
        cases hy
        cases op <;> first | exact hp.elim | skip
        · exact op_isN pins s σ H _ _ v u Q I rx ry ⟨rfl, by rw [decide_eq_false (fun e => nomatch e)]; exact hp.now hs⟩
        · exact op_notN pins s σ H _ _ v u Q I rx ry ⟨rfl, by rw [decide_eq_false (fun e => nomatch e)]; exact hp.now hs⟩
      | _ => exact hp.elim
  | @d dx _ hx =>
  cases hy with
  | l e => exact hp.elim
  | @d dy _ hy =>
  obtain ⟨b, e, hp⟩ := Post.of hp
  have q := hp.now hs
  have q : Q (.bl b) H := q
  cases op with
  | Eq =>
    simp only [cmpD] at e
    split at e
    · rename_i h
      cases e
      rw [Bool.and_eq_true] at h
      exact op_eqD (by omega) pins s σ H _ _ v u Q I rx ry ⟨_, _, hx.dp hs.fr, hy.dp hs.fr, sh_shaped (Nat.le_refl _) h.1, sh_shaped (Nat.le_refl _) h.2, by rw [← deq_py]; exact q⟩
    · cases e
  | NotEq =>
    simp only [cmpD] at e
    split at e
    · rename_i h
      cases e
      rw [Bool.and_eq_true] at h
      exact op_neD (by omega) pins s σ H _ _ v u Q I rx ry ⟨_, _, hx.dp hs.fr, hy.dp hs.fr, sh_shaped (Nat.le_refl _) h.1, sh_shaped (Nat.le_refl _) h.2, by rw [← deq_py]; exact q⟩
    · cases e
  | Lt =>
    simp only [cmpD] at e
    split at e
    · cases intOf hx; cases intOf hy; cases e
      exact op_lt pins s σ H _ _ v u Q I rx ry ⟨_, _, rfl, rfl, q⟩
    · cases e
  | LtE =>
    simp only [cmpD] at e
    split at e
    · cases intOf hx; cases intOf hy; cases e
      exact op_le pins s σ H _ _ v u Q I rx ry ⟨_, _, rfl, rfl, q⟩
    · cases e
  | Gt =>
    simp only [cmpD] at e
    split at e
    · cases intOf hx; cases intOf hy; cases e
      exact op_gt pins s σ H _ _ v u Q I rx ry ⟨_, _, rfl, rfl, q⟩
    · cases e
  | GtE =>
    simp only [cmpD] at e
    split at e
    · cases intOf hx; cases intOf hy; cases e
      exact op_ge pins s σ H _ _ v u Q I rx ry ⟨_, _, rfl, rfl, q⟩
    · cases e
  | Is =>
    simp only [cmpD] at e
    split at e
    · cases blOf hx; cases blOf hy; cases e
      exact op_isBl pins s σ H _ _ v u Q I rx ry ⟨_, _, rfl, rfl, q⟩
    · cases e
      cases hy
      refine op_isN pins s σ H _ _ v u Q I rx ry ⟨rfl, ?_⟩
      rw [non_iff hx]
      cases dx <;> exact q
    · cases e
  | IsNot =>
    simp only [cmpD] at e
    split at e
    · cases blOf hx; cases blOf hy; cases e
      exact op_notBl pins s σ H _ _ v u Q I rx ry ⟨_, _, rfl, rfl, q⟩
    · cases e
      cases hy
      refine op_notN pins s σ H _ _ v u Q I rx ry ⟨rfl, ?_⟩
      rw [non_iff hx]
      cases dx <;> exact q
    · cases e
  | In => exact opr_in false hu I hs.fr rx ry hx hy e q
  | NotIn =>
    simp only [cmpD] at e
    cases e2 : inD dx dy with
    | none => rw [e2] at e; cases e
    | some c =>
      rw [e2] at e
      cases e
      exact opr_in true hu I hs.fr rx ry hx hy e2 q
/-- truth -/
theorem map_empty {α β : Type} (f : α → β) (xs : List α) : (xs.map f).isEmpty = xs.isEmpty := by cases xs <;> rfl
theorem ds_empty {K : PySem.W.Frag} {F : Hp} {xs : List D} {vs : List V} (r : RepDs K F xs vs) : xs.isEmpty = vs.isEmpty := by cases r <;> rfl
theorem ws_empty {K : PySem.W.Frag} {F : Hp} {m : List Addr} {xs : List W} {vs : List V} (r : RepWs K F m xs vs) : xs.isEmpty = vs.isEmpty := by cases r <;> rfl
theorem tru_rep {F G H : Hp} {m : List Addr} {S : Store} {w : W} {v : V} {k : Bool} {K : PySem.W.Frag} (hs : Sim K F G H m S) (r : RepW K F m w v) (h : tru S w = some k) : TruV K v H k := by
  cases r with
  | @l n a e =>
    simp only [tru] at h
    split at h
    · rename_i xs he
      cases h
      obtain ⟨a', vs, e', hv, rv⟩ := hs.at_ he
      rw [e] at e'
      cases e'
      exact .inl ⟨vs, .inl (.inl hv), by rw [ws_empty rv]⟩
    · cases h
  | @d x _ r =>
    cases r with
    | non => simp only [tru] at h; cases h; rfl
    | bl b => simp only [tru] at h; cases h; rfl
    | int i =>
      simp only [tru] at h
      cases h
      show (!decide (i = 0)) = (i != 0)
      rw [bne, Bool.beq_eq_decide_eq]
    | str x =>
      simp only [tru] at h
      split at h
      · rename_i hl
        cases h
        refine ⟨Nat.le_trans hl (by decide), ?_⟩
        show (!decide (x.length = 0)) = !((x.length : Int) == 0)
        congr 1
        by_cases hz : x.length = 0
        · rw [decide_eq_true hz, hz]; rfl
        · rw [decide_eq_false hz]
          exact (beq_eq_false_iff_ne.mpr (by omega)).symm
      · cases h
    | @tup a vs xs s r => simp only [tru] at h; cases h; exact .inr (.inl ⟨vs, sqT_le hs.fr s, by rw [ds_empty r]⟩)
    | @lst a vs xs s r => simp only [tru] at h; cases h; exact .inl ⟨vs, .inl (.inl (hs.fr _ _ s)), by rw [ds_empty r]⟩
    | @rol a vs xs s r => simp only [tru] at h; cases h; exact .inl ⟨vs, sqL_le hs.fr s, by rw [ds_empty r]⟩
/-- a sequence in the heap -/
theorem seq_rep {F G H : Hp} {m : List Addr} {S : Store} {w : W} {v : V} {K : PySem.W.Frag} {xs : List W} (hs : Sim K F G H m S) (r : RepW K F m w v) (h : seqOf S w = some xs) : ∃ a vs, v = .ref a ∧ RepWs K F m xs vs ∧ (SqL K H a vs ∨ SqT K H a vs) := by
  cases r with
  | @l n a e =>
    simp only [seqOf] at h
    split at h
    · rename_i ys he
      cases h
      obtain ⟨a', vs, e', hv, rv⟩ := hs.at_ he
      rw [e] at e'
      cases e'
      exact ⟨_, vs, rfl, rv, .inl (.inl (.inl hv))⟩
    · cases h
  | @d x _ r =>
    cases r with
    | @tup a vs xs s r => simp only [seqOf] at h; cases h; exact ⟨a, vs, rfl, r.ws, .inr (sqT_le hs.fr s)⟩
    | @lst a vs xs s r => simp only [seqOf] at h; cases h; exact ⟨a, vs, rfl, r.ws, .inl (.inl (.inl (hs.fr _ _ s)))⟩
    | @rol a vs xs s r => simp only [seqOf] at h; cases h; exact ⟨a, vs, rfl, r.ws, .inl (sqL_le hs.fr s)⟩
    | _ => simp [seqOf] at h
theorem ws_length {K : PySem.W.Frag} {F : Hp} {m : List Addr} {xs : List W} {vs : List V} (r : RepWs K F m xs vs) : xs.length = vs.length := Paired.length r
theorem ixOf_N : ∀ (n : Nat) (i : Int), ixOf n i = ixN n i
  | n, .ofNat i => by
    show (if i < n then some i else none) = (if (0 : Int) ≤ (i : Int) then (if (i : Int) < (n : Int) then some ((i : Int).toNat) else none) else _)
    rw [if_pos (Int.natCast_nonneg i)]
    by_cases h : i < n
    · rw [if_pos h, if_pos (by omega)]; rfl
    · rw [if_neg h, if_neg (by omega)]
  | n, .negSucc i => by
    show (if i < n then some (n - 1 - i) else none) = (if (0 : Int) ≤ Int.negSucc i then _ else if -(n : Int) ≤ Int.negSucc i then some ((Int.negSucc i + (n : Int)).toNat) else none)
    rw [if_neg (show ¬ (0 : Int) ≤ Int.negSucc i by omega)]
    by_cases h : i < n
    · rw [if_pos h, if_pos (show -(n : Int) ≤ Int.negSucc i by omega)]
      congr 1
      omega
    · rw [if_neg h, if_neg (show ¬ -(n : Int) ≤ Int.negSucc i by omega)]
theorem at_I {α : Type} (xs : List α) (i : Int) : at_ xs i = atI xs i := by
  unfold atI
  rw [← ixOf_N]
  cases i with
  | ofNat n =>
    show xs[n]? = (if n < xs.length then some n else none).bind fun j => xs[j]?
    by_cases h : n < xs.length
    · rw [if_pos h]; rfl
    · rw [if_neg h, List.getElem?_eq_none_iff.mpr (by omega)]; rfl
  | negSucc n =>
    show (if n < xs.length then xs[xs.length - 1 - n]? else none) = (if n < xs.length then some (xs.length - 1 - n) else none).bind fun j => xs[j]?
    by_cases h : n < xs.length
    · rw [if_pos h, if_pos h]; rfl
    · rw [if_neg h, if_neg h]; rfl
theorem ws_at {K : PySem.W.Frag} {F : Hp} {m : List Addr} {ws : List W} {vs : List V} {i : Int} {w : W} (r : RepWs K F m ws vs) (h : at_ ws i = some w) : ∃ v, atI vs i = some v ∧ RepW K F m w v := by
  rw [at_I] at h
  unfold atI at h ⊢
  rw [ws_length r] at h
  cases e : ixN vs.length i with
  | none => rw [e] at h; cases h
  | some j =>
    rw [e] at h
    exact r.get h
/-- .. and which kind it is -/
theorem seq_rep2 {F G H : Hp} {m : List Addr} {S : Store} {w : W} {v : V} {K : PySem.W.Frag} {xs : List W} (hs : Sim K F G H m S) (r : RepW K F m w v) (h : seqOf S w = some xs) : ∃ a vs, v = .ref a ∧ RepWs K F m xs vs ∧ (SqL K H a vs ∨ (SqT K F a vs ∧ ∃ ds, w = .d (.tup ds) ∧ RepDs K F ds vs)) := by
  cases r with
  | @l n a e =>
    simp only [seqOf] at h
    split at h
    · rename_i ys he
      cases h
      obtain ⟨a', vs, e', hv, rv⟩ := hs.at_ he
      rw [e] at e'
      cases e'
      exact ⟨_, vs, rfl, rv, .inl (.inl (.inl hv))⟩
    · cases h
  | @d x _ r =>
    cases r with
    | @tup a vs xs s r => simp only [seqOf] at h; cases h; exact ⟨a, vs, rfl, r.ws, .inr ⟨s, _, rfl, r⟩⟩
    | @lst a vs xs s r => simp only [seqOf] at h; cases h; exact ⟨a, vs, rfl, r.ws, .inl (.inl (.inl (hs.fr _ _ s)))⟩
    | @rol a vs xs s r => simp only [seqOf] at h; cases h; exact ⟨a, vs, rfl, r.ws, .inl (sqL_le hs.fr s)⟩
    | _ => simp [seqOf] at h
/-- x[i] -/
theorem ixr : IxR X (rW2 X.K mg E evIx) := by
  rintro value slice pins s σ H x y v u Q I rx ry ⟨F, G, m, S, wx, wy, hs, hx, hy, hp⟩ hsub
  cases hy with
  | l e => exact hp.elim
  | @d dy _ hy =>
  cases hy with
  | int i =>
    simp only [evIx] at hp
    split at hp
    · rename_i xs he
      obtain ⟨w, ew, hp⟩ := Post.of hp
      obtain ⟨a, vs, rfl, rv, hq⟩ := seq_rep hs hx he
      obtain ⟨z, ez, rz⟩ := ws_at rv ew
      refine ix_seq value slice pins s σ H _ _ v u Q I rx ry ?_ hsub
      rcases hq with hq | hq
      · exact .inl ⟨a, vs, i, z, rfl, rfl, hq, ez, hp.now hs _ rz⟩
      · exact .inr (.inl ⟨a, vs, i, z, rfl, rfl, hq, ez, hp.now hs _ rz⟩)
    · split at hp
      · rename_i z _
        split at hp
        · rename_i hz
          obtain ⟨w, ew, hp⟩ := Post.of hp
          cases ec : at_ z.cps.toList i with
          | none => rw [ec] at ew; cases ew
          | some c =>
            rw [ec] at ew
            cases ew
            cases hx with
            | d hx =>
              cases strOf hx
              exact ix_seq value slice pins s σ H _ _ v u Q I rx ry (.inr (.inr ⟨z, i, c, rfl, rfl, Nat.le_trans hz (by decide), by rw [← at_I]; exact ec, hp.now hs _ (.d (.str _))⟩)) hsub
        · exact hp.elim
      · exact hp.elim
  | _ => exact hp.elim
end
end DL
/-! DLf: slices, built-ins, methods by values. -/
namespace DL
open PySem PySem.Spec PyProof.Rows L2

theorem RepDs.take {K : PySem.W.Frag} {F : Hp} : ∀ {xs : List D} {vs : List V} (n : Nat), RepDs K F xs vs → RepDs K F (xs.take n) (vs.take n)
  | _, _, 0, _ => .nil
  | _, _, _ + 1, .nil => .nil
  | _, _, n + 1, .cons a r => .cons a (RepDs.take n r)
theorem RepDs.drop {K : PySem.W.Frag} {F : Hp} : ∀ {xs : List D} {vs : List V} (n : Nat), RepDs K F xs vs → RepDs K F (xs.drop n) (vs.drop n)
  | _, _, 0, r => r
  | _, _, _ + 1, .nil => .nil
  | _, _, n + 1, .cons a r => RepDs.drop n r
theorem RepDs.cut {K : PySem.W.Frag} {F : Hp} {xs : List D} {vs : List V} (lo hi : Option Int) (r : RepDs K F xs vs) : RepDs K F (cut_ xs lo hi) (cutV vs lo hi) := by
  unfold cut_ cutV
  rw [r.length]
  exact (r.drop _).take _
theorem RepWs.take {K : PySem.W.Frag} {F : Hp} {m : List Addr} : ∀ {xs : List W} {vs : List V} (n : Nat), RepWs K F m xs vs → RepWs K F m (xs.take n) (vs.take n)
  | _, _, 0, _ => .nil
  | _, _, _ + 1, .nil => .nil
  | _, _, n + 1, .cons a r => .cons a (RepWs.take n r)
theorem RepWs.drop {K : PySem.W.Frag} {F : Hp} {m : List Addr} : ∀ {xs : List W} {vs : List V} (n : Nat), RepWs K F m xs vs → RepWs K F m (xs.drop n) (vs.drop n)
  | _, _, 0, r => r
  | _, _, _ + 1, .nil => .nil
  | _, _, n + 1, .cons a r => RepWs.drop n r
theorem RepWs.cut {K : PySem.W.Frag} {F : Hp} {m : List Addr} {xs : List W} {vs : List V} (lo hi : Option Int) (r : RepWs K F m xs vs) : RepWs K F m (cut_ xs lo hi) (cutV vs lo hi) := by
  unfold cut_ cutV
  rw [ws_length r]
  exact RepWs.take _ (RepWs.drop _ r)
theorem RepWs.append {K : PySem.W.Frag} {F : Hp} {m : List Addr} : ∀ {xs ys : List W} {us vs : List V}, RepWs K F m xs us → RepWs K F m ys vs → RepWs K F m (xs ++ ys) (us ++ vs)
  | _, _, _, _, .nil, b => b
  | _, _, _, _, .cons a r, b => .cons a (RepWs.append r b)
theorem RepWs.set {K : PySem.W.Frag} {F : Hp} {m : List Addr} {w : W} {v : V} (q : RepW K F m w v) : ∀ {xs : List W} {vs : List V} (n : Nat), RepWs K F m xs vs → RepWs K F m (xs.set n w) (vs.set n v)
  | _, _, _, .nil => .nil
  | _, _, 0, .cons a r => .cons q r
  | _, _, n + 1, .cons a r => .cons a (RepWs.set q n r)
theorem RepWs.erase {K : PySem.W.Frag} {F : Hp} {m : List Addr} : ∀ {xs : List W} {vs : List V} (n : Nat), RepWs K F m xs vs → RepWs K F m (xs.eraseIdx n) (vs.eraseIdx n)
  | _, _, _, .nil => .nil
  | _, _, 0, .cons a r => r
  | _, _, n + 1, .cons a r => .cons a (RepWs.erase n r)
theorem RepWs.dropLast {K : PySem.W.Frag} {F : Hp} {m : List Addr} : ∀ {xs : List W} {vs : List V}, RepWs K F m xs vs → RepWs K F m xs.dropLast vs.dropLast
  | _, _, .nil => .nil
  | _, _, .cons a .nil => .nil
  | _, _, .cons a (.cons b r) => .cons a (RepWs.dropLast (.cons b r))
theorem RepWs.ints {K : PySem.W.Frag} {F : Hp} {m : List Addr} : ∀ {ws : List W} {vs : List V} {ns : List Int}, RepWs K F m ws vs → intsOf ws = some ns → vs = ns.map V.int
  | _, _, _, .nil, e => by cases e; rfl
  | .d (.int i) :: ws, v :: vs, _, .cons (.d a) r, e => by
    unfold intsOf at e
    cases q : intsOf ws with
    | none => rw [q] at e; cases e
    | some ys =>
      rw [q] at e
      cases e
      cases intOf a
      rw [RepWs.ints r q]
      rfl
  | .d .non :: _, _, _, _, e | .d (.bl _) :: _, _, _, _, e | .d (.str _) :: _, _, _, _, e | .d (.tup _) :: _, _, _, _, e | .d (.lst _) :: _, _, _, _, e | .d (.rol _) :: _, _, _, _, e | .l _ :: _, _, _, _, e => by cases e
theorem RepWs.bls {K : PySem.W.Frag} {F : Hp} {m : List Addr} : ∀ {ws : List W} {vs : List V} {ns : List Bool}, RepWs K F m ws vs → blsOf ws = some ns → vs = ns.map V.bl
  | _, _, _, .nil, e => by cases e; rfl
  | .d (.bl i) :: ws, v :: vs, _, .cons (.d a) r, e => by
    unfold blsOf at e
    cases q : blsOf ws with
    | none => rw [q] at e; cases e
    | some ys =>
      rw [q] at e
      cases e
      cases blOf a
      rw [RepWs.bls r q]
      rfl
  | .d .non :: _, _, _, _, e | .d (.int _) :: _, _, _, _, e | .d (.str _) :: _, _, _, _, e | .d (.tup _) :: _, _, _, _, e | .d (.lst _) :: _, _, _, _, e | .d (.rol _) :: _, _, _, _, e | .l _ :: _, _, _, _, e => by cases e
theorem RepWs.strs {K : PySem.W.Frag} {F : Hp} {m : List Addr} : ∀ {ws : List W} {vs : List V} {ns : List Str}, RepWs K F m ws vs → strsOf ws = some ns → vs = ns.map V.str
  | _, _, _, .nil, e => by cases e; rfl
  | .d (.str i) :: ws, v :: vs, _, .cons (.d a) r, e => by
    unfold strsOf at e
    cases q : strsOf ws with
    | none => rw [q] at e; cases e
    | some ys =>
      rw [q] at e
      cases e
      cases strOf a
      rw [RepWs.strs r q]
      rfl
  | .d .non :: _, _, _, _, e | .d (.int _) :: _, _, _, _, e | .d (.bl _) :: _, _, _, _, e | .d (.tup _) :: _, _, _, _, e | .d (.lst _) :: _, _, _, _, e | .d (.rol _) :: _, _, _, _, e | .l _ :: _, _, _, _, e => by cases e
theorem strs_reps {K : PySem.W.Frag} {F : Hp} : ∀ xs : List Str, RepDs K F (xs.map D.str) (xs.map V.str)
  | [] => .nil
  | x :: xs => .cons (.str x) (strs_reps xs)

/-- x[lo:hi] by values -/
def rSlW (K : PySem.W.Frag) (mg : Str → Option Value) (E : XK) : V → Option Int → Option Int → Hp → VK → Prop := fun x lo hi H Q => ∃ F G m S wx, Sim K F G H m S ∧ RepW K F m wx x ∧ Post K mg G E F m (evSlice wx lo hi S) (kW K Q)
section
variable {X : Cx} {mg : Str → Option Value} {E : XK}
theorem slr : SlR X (rSlW X.K mg E) := by
  rintro pins s σ H x v vl vu lo hi sl Q I rx hsl pl pu ⟨F, G, m, S, wx, hs, hx, hp⟩
  simp only [evSlice] at hp
  cases hx with
  | @l n a e =>
    split at hp
    · rename_i he; cases he
    · rename_i he; cases he
    · rename_i he; cases he
    · rename_i n' he
      cases he
      split at hp
      · rename_i xs he
        obtain ⟨w, ew, hp⟩ := Post.of hp
        obtain ⟨a', vs, e', hv, rv⟩ := hs.at_ he
        rw [e] at e'
        cases e'
        cases ep : pures (cut_ xs lo hi) with
        | none => rw [ep] at ew; cases ew
        | some ds =>
          rw [ep] at ew
          cases ew
          exact sl_list pins s σ H _ v vl vu lo hi sl Q I rx hsl pl pu ⟨a, vs, rfl, .inl (.inl hv), Post.frozen hp hs fun p F' l h => .lst h (((RepWs.cut lo hi rv).ds ep).le l)⟩
      · exact hp.elim
    · rename_i h1 h2 h3 h4
      exact (h4 n rfl).elim
  | @d dx _ hx =>
    cases hx with
    | @tup a vs xs sq r =>
      refine sl_tupA pins s σ H _ v vl vu lo hi sl Q I rx hsl pl pu ⟨a, vs, rfl, sqT_le hs.fr sq, fun hw => ?_, fun _ => Post.frozen hp hs fun p F' l h => .tup (.inl (.inl h)) ((r.cut lo hi).le l)⟩
      refine hp.now hs _ (.d (.tup sq ?_))
      have e2 : cut_ xs lo hi = xs := by
        unfold cut_
        rw [r.length, hw.1, hw.2]
        rw [← r.length]
        simp
      rw [e2]
      exact r
    | @lst a vs xs sq r => exact sl_list pins s σ H _ v vl vu lo hi sl Q I rx hsl pl pu ⟨a, vs, rfl, .inl (.inl (hs.fr _ _ sq)), Post.frozen hp hs fun p F' l h => .lst h ((r.cut lo hi).le l)⟩
    | @rol a vs xs sq r => exact sl_list pins s σ H _ v vl vu lo hi sl Q I rx hsl pl pu ⟨a, vs, rfl, sqL_le hs.fr sq, Post.frozen hp hs fun p F' l h => .lst h ((r.cut lo hi).le l)⟩
    | _ => exact hp.elim

/-- a new list, as a call's end -/
theorem newL_end {F G H : Hp} {m : List Addr} {S : Store} {K : PySem.W.Frag} {b : Bool} {xs : List W} {vs : List V} {Q : VK} (hs : Sim K F G H m S) (r : RepWs K F m xs vs) (hp : Post K mg G E F m (newL b xs S) (kW K Q)) : vs.length ≤ sizeLine ∧ ∀ p, H p = none → Q (.ref p) (upd H p (.lst vs)) := by
  unfold newL at hp
  split at hp
  · rename_i hl
    refine ⟨by rw [← ws_length r]; exact Nat.le_trans hl (by decide), ?_⟩
    split at hp
    · exact Post.newL hp hs r
    · obtain ⟨w, ew, hp⟩ := Post.of hp
      cases ep : pures xs with
      | none => rw [ep] at ew; cases ew
      | some ds =>
        rw [ep] at ew
        cases ew
        exact Post.frozen hp hs fun p F' l h => .lst h ((RepWs.ds r ep).le l)
  · exact hp.elim

/-! ### built-ins -/
def rC (K : PySem.W.Frag) (mg : Str → Option Value) (E : XK) (f : List W → Store → Out W) : List V → Hp → VK → Prop := fun xs H Q => ∃ F G m S ws, Sim K F G H m S ∧ RepWs K F m ws xs ∧ Post K mg G E F m (f ws S) (kW K Q)
theorem one_rep {K : PySem.W.Frag} {F : Hp} {m : List Addr} {w : W} {vs : List V} (r : RepWs K F m [w] vs) : ∃ v, vs = [v] ∧ RepW K F m w v := by
  cases r with
  | cons a r => cases r; exact ⟨_, rfl, a⟩
theorem two_rep {K : PySem.W.Frag} {F : Hp} {m : List Addr} {w w' : W} {vs : List V} (r : RepWs K F m [w, w'] vs) : ∃ v v', vs = [v, v'] ∧ RepW K F m w v ∧ RepW K F m w' v' := by
  cases r with
  | cons a r => cases r with
    | cons b r => cases r; exact ⟨_, _, rfl, a, b⟩
theorem dOf {K : PySem.W.Frag} {F : Hp} {m : List Addr} {x : D} {v : V} (r : RepW K F m (.d x) v) : RepD K F x v := by cases r; assumption
theorem map_of {α β : Type} {o : Option α} {f : α → β} {b : β} (h : o.map f = some b) : ∃ a, o = some a ∧ f a = b := by
  cases o with
  | none => cases h
  | some a => cases h; exact ⟨a, rfl, rfl⟩
theorem bind_of {α β : Type} {o : Option α} {f : α → Option β} {b : β} (h : o.bind f = some b) : ∃ a, o = some a ∧ f a = some b := by
  cases o with
  | none => cases h
  | some a => exact ⟨a, rfl, h⟩
theorem ws_one {K : PySem.W.Frag} {F G : Hp} {m : List Addr} {S : Store} {b : Bi} {ws : List W} {vs : List V} {k : W → Store → Hp → List Addr → Hp → Prop} (h2 : ∀ x y S, evBi2 b x y S = .bad) (r : RepWs K F m ws vs) (hp : Post K mg G E F m (evBi b ws S) k) :
    ∃ w v, ws = [w] ∧ vs = [v] ∧ RepW K F m w v ∧ Post K mg G E F m (evBi1 b w S) k := by
  cases r with
  | nil => exact hp.elim
  | cons a r =>
    cases r with
    | nil => exact ⟨_, _, rfl, rfl, a, hp⟩
    | cons c r =>
      cases r with
      | nil =>
        have hp : Post K mg G E F m (evBi2 b _ _ S) k := hp
        rw [h2] at hp
        exact hp.elim
      | cons => exact hp.elim
theorem cr_len : CallR X (.builtin "len") (rC X.K mg E (evBi .len)) := by
  rintro pins s σ H xs us Q I r ⟨F, G, m, S, ws, hs, hw, hp⟩
  obtain ⟨w, v, rfl, rfl, hv, hp⟩ := ws_one (fun _ _ _ => rfl) hw hp
  simp only [evBi1, biLen] at hp
  split at hp
  · rename_i ys he
    obtain ⟨a, vs, rfl, rv, hq⟩ := seq_rep hs hv he
    refine call_len_seq pins s σ H _ us Q I r ⟨a, vs, rfl, hq, ?_⟩
    rw [← ws_length rv]
    exact hp.now hs _ (.d (.int _))
  · split at hp
    · split at hp
      · rename_i hl
        cases strOf (dOf hv)
        exact call_len_str pins s σ H _ us Q I r ⟨_, rfl, Nat.le_trans hl (by decide), hp.now hs _ (.d (.int _))⟩
      · exact hp.elim
    · exact hp.elim
theorem cr_int : CallR X (.type "int") (rC X.K mg E (evBi .int)) := by
  rintro pins s σ H xs us Q I r ⟨F, G, m, S, ws, hs, hw, hp⟩
  obtain ⟨w, v, rfl, rfl, hv, hp⟩ := ws_one (fun _ _ _ => rfl) hw hp
  simp only [evBi1, biInt] at hp
  split at hp
  · cases intOf (dOf hv)
    exact call_int1 pins s σ H _ us Q I r (.inl ⟨_, rfl, hp.now hs _ (.d (.int _))⟩)
  · cases blOf (dOf hv)
    exact call_int1 pins s σ H _ us Q I r (.inr ⟨_, rfl, hp.now hs _ (.d (.int _))⟩)
  · cases strOf (dOf hv)
    split at hp
    · rename_i n hn
      split at hp
      · rename_i hl
        exact call_int_str pins s σ H _ us Q I r ⟨_, n, rfl, hn, hl, hp.now hs _ (.d (.int _))⟩
      · exact hp.elim
    · exact hp.elim
  · exact hp.elim
theorem cr_tuple : CallR X (.type "tuple") (rC X.K mg E (evBi .tuple)) := by
  rintro pins s σ H xs us Q I r ⟨F, G, m, S, ws, hs, hw, hp⟩
  obtain ⟨w, v, rfl, rfl, hv, hp⟩ := ws_one (fun _ _ _ => rfl) hw hp
  obtain ⟨z, ez, hp⟩ := Post.of hp
  obtain ⟨ds, ed, rfl⟩ := map_of ez
  obtain ⟨ys, e1, e2⟩ := bind_of ed
  obtain ⟨a, vs, rfl, rv, hq⟩ := seq_rep2 hs hv e1
  have rd := RepWs.ds rv e2
  rcases hq with hq | ⟨sq, _⟩
  · exact call_tuple_of pins s σ H _ us Q I r ⟨a, vs, rfl, .inl ⟨hq, Post.frozen hp hs fun p F' l h => .tup (.inl (.inl h)) (rd.le l)⟩⟩
  · exact call_tuple_of pins s σ H _ us Q I r ⟨a, vs, rfl, .inr ⟨sqT_le hs.fr sq, hp.now hs _ (.d (.tup sq rd))⟩⟩
theorem cr_list (b : Bool) : CallR X (.type "list") (rC X.K mg E (evBi (.list b))) := by
  rintro pins s σ H xs us Q I r ⟨F, G, m, S, ws, hs, hw, hp⟩
  obtain ⟨w, v, rfl, rfl, hv, hp⟩ := ws_one (fun _ _ _ => rfl) hw hp
  simp only [evBi1] at hp
  cases e : seqOf S w with
  | none => rw [e] at hp; exact hp.elim
  | some ys =>
    rw [e] at hp
    obtain ⟨a, vs, rfl, rv, hq⟩ := seq_rep hs hv e
    exact call_list_of pins s σ H _ us Q I r ⟨a, vs, rfl, hq, (newL_end hs rv hp).2⟩
theorem cr_abs : CallR X (.builtin "abs") (rC X.K mg E (evBi .abs)) := by
  rintro pins s σ H xs us Q I r ⟨F, G, m, S, ws, hs, hw, hp⟩
  obtain ⟨w, v, rfl, rfl, hv, hp⟩ := ws_one (fun _ _ _ => rfl) hw hp
  simp only [evBi1, biAbs] at hp
  split at hp
  · cases intOf (dOf hv)
    exact call_abs pins s σ H _ us Q I r ⟨_, rfl, hp.now hs _ (.d (.int _))⟩
  · exact hp.elim
theorem cr_str : CallR X (.type "str") (rC X.K mg E (evBi .str)) := by
  rintro pins s σ H xs us Q I r ⟨F, G, m, S, ws, hs, hw, hp⟩
  obtain ⟨w, v, rfl, rfl, hv, hp⟩ := ws_one (fun _ _ _ => rfl) hw hp
  simp only [evBi1, biStr] at hp
  split at hp
  · split at hp
    · rename_i hl
      cases intOf (dOf hv)
      exact call_str_int pins s σ H _ us Q I r ⟨_, rfl, hl, hp.now hs _ (.d (.str _))⟩
    · exact hp.elim
  · exact hp.elim
theorem lseq_rep {F G H : Hp} {m : List Addr} {S : Store} {w : W} {v : V} {K : PySem.W.Frag} {xs : List W} (hs : Sim K F G H m S) (r : RepW K F m w v) (h : lseq S w = some xs) : ∃ a vs, v = .ref a ∧ RepWs K F m xs vs ∧ SqL K H a vs := by
  unfold lseq at h
  split at h
  · cases h
  · rename_i ht
    obtain ⟨a, vs, rfl, rv, hq⟩ := seq_rep2 hs r h
    rcases hq with hq | ⟨_, ds, rfl, _⟩
    · exact ⟨a, vs, rfl, rv, hq⟩
    · exact (ht ds rfl).elim
theorem crl_sum (hc : X.calm = true) : CallR X (.builtin "sum") (rC X.K mg E (evBi .sum)) := by
  rintro pins s σ H xs us Q I r ⟨F, G, m, S, ws, hs, hw, hp⟩
  obtain ⟨w, v, rfl, rfl, hv, hp⟩ := ws_one (fun _ _ _ => rfl) hw hp
  obtain ⟨z, ez, hp⟩ := Post.of hp
  obtain ⟨ds, ed, rfl⟩ := map_of ez
  obtain ⟨ys, e1, e2⟩ := bind_of ed
  obtain ⟨a, vs, rfl, rv, hq⟩ := lseq_rep hs hv e1
  have ev := RepWs.ints rv e2
  subst ev
  exact cr_sum hc pins s σ H _ us Q I r ⟨a, ds, rfl, hq, hp.now hs _ (.d (.int _))⟩
theorem crl_all (hc : X.calm = true) : CallR X (.builtin "all") (rC X.K mg E (evBi .all)) := by
  rintro pins s σ H xs us Q I r ⟨F, G, m, S, ws, hs, hw, hp⟩
  obtain ⟨w, v, rfl, rfl, hv, hp⟩ := ws_one (fun _ _ _ => rfl) hw hp
  obtain ⟨z, ez, hp⟩ := Post.of hp
  obtain ⟨ds, ed, rfl⟩ := map_of ez
  obtain ⟨ys, e1, e2⟩ := bind_of ed
  obtain ⟨a, vs, rfl, rv, hq⟩ := lseq_rep hs hv e1
  have ev := RepWs.bls rv e2
  subst ev
  exact cr_all hc pins s σ H _ us Q I r ⟨a, ds, rfl, hq, hp.now hs _ (.d (.bl _))⟩
theorem crl_any (hc : X.calm = true) : CallR X (.builtin "any") (rC X.K mg E (evBi .any)) := by
  rintro pins s σ H xs us Q I r ⟨F, G, m, S, ws, hs, hw, hp⟩
  obtain ⟨w, v, rfl, rfl, hv, hp⟩ := ws_one (fun _ _ _ => rfl) hw hp
  obtain ⟨z, ez, hp⟩ := Post.of hp
  obtain ⟨ds, ed, rfl⟩ := map_of ez
  obtain ⟨ys, e1, e2⟩ := bind_of ed
  obtain ⟨a, vs, rfl, rv, hq⟩ := lseq_rep hs hv e1
  have ev := RepWs.bls rv e2
  subst ev
  exact cr_any hc pins s σ H _ us Q I r ⟨a, ds, rfl, hq, hp.now hs _ (.d (.bl _))⟩
theorem least_spec : ∀ (a : Int) (r : List Int), least a r ∈ a :: r ∧ ∀ y ∈ a :: r, least a r ≤ y
  | a, [] => ⟨by simp [least], fun y hy => by simp at hy; subst hy; exact Int.le_refl _⟩
  | a, b :: r => by
    have ih := least_spec (if b < a then b else a) r
    unfold least
    refine ⟨?_, fun y hy => ?_⟩
    · rcases List.mem_cons.mp ih.1 with e | e
      · rw [e]; split <;> simp
      · exact List.mem_cons_of_mem _ (List.mem_cons_of_mem _ e)
    · have h0 := ih.2 _ (List.mem_cons_self ..)
      rcases List.mem_cons.mp hy with rfl | hy
      · by_cases hc : b < y <;> simp only [hc, if_true, if_false] at h0 ⊢ <;> omega
      · rcases List.mem_cons.mp hy with rfl | hy
        · by_cases hc : y < a <;> simp only [hc, if_true, if_false] at h0 ⊢ <;> omega
        · exact ih.2 y (List.mem_cons_of_mem _ hy)
theorem most_spec : ∀ (a : Int) (r : List Int), most a r ∈ a :: r ∧ ∀ y ∈ a :: r, y ≤ most a r
  | a, [] => ⟨by simp [most], fun y hy => by simp at hy; subst hy; exact Int.le_refl _⟩
  | a, b :: r => by
    have ih := most_spec (if b > a then b else a) r
    unfold most
    refine ⟨?_, fun y hy => ?_⟩
    · rcases List.mem_cons.mp ih.1 with e | e
      · rw [e]; split <;> simp
      · exact List.mem_cons_of_mem _ (List.mem_cons_of_mem _ e)
    · have h0 := ih.2 _ (List.mem_cons_self ..)
      rcases List.mem_cons.mp hy with rfl | hy
      · by_cases hc : b > y <;> simp only [hc, if_true, if_false] at h0 ⊢ <;> omega
      · rcases List.mem_cons.mp hy with rfl | hy
        · by_cases hc : y > a <;> simp only [hc, if_true, if_false] at h0 ⊢ <;> omega
        · exact ih.2 y (List.mem_cons_of_mem _ hy)
theorem ws_two {K : PySem.W.Frag} {F G : Hp} {m : List Addr} {S : Store} {b : Bi} {ws : List W} {vs : List V} {k : W → Store → Hp → List Addr → Hp → Prop} (r : RepWs K F m ws vs) (hp : Post K mg G E F m (evBi b ws S) k) :
    (∃ w v, ws = [w] ∧ vs = [v] ∧ RepW K F m w v ∧ Post K mg G E F m (evBi1 b w S) k) ∨ ∃ w w' v v', ws = [w, w'] ∧ vs = [v, v'] ∧ RepW K F m w v ∧ RepW K F m w' v' ∧ Post K mg G E F m (evBi2 b w w' S) k := by
  cases r with
  | nil => exact hp.elim
  | cons a r =>
    cases r with
    | nil => exact .inl ⟨_, _, rfl, rfl, a, hp⟩
    | cons c r =>
      cases r with
      | nil => exact .inr ⟨_, _, _, _, rfl, rfl, a, c, hp⟩
      | cons => exact hp.elim
theorem crl_min (hc : X.calm = true) : CallR X (.builtin "min") (rC X.K mg E (evBi .min)) := by
  rintro pins s σ H xs us Q I r ⟨F, G, m, S, ws, hs, hw, hp⟩
  rcases ws_two hw hp with ⟨w, v, rfl, rfl, hv, hp⟩ | ⟨w, w', v, v', rfl, rfl, hv, hv', hp⟩
  · simp only [evBi1, biMin] at hp
    split at hp
    · rename_i a r' he
      obtain ⟨ys, e1, e2⟩ := bind_of he
      obtain ⟨b, vs, rfl, rv, hq⟩ := lseq_rep hs hv e1
      have ev := RepWs.ints rv e2
      subst ev
      refine cr_min hc pins s σ H _ us Q I r ⟨b, _, rfl, hq, by simp, fun z hz hl => ?_⟩
      have h1 := least_spec a r'
      have e3 : z = least a r' := Int.le_antisymm (hl _ h1.1) (h1.2 z hz)
      rw [e3]
      exact hp.now hs _ (.d (.int _))
    · exact hp.elim
  · simp only [evBi2] at hp
    split at hp
    · cases intOf (dOf hv); cases intOf (dOf hv')
      exact call_min2 hc pins s σ H _ us Q I r ⟨_, _, rfl, hp.now hs _ (.d (.int _))⟩
    · exact hp.elim
theorem crl_max (hc : X.calm = true) : CallR X (.builtin "max") (rC X.K mg E (evBi .max)) := by
  rintro pins s σ H xs us Q I r ⟨F, G, m, S, ws, hs, hw, hp⟩
  rcases ws_two hw hp with ⟨w, v, rfl, rfl, hv, hp⟩ | ⟨w, w', v, v', rfl, rfl, hv, hv', hp⟩
  · simp only [evBi1, biMax] at hp
    split at hp
    · rename_i a r' he
      obtain ⟨ys, e1, e2⟩ := bind_of he
      obtain ⟨b, vs, rfl, rv, hq⟩ := lseq_rep hs hv e1
      have ev := RepWs.ints rv e2
      subst ev
      refine cr_max hc pins s σ H _ us Q I r ⟨b, _, rfl, hq, by simp, fun z hz hl => ?_⟩
      have h1 := most_spec a r'
      have e3 : z = most a r' := Int.le_antisymm (h1.2 z hz) (hl _ h1.1)
      rw [e3]
      exact hp.now hs _ (.d (.int _))
    · exact hp.elim
  · simp only [evBi2] at hp
    split at hp
    · cases intOf (dOf hv); cases intOf (dOf hv')
      exact call_max2 hc pins s σ H _ us Q I r ⟨_, _, rfl, hp.now hs _ (.d (.int _))⟩
    · exact hp.elim
/-- the kind of a value -/
theorem ty_rep {F G H : Hp} {m : List Addr} {S : Store} {w : W} {v : V} {K : PySem.W.Frag} {t : String} (hs : Sim K F G H m S) (r : RepW K F m w v) (h : tyW S w = some t) : TyX K H v (.type t) := by
  cases r with
  | @l n a e =>
    simp only [tyW] at h
    split at h
    · rename_i xs he
      cases h
      obtain ⟨a', vs, e', hv, rv⟩ := hs.at_ he
      rw [e] at e'
      cases e'
      exact .base (.lst hv)
    · cases h
  | @d x _ r =>
    cases h
    cases r with
    | non => exact .base .non
    | bl b => exact .base (.bl b)
    | int b => exact .base (.int b)
    | str b => exact .base (.str b)
    | @tup a vs xs s r =>
      rcases s with (s | ⟨o, s⟩) | ⟨o, its, n, hk, hc, _⟩
      · exact .base (.tup (hs.fr _ _ s))
      · exact .fTuple (hs.fr _ _ s)
      · exact .kTuple hk hc
    | @lst a vs xs s r => exact .base (.lst (hs.fr _ _ s))
    | @rol a vs xs s r =>
      rcases s with (s | ⟨o, s⟩) | ⟨o, its, n, hk, hc, _⟩
      · exact .base (.lst (hs.fr _ _ s))
      · exact .base (.frz (hs.fr _ _ s))
      · exact .kList hk hc
/-- the kinds that are asked for -/
def tyAsk : List String := ["int", "bool", "str", "tuple", "list", "dict"]
theorem kit_all (K : PySem.W.Frag) (x : D) (t : String) (ht : t ∈ tyAsk) : PySem.W.kitOne K (.type (tyD x)) (.type t) = some (isTy (tyD x) t) := by
  refine kit_ty ?_
  have e : ∀ a ∈ ["NoneType", "bool", "int", "str", "tuple", "list"], ∀ t ∈ tyAsk, kitB a t = some (isTy a t) := by decide +kernel
  exact e _ (by cases x <;> simp [tyD]) t ht
theorem cr_isi {t : String} (ht : t ∈ tyAsk) : CallR X (.builtin "isinstance") (fun xs H Q => ∃ x, xs = [x, .ty t] ∧ rC X.K mg E (evBi (.isinst t)) [x] H Q) := by
  rintro pins s σ H xs us Q I r ⟨x, rfl, F, G, m, S, ws, hs, hw, hp⟩
  obtain ⟨w, v, rfl, e, hv, hp⟩ := ws_one (fun _ _ _ => rfl) hw hp
  cases e
  obtain ⟨z, ez, hp⟩ := Post.of hp
  obtain ⟨ty, ed, rfl⟩ := map_of ez
  refine call_isi pins s σ H _ us Q I r ⟨_, _, .type ty, .type t, _, rfl, .ty t, ty_rep hs hv ed, ?_, hp.now hs _ (.d (.bl _))⟩
  cases w with
  | d x => cases ed; exact kit_all X.K x t ht
  | l n =>
    simp only [tyW] at ed
    split at ed
    · cases ed; exact kit_all X.K (.lst []) t ht
    · cases ed
/-- repr -/
theorem cr_repr (hg : X.A.guards = some []) (hu : X.A.units + 70 < cLine) (hn : X.base.NoDigits) : CallR X (.builtin "repr") (rC X.K mg E (evBi .repr)) := by
  rintro pins s σ H xs us Q I r ⟨F, G, m, S, ws, hs, hw, hp⟩
  obtain ⟨w, v, rfl, rfl, hv, hp⟩ := ws_one (fun _ _ _ => rfl) hw hp
  obtain ⟨u, rfl, rv⟩ := vals1 r
  simp only [evBi1, biRepr] at hp
  have hn := hn.keeps I.bk
  cases w with
  | l n => exact hp.elim
  | d x =>
    simp only at hp
    split at hp
    · rename_i hc
      rw [Bool.and_eq_true, Bool.and_eq_true, decide_eq_true_eq] at hc
      obtain ⟨⟨h1, h2⟩, h3⟩ := hc
      have h3 : x.py.shown.length ≤ sizeLine := Nat.le_trans h3 (by decide)
      have q : Q (.str x.py.shown) H := hp.now hs _ (.d (.str _))
      have hd := dOf hv
      have hdp := hd.dp hs.fr
      obtain ⟨can, dep⟩ := sh_can 60 x h1
      have big : ∀ a, v = .ref a → wpAny (model X.prog X.w) X.A (call (.builtin "repr") [u]) (EP X pins σ Q) X.xe s := fun a e => by
        subst e
        obtain ⟨as, hr⟩ := Dp.reads I x.py _ u hdp rv
        cases rv
        exact repr_any hr ⟨_, rfl⟩ h2 hn hg (by omega) h3 fun h' u tk hk => ⟨.str _, H, I.kept (t' := tk) hk, ⟨_, rfl⟩, q⟩
      cases hd with
      | non => cases rv; exact PySem.P.repr_of_none ⟨.str _, H, I.tok _, ⟨_, rfl⟩, q⟩
      | bl b => cases rv; exact PySem.P.repr_of_bool ⟨.str _, H, I.tok _, ⟨_, rfl⟩, q⟩
      | int i =>
        obtain ⟨t, rfl⟩ := rv
        exact repr_int hn (by simpa [tells, D.py] using h2) (by omega) ⟨.str _, H, I.tok _, ⟨_, rfl⟩, q⟩
      | str y =>
        obtain ⟨t, rfl⟩ := rv
        exact PySem.P.repr_of_str (h := ⟨.str _, H, I.tok _, ⟨_, rfl⟩, q⟩) (hsz := h3)
      | tup => exact big _ rfl
      | lst => exact big _ rfl
      | rol => exact big _ rfl
    · exact hp.elim
end
end DL
/-! DLg: methods and stores by values; a call's promise. -/
namespace DL
open PySem PySem.Spec PyProof.Rows L2

def rM (K : PySem.W.Frag) (mg : Str → Option Value) (E : XK) (f : W → List W → Store → Out W) : V → List V → Hp → VK → Prop := fun x xs H Q => ∃ F G m S wx ws, Sim K F G H m S ∧ RepW K F m wx x ∧ RepWs K F m ws xs ∧ Post K mg G E F m (f wx ws S) (kW K Q)
theorem seqIx (n : Nat) : ∀ i : Int, seqIndex? i n = ixOf n i
  | .ofNat i => by
    show (if (decide ((0 : Int) ≤ (if (i : Int) < 0 then (i : Int) + n else i)) && decide ((if (i : Int) < 0 then (i : Int) + n else i) < (n : Int))) = true then some ((if (i : Int) < 0 then (i : Int) + n else (i : Int)).toNat) else none) = if i < n then some i else none
    rw [if_neg (show ¬ (i : Int) < 0 by omega), decide_eq_true (show (0 : Int) ≤ (i : Int) by omega), Bool.true_and]
    by_cases h : i < n
    · rw [if_pos h, if_pos (decide_eq_true (by omega))]; rfl
    · rw [if_neg h, if_neg (by simp; omega)]
  | .negSucc i => by
    show (if (decide ((0 : Int) ≤ (if (Int.negSucc i) < 0 then (Int.negSucc i) + n else Int.negSucc i)) && decide ((if (Int.negSucc i) < 0 then (Int.negSucc i) + n else Int.negSucc i) < (n : Int))) = true then some ((if (Int.negSucc i) < 0 then (Int.negSucc i) + n else (Int.negSucc i)).toNat) else none) = if i < n then some (n - 1 - i) else none
    rw [if_pos (show Int.negSucc i < 0 by omega)]
    by_cases h : i < n
    · rw [if_pos h, if_pos (by rw [decide_eq_true (by omega), decide_eq_true (by omega)]; rfl)]
      congr 1
      omega
    · rw [if_neg h, if_neg (by simp; omega)]
section
variable {X : Cx} {mg : Str → Option Value} {E : XK}
theorem mt_split1 {K : PySem.W.Frag} {F G : Hp} {m : List Addr} {S : Store} {b : Mt} {o : W} {ws : List W} {vs : List V} {k : W → Store → Hp → List Addr → Hp → Prop} (h0 : ∀ S, evMt0 b o S = .bad) (r : RepWs K F m ws vs) (hp : Post K mg G E F m (evMt b o ws S) k) :
    ∃ w v, ws = [w] ∧ vs = [v] ∧ RepW K F m w v ∧ Post K mg G E F m (evMt1 b o w S) k := by
  cases r with
  | nil =>
    have hp : Post K mg G E F m (evMt0 b o S) k := hp
    rw [h0] at hp
    exact hp.elim
  | cons a r =>
    cases r with
    | nil => exact ⟨_, _, rfl, rfl, a, hp⟩
    | cons c r => exact hp.elim
/-- a place of the store that is changed -/
theorem Post.put {F G H : Hp} {m : List Addr} {S : Store} {K : PySem.W.Frag} {n : Nat} {a : Addr} {xs ys : List W} {vs : List V} {w : W} {v : V} {Q : VK} (hp : Post K mg G E F m (.ok w (S.set n (.lst ys))) (kW K Q)) (hs : Sim K F G H m S) (e : S[n]? = some (.lst xs)) (ea : m[n]? = some a) (r : RepWs K F m ys vs) (rv : RepW K F m w v) : Q v (upd H a (.lst vs)) :=
  hp F m _ .refl (hs.put e ea r) v rv
theorem crm_append : MtR X "list.append" (rM X.K mg E (evMt .append)) := by
  rintro pins s σ H x xs v us Q I rx r ⟨F, G, m, S, wx, ws, hs, hx, hw, hp⟩
  obtain ⟨w, z, rfl, rfl, hv, hp⟩ := mt_split1 (fun _ => by cases wx <;> rfl) hw hp
  cases hx with
  | d => exact hp.elim
  | @l n a e =>
    simp only [evMt1, mtAppend] at hp
    split at hp
    · rename_i ys he
      split at hp
      · rename_i hl
        obtain ⟨a', vs, e', hh, rv⟩ := hs.at_ he
        rw [e] at e'; cases e'
        exact mt_append pins s σ H _ _ v us Q I rx r ⟨a, vs, z, rfl, rfl, hh, by rw [← ws_length rv]; exact Nat.lt_of_lt_of_le hl (by decide), Post.put hp hs he e (RepWs.append rv (.cons hv .nil)) (.d .non)⟩
      · exact hp.elim
    · exact hp.elim
theorem crm_extend : MtR X "list.extend" (rM X.K mg E (evMt .extend)) := by
  rintro pins s σ H x xs v us Q I rx r ⟨F, G, m, S, wx, ws, hs, hx, hw, hp⟩
  obtain ⟨w, z, rfl, rfl, hv, hp⟩ := mt_split1 (fun _ => by cases wx <;> rfl) hw hp
  cases hx with
  | d => exact hp.elim
  | @l n a e =>
    simp only [evMt1, mtExtend] at hp
    split at hp
    · rename_i xs he
      split at hp
      · rename_i ys
        split at hp
        · rename_i hl
          obtain ⟨a', vs, e', hh, rv⟩ := hs.at_ he
          rw [e] at e'; cases e'
          obtain ⟨b, zs, rfl, hb, rz⟩ := lstOf (dOf hv)
          exact mt_extend pins s σ H _ _ v us Q I rx r ⟨a, b, vs, zs, rfl, rfl, hh, hs.fr _ _ hb, by rw [← ws_length rv, ← rz.length]; exact Nat.le_trans hl (by decide), Post.put hp hs he e (RepWs.append rv rz.ws) (.d .non)⟩
        · exact hp.elim
      · exact hp.elim
    · exact hp.elim
theorem crm_pop : MtR X "list.pop" (rM X.K mg E (evMt .pop)) := by
  rintro pins s σ H x xs v us Q I rx r ⟨F, G, m, S, wx, ws, hs, hx, hw, hp⟩
  match ws, xs, hw, hp, r with
  | [_], [_], _, hp, _ => exact hp.elim
  | _ :: _ :: _, _, _, hp, _ => exact hp.elim
  | [], [], hw, hp, r =>
    cases hx with
    | d => exact hp.elim
    | @l n a e =>
      simp only [evMt, evMt0, mtPop] at hp
      split at hp
      · rename_i ys he
        obtain ⟨a', vs, e', hh, rv⟩ := hs.at_ he
        rw [e] at e'; cases e'
        cases ey : ys[ys.length - 1]? with
        | none => rw [ey] at hp; exact hp.elim
        | some w =>
          rw [ey] at hp
          obtain ⟨z, ez, rz⟩ := rv.get ey
          rw [ws_length rv] at ez
          exact mt_pop pins s σ H _ _ v us Q I rx r ⟨a, vs, z, rfl, rfl, hh, ez, Post.put hp hs he e (RepWs.dropLast rv) rz⟩
      · exact hp.elim
theorem crm_popAt : MtR X "list.pop" (rM X.K mg E (evMt .popAt)) := by
  rintro pins s σ H x xs v us Q I rx r ⟨F, G, m, S, wx, ws, hs, hx, hw, hp⟩
  obtain ⟨w, z, rfl, rfl, hv, hp⟩ := mt_split1 (fun _ => by cases wx <;> rfl) hw hp
  cases hx with
  | d => exact hp.elim
  | @l n a e =>
    cases hv with
    | l => exact hp.elim
    | @d dz _ hz =>
      cases hz with
      | int i =>
        simp only [evMt1, mtPopAt] at hp
        split at hp
        · rename_i ys he
          split at hp
          · rename_i hl
            obtain ⟨a', vs, e', hh, rv⟩ := hs.at_ he
            rw [e] at e'; cases e'
            cases ek : ixOf ys.length i with
            | none => rw [ek] at hp; exact hp.elim
            | some k =>
              rw [ek] at hp
              simp only [Out.of_some, Out.bind_ok] at hp
              cases ey : ys[k]? with
              | none => rw [ey] at hp; exact hp.elim
              | some w =>
                rw [ey] at hp
                obtain ⟨z, ez, rz⟩ := rv.get ey
                rw [ws_length rv] at ek
                refine mt_popAt pins s σ H _ _ v us Q I rx r ⟨a, vs, i, k, z, rfl, rfl, hh, hl.1, hl.2, ?_, ez, Post.put hp hs he e (RepWs.erase k rv) rz⟩
                rw [seqIx]
                exact ek
          · exact hp.elim
        · exact hp.elim
      | _ => exact hp.elim
theorem pys_map : ∀ xs : List D, D.pys xs = xs.map D.py
  | [] => rfl
  | x :: xs => by rw [D.pys, pys_map xs]; rfl
theorem crm_count (hu : X.A.units + 65 < cLine) : MtR X "list.count" (rM X.K mg E (evMt .count)) := by
  rintro pins s σ H x xs v us Q I rx r ⟨F, G, m, S, wx, ws, hs, hx, hw, hp⟩
  obtain ⟨w, z, rfl, rfl, hv, hp⟩ := mt_split1 (fun _ => by cases wx <;> rfl) hw hp
  simp only [evMt1, mtCount] at hp
  cases w with
  | l => exact hp.elim
  | d dx =>
    simp only at hp
    cases e : (lseq S wx).bind pures with
    | none => rw [e] at hp; exact hp.elim
    | some ys =>
      rw [e] at hp
      simp only [Out.of_some, Out.bind_ok] at hp
      split at hp
      case isFalse => exact hp.elim
      rename_i hc
      rw [Bool.and_eq_true] at hc
      obtain ⟨wl, e1, e2⟩ := bind_of e
      obtain ⟨a, vs, rfl, hr, hq⟩ := lseq_rep hs hx e1
      cases rx
      obtain ⟨u, rfl, ru⟩ := vals1 r
      obtain ⟨its, rv, ⟨⟨cls, dd, data, sl⟩, n, ho, hcl, hdn, hd⟩, hlen⟩ := I.list hq
      simp only at hcl hd
      subst hcl hd
      have can1 := (sh_can 59 dx hc.1).1
      have can2 := (shs_can 59 ys hc.2).1
      obtain ⟨as, r1⟩ := Dp.reads I dx.py _ u ((dOf hv).dp hs.fr) ru
      obtain ⟨bs, r2⟩ := Dp.readsAll I (D.pys ys) vs its (RepDs.dp hs.fr (RepWs.ds hr e2)) rv
      have room : X.A.units + 1 + min (PyData.depthAll (D.pys ys)) dx.py.depth < cLine := by
        have d1 := (sh_can 59 dx hc.1).2
        omega
      have all := SeqAt.items_eqAt (A := X.A) (vs := its.toArray) (show ReadsAll s.heap its.toArray.toList (D.pys ys) bs by simpa using r2) r1 can2 can1 room
      have em := SeqAt.readsAll_map (D.pys ys) its bs can2 r2
      refine call_meets PySem.F.slot_list_count ⟨_, ho, rfl⟩ PySem.F.entry_list_count (PySem.F.args_list_count_2 _ _)
        (SeqAt.list_countAt a its.toArray n dd sl u (fun y => PyData.eqv (SeqAt.readOf s.heap y) dx.py)) ⟨ho, all, ?_⟩
      have ec : its.toArray.toList.countP (fun y => PyData.eqv (SeqAt.readOf s.heap y) dx.py) = ys.countP fun y => deq y dx := by
        have e3 : its.toArray.toList.countP (fun y => PyData.eqv (SeqAt.readOf s.heap y) dx.py) = (its.map (SeqAt.readOf s.heap)).countP fun y => PyData.eqv y dx.py := by rw [List.countP_map]; rfl
        rw [e3, em, pys_map, List.countP_map]
        congr 1
        funext y
        exact (deq_py y dx).symm
      refine ⟨.int (ys.countP (fun y => deq y dx) : Nat), H, I.tok _, ⟨s.toks, ?_⟩, hp.now hs _ (.d (.int _))⟩
      show Value.int ((its.toArray.toList.countP (fun y => PyData.eqv (SeqAt.readOf s.heap y) dx.py) : Nat) : Int) s.toks = _
      rw [ec]
theorem crm_split : MtR X "str.split" (rM X.K mg E (evMt .split)) := by
  rintro pins s σ H x xs v us Q I rx r ⟨F, G, m, S, wx, ws, hs, hx, hw, hp⟩
  obtain ⟨w, z, rfl, rfl, hv, hp⟩ := mt_split1 (fun _ => by cases wx <;> rfl) hw hp
  simp only [evMt1] at hp
  split at hp
  · cases strOf (dOf hx); cases strOf (dOf hv)
    simp only [mtSplit] at hp
    split at hp
    · rename_i hl
      exact mt_split pins s σ H _ _ v us Q I rx r ⟨_, _, rfl, rfl, hl.1, Nat.le_trans hl.2 (by decide), Post.frozen hp hs fun p F' l h => .lst h (strs_reps _)⟩
    · exact hp.elim
  · exact hp.elim
theorem crm_join : MtR X "str.join" (rM X.K mg E (evMt .join)) := by
  rintro pins s σ H x xs v us Q I rx r ⟨F, G, m, S, wx, ws, hs, hx, hw, hp⟩
  obtain ⟨w, z, rfl, rfl, hv, hp⟩ := mt_split1 (fun _ => by cases wx <;> rfl) hw hp
  simp only [evMt1] at hp
  split at hp
  · cases strOf (dOf hx)
    simp only [mtJoin] at hp
    cases ey : (seqOf S w).bind strsOf with
    | none => rw [ey] at hp; exact hp.elim
    | some ys =>
      rw [ey] at hp
      simp only [Out.of_some, Out.bind_ok] at hp
      split at hp
      · rename_i hl
        obtain ⟨zs, e1, e2⟩ := bind_of ey
        obtain ⟨a, vs, rfl, rv, hq⟩ := seq_rep hs hv e1
        have ev := RepWs.strs rv e2
        subst ev
        exact mt_join pins s σ H _ _ v us Q I rx r ⟨_, a, ys, rfl, rfl, hq, hl, hp.now hs _ (.d (.str _))⟩
      · exact hp.elim
  · exact hp.elim
/-- o[i] = v -/
def rS3 (K : PySem.W.Frag) (mg : Str → Option Value) (E : XK) : TSet := fun o i v H Q => ∃ F G m S wo wi wv, Sim K F G H m S ∧ RepW K F m wo o ∧ RepW K F m wi i ∧ RepW K F m wv v ∧ Post K mg G E F m (Out.of (setIx wo wi wv S) S) fun _ _ _ _ _ => True
theorem set_rule {o i v : V} {H : Hp} {F G : Hp} {m : List Addr} {S S' : Store} {wo wi wv : W} {K : PySem.W.Frag} {Q : Hp → Prop} (hs : Sim K F G H m S) (ho : RepW K F m wo o) (hi : RepW K F m wi i) (hv : RepW K F m wv v) (e : setIx wo wi wv S = some S')
    (q : ∀ H', Sim K F G H' m S' → Q H') : rSetL o i v H Q := by
  unfold setIx at e
  split at e
  · rename_i n k
    split at e
    · rename_i xs he
      obtain ⟨j, ej, rfl⟩ := map_of e
      cases ho with
      | @l _ a ea =>
        cases intOf (dOf hi)
        obtain ⟨a', vs, e', hh, rv⟩ := hs.at_ he
        rw [ea] at e'; cases e'
        refine ⟨a, vs, k, j, rfl, rfl, hh, by rw [← ixOf_N, ← ws_length rv]; exact ej, q _ (hs.put he ea (RepWs.set hv j rv))⟩
    · cases e
  · cases e
end
end DL
/-! DLh: what stands around a body, readings, iterables. -/
namespace DL
open PySem PySem.Spec PyProof.Rows L2

/-- a def as it is called: by so many values ahead of keywords -/
structure Callee where
  name : Str
  np : Nat
  n : Nat
  ks : List Str
  ord : List Nat
  den : Fn
structure Tab where
  fns : List Callee
  free : List Str
  gl : List (Str × D)
/-- what a def promises: what den reckons -/
def spD (K : PySem.W.Frag) (mg : Str → Option Value) (n : Nat) (den : Fn) : Sp := fun vs H Q E => ∃ F G m S ws, ws.length = n ∧ Sim K F G H m S ∧ RepWs K F m ws vs ∧ Post K mg G E F m (den ws S) (kW K Q)
structure TabOk (P : Program) (w : World) (K : PySem.W.Frag) (mg : Str → Option Value) (base : Heap) (A : Around) (Γ : Tab) : Prop where
  fns : ∀ c ∈ Γ.fns, ∃ f fd ps k, mg c.name = some (.ref f) ∧ FnG P w K mg base k f fd ps (spD K mg c.np c.den) ∧ Room k A ∧ PySem.W.keepIn K (.ref f) = true ∧ BindsK fd ps c.ks c.n c.ord
  free : ∀ x ∈ Γ.free, mg x = none
  gl : ∀ p ∈ Γ.gl, ∃ u v, mg p.1 = some u ∧ RelV v u ∧ RepD K (fun _ => none) p.2 v
  dig : base.NoDigits
def fnsOf (Γ : Tab) (i : Nat) : Fn := match Γ.fns[i]? with
  | some c => fun ws S => c.den (c.ord.filterMap fun i => ws[i]?) S
  | none => fun _ _ => .bad
/-- around a body -/
structure Amb (Γ : Tab) (N : List Str) (sc : Scope) (fb : Str → Bool) (E : XK) (X : Cx) : Prop where
  calm : X.calm = true
  grd : X.A.guards = some []
  hN : X.N = N
  nd : N.Nodup
  hsc : X.env.scope = sc
  kind : sc.kind = .function
  hun : X.A.units + 70 < cLine
  pas : Passes (L2.CX X.prog X.w) X E
  tab : TabOk X.prog X.w X.K X.mg X.base X.A Γ
  fnb : ∀ x, fb x = true → X.fn x = true

/-- names' values -/
structure RepE (K : PySem.W.Frag) (F : Hp) (m : List Addr) (env : Ev) (σ : L2.St) : Prop where
  len : env.length = σ.length
  get : ∀ (i : Nat) (w : W), env[i]? = some (some w) → ∃ v, σ[i]? = some (some v) ∧ RepW K F m w v
section
variable {K : PySem.W.Frag} {F F' : Hp} {m m' : List Addr} {env : Ev} {σ : L2.St}
theorem RepE.le (r : RepE K F m env σ) (l : Le F m F' m') : RepE K F' m' env σ := ⟨r.len, fun i w e => let ⟨v, h, q⟩ := r.get i w e; ⟨v, h, q.le l⟩⟩
theorem RepE.set (r : RepE K F m env σ) {w : W} {v : V} (q : RepW K F m w v) (i : Nat) : RepE K F m (env.set i (some w)) (σ.set i (some v)) := by
  refine ⟨by rw [List.length_set, List.length_set, r.len], fun j u e => ?_⟩
  by_cases h : i = j
  · subst h
    by_cases hi : i < env.length
    · rw [List.getElem?_set_self hi] at e
      cases e
      exact ⟨v, List.getElem?_set_self (by rw [← r.len]; exact hi), q⟩
    · rw [List.getElem?_eq_none_iff.mpr (by rw [List.length_set]; omega)] at e
      cases e
  · rw [List.getElem?_set_ne h] at e
    obtain ⟨z, h1, h2⟩ := r.get j u e
    exact ⟨z, by rw [List.getElem?_set_ne h]; exact h1, h2⟩
theorem RepE.unset (r : RepE K F m env σ) (i : Nat) : RepE K F m (env.set i none) (σ.set i none) := by
  refine ⟨by rw [List.length_set, List.length_set, r.len], fun j u e => ?_⟩
  by_cases h : i = j
  · subst h
    by_cases hi : i < env.length
    · rw [List.getElem?_set_self hi] at e
      cases e
    · rw [List.getElem?_eq_none_iff.mpr (by rw [List.length_set]; omega)] at e
      cases e
  · rw [List.getElem?_set_ne h] at e
    obtain ⟨z, h1, h2⟩ := r.get j u e
    exact ⟨z, by rw [List.getElem?_set_ne h]; exact h1, h2⟩
theorem RepE.wipe (r : RepE K F m env σ) : ∀ vs : List Nat, RepE K F m (wipeE env vs) (L2.wipe σ vs)
  | [] => r
  | v :: vs => RepE.unset (RepE.wipe r vs) v
theorem getE_of {i : Nat} {w : W} (h : getE env i = some w) : env[i]? = some (some w) := by
  unfold getE at h
  cases e : env[i]? with
  | none => rw [e] at h; cases h
  | some o => rw [e] at h; rw [show o = some w from h]
end

/-! ### readings -/
def tE (K : PySem.W.Frag) (mg : Str → Option Value) (E : XK) (d : Ev → Store → Out W) : TE := fun σ H Q => ∃ F G m env S, Sim K F G H m S ∧ RepE K F m env σ ∧ Post K mg G E F m (d env S) (kW K Q)
def tBl (K : PySem.W.Frag) (mg : Str → Option Value) (E : XK) (d : Ev → Store → Out Bool) : TT := fun σ H Q => ∃ F G m env S, Sim K F G H m S ∧ RepE K F m env σ ∧ Post K mg G E F m (d env S) (kB Q)
def tAr (K : PySem.W.Frag) (mg : Str → Option Value) (E : XK) (d : Ev → Store → Out (List W)) : TA := fun σ H Q => ∃ F G m env S, Sim K F G H m S ∧ RepE K F m env σ ∧ Post K mg G E F m (d env S) (kWs K Q)
theorem PE.imp {X : Cx} {e : Expr} {t t' : TE} (h : ∀ σ H Q, t' σ H Q → t σ H Q) (p : PE X e t) : PE X e t' := ⟨fun pins s σ H Q I q => p.run pins s σ H Q I (h σ H Q q)⟩
theorem PT.imp {X : Cx} {e : Expr} {t t' : TT} (h : ∀ σ H Q, t' σ H Q → t σ H Q) (p : PT X e t) : PT X e t' := ⟨fun pins s σ H Q I q => p.run pins s σ H Q I (h σ H Q q)⟩
theorem PW.imp {X : Cx} {e : Expr} {t t' : TT} (h : ∀ σ H Q, t' σ H Q → t σ H Q) (p : PW X e t) : PW X e t' := ⟨fun wh pins s σ H Q I q => p.run wh pins s σ H Q I (h σ H Q q)⟩
theorem PA.imp {X : Cx} {e : List Expr} {t t' : TA} (h : ∀ σ H Q, t' σ H Q → t σ H Q) (p : PA X e t) : PA X e t' := ⟨fun pos pins s σ H Q I q => p.run pos pins s σ H Q I (h σ H Q q)⟩
theorem PK.imp {X : Cx} {e : List Keyword} {t t' : TA} (h : ∀ σ H Q, t' σ H Q → t σ H Q) (p : PK X e t) : PK X e t' := ⟨fun pos pins s σ H Q I q => p.run pos pins s σ H Q I (h σ H Q q)⟩

section
variable {X : Cx} {E : XK} {a b c x : Expr} {pos : Pos} {da db dc : Ev → Store → Out W}
abbrev RdE (X : Cx) (E : XK) (x : Expr) (d : Ev → Store → Out W) : Prop := PE X x (tE X.K X.mg E d)
abbrev RdT (X : Cx) (E : XK) (x : Expr) (d : Ev → Store → Out Bool) : Prop := PT X x (tBl X.K X.mg E d)
abbrev RdA (X : Cx) (E : XK) (x : List Expr) (d : Ev → Store → Out (List W)) : Prop := PA X x (tAr X.K X.mg E d)
/-- two values, one behind the other -/
theorem two_of {F G H : Hp} {m : List Addr} {env : Ev} {S : Store} {σ : L2.St} {K : PySem.W.Frag} {mg : Str → Option Value} {f : W → W → Store → Out W} {Q : VK} (hs : Sim K F G H m S) (he : RepE K F m env σ)
    (hp : Post K mg G E F m ((da env S).bind fun x S => (db env S).bind fun y S => f x y S) (kW K Q)) : tE K mg E da σ H fun x H1 => tE K mg E db σ H1 fun y H2 => rW2 K mg E f x y H2 Q :=
  ⟨F, G, m, env, S, hs, he, hp.bind.mono fun w S1 F1 m1 H1 l s1 hp1 v rv => ⟨F1, G, m1, env, S1, s1, he.le l, hp1.bind.mono fun w2 S2 F2 m2 H2 l2 s2 hp2 v2 rv2 => ⟨F2, G, m2, S2, w, w2, s2, rv.le l2, rv2, hp2⟩⟩⟩
theorem rd_bin {op : Operator} (ha : RdE X E a da) (hb : RdE X E b db) : RdE X E (.BinOp a op b pos) fun env S => (da env S).bind fun x S => (db env S).bind fun y S => evOp op x y S :=
  PE.imp (fun _ _ _ ⟨_, _, _, _, _, hs, he, hp⟩ => two_of hs he hp) (pe_op (opr_bin op) ha hb)
theorem rd_ix (ha : RdE X E a da) (hb : RdE X E b db) (hs : PlainIx b) : RdE X E (.Subscript a b pos) fun env S => (da env S).bind fun x S => (db env S).bind fun y S => evIx x y S :=
  PE.imp (fun _ _ _ ⟨_, _, _, _, _, hs, he, hp⟩ => two_of hs he hp) (pe_ix ixr ha hb hs)
theorem rd_var {i : Nat} {n : Str} {p : Pos} (hN : X.N[i]? = some n) (hv : Vis X.env.scope n) (hd : (n == ("__debug__" : Str)) = false) (hcd : (n == ("__classdict__" : Str)) = false) : RdE X E (.Name n p) fun env S => Out.of (getE env i) S := by
  refine PE.imp (fun σ H Q ⟨F, G, m, env, S, hs, he, hp⟩ => ?_) (pe_var hN hv hd hcd)
  obtain ⟨w, e, hp⟩ := Post.of hp
  obtain ⟨v, h, r⟩ := he.get i w (getE_of e)
  exact ⟨v, h, hp.now hs v r⟩
theorem rd_const {d : D} {v : V} (h : PE X x (tC v)) (r : ∀ F, RepD X.K F d v) : RdE X E x fun _ S => .ok (.d d) S :=
  PE.imp (fun σ H Q ⟨F, G, m, env, S, hs, he, hp⟩ => hp.now hs v (.d (r F))) h
theorem rd_neg (ha : RdE X E a da) : RdE X E (.UnaryOp .USub a pos) fun env S => (da env S).bind fun x S => match x with
    | .d (.int i) => .ok (.d (.int (-i))) S
    | _ => .bad := by
  refine PE.imp (fun σ H Q ⟨F, G, m, env, S, hs, he, hp⟩ => ?_) (pe_un un_neg ha)
  refine ⟨F, G, m, env, S, hs, he, hp.bind.mono fun w S1 F1 m1 H1 l s1 hp1 v rv => ?_⟩
  split at hp1
  · cases intOf (dOf rv)
    exact ⟨_, rfl, hp1.now s1 _ (.d (.int _))⟩
  · exact hp1.elim
theorem two_ofB {F G H : Hp} {m : List Addr} {env : Ev} {S : Store} {σ : L2.St} {K : PySem.W.Frag} {mg : Str → Option Value} {f : W → W → Store → Out Bool} {Q : V → Hp → Prop} {Q' : Bool → Hp → Prop} (hq : ∀ b H, Q' b H → Q (.bl b) H) (hs : Sim K F G H m S) (he : RepE K F m env σ)
    (hp : Post K mg G E F m ((da env S).bind fun x S => (db env S).bind fun y S => f x y S) (kB Q')) : tE K mg E da σ H fun x H1 => tE K mg E db σ H1 fun y H2 => rB2 K mg E f x y H2 Q :=
  ⟨F, G, m, env, S, hs, he, hp.bind.mono fun w S1 F1 m1 H1 l s1 hp1 v rv => ⟨F1, G, m1, env, S1, s1, he.le l, hp1.bind.mono fun w2 S2 F2 m2 H2 l2 s2 hp2 v2 rv2 => ⟨F2, G, m2, S2, w, w2, s2, rv.le l2, rv2, hp2.mono fun b S' F' m' H' _ _ q => hq b H' q⟩⟩⟩
theorem Post.bindK {K : PySem.W.Frag} {mg : Str → Option Value} {G F : Hp} {m : List Addr} {Q : VK} {o : Out Bool} (hp : Post K mg G E F m (o.bind fun k S => .ok (.d (.bl k)) S) (kW K Q)) : Post K mg G E F m o (kB fun b H => Q (.bl b) H) :=
  hp.bind.mono fun b S' F' m' H' l s q => q.now s _ (.d (.bl b))
theorem bind_assoc' {α β γ : Type} (o : Out α) (f : α → Store → Out β) (g : β → Store → Out γ) : (o.bind f).bind g = o.bind fun a S => (f a S).bind g := by cases o <;> rfl
theorem ite_bind {α β : Type} (c : Bool) (o o' : Out α) (f : α → Store → Out β) : (if c = true then o else o').bind f = if c = true then o.bind f else o'.bind f := by cases c <;> rfl
theorem rd_cmp {op : CmpOp} (hu : X.A.units + 65 < cLine) (ha : RdE X E a da) (hb : RdE X E b db) (hm : behindInMarks op b = false) : RdE X E (.Compare a [op] [b] pos) fun env S => (da env S).bind fun x S => (db env S).bind fun y S => (evCmp op x y S).bind fun k S => .ok (.d (.bl k)) S := by
  refine PE.imp (fun σ H Q ⟨F, G, m, env, S, hs, he, hp⟩ => two_ofB (Q' := fun b H => Q (.bl b) H) (fun _ _ q => q) hs he ?_) (pe_cmpR (opr_cmp op hu) ha hb hm)
  refine Post.bindK ?_
  rw [bind_assoc']
  simp only [bind_assoc']
  exact hp
theorem rt_cmp {op : CmpOp} (hu : X.A.units + 65 < cLine) (ha : RdE X E a da) (hb : RdE X E b db) (hm : behindInMarks op b = false) : RdT X E (.Compare a [op] [b] pos) fun env S => (da env S).bind fun x S => (db env S).bind fun y S => evCmp op x y S :=
  PT.imp (fun σ H Q ⟨F, G, m, env, S, hs, he, hp⟩ => two_ofB (Q' := Q) (Q := fun x H' => ∃ k, x = .bl k ∧ Q k H') (fun b H q => ⟨b, rfl, q⟩) hs he hp) (pt_cmpR (opr_cmp op hu) ha hb hm)
theorem chain_of {op op' : CmpOp} {F G H : Hp} {m : List Addr} {env : Ev} {S : Store} {σ : L2.St} {K : PySem.W.Frag} {mg : Str → Option Value} {Q : V → Hp → Prop} {Q' : Bool → Hp → Prop} (hq : ∀ b H, Q' b H → Q (.bl b) H) (hs : Sim K F G H m S) (he : RepE K F m env σ)
    (hp : Post K mg G E F m ((da env S).bind fun x S => (db env S).bind fun y S => (evCmp op x y S).bind fun k S => if k = true then (dc env S).bind fun z S => evCmp op' y z S else .ok false S) (kB Q')) :
    tChain (rB2 K mg E (evCmp op)) (rB2 K mg E (evCmp op')) (tE K mg E da) (tE K mg E db) (tE K mg E dc) σ H Q := by
  refine ⟨F, G, m, env, S, hs, he, hp.bind.mono fun w S1 F1 m1 H1 l s1 hp1 v rv => ⟨F1, G, m1, env, S1, s1, he.le l, hp1.bind.mono fun w2 S2 F2 m2 H2 l2 s2 hp2 v2 rv2 => ⟨F2, G, m2, S2, w, w2, s2, rv.le l2, rv2, ?_⟩⟩⟩
  refine hp2.bind.mono fun k S3 F3 m3 H3 l3 s3 hp3 => ⟨k, rfl, ?_⟩
  cases k with
  | false => exact hq _ _ (hp3.now s3)
  | true =>
    show tE K mg E dc σ H3 _
    exact ⟨F3, G, m3, env, S3, s3, ((he.le l).le l2).le l3, hp3.bind.mono fun w4 S4 F4 m4 H4 l4 s4 hp4 v4 rv4 => ⟨F4, G, m4, S4, w2, w4, s4, (rv2.le l3).le l4, rv4, hp4.mono fun b S' F' m' H' _ _ q => hq b H' q⟩⟩
theorem rt_chain {op op' : CmpOp} (hu : X.A.units + 65 < cLine) (ha : RdE X E a da) (hb : RdE X E b db) (hc : RdE X E c dc) (hm : lastMarks [op, op'] [b, c] = false) : RdT X E (.Compare a [op, op'] [b, c] pos) fun env S => (da env S).bind fun x S => (db env S).bind fun y S => (evCmp op x y S).bind fun k S =>
    if k = true then (dc env S).bind fun z S => evCmp op' y z S else .ok false S :=
  PT.imp (fun σ H Q ⟨F, G, m, env, S, hs, he, hp⟩ => chain_of (Q' := Q) (Q := fun x H' => ∃ k, x = .bl k ∧ Q k H') (fun b H q => ⟨b, rfl, q⟩) hs he hp) (pt_chain (opr_cmp op hu) (opr_cmp op' hu) ha hb hc hm)
theorem rd_chain {op op' : CmpOp} (hu : X.A.units + 65 < cLine) (ha : RdE X E a da) (hb : RdE X E b db) (hc : RdE X E c dc) (hm : lastMarks [op, op'] [b, c] = false) : RdE X E (.Compare a [op, op'] [b, c] pos) fun env S => (da env S).bind fun x S => (db env S).bind fun y S => (evCmp op x y S).bind fun k S =>
    if k = true then (dc env S).bind fun z S => (evCmp op' y z S).bind fun k S => .ok (.d (.bl k)) S else .ok (.d (.bl false)) S := by
  refine PE.imp (fun σ H Q ⟨F, G, m, env, S, hs, he, hp⟩ => chain_of (Q' := fun b H => Q (.bl b) H) (fun b H q => q) hs he (Post.bindK ?_)) (pe_chain (opr_cmp op hu) (opr_cmp op' hu) ha hb hc hm)
  simp only [bind_assoc', ite_bind, Out.bind_ok]
  exact hp

/-! ### arguments, displays -/
variable {es : List Expr} {ds : Ev → Store → Out (List W)}
theorem ra_nil : RdA X E [] fun _ S => .ok [] S := PA.imp (fun σ H Q ⟨F, G, m, env, S, hs, he, hp⟩ => hp.now hs [] .nil) pa_nil
theorem ra_cons (ha : RdE X E a da) (hr : RdA X E es ds) (hs : plainE a = true) : RdA X E (a :: es) fun env S => (da env S).bind fun x S => (ds env S).bind fun xs S => .ok (x :: xs) S := by
  refine PA.imp (fun σ H Q ⟨F, G, m, env, S, hs, he, hp⟩ => ?_) (pa_cons ha hr (star_plain hs es X.env))
  refine ⟨F, G, m, env, S, hs, he, hp.bind.mono fun w S1 F1 m1 H1 l s1 hp1 v rv => ⟨F1, G, m1, env, S1, s1, he.le l, hp1.bind.mono fun ws S2 F2 m2 H2 l2 s2 hp2 vs rvs => ?_⟩⟩
  exact hp2.now s2 _ (.cons (rv.le l2) rvs)
theorem rk_nil : PK X [] (tAr X.K X.mg E fun _ S => .ok [] S) := PK.imp (fun σ H Q ⟨F, G, m, env, S, hs, he, hp⟩ => hp.now hs [] .nil) pk_nil
theorem rk_cons {nm : Option Str} {kp : Pos} {kws : List Keyword} (ha : RdE X E a da) (hr : PK X kws (tAr X.K X.mg E ds)) : PK X (⟨nm, a, kp⟩ :: kws) (tAr X.K X.mg E fun env S => (da env S).bind fun x S => (ds env S).bind fun xs S => .ok (x :: xs) S) := by
  refine PK.imp (fun σ H Q ⟨F, G, m, env, S, hs, he, hp⟩ => ?_) (pk_cons ha hr)
  refine ⟨F, G, m, env, S, hs, he, hp.bind.mono fun w S1 F1 m1 H1 l s1 hp1 v rv => ⟨F1, G, m1, env, S1, s1, he.le l, hp1.bind.mono fun ws S2 F2 m2 H2 l2 s2 hp2 vs rvs => ?_⟩⟩
  exact hp2.now s2 _ (.cons (rv.le l2) rvs)
theorem rd_tup {k : Nat} (hr : RdA X E es ds) : RdE X E (.Tuple es k pos) fun env S => (ds env S).bind fun ws S => if ws.length ≤ lineS then Out.of ((pures ws).map fun ds => .d (.tup ds)) S else .bad := by
  refine PE.imp (fun σ H Q ⟨F, G, m, env, S, hs, he, hp⟩ => ?_) (pe_tup hr)
  refine ⟨F, G, m, env, S, hs, he, hp.bind.mono fun ws S1 F1 m1 H1 l s1 hp1 vs rvs => ?_⟩
  split at hp1
  · rename_i hl
    obtain ⟨w, ew, hp1⟩ := Post.of hp1
    obtain ⟨ds, ed, rfl⟩ := map_of ew
    exact ⟨by rw [← ws_length rvs]; exact Nat.le_trans hl (by decide), Post.frozen hp1 s1 fun p F' l h => .tup (.inl (.inl h)) ((RepWs.ds rvs ed).le l)⟩
  · exact hp1.elim
theorem rd_lst {k : Bool} (hr : RdA X E es ds) : RdE X E (.List es pos) fun env S => (ds env S).bind fun ws S => newL k ws S := by
  refine PE.imp (fun σ H Q ⟨F, G, m, env, S, hs, he, hp⟩ => ?_) (pe_lst hr)
  refine ⟨F, G, m, env, S, hs, he, hp.bind.mono fun ws S1 F1 m1 H1 l s1 hp1 vs rvs => ?_⟩
  exact newL_end s1 rvs hp1

/-! ### truth, and, or, not, if -/
theorem rd_not (ha : RdE X E a da) : RdE X E (.UnaryOp .Not a pos) fun env S => (da env S).bind fun x S => Out.of ((tru S x).map fun k => .d (.bl (!k))) S := by
  refine PE.imp (fun σ H Q ⟨F, G, m, env, S, hs, he, hp⟩ => ?_) (pe_notT ha)
  refine ⟨F, G, m, env, S, hs, he, hp.bind.mono fun w S1 F1 m1 H1 l s1 hp1 v rv => ?_⟩
  obtain ⟨w2, e, hp1⟩ := Post.of hp1
  obtain ⟨k, ek, rfl⟩ := map_of e
  exact ⟨k, tru_rep s1 rv ek, hp1.now s1 _ (.d (.bl _))⟩
theorem rd_bop1 {op : BoolOp} (ha : RdE X E a da) : RdE X E (.BoolOp op [a] pos) da := pe_one ha
theorem rd_and {rest : List Expr} (ha : RdE X E a da) (hb : RdE X E (.BoolOp .And (b :: rest) pos) db) : RdE X E (.BoolOp .And (a :: b :: rest) pos) fun env S => (da env S).bind fun x S => (Out.of (tru S x) S).bind fun k S => if k = true then db env S else .ok x S := by
  refine PE.imp (fun σ H Q ⟨F, G, m, env, S, hs, he, hp⟩ => ?_) (pe_andT ha hb)
  refine ⟨F, G, m, env, S, hs, he, hp.bind.mono fun w S1 F1 m1 H1 l s1 hp1 v rv => ?_⟩
  cases ek : tru S1 w with
  | none => rw [ek] at hp1; exact hp1.elim
  | some k =>
    rw [ek] at hp1
    refine ⟨k, tru_rep s1 rv ek, ?_⟩
    cases k with
    | true => exact ⟨F1, G, m1, env, S1, s1, he.le l, hp1⟩
    | false => exact hp1.now s1 v rv
theorem rd_or {rest : List Expr} (ha : RdE X E a da) (hb : RdE X E (.BoolOp .Or (b :: rest) pos) db) : RdE X E (.BoolOp .Or (a :: b :: rest) pos) fun env S => (da env S).bind fun x S => (Out.of (tru S x) S).bind fun k S => if k = false then db env S else .ok x S := by
  refine PE.imp (fun σ H Q ⟨F, G, m, env, S, hs, he, hp⟩ => ?_) (pe_orT ha hb)
  refine ⟨F, G, m, env, S, hs, he, hp.bind.mono fun w S1 F1 m1 H1 l s1 hp1 v rv => ?_⟩
  cases ek : tru S1 w with
  | none => rw [ek] at hp1; exact hp1.elim
  | some k =>
    rw [ek] at hp1
    refine ⟨k, tru_rep s1 rv ek, ?_⟩
    cases k with
    | false => exact ⟨F1, G, m1, env, S1, s1, he.le l, hp1⟩
    | true => exact hp1.now s1 v rv
variable {ta tb : Ev → Store → Out Bool}
theorem rt_val (ha : RdE X E a da) (ht : ∀ whole, isTrue a X.env whole = (do let v ← whole; standAt a.pos; holding [v] (truthy v))) : RdT X E a fun env S => (da env S).bind fun x S => Out.of (tru S x) S := by
  refine PT.imp (fun σ H Q ⟨F, G, m, env, S, hs, he, hp⟩ => ?_) (pt_truth ha ht)
  refine ⟨F, G, m, env, S, hs, he, hp.bind.mono fun w S1 F1 m1 H1 l s1 hp1 v rv => ?_⟩
  obtain ⟨k, ek, hp1⟩ := Post.of hp1
  exact ⟨k, tru_rep s1 rv ek, hp1.now s1⟩
theorem rt_not (ha : RdT X E a ta) : RdT X E (.UnaryOp .Not a pos) fun env S => (ta env S).bind fun k S => .ok (!k) S :=
  PT.imp (fun σ H Q ⟨F, G, m, env, S, hs, he, hp⟩ => ⟨F, G, m, env, S, hs, he, hp.bind.mono fun k S1 F1 m1 H1 l s1 hp1 => hp1.now s1⟩) (pt_not ha)
theorem rd_ifx (hc : RdT X E c ta) (ha : RdE X E a da) (hb : RdE X E b db) : RdE X E (.IfExp c a b pos) fun env S => (ta env S).bind fun k S => if k = true then da env S else db env S := by
  refine PE.imp (fun σ H Q ⟨F, G, m, env, S, hs, he, hp⟩ => ?_) (pe_ifExp hc ha hb)
  refine ⟨F, G, m, env, S, hs, he, hp.bind.mono fun k S1 F1 m1 H1 l s1 hp1 => ?_⟩
  cases k with
  | true => exact ⟨F1, G, m1, env, S1, s1, he.le l, hp1⟩
  | false => exact ⟨F1, G, m1, env, S1, s1, he.le l, hp1⟩
abbrev RdW (X : Cx) (E : XK) (x : Expr) (d : Ev → Store → Out Bool) : Prop := PW X x (tBl X.K X.mg E d)
theorem rw_1 (k : Bool) (ha : RdT X E a ta) : RdW X E (.BoolOp (if k then .And else .Or) [a] pos) ta := by
  cases k with
  | true => exact pw_and1 ha
  | false => exact pw_or1 ha
theorem rw_cons (k : Bool) {rest : List Expr} (ha : RdT X E a ta) (hb : RdW X E (.BoolOp (if k then .And else .Or) (b :: rest) pos) tb) : RdW X E (.BoolOp (if k then .And else .Or) (a :: b :: rest) pos) fun env S => (ta env S).bind fun x S => if x = k then tb env S else .ok x S := by
  cases k with
  | true =>
    refine PW.imp (fun σ H Q ⟨F, G, m, env, S, hs, he, hp⟩ => ?_) (pw_and ha hb)
    refine ⟨F, G, m, env, S, hs, he, hp.bind.mono fun k S1 F1 m1 H1 l s1 hp1 => ?_⟩
    cases k with
    | true => exact ⟨F1, G, m1, env, S1, s1, he.le l, hp1⟩
    | false => exact hp1.now s1
  | false =>
    refine PW.imp (fun σ H Q ⟨F, G, m, env, S, hs, he, hp⟩ => ?_) (pw_or ha hb)
    refine ⟨F, G, m, env, S, hs, he, hp.bind.mono fun k S1 F1 m1 H1 l s1 hp1 => ?_⟩
    cases k with
    | false => exact ⟨F1, G, m1, env, S1, s1, he.le l, hp1⟩
    | true => exact hp1.now s1

/-! ### calls of built-ins -/
theorem rd_callB {x : Str} {id : String} {p : Pos} {f : List W → Store → Out W} (hc : CallR X (.builtin id) (rC X.K X.mg E f)) (hg : Gl X x) (hm : X.mg x = none) (hv : bootBuiltins x = some (.builtin id)) (ha : RdA X E (a :: es) ds) (hp : (a :: es).all plainE = true)
    (hn : x ≠ "__name__") (hdb : (x == ("__debug__" : Str)) = false) : RdE X E (.Call (.Name x p) (a :: es) [] pos) fun env S => (ds env S).bind f := by
  have hp2 := hp
  rw [List.all_cons, Bool.and_eq_true] at hp2
  refine PE.imp (fun σ H Q ⟨F, G, m, env, S, hs, he, hp⟩ => ?_) (pe_callB hc hg hm hv ha hn hdb (star_plain hp2.1 es X.env) (star_any hp2.2))
  exact ⟨F, G, m, env, S, hs, he, hp.bind.mono fun ws S1 F1 m1 H1 l s1 hp1 vs rvs => ⟨F1, G, m1, S1, ws, s1, rvs, hp1⟩⟩
theorem rd_callT {x : Str} {T : String} {p : Pos} {f : List W → Store → Out W} (hc : CallR X (.type T) (rC X.K X.mg E f)) (hg : Gl X x) (hm : X.mg x = none) (hv : bootBuiltins x = some (.type T)) (ha : RdA X E (a :: es) ds) (hp : (a :: es).all plainE = true)
    (hn : x ≠ "__name__") (hdb : (x == ("__debug__" : Str)) = false) : RdE X E (.Call (.Name x p) (a :: es) [] pos) fun env S => (ds env S).bind f := by
  have hp2 := hp
  rw [List.all_cons, Bool.and_eq_true] at hp2
  refine PE.imp (fun σ H Q ⟨F, G, m, env, S, hs, he, hp⟩ => ?_) (pe_callTy hc hg hm hv ha hn hdb (star_plain hp2.1 es X.env) (star_any hp2.2))
  exact ⟨F, G, m, env, S, hs, he, hp.bind.mono fun ws S1 F1 m1 H1 l s1 hp1 vs rvs => ⟨F1, G, m1, S1, ws, s1, rvs, hp1⟩⟩
/-- isinstance(a, T) -/
theorem rd_isi {x T : Str} {t : String} {p p2 : Pos} (ht : t ∈ tyAsk) (hg : Gl X x) (hm : X.mg x = none) (hv : bootBuiltins x = some (.builtin "isinstance")) (hgT : Gl X T) (hmT : X.mg T = none) (hvT : bootBuiltins T = some (.type t)) (ha : RdE X E a da) (hp : plainE a = true)
    (hn : x ≠ "__name__") (hdb : (x == ("__debug__" : Str)) = false) (hnT : T ≠ "__name__") (hdT : (T == ("__debug__" : Str)) = false) : RdE X E (.Call (.Name x p) [a, .Name T p2] [] pos) fun env S => (da env S).bind fun w S => evBi (.isinst t) [w] S := by
  refine PE.imp (fun σ H Q ⟨F, G, m, env, S, hs, he, hp⟩ => ?_) (pe_callB (cr_isi (mg := X.mg) (E := E) ht) hg hm hv (pa_cons ha (pa_cons (pe_bltn (v := .ty t) hgT hmT hvT rfl hnT hdT) pa_nil (star_plain rfl [] X.env)) (star_plain hp _ X.env)) hn hdb (star_plain hp _ X.env) (star_any rfl))
  exact ⟨F, G, m, env, S, hs, he, hp.bind.mono fun w S1 F1 m1 H1 l s1 hp1 v rv => ⟨v, rfl, F1, G, m1, S1, [w], s1, .cons rv .nil, hp1⟩⟩
/-! ### methods -/
theorem mt_ty {K : PySem.W.Frag} {T : String} {F G H : Hp} {m : List Addr} {S : Store} {w : W} {v : V} (hT : T = "str" ∨ T = "list") (hs : Sim K F G H m S) (r : RepW K F m w v) (h : mtIs T w S = true) : tyV K T v H := by
  rcases hT with rfl | rfl
  · unfold mtIs at h
    rw [if_pos rfl] at h
    split at h
    · cases strOf (dOf r); rfl
    · cases h
  · unfold mtIs at h
    rw [if_neg (by decide)] at h
    cases e : lseq S w with
    | none => rw [e] at h; cases h
    | some xs =>
      obtain ⟨a, vs, rfl, _, hq⟩ := lseq_rep hs r e
      exact .inl ⟨rfl, vs, hq⟩
theorem few_of {es : List Expr} {pos : Pos} {env : Env} (h : es.all plainE = true) (hl : es.length < 20) : ((backTo pos (starEach es env)).all (fun x => !x.1) && (backToKw pos (keywordEach [] env)).all (fun x => x.1.isSome) && decide (es.length + ([] : List Keyword).length + (if ([] : List Keyword).isEmpty then 0 else 1) < 30)) = true := by
  have h1 : ∀ es : List Expr, es.all plainE = true → (backTo pos (starEach es env)).all (fun x => !x.1) = true := by
    intro es
    induction es with
    | nil => intro _; rfl
    | cons e r ih =>
      intro h
      rw [List.all_cons, Bool.and_eq_true] at h
      rw [star_plain h.1]
      show (true && (backTo pos (starEach r env)).all (fun x => !x.1)) = true
      rw [ih h.2]
      rfl
  rw [h1 es h, decide_eq_true (by show es.length + 0 + 0 < 30; omega)]
  rfl
theorem rd_mt {name : Str} {apos cpos : Pos} {T id : String} {f : W → List W → Store → Out W} (pa : PlainAttrs T) (slot : Slot T name id) (hty : typeOf (.builtin id) = pure (.type "method_descriptor")) (hm : MtR X id (rM X.K X.mg E f)) (hT : T = "str" ∨ T = "list") (ha : RdE X E a da) (hr : RdA X E (b :: es) ds)
    (hpl : (b :: es).all plainE = true) (hfw : (b :: es).length < 20) (hbase : attributeBase a name X.env (eval a X.env) = eval a X.env) (hline : (apos.endLine == cpos.line) = true) :
    RdE X E (.Call (.Attribute a name apos) (b :: es) [] cpos) fun env S => (da env S).bind fun w S => if mtIs T w S = true then (ds env S).bind fun ws S => f w ws S else .bad := by
  have hp2 := hpl
  rw [List.all_cons, Bool.and_eq_true] at hp2
  refine PE.imp (fun σ H Q ⟨F, G, m, env, S, hs, he, hp⟩ => ?_) (pe_bm pa slot hty hm ha hr hbase (few_of hpl hfw) hline (star_plain hp2.1 es X.env) (star_any hp2.2))
  refine ⟨F, G, m, env, S, hs, he, hp.bind.mono fun w S1 F1 m1 H1 l s1 hp1 v rv => ?_⟩
  split at hp1
  · rename_i ht
    exact ⟨mt_ty hT s1 rv ht, F1, G, m1, env, S1, s1, he.le l, hp1.bind.mono fun ws S2 F2 m2 H2 l2 s2 hp2 vs rvs => ⟨F2, G, m2, S2, w, ws, s2, rv.le l2, rvs, hp2⟩⟩
  · exact hp1.elim
theorem rd_mt0 {name : Str} {apos cpos : Pos} {T id : String} {f : W → List W → Store → Out W} (pa : PlainAttrs T) (slot : Slot T name id) (hty : typeOf (.builtin id) = pure (.type "method_descriptor")) (hm : MtR X id (rM X.K X.mg E f)) (hT : T = "str" ∨ T = "list") (ha : RdE X E a da)
    (hbase : attributeBase a name X.env (eval a X.env) = eval a X.env) (hline : (apos.endLine == cpos.line) = true) :
    RdE X E (.Call (.Attribute a name apos) [] [] cpos) fun env S => (da env S).bind fun w S => if mtIs T w S = true then f w [] S else .bad := by
  refine PE.imp (fun σ H Q ⟨F, G, m, env, S, hs, he, hp⟩ => ?_) (pe_bm0 pa slot hty hm ha hbase hline)
  refine ⟨F, G, m, env, S, hs, he, hp.bind.mono fun w S1 F1 m1 H1 l s1 hp1 v rv => ?_⟩
  split at hp1
  · rename_i ht
    exact ⟨mt_ty hT s1 rv ht, F1, G, m1, S1, w, [], s1, rv, .nil, hp1⟩
  · exact hp1.elim
/-! ### slices -/
theorem PO.imp {o : Option Expr} {t t' : TO} (h : ∀ σ H Q, t' σ H Q → t σ H Q) (p : PO X o t) : PO X o t' := ⟨fun pins s σ H Q I q => p.run pins s σ H Q I (h σ H Q q)⟩
def tPt (K : PySem.W.Frag) (mg : Str → Option Value) (E : XK) (d : Ev → Store → Out (Option Int)) : TO := fun σ H R => ∃ F G m env S, Sim K F G H m S ∧ RepE K F m env σ ∧ Post K mg G E F m (d env S) fun i _ _ _ H' => R i H'
theorem po_no : PO X none (tPt X.K X.mg E fun _ S => .ok none S) := PO.imp (fun σ H R ⟨F, G, m, env, S, hs, he, hp⟩ => hp.now hs) po_none
theorem po_yes {e : Expr} {dl : Ev → Store → Out W} (h : RdE X E e dl) : PO X (some e) (tPt X.K X.mg E fun env S => (dl env S).bind boundI) := by
  refine PO.imp (fun σ H R ⟨F, G, m, env, S, hs, he, hp⟩ => ?_) (po_some h)
  refine ⟨F, G, m, env, S, hs, he, hp.bind.mono fun w S1 F1 m1 H1 l s1 hp1 v rv => ?_⟩
  unfold boundI at hp1
  split at hp1
  · cases intOf (dOf rv)
    exact ⟨_, rfl, hp1.now s1⟩
  · exact hp1.elim
theorem rd_slice {lo hi : Option Expr} {p2 : Pos} {dl dh : Ev → Store → Out (Option Int)} (ha : RdE X E a da) (hl : PO X lo (tPt X.K X.mg E dl)) (hh : PO X hi (tPt X.K X.mg E dh)) :
    RdE X E (.Subscript a (.Slice lo hi none p2) pos) fun env S => (da env S).bind fun x S => (dl env S).bind fun y S => (dh env S).bind fun z S => evSlice x y z S := by
  refine PE.imp (fun σ H Q ⟨F, G, m, env, S, hs, he, hp⟩ => ?_) (pe_slice (slr (mg := X.mg) (E := E)) ha hl hh)
  exact ⟨F, G, m, env, S, hs, he, hp.bind.mono fun w S1 F1 m1 H1 l s1 hp1 v rv => ⟨F1, G, m1, env, S1, s1, he.le l, hp1.bind.mono fun i S2 F2 m2 H2 l2 s2 hp2 => ⟨F2, G, m2, env, S2, s2, (he.le l).le l2, hp2.bind.mono fun j S3 F3 m3 H3 l3 s3 hp3 =>
    ⟨F3, G, m3, S3, w, s3, (rv.le l2).le l3, hp3⟩⟩⟩⟩
/-! ### list(range(..)) -/
theorem ws_ints {K : PySem.W.Frag} {F : Hp} {m : List Addr} {ws : List W} {vs : List V} (r : RepWs K F m ws vs) : (∀ i, ws = [.d (.int i)] → vs = [.int i]) ∧ ∀ i j, ws = [.d (.int i), .d (.int j)] → vs = [.int i, .int j] := by
  refine ⟨fun i e => ?_, fun i j e => ?_⟩
  · subst e
    obtain ⟨v, rfl, rv⟩ := one_rep r
    rw [intOf (dOf rv)]
  · subst e
    obtain ⟨v, v', rfl, rv, rv'⟩ := two_rep r
    rw [intOf (dOf rv), intOf (dOf rv')]
end
/-! ### what is walked -/
/-- J gives these items, one behind another, whatever grows (while the list at the place stays) -/
structure GivesW (K : PySem.W.Frag) (F : Hp) (m : List Addr) (ws : List W) (k : Option Nat) (J : It) : Prop where
  run : ∃ (Gd : Hp → Prop) (Y : Nat → Hp → V → Hp → Prop), Walk J ws.length Gd Y ∧ (∀ (F' G' : Hp) (m' : List Addr) (S : Store) (H : Hp), Le F m F' m' → Sim K F' G' H m' S → keeps k ws S = true → Gd H) ∧
    ∀ (i : Nat) (w : W) (F' G' : Hp) (m' : List Addr) (S : Store) (H : Hp) (x : V) (H' : Hp), ws[i]? = some w → Le F m F' m' → Sim K F' G' H m' S → keeps k ws S = true → Y i H x H' → ∃ F2, Le F' m' F2 m' ∧ Sim K F2 G' H' m' S ∧ RepW K F2 m' w x
def tIt (K : PySem.W.Frag) (mg : Str → Option Value) (E : XK) (d : Ev → Store → Out (List W × Option Nat)) : TI := fun σ H R => ∃ F G m env S, Sim K F G H m S ∧ RepE K F m env σ ∧ Post K mg G E F m (d env S) fun p _ F' m' H' => ∀ J, GivesW K F' m' p.1 p.2 J → R J H'
theorem PI.imp {X : Cx} {tg e : Expr} {t t' : TI} (h : ∀ σ H R, t' σ H R → t σ H R) (p : PI X tg e t) : PI X tg e t' := ⟨fun pins s σ H Q I q => p.run pins s σ H Q I (h σ H Q q)⟩
section
variable {X : Cx} {E : XK} {a b x tg : Expr} {pos : Pos} {da db : Ev → Store → Out W} {es : List Expr} {ds : Ev → Store → Out (List W)}
abbrev RdI (X : Cx) (E : XK) (tg x : Expr) (d : Ev → Store → Out (List W × Option Nat)) : Prop := PI X tg x (tIt X.K X.mg E d)
theorem reps_at {K : PySem.W.Frag} {F : Hp} {m : List Addr} {ws : List W} {vs : List V} {i : Nat} {w : W} {x : V} (r : RepWs K F m ws vs) (e : ws[i]? = some w) (h : vs[i]? = some x) : RepW K F m w x := by
  obtain ⟨v, h1, rv⟩ := r.get e
  rw [h] at h1
  cases h1
  exact rv
theorem reps_any {K : PySem.W.Frag} {F : Hp} {m m' : List Addr} : ∀ {xs : List D} {vs : List V}, RepWs K F m (xs.map .d) vs → RepWs K F m' (xs.map .d) vs
  | [], _, .nil => .nil
  | x :: xs, _, .cons a r => .cons (.d (dOf a)) (reps_any r)
theorem gives_list {K : PySem.W.Frag} {F : Hp} {m : List Addr} {a : Addr} {xs : List D} {vs : List V} (hq : SqL K F a vs) (r : RepDs K F xs vs) : GivesW K F m (xs.map .d) none (Itl K a) := by
  refine ⟨fun H => SqL K H a vs, YAt vs, by rw [List.length_map, r.length]; exact walk_list, fun F' G' m' S H l s _ => sqL_le s.fr (sqL_le l.f hq), ?_⟩
  rintro i w F' G' m S H x H' ew ⟨hf, _⟩ hs _ ⟨rfl, hx⟩
  exact ⟨F', .refl, hs, reps_at (m := m) (r.le hf).ws ew hx⟩
/-- a list of the store -/
theorem gives_place {K : PySem.W.Frag} {F : Hp} {m : List Addr} {n : Nat} {a : Addr} {ws : List W} (hm : m[n]? = some a) : GivesW K F m ws (some n) (Itl K a) := by
  have at_ : ∀ {F' G' : Hp} {m' : List Addr} {S : Store} {H : Hp}, Le F m F' m' → Sim K F' G' H m' S → keeps (some n) ws S = true → ∃ vs, H a = some (.lst vs) ∧ RepWs K F' m' ws vs := by
    intro F' G' m' S H l s hk
    unfold keeps at hk
    simp only at hk
    split at hk
    · rename_i ys e
      rw [← sameWs_eq hk]
      obtain ⟨b, vs, e2, h, r⟩ := s.at_ e
      obtain ⟨q, rfl⟩ := l.m
      rw [List.getElem?_append_left (List.getElem?_eq_some_iff.mp hm).1, hm] at e2
      cases e2
      exact ⟨vs, h, r⟩
    · cases hk
  refine ⟨fun H => ∃ vs, SqL K H a vs ∧ vs.length = ws.length, fun i H x H' => (Itl K a).yld i H x H', ⟨fun i H hi ⟨vs, q, e⟩ => ⟨vs, vs[i], q, by simp [e, hi]⟩, fun H ⟨vs, q, e⟩ => ⟨vs, q, by omega⟩, fun _ _ _ _ _ _ y => y⟩, fun F' G' m' S H l s hk => ?_, ?_⟩
  · obtain ⟨vs, h, r⟩ := at_ l s hk
    exact ⟨vs, .inl (.inl h), (ws_length r).symm⟩
  · rintro i w F' G' m' S H x H' ew l s hk ⟨rfl, hx⟩
    obtain ⟨vs, h, r⟩ := at_ l s hk
    exact ⟨F', .refl, s, reps_at r ew (hx vs (.inl (.inl h)))⟩
theorem gives_tup {K : PySem.W.Frag} {F : Hp} {m : List Addr} {a : Addr} {xs : List D} {vs : List V} (hq : SqT K F a vs) (r : RepDs K F xs vs) : GivesW K F m (xs.map .d) none (Itt K a) := by
  refine ⟨fun H => SqT K H a vs, YAt vs, by rw [List.length_map, r.length]; exact walk_tup, fun F' G' m' S H l s _ => sqT_le s.fr (sqT_le l.f hq), ?_⟩
  rintro i w F' G' m S H x H' ew ⟨hf, _⟩ hs _ ⟨rfl, hx⟩
  exact ⟨F', .refl, hs, reps_at (m := m) (r.le hf).ws ew hx⟩
theorem gives_range {K : PySem.W.Frag} {F : Hp} {m : List Addr} {lo hi : Int} : GivesW K F m (rangeL lo hi) none (Itr lo (hi - lo).toNat) := by
  refine ⟨fun _ => True, YFn fun i => .int (lo + i), by unfold rangeL; rw [List.length_map, List.length_range]; exact walk_range, fun _ _ _ _ _ _ _ _ => trivial, ?_⟩
  rintro i w F' G' m S H x H' ew ⟨hf, _⟩ hs _ ⟨rfl, rfl⟩
  refine ⟨F', .refl, hs, ?_⟩
  unfold rangeL at ew
  rw [List.getElem?_map] at ew
  obtain ⟨j, e1, rfl⟩ := map_of ew
  have e2 := List.getElem?_eq_some_iff.mp e1
  obtain ⟨h, e3⟩ := e2
  rw [List.getElem_range] at e3
  subst e3
  exact .d (.int _)
/-- new pairs -/
theorem pair_new {K : PySem.W.Frag} {F G H : Hp} {m : List Addr} {S : Store} {T : Addr} {x y : V} {dx dy : D} (hs : Sim K F G H m S) (hT : H T = none) (rx : RepD K F dx x) (ry : RepD K F dy y) : ∃ F2, Le F m F2 m ∧ Sim K F2 G (upd H T (.tup [x, y])) m S ∧ RepW K F2 m (.d (.tup [dx, dy])) (.ref T) := by
  obtain ⟨s1, l⟩ := hs.froze (.tup [x, y]) hT
  exact ⟨_, l, s1, .d (.tup (.inl (.inl upd_same)) (.cons (rx.le l.f) (.cons (ry.le l.f) .nil)))⟩
theorem enumW_get : ∀ (xs : List D) (n i : Nat), (enumW n xs)[i]? = (xs[i]?).map fun x => .d (.tup [.int ((n + i : Nat) : Int), x])
  | [], _, _ => by simp [enumW]
  | x :: xs, n, 0 => by simp [enumW]
  | x :: xs, n, i + 1 => by
    show (enumW (n + 1) xs)[i]? = _
    rw [enumW_get xs (n + 1) i]
    simp only [List.getElem?_cons_succ, show n + 1 + i = n + (i + 1) by omega]
theorem enumW_length : ∀ (xs : List D) (n : Nat), (enumW n xs).length = xs.length
  | [], _ => rfl
  | _ :: xs, n => by show (enumW (n + 1) xs).length + 1 = _; rw [enumW_length xs]; rfl
theorem RepDs.get {K : PySem.W.Frag} {F : Hp} : ∀ {xs : List D} {vs : List V} {i : Nat} {x : D} {v : V}, RepDs K F xs vs → xs[i]? = some x → vs[i]? = some v → RepD K F x v
  | _, _, _, _, _, .nil, e, _ => by simp at e
  | _, _, 0, _, _, .cons a _, e, h => by simp at e h; subst e; subst h; exact a
  | _, _, i + 1, _, _, .cons _ r, e, h => RepDs.get (i := i) r (by simpa using e) (by simpa using h)
theorem gives_enum {K : PySem.W.Frag} {F : Hp} {m : List Addr} {a : Addr} {xs : List D} {vs : List V} (hq : SqL K F a vs) (r : RepDs K F xs vs) : GivesW K F m (enumW 0 xs) none (Ite K a) := by
  refine ⟨fun H => SqL K H a vs, _, by rw [enumW_length, r.length]; exact walk_enum, fun F' G' m' S H l s _ => sqL_le s.fr (sqL_le l.f hq), ?_⟩
  rintro i w F' G' m S H x H' ew ⟨hf, _⟩ hs _ ⟨T, y, z, rfl, hT, rfl, e1, e2⟩
  rw [enumW_get] at ew
  obtain ⟨d, ed, rfl⟩ := map_of ew
  cases e1
  rw [show (0 + i : Nat) = i by omega]
  exact pair_new hs hT (.int _) ((r.le hf).get ed e2)
theorem zipW_get : ∀ (xs ys : List D) (i : Nat) (w : W), (zipW xs ys)[i]? = some w → ∃ x y, xs[i]? = some x ∧ ys[i]? = some y ∧ w = .d (.tup [x, y])
  | [], _, _, _, h => by simp [zipW] at h
  | _ :: _, [], _, _, h => by simp [zipW] at h
  | x :: xs, y :: ys, 0, w, h => by simp [zipW] at h; exact ⟨x, y, rfl, rfl, h.symm⟩
  | x :: xs, y :: ys, i + 1, w, h => by
    obtain ⟨u, v, h1, h2, h3⟩ := zipW_get xs ys i w (by simpa [zipW] using h)
    exact ⟨u, v, by simpa using h1, by simpa using h2, h3⟩
theorem zipW_length : ∀ (xs ys : List D), (zipW xs ys).length = min xs.length ys.length
  | [], _ => by simp [zipW]
  | _ :: _, [] => by simp [zipW]
  | _ :: xs, _ :: ys => by simp [zipW, zipW_length xs ys]
theorem gives_zip {K : PySem.W.Frag} {F : Hp} {m : List Addr} {a b : Addr} {xs ys : List D} {us vs : List V} (ha : SqL K F a us) (hb : SqL K F b vs) (r : RepDs K F xs us) (q : RepDs K F ys vs) : GivesW K F m (zipW xs ys) none (Itz K a b) := by
  refine ⟨fun H => SqL K H a us ∧ SqL K H b vs, _, by rw [zipW_length, r.length, q.length]; exact walk_zip rfl, fun F' G' m' S H l s _ => ⟨sqL_le s.fr (sqL_le l.f ha), sqL_le s.fr (sqL_le l.f hb)⟩, ?_⟩
  rintro i w F' G' m S H x H' ew ⟨hf, _⟩ hs _ ⟨T, y, z, rfl, hT, rfl, e1, e2⟩
  obtain ⟨d1, d2, e3, e4, rfl⟩ := zipW_get _ _ _ _ ew
  exact pair_new hs hT ((r.le hf).get e3 e1) ((q.le hf).get e4 e2)
theorem walk_zipT {K : PySem.W.Frag} {a b : Addr} {xs ys : List V} {n : Nat} (hn : n = min xs.length ys.length) : Walk (RZ.ItzT K a b) n (fun H => SqT K H a xs ∧ SqT K H b ys) (YPair (fun i => xs[i]?) (fun i => ys[i]?)) := by
  subst hn
  refine ⟨fun i _ hi q => ?_, fun _ q => ⟨xs, ys, q.1, q.2, by omega⟩, fun i H v H' _ q y => ?_⟩
  · have h1 : i < xs.length := by omega
    have h2 : i < ys.length := by omega
    exact ⟨xs, ys, _, _, q.1, q.2, List.getElem?_eq_getElem h1, List.getElem?_eq_getElem h2⟩
  · obtain ⟨T, x, z, h1, h2, h3, h4, h5⟩ := y
    exact ⟨T, x, z, h1, h2, h3, h4 xs q.1, h5 ys q.2⟩
theorem gives_zipT {K : PySem.W.Frag} {F : Hp} {m : List Addr} {a b : Addr} {xs ys : List D} {us vs : List V} (ha : SqT K F a us) (hb : SqT K F b vs) (r : RepDs K F xs us) (q : RepDs K F ys vs) : GivesW K F m (zipW xs ys) none (RZ.ItzT K a b) := by
  refine ⟨fun H => SqT K H a us ∧ SqT K H b vs, _, by rw [zipW_length, r.length, q.length]; exact walk_zipT rfl, fun F' G' m' S H l s _ => ⟨sqT_le s.fr (sqT_le l.f ha), sqT_le s.fr (sqT_le l.f hb)⟩, ?_⟩
  rintro i w F' G' m S H x H' ew ⟨hf, _⟩ hs _ ⟨T, y, z, rfl, hT, rfl, e1, e2⟩
  obtain ⟨d1, d2, e3, e4, rfl⟩ := zipW_get _ _ _ _ ew
  exact pair_new hs hT ((r.le hf).get e3 e1) ((q.le hf).get e4 e2)
/-- a value that is walked: a list or a tuple -/
inductive IsSeqE : Prop
theorem data_rep {K : PySem.W.Frag} {F : Hp} {m : List Addr} {w : W} {v : V} {xs : List D} (r : RepW K F m w v) (h : dataL w = some xs) : ∃ a vs, v = .ref a ∧ SqL K F a vs ∧ RepDs K F xs vs := by
  unfold dataL at h
  split at h
  · cases h; obtain ⟨a, vs, rfl, s, q⟩ := lstOf (dOf r); exact ⟨a, vs, rfl, .inl (.inl s), q⟩
  · cases h; obtain ⟨a, vs, rfl, s, q⟩ := rolOf (dOf r); exact ⟨a, vs, rfl, s, q⟩
  · cases h
end
end DL
/-! DLi: iterables, targets, comprehensions, calls of defs. -/
namespace DL
open PySem PySem.Spec PyProof.Rows L2

section
variable {X : Cx} {E : XK} {a b x tg : Expr} {pos : Pos} {da db : Ev → Store → Out W} {es : List Expr} {ds : Ev → Store → Out (List W)}
/-- a list or a tuple: which one the value tells -/
def iSeq (K : PySem.W.Frag) (te : TE) : TI := fun σ H R => te σ H fun x H1 => ∃ a, x = .ref a ∧ ((∃ xs, SqL K H1 a xs) ∧ R (Itl K a) H1 ∨ (∃ xs, SqT K H1 a xs) ∧ R (Itt K a) H1)
theorem pi_seq {te : TE} (h : PE X x te) : PI X tg x (iSeq X.K te) := by
  refine ⟨fun pins s σ H R I hh => ?_⟩
  refine thn (h.run pins s σ H _ I hh) fun v s1 ⟨y, H1, I1, r1, a, e, q⟩ => ?_
  subst e
  have hb : PE X x (fun σ' H' Q' => σ' = σ ∧ H' = H ∧ te σ H Q') := ⟨fun pins s σ' H' Q' I' hq => by obtain ⟨rfl, rfl, hq⟩ := hq; exact h.run pins s _ _ Q' I' hq⟩
  rcases q with ⟨⟨xs, hq⟩, q⟩ | ⟨⟨xs, hq⟩, q⟩
  · cases r1
    obtain ⟨its, rv, p, hz⟩ := I1.list hq
    refine wpAny_pyIter_list p.isList ?_
    refine ⟨s1.heap.objs.size, [s1.heap.objs.size], _, _, H1, rfl, I1.kept (t' := s1.toks) fun b o e => Heap.get?_push_of_some _ e, turn_list a _, ⟨_, Heap.get?_push_size _ rfl, rfl, rfl⟩, fun b hb => ?_, q⟩
    cases List.mem_singleton.mp hb
    exact I1.fpOk (Nat.le_refl _) (I1.hok.fresh (Nat.le_refl _))
  · cases r1
    obtain ⟨its, rv, p, hz⟩ := I1.tuple hq
    refine wpAny_pyIter_tuple (show s1.heap.IsTuple a its.toArray from p) ?_
    refine ⟨s1.heap.objs.size, [s1.heap.objs.size], _, _, H1, rfl, I1.kept (t' := s1.toks) fun b o e => Heap.get?_push_of_some _ e, turn_tuple a _, ⟨_, Heap.get?_push_size _ rfl, rfl, rfl⟩, fun b hb => ?_, q⟩
    cases List.mem_singleton.mp hb
    exact I1.fpOk (Nat.le_refl _) (I1.hok.fresh (Nat.le_refl _))
theorem ri_seq (ha : RdE X E a da) : RdI X E tg a fun env S => (da env S).bind fun x S => Out.of (itemsD S x) S := by
  refine PI.imp (fun σ H R ⟨F, G, m, env, S, hs, he, hp⟩ => ?_) (pi_seq ha)
  refine ⟨F, G, m, env, S, hs, he, hp.bind.mono fun w S1 F1 m1 H1 l s1 hp1 v rv => ?_⟩
  obtain ⟨ws, e, hp1⟩ := Post.of hp1
  unfold itemsD at e
  split at e
  · cases e
    obtain ⟨a, vs, rfl, sq, r⟩ := tupOf (dOf rv)
    exact ⟨a, rfl, .inr ⟨⟨vs, sqT_le s1.fr sq⟩, hp1.now s1 _ (gives_tup sq r)⟩⟩
  · cases e
    obtain ⟨a, vs, rfl, sq, r⟩ := lstOf (dOf rv)
    exact ⟨a, rfl, .inl ⟨⟨vs, .inl (.inl (s1.fr _ _ sq))⟩, hp1.now s1 _ (gives_list (.inl (.inl sq)) r)⟩⟩
  · cases e
    obtain ⟨a, vs, rfl, sq, r⟩ := rolOf (dOf rv)
    exact ⟨a, rfl, .inl ⟨⟨vs, sqL_le s1.fr sq⟩, hp1.now s1 _ (gives_list sq r)⟩⟩
  · split at e
    · rename_i xs hx
      cases e
      obtain ⟨b, vs, e1, e2, r⟩ := s1.at_ hx
      cases rv with
      | @l n' a ea =>
        rw [e1] at ea
        cases ea
        exact ⟨b, rfl, .inl ⟨⟨vs, .inl (.inl e2)⟩, hp1.now s1 _ (gives_place e1)⟩⟩
    · cases e
  · cases e
theorem range_of {ws : List W} {xs : List W} (h : rangeOf ws = some xs) : (∃ n, ws = [.d (.int n)] ∧ rangeOk n = true ∧ xs = rangeL 0 n) ∨ ∃ a b, ws = [.d (.int a), .d (.int b)] ∧ rangeOk a = true ∧ rangeOk b = true ∧ xs = rangeL a b := by
  unfold rangeOf at h
  split at h
  · split at h
    · rename_i hk; cases h; exact .inl ⟨_, rfl, hk, rfl⟩
    · cases h
  · split at h
    · rename_i hk
      cases h
      rw [Bool.and_eq_true] at hk
      exact .inr ⟨_, _, rfl, hk.1, hk.2, rfl⟩
    · cases h
  · cases h
theorem ri_range1 {p : Pos} (hg : Gl X "range") (hm : X.mg "range" = none) (ha : RdE X E a da) (hp : plainE a = true) : RdI X E tg (.Call (.Name "range" p) [a] [] pos) fun env S => (da env S).bind fun x S => Out.of ((rangeOf [x]).map fun xs => (xs, none)) S := by
  refine PI.imp (fun σ H R ⟨F, G, m, env, S, hs, he, hp⟩ => ?_) (pi_range1 hg hm (pa_cons ha pa_nil (star_plain hp [] X.env)) (star_plain hp [] X.env))
  refine ⟨F, G, m, env, S, hs, he, hp.bind.mono fun w S1 F1 m1 H1 l s1 hp1 v rv => ?_⟩
  obtain ⟨_, e0, hq⟩ := Post.of hp1
  obtain ⟨xs, e, rfl⟩ := map_of e0
  rcases range_of e with ⟨n, e2, hk, rfl⟩ | ⟨n, n', e2, hk, hk', rfl⟩
  · cases e2
    cases intOf (dOf rv)
    have hk := of_decide_eq_true hk
    refine ⟨n, rfl, hk.1, hk.2, ?_⟩
    have q := hq.now s1 _ gives_range
    rw [show (n - 0).toNat = n.toNat by congr 1; omega] at q
    exact q
  · cases e2
theorem ri_range2 {p : Pos} (hg : Gl X "range") (hm : X.mg "range" = none) (ha : RdE X E a da) (hb : RdE X E b db) (hp : plainE a = true) (hp2 : plainE b = true) : RdI X E tg (.Call (.Name "range" p) [a, b] [] pos) fun env S => (da env S).bind fun x S => (db env S).bind fun y S => Out.of ((rangeOf [x, y]).map fun xs => (xs, none)) S := by
  refine PI.imp (fun σ H R ⟨F, G, m, env, S, hs, he, hp⟩ => ?_) (pi_range2 hg hm (pa_cons ha (pa_cons hb pa_nil (star_plain hp2 [] X.env)) (star_plain hp [b] X.env)) (by rw [star_plain hp, star_plain hp2]; rfl) (star_plain hp2 [] X.env))
  refine ⟨F, G, m, env, S, hs, he, hp.bind.mono fun w S1 F1 m1 H1 l s1 hp1 v rv => ⟨F1, G, m1, env, S1, s1, he.le l, hp1.bind.mono fun w2 S2 F2 m2 H2 l2 s2 hp2 v2 rv2 => ?_⟩⟩
  obtain ⟨_, e0, hq⟩ := Post.of hp2
  obtain ⟨xs, e, rfl⟩ := map_of e0
  rcases range_of e with ⟨n, e2, hk, rfl⟩ | ⟨n, n', e2, hk, hk', rfl⟩
  · cases e2
  · cases e2
    cases intOf (dOf rv)
    cases intOf (dOf rv2)
    have hk := of_decide_eq_true hk
    have hk' := of_decide_eq_true hk'
    exact ⟨n, n', rfl, ⟨hk.1, hk.2, hk'.1, hk'.2⟩, hq.now s2 _ gives_range⟩
theorem ri_enum {p tpos : Pos} {elts : List Expr} {kk : Nat} (hg : Gl X "enumerate") (hm : X.mg "enumerate" = none) (ha : RdE X E a da) (hp : plainE a = true) : RdI X E (.Tuple elts kk tpos) (.Call (.Name "enumerate" p) [a] [] pos) fun env S => (da env S).bind fun x S => Out.of ((dataL x).map fun xs => (enumW 0 xs, none)) S := by
  refine PI.imp (fun σ H R ⟨F, G, m, env, S, hs, he, hp⟩ => ?_) (pi_enum hg hm (pa_cons ha pa_nil (star_plain hp [] X.env)) (star_plain hp [] X.env))
  refine ⟨F, G, m, env, S, hs, he, hp.bind.mono fun w S1 F1 m1 H1 l s1 hp1 v rv => ?_⟩
  obtain ⟨ws, e, hp1⟩ := Post.of hp1
  obtain ⟨xs, e1, rfl⟩ := map_of e
  obtain ⟨c, vs, rfl, sq, r⟩ := data_rep rv e1
  exact ⟨c, vs, rfl, sqL_le s1.fr sq, hp1.now s1 _ (gives_enum sq r)⟩
theorem ri_zip {p tpos : Pos} {elts : List Expr} {kk : Nat} (hg : Gl X "zip") (hm : X.mg "zip" = none) (ha : RdE X E a da) (hb : RdE X E b db) (hp : plainE a = true) (hp2 : plainE b = true) : RdI X E (.Tuple elts kk tpos) (.Call (.Name "zip" p) [a, b] [] pos) fun env S => (da env S).bind fun x S => (db env S).bind fun y S => Out.of ((zipD x y).map fun xs => (xs, none)) S := by
  refine PI.imp (fun σ H R ⟨F, G, m, env, S, hs, he, hp⟩ => ?_) (RZ.pi_zipA hg hm (pa_cons ha (pa_cons hb pa_nil (star_plain hp2 [] X.env)) (star_plain hp [b] X.env)) (star_plain hp [b] X.env) (star_any (by rw [List.all_cons, hp2]; rfl)))
  refine ⟨F, G, m, env, S, hs, he, hp.bind.mono fun w S1 F1 m1 H1 l s1 hp1 v rv => ⟨F1, G, m1, env, S1, s1, he.le l, hp1.bind.mono fun w2 S2 F2 m2 H2 l2 s2 hp2 v2 rv2 => ?_⟩⟩
  obtain ⟨_, e0, hp2⟩ := Post.of hp2
  obtain ⟨ws, e, rfl⟩ := map_of e0
  unfold zipD at e
  split at e
  · cases e
    obtain ⟨c, us, rfl, sq, r⟩ := tupOf (dOf rv)
    obtain ⟨d, vs, rfl, sq2, r2⟩ := tupOf (dOf rv2)
    exact ⟨c, d, us, vs, rfl, .inr ⟨sqT_le s2.fr (sqT_le l2.f sq), sqT_le s2.fr sq2, hp2.now s2 _ (gives_zipT (sqT_le l2.f sq) sq2 (r.le l2.f) r2)⟩⟩
  · obtain ⟨xs, e1, e2⟩ := bind_of e
    obtain ⟨ys, e3, rfl⟩ := map_of e2
    obtain ⟨c, us, rfl, sq, r⟩ := data_rep rv e1
    obtain ⟨d, vs, rfl, sq2, r2⟩ := data_rep rv2 e3
    exact ⟨c, d, us, vs, rfl, .inl ⟨sqL_le s2.fr (sqL_le l2.f sq), sqL_le s2.fr sq2, hp2.now s2 _ (gives_zip (sqL_le l2.f sq) sq2 (r.le l2.f) r2)⟩⟩
/-- list(range(..)) -/
theorem range_reps {K : PySem.W.Frag} {F : Hp} (a b : Int) : RepDs K F ((List.range (b - a).toNat).map fun (i : Nat) => .int (a + (i : Int))) (rgV a b) := by
  unfold rgV
  generalize List.range (b - a).toNat = l
  induction l with
  | nil => exact .nil
  | cons x r ih => exact .cons (.int _) ih
theorem lrange_end {F G H : Hp} {m : List Addr} {S : Store} {k : Bool} {lo hi : Int} {Q : VK} (h1 : rangeOk lo = true) (h2 : rangeOk hi = true) (hs : Sim X.K F G H m S) (hp : Post X.K X.mg G E F m (newL k (rangeL lo hi) S) (kW X.K Q)) : RgOk lo hi ∧ ∀ q, H q = none → Q (.ref q) (upd H q (.lst (rgV lo hi))) := by
  have h1 := of_decide_eq_true h1
  have h2 := of_decide_eq_true h2
  have r : RepWs X.K F m (rangeL lo hi) (rgV lo hi) := by
    have q := (range_reps (K := X.K) (F := F) lo hi).ws (m := m)
    rw [List.map_map] at q
    exact q
  obtain ⟨q1, q2⟩ := newL_end hs r hp
  rw [rgV_length] at q1
  exact ⟨⟨h1.1, h1.2, h2.1, h2.2, Nat.le_trans q1 (by decide)⟩, q2⟩
theorem rd_lrange1 {k : Bool} {p p2 pos2 : Pos} (hc : X.calm = true) (hg : Gl X "list") (hm : X.mg "list" = none) (hg2 : Gl X "range") (hm2 : X.mg "range" = none) (ha : RdE X E a da) (hp : plainE a = true) : RdE X E (.Call (.Name "list" p) [.Call (.Name "range" p2) [a] [] pos2] [] pos) fun env S => (da env S).bind fun x S => (Out.of (rangeOf [x]) S).bind fun xs S => newL k xs S := by
  refine PE.imp (fun σ H Q ⟨F, G, m, env, S, hs, he, hp⟩ => ?_) (pe_listRg hc hg hm (prg_1 hg2 hm2 ha (star_plain hp [] X.env)) (star_plain rfl [] X.env))
  refine ⟨F, G, m, env, S, hs, he, hp.bind.mono fun w S1 F1 m1 H1 l s1 hp1 v rv => ?_⟩
  cases e : rangeOf [w] with
  | none => rw [e] at hp1; exact hp1.elim
  | some xs =>
    rw [e] at hp1
    rcases range_of e with ⟨n, e2, hk, rfl⟩ | ⟨n, n', e2, hk, hk', rfl⟩
    · cases e2
      cases intOf (dOf rv)
      exact ⟨n, rfl, lrange_end (by decide) hk s1 hp1⟩
    · cases e2
theorem rd_lrange2 {k : Bool} {p p2 pos2 : Pos} (hc : X.calm = true) (hg : Gl X "list") (hm : X.mg "list" = none) (hg2 : Gl X "range") (hm2 : X.mg "range" = none) (ha : RdE X E a da) (hb : RdE X E b db) (hp : plainE a = true) (hp2 : plainE b = true) : RdE X E (.Call (.Name "list" p) [.Call (.Name "range" p2) [a, b] [] pos2] [] pos) fun env S => (da env S).bind fun x S => (db env S).bind fun y S => (Out.of (rangeOf [x, y]) S).bind fun xs S => newL k xs S := by
  refine PE.imp (fun σ H Q ⟨F, G, m, env, S, hs, he, hp⟩ => ?_) (pe_listRg hc hg hm (prg_2 hg2 hm2 ha hb (hp := star_any (by rw [List.all_cons, hp2]; rfl)) (nb := star_plain hp2 [] X.env) (na := star_plain hp [b] X.env)) (star_plain rfl [] X.env))
  refine ⟨F, G, m, env, S, hs, he, hp.bind.mono fun w S1 F1 m1 H1 l s1 hp1 v rv => ⟨F1, G, m1, env, S1, s1, he.le l, hp1.bind.mono fun w2 S2 F2 m2 H2 l2 s2 hp2 v2 rv2 => ?_⟩⟩
  cases e : rangeOf [w, w2] with
  | none => rw [e] at hp2; exact hp2.elim
  | some xs =>
    rw [e] at hp2
    rcases range_of e with ⟨n, e2, hk, rfl⟩ | ⟨n, n', e2, hk, hk', rfl⟩
    · cases e2
    · cases e2
      cases intOf (dOf rv)
      cases intOf (dOf rv2)
      exact ⟨n, n', rfl, rfl, lrange_end hk hk' s2 hp2⟩

/-! ### targets -/
mutual
def tsl : T → List Nat
  | .name i => [i]
  | .tup ts => tsls ts
def tsls : List T → List Nat
  | [] => []
  | t :: ts => tsl t ++ tsls ts
end
/-- the slots are the same but at is -/
def Off (is : List Nat) (σ σ' : L2.St) : Prop := ∀ vs : List Nat, (∀ i ∈ is, i ∈ vs) → L2.wipe σ' vs = L2.wipe σ vs
theorem wipe_set (σ : L2.St) (i : Nat) (o : Option V) : ∀ vs : List Nat, i ∈ vs → L2.wipe (σ.set i o) vs = L2.wipe σ vs
  | [], h => by cases h
  | v :: vs, h => by
    show (L2.wipe (σ.set i o) vs).set v none = (L2.wipe σ vs).set v none
    by_cases hi : i ∈ vs
    · rw [wipe_set σ i o vs hi]
    · rcases List.mem_cons.mp h with rfl | h
      · rw [wipe_comm σ i o vs hi, List.set_set]
      · exact absurd h hi
where
  wipe_comm (σ : L2.St) (i : Nat) (o : Option V) : ∀ vs : List Nat, i ∉ vs → L2.wipe (σ.set i o) vs = (L2.wipe σ vs).set i o
  | [], _ => rfl
  | v :: vs, h => by
    show (L2.wipe (σ.set i o) vs).set v none = ((L2.wipe σ vs).set v none).set i o
    rw [wipe_comm σ i o vs (fun z => h (List.mem_cons_of_mem _ z)), List.set_comm _ _ (fun e => h (by rw [e]; exact List.mem_cons_self ..))]
theorem Off.trans {is js : List Nat} {a b c : L2.St} (h1 : Off is a b) (h2 : Off js b c) : Off (is ++ js) a c := fun vs h => by
  rw [h2 vs fun i hi => h i (List.mem_append_right _ hi), h1 vs fun i hi => h i (List.mem_append_left _ hi)]
def gT (K : PySem.W.Frag) (t : T) : TG := fun v σ H Q => ∃ (F : Hp) (m : List Addr) (env env' : Ev) (w : W), (∀ a o, F a = some o → H a = some o) ∧ RepE K F m env σ ∧ RepW K F m w v ∧ bindT t w env = some env' ∧ ∀ σ', RepE K F m env' σ' → Off (tsl t) σ σ' → Q σ' H
def gTs (K : PySem.W.Frag) (ts : List T) : TGs := fun vs σ H Q => ∃ (F : Hp) (m : List Addr) (env env' : Ev) (ws : List W), (∀ a o, F a = some o → H a = some o) ∧ RepE K F m env σ ∧ RepWs K F m ws vs ∧ bindT.bindTs ts ws env = some env' ∧ ∀ σ', RepE K F m env' σ' → Off (tsls ts) σ σ' → Q σ' H
theorem PG.imp {X : Cx} {e : Expr} {t t' : TG} (h : ∀ v σ H Q, t' v σ H Q → t v σ H Q) (p : PG X e t) : PG X e t' := ⟨fun pins s σ H v u Q I r q => p.run pins s σ H v u Q I r (h v σ H Q q)⟩
theorem PGs.imp {X : Cx} {e : List Expr} {t t' : TGs} (h : ∀ v σ H Q, t' v σ H Q → t v σ H Q) (p : PGs X e t) : PGs X e t' := ⟨fun pins s σ H v u Q I r q => p.run pins s σ H v u Q I r (h v σ H Q q)⟩
theorem rg_name {i : Nat} {n : Str} {p : Pos} (hN : X.N.Nodup) (hi : X.N[i]? = some n) (hx : Loc X.env.scope n) (hf : X.fn n = true ∨ X.env.scope.names.lookup n = some .local) : PG X (.Name n p) (gT X.K (.name i)) := by
  refine PG.imp (fun v σ H Q ⟨F, m, env, env', w, hf, he, hw, hb, q⟩ => ?_) (pg_name hN hi hx hf)
  unfold bindT at hb
  split at hb
  · cases hb
    exact q _ (he.set hw i) fun vs h => wipe_set σ i _ vs (h i (by simp [tsl]))
  · cases hb
theorem assign_star {t : Expr} (h : plainE t = true) (ts : List Expr) (env : Env) : assignEach (t :: ts) env = (false, assign t env) :: assignEach ts env := by
  cases t <;> first | rfl | cases h
theorem rgs_nil : PGs X [] (gTs X.K []) := by
  refine PGs.imp (fun vs σ H Q ⟨F, m, env, env', ws, hf, he, hw, hb, q⟩ => ?_) pgs_nil
  cases ws with
  | nil =>
    cases hw
    cases hb
    exact ⟨rfl, q σ he fun _ _ => rfl⟩
  | cons => cases hb
theorem rgs_cons {t : T} {ts : List T} (h1 : PG X a (gT X.K t)) (h2 : PGs X es (gTs X.K ts)) (hp : plainE a = true) : PGs X (a :: es) (gTs X.K (t :: ts)) := by
  refine PGs.imp (fun vs σ H Q ⟨F, m, env, env', ws, hf, he, hw, hb, q⟩ => ?_) (pgs_cons h1 h2 (by rw [assign_star hp]; rfl))
  cases ws with
  | nil => cases hb
  | cons w ws =>
    cases hw with
    | cons r rr =>
      obtain ⟨env1, e1, e2⟩ := bind_of (show (bindT t w env).bind (bindT.bindTs ts ws) = some env' from hb)
      exact ⟨_, _, rfl, F, m, env, env1, w, hf, he, r, e1, fun σ1 he1 o1 => ⟨F, m, env1, env', ws, hf, he1, rr, e2, fun σ2 he2 o2 => q σ2 he2 (o1.trans o2)⟩⟩
theorem star_none {env : Env} : ∀ {es : List Expr}, es.all plainE = true → (assignEach es env).findIdx? (·.1) = none ∧ (assignEach es env).length = es.length
  | [], _ => ⟨rfl, rfl⟩
  | e :: es, h => by
    rw [List.all_cons, Bool.and_eq_true] at h
    obtain ⟨h1, h2⟩ := star_none (env := env) h.2
    rw [assign_star h.1]
    refine ⟨?_, by rw [List.length_cons, List.length_cons, h2]⟩
    rw [List.findIdx?_cons, h1]
    rfl
theorem bindTs_len : ∀ {ts : List T} {ws : List W} {env env' : Ev}, bindT.bindTs ts ws env = some env' → ts.length = ws.length
  | [], [], _, _, _ => rfl
  | [], _ :: _, _, _, h => by cases h
  | _ :: _, [], _, _, h => by cases h
  | t :: ts, w :: ws, env, env', h => by
    obtain ⟨env1, e1, e2⟩ := bind_of (show (bindT t w env).bind (bindT.bindTs ts ws) = some env' from h)
    rw [List.length_cons, List.length_cons, bindTs_len e2]
theorem rg_tup {ts : List T} {k : Nat} (hc : X.calm = true) (h : PGs X es (gTs X.K ts)) (hp : es.all plainE = true) (hl : ts.length = es.length) : PG X (.Tuple es k pos) (gT X.K (.tup ts)) := by
  obtain ⟨h1, h2⟩ := star_none (env := X.env) hp
  refine PG.imp (fun v σ H Q ⟨F, m, env, env', w, hf, he, hw, hb, q⟩ => ?_) (pg_tup hc h h2 h1)
  unfold bindT at hb
  split at hb
  · rename_i xs
    obtain ⟨c, vs, rfl, sq, r⟩ := tupOf (dOf hw)
    refine ⟨c, vs, rfl, sqT_le hf sq, ?_, F, m, env, env', _, hf, he, r.ws, hb, q⟩
    have e1 := bindTs_len hb
    rw [List.length_map, r.length] at e1
    rw [← hl, e1]
  · cases hb
end
end DL
/-! DLj: comprehensions. -/
namespace DL
open PySem PySem.Spec PyProof.Rows L2

section
variable {K : PySem.W.Frag} {mg : Str → Option Value} {G F : Hp} {E : XK} {m : List Addr} {α β : Type}
/-- in a block nothing is raised, and more may be kept -/
theorem Post.inner {G' : Hp} {E' : XK} {o : Out α} {k : α → Store → Hp → List Addr → Hp → Prop} (h : Post K mg G E F m o.noErr k) (hg : ∀ F' m' H' S, Sim K F' G' H' m' S → Sim K F' G H' m' S) : Post K mg G' E' F m o fun a S F' m' H' => k a S F' m' H' := by
  cases o with
  | ok a S => exact fun F' m' H' l s => h F' m' H' l (hg _ _ _ _ s)
  | err c x S => exact h.elim
  | bad => exact h
theorem compL_nil (ok : Store → Bool) (f : W → Store → Out (Option W)) (S : Store) : compL ok f [] S = if ok S = true then .ok [] S else .bad := rfl
theorem compL_cons (ok : Store → Bool) (f : W → Store → Out (Option W)) (x : W) (xs : List W) (S : Store) : compL ok f (x :: xs) S = if ok S = true then (f x S).bind fun y S => (compL ok f xs S).bind fun ys S => match y with
    | some y => .ok (y :: ys) S
    | none => .ok ys S else .bad := rfl
theorem compL_ok {K : PySem.W.Frag} {mg : Str → Option Value} {G F : Hp} {E : XK} {m : List Addr} {ok : Store → Bool} {f : W → Store → Out (Option W)} {xs : List W} {S : Store} {g : List W → Store → Out W} {Q : VK} (h : Post K mg G E F m ((compL ok f xs S).bind g) (kW K Q)) : ok S = true := by
  cases e : ok S with
  | true => rfl
  | false =>
    cases xs with
    | nil => rw [compL_nil, e] at h; exact h.elim
    | cons x xs => rw [compL_cons, e] at h; exact h.elim
end
section
variable {X : Cx} {E : XK} {elt tg iter : Expr} {ifs : List Expr} {scope : Scope} {pos : Pos} {di : Ev → Store → Out (List W × Option Nat)} {dc : Ev → Store → Out Bool} {de : Ev → Store → Out W} {t : T} {own : List Nat} {ownP : List (Str × Nat)}
/-- how far a comprehension is -/
def CompAt (K : PySem.W.Frag) (mg : Str → Option Value) (E : XK) (G F0 : Hp) (m0 : List Addr) (b : Bool) (ok : Store → Bool) (f : W → Store → Out (Option W)) (ws : List W) (D : Addr) (Q : VK) (i : Nat) (H : Hp) : Prop :=
  ∃ (F : Hp) (m : List Addr) (S : Store) (acc : List W) (accV : List V), Le F0 m0 F m ∧ Sim K F (upd G D (.lst accV)) H m S ∧ RepWs K F m acc accV ∧ accV.length ≤ i ∧
    Post K mg G E F m ((compL ok f (ws.drop i) S).bind fun ys S => newL b (acc ++ ys) S) (kW K Q)
theorem comp_end {K : PySem.W.Frag} {mg : Str → Option Value} {G F0 : Hp} {m0 : List Addr} {b : Bool} {ok : Store → Bool} {f : W → Store → Out (Option W)} {ws : List W} {D : Addr} {Q : VK} {H : Hp} (hD : G D = none) (h : CompAt K mg E G F0 m0 b ok f ws D Q ws.length H) : Q (.ref D) H := by
  obtain ⟨F, m, S, acc, accV, l, s, r, _, hp⟩ := h
  rw [List.drop_length] at hp
  have hk := compL_ok hp
  rw [compL_nil, hk, if_pos rfl] at hp
  have hp : Post K mg G E F m (newL b (acc ++ []) S) (kW K Q) := hp
  rw [List.append_nil] at hp
  unfold newL at hp
  split at hp
  · split at hp
    · obtain ⟨s1, l1⟩ := s.gM hD r
      exact hp _ _ _ l1 s1 _ (.l (by rw [← s.len, List.getElem?_append_right (Nat.le_refl _)]; simp))
    · obtain ⟨w, ew, hp⟩ := Post.of hp
      obtain ⟨ds, ed, rfl⟩ := map_of ew
      obtain ⟨s1, l1⟩ := s.gF hD
      exact hp _ _ _ l1 s1 _ (.d (.lst upd_same ((RepWs.ds r ed).le l1.f)))
  · exact hp.elim
theorem wipe_wipe (σ : L2.St) (vs : List Nat) : ∀ us : List Nat, (∀ i ∈ us, i ∈ vs) → L2.wipe (L2.wipe σ us) vs = L2.wipe σ vs
  | [], _ => rfl
  | u :: us, h => by
    show L2.wipe ((L2.wipe σ us).set u none) vs = _
    rw [wipe_set _ u none vs (h u (List.mem_cons_self ..)), wipe_wipe σ vs us fun i hi => h i (List.mem_cons_of_mem _ hi)]
theorem lc_imp {b : Bool} (hsl : ∀ i ∈ tsl t, i ∈ own) : ∀ σ H Q, tE X.K X.mg E (fun env S => (di env S).bind fun p S => if p.1.length < lineS then (compL (keeps p.2 p.1) (fun x S => (Out.of (bindT t x (wipeE env own)) S).bind fun env1 S => (dc env1 S).noErr.bind fun k S =>
      if k = true then (de env1 S).noErr.bind fun y S => .ok (some y) S else .ok none S) p.1 S).bind fun ys S => newL b ys S else .bad) σ H Q →
      tLc (tIt X.K X.mg E di) (gT X.K t) (tBl X.K X.mg E0 dc) (tE X.K X.mg E0 de) own σ H Q := by
  intro σ H Q ⟨F, G, m, env, S, hs, hr, hp⟩
  refine ⟨F, G, m, env, S, hs, hr, hp.bind.mono fun pw S1 F1 m1 H1 l s1 hp1 J hJ => ?_⟩
  obtain ⟨ws, kk⟩ := pw
  simp only at hp1 hJ
  intro D hD
  obtain ⟨Gd, Y, hw, hgd, hy⟩ := hJ.run
  obtain ⟨fD, gD, mD⟩ := s1.free hD
  split at hp1
  case isFalse => exact hp1.elim
  rename_i hlen
  have hr1 := hr.le l
  generalize hf : (fun (x : W) (S : Store) => (Out.of (bindT t x (wipeE env own)) S).bind fun env1 S => (dc env1 S).noErr.bind fun k S =>
      if k = true then (de env1 S).noErr.bind fun y S => .ok (some y) S else .ok none S) = f at hp1
  have hfx : ∀ x S, f x S = (Out.of (bindT t x (wipeE env own)) S).bind fun env1 S => (dc env1 S).noErr.bind fun k S =>
      if k = true then (de env1 S).noErr.bind fun y S => .ok (some y) S else .ok none S := fun x S => by rw [← hf]
  have start : Sim X.K F1 (upd G D (.lst [])) (upd H1 D (.lst [])) m1 S1 := by
    refine ⟨fun a u e => up_le hD _ _ (s1.fr a u e), fun a u e => ?_, fun a u e => ?_, fun a ha => ?_, fun a ha => ?_, s1.nd, s1.len, fun n u a e1 e2 => ?_⟩
    · by_cases q : a = D
      · subst q; rw [upd_same] at e ⊢; exact e
      · rw [upd_ne q] at e ⊢; exact s1.gr a u e
    · by_cases q : a = D
      · subst q; exact fD
      · rw [upd_ne q] at e; exact s1.dis a u e
    · obtain ⟨u, e⟩ := s1.mh a ha; exact ⟨u, up_le hD _ _ e⟩
    · rw [upd_ne (by rintro rfl; exact mD ha)]; exact s1.mg a ha
    · have ne : a ≠ D := by rintro rfl; exact mD (List.mem_of_getElem? e2)
      have q := s1.ob n u a e1 e2
      cases u with
      | lst xs => obtain ⟨vs, h1, h2, h3, r⟩ := q; exact ⟨vs, up_le hD _ _ h1, h2, by rw [upd_ne ne]; exact h3, r⟩
      | dead => trivial
  refine lc_it hw (CompAt X.K X.mg E G F1 m1 b (keeps kk ws) f ws D Q) ⟨F1, m1, S1, [], [], .refl, start, .nil, Nat.le_refl _, hp1⟩ (fun i H' hi ⟨F2, m2, S2, acc, accV, l2, s2, _, _, hp2⟩ => hgd F2 _ m2 S2 H' l2 s2 (compL_ok hp2)) (fun i x H2 H3 hi hpv hyv => ?_) (fun H' h => comp_end gD h)
  obtain ⟨F2, m2, S2, acc, accV, l2, s2, ra, hal, hp2⟩ := hpv
  have ew : ws[i]? = some ws[i] := List.getElem?_eq_getElem hi
  have hk := compL_ok hp2
  obtain ⟨F3, l3, s3, rw3⟩ := hy i _ F2 _ m2 S2 H2 x H3 ew l2 s2 hk hyv
  rw [List.drop_eq_getElem_cons hi, compL_cons, hk, if_pos rfl, hfx] at hp2
  simp only [bind_assoc'] at hp2
  cases hb : bindT t ws[i] (wipeE env own) with
  | none =>
    rw [hb] at hp2
    exact hp2.elim
  | some env1 =>
    rw [hb] at hp2
    simp only [Out.of_some, Out.bind_ok] at hp2
    have hle : Le F m F3 m2 := (l.trans l2).trans l3
    refine ⟨F3, m2, wipeE env own, env1, ws[i], s3.fr, (hr.le hle).wipe own, rw3, hb, fun σ2 he2 o2 => ⟨(o2 own hsl).trans (wipe_wipe σ own own fun _ h => h), ?_⟩⟩
    refine ⟨F3, upd G D (.lst accV), m2, env1, S2, s3, he2, Post.mono (Post.inner (G' := upd G D (.lst accV)) (E' := E0) (Post.le hp2 l3).bind fun F' m' H' S s => s.unG gD) fun k S4 F4 m4 H4 l4 s4 hp4 => ?_⟩
    cases k with
    | false =>
      refine ⟨F4, m4, S4, acc, accV, (l2.trans l3).trans l4, s4, RepWs.le (l3.trans l4) ra, by omega, ?_⟩
      have hp4 : Post X.K X.mg G E F4 m4 ((compL (keeps kk ws) f (ws.drop (i + 1)) S4).bind fun ys S => (Out.ok ys S).bind fun ys S => newL b (acc ++ ys) S) (kW X.K Q) := by
        have hp5 := hp4
        simp only [Bool.false_eq_true, if_false, Out.bind_ok] at hp5
        exact hp5
      exact hp4
    | true =>
      show tE X.K X.mg E0 de σ2 H4 _
      have hp5 : Post X.K X.mg G E F4 m4 ((de env1 S4).noErr.bind fun y S => (compL (keeps kk ws) f (ws.drop (i + 1)) S).bind fun ys S => newL b (acc ++ (y :: ys)) S) (kW X.K Q) := by
        have hp5 := hp4
        simp only [if_true, bind_assoc', Out.bind_ok] at hp5
        exact hp5
      refine ⟨F4, upd G D (.lst accV), m4, env1, S4, s4, he2.le l4, Post.mono (Post.inner (G' := upd G D (.lst accV)) (E' := E0) hp5.bind fun F' m' H' S s => s.unG gD) fun y S5 F5 m5 H5 l5 s5 hp6 v rv => ?_⟩
      have ra5 := RepWs.le ((l3.trans l4).trans l5) ra
      have hD5 : H5 D = some (.lst accV) := s5.gr _ _ upd_same
      refine ⟨accV, hD5, Nat.lt_of_lt_of_le (show accV.length < lineS by omega) (by decide), F5, m5, S5, acc ++ [y], accV ++ [v], ((l2.trans l3).trans l4).trans l5, ?_, RepWs.append ra5 (.cons rv .nil), by rw [List.length_append]; simp; omega, ?_⟩
      · have s6 := s5.unG gD
        have fD5 : F5 D = none := s5.dis D _ upd_same
        have nD5 : ∀ a ∈ m5, a ≠ D := fun a ha e => by subst e; have := s5.mg a ha; rw [upd_same] at this; cases this
        refine ⟨fun a u e => ?_, fun a u e => ?_, fun a u e => ?_, fun a ha => ?_, fun a ha => ?_, s6.nd, s6.len, fun n u a e1 e2 => ?_⟩
        · rw [upd_ne (by rintro rfl; rw [fD5] at e; cases e)]; exact s6.fr a u e
        · by_cases q : a = D
          · subst q; rw [upd_same] at e ⊢; exact e
          · rw [upd_ne q] at e ⊢; exact s6.gr a u e
        · by_cases q : a = D
          · subst q; exact fD5
          · rw [upd_ne q] at e; exact s6.dis a u e
        · rw [upd_ne (nD5 a ha)]; exact s6.mh a ha
        · rw [upd_ne (nD5 a ha)]; exact s6.mg a ha
        · have ne := nD5 a (List.mem_of_getElem? e2)
          have q := s6.ob n u a e1 e2
          cases u with
          | lst xs => obtain ⟨vs, h1, h2, h3, r⟩ := q; exact ⟨vs, by rw [upd_ne ne]; exact h1, h2, by rw [upd_ne ne]; exact h3, r⟩
          | dead => trivial
      · simp only [List.append_assoc, List.cons_append, List.nil_append]
        exact hp6
theorem rd_comp {b : Bool} (hc : X.calm = true) (hN : X.N.Nodup) (hi : RdI X E tg iter di) (ok : BlkOk X.N X.env.scope scope ownP) (hown : ownP.map (·.2) = own) (hsl : ∀ i ∈ tsl t, i ∈ own)
    (hg : ∀ (s : Shared) (H : Hp) (C : Addr) (cl : List (Str × Addr)) (fp : List Addr), PG (X.blk s H scope (compEnvC scope cl C X.env) fp) tg (gT X.K t))
    (ht : ∀ (s : Shared) (H : Hp) (C : Addr) (cl : List (Str × Addr)) (fp : List Addr), PTs (X.blk s H scope (compEnvC scope cl C X.env) fp) ifs (tBl X.K X.mg E0 dc))
    (he : ∀ (s : Shared) (H : Hp) (C : Addr) (cl : List (Str × Addr)) (fp : List Addr), PE (X.blk s H scope (compEnvC scope cl C X.env) fp) elt (tE X.K X.mg E0 de)) (hs : ∀ x, foldedSetIterable iter X.env x = pure x) :
    RdE X E (.ListComp elt [⟨tg, iter, ifs, 0⟩] scope pos) fun env S => (di env S).bind fun p S => if p.1.length < lineS then (compL (keeps p.2 p.1) (fun x S => (Out.of (bindT t x (wipeE env own)) S).bind fun env1 S => (dc env1 S).noErr.bind fun k S =>
      if k = true then (de env1 S).noErr.bind fun y S => .ok (some y) S else .ok none S) p.1 S).bind fun ys S => newL b ys S else .bad := by
  subst hown
  exact PE.imp (lc_imp hsl) (pe_lc hc hN hi ok hg ht he hs)
end
end DL
/-! DLk: calls of defs. -/
namespace DL
open PySem PySem.Spec PyProof.Rows L2

theorem mem_locs : ∀ {ws : List W} {n : Nat}, n ∈ locsOf ws ↔ W.l n ∈ ws
  | [], n => by simp [locsOf]
  | .d x :: ws, n => by
    show n ∈ locsOf ws ↔ _
    rw [mem_locs]
    simp
  | .l k :: ws, n => by
    show n ∈ k :: (locsOf ws).filter (· ≠ k) ↔ _
    rw [List.mem_cons, List.mem_filter, mem_locs, List.mem_cons]
    by_cases h : n = k
    · simp [h]
    · simp [h]
theorem nodup_locs : ∀ ws : List W, (locsOf ws).Nodup
  | [] => .nil
  | .d x :: ws => nodup_locs ws
  | .l k :: ws => by
    show (k :: (locsOf ws).filter (· ≠ k)).Nodup
    exact List.nodup_cons.mpr ⟨by simp [List.mem_filter], (nodup_locs ws).filter _⟩
theorem getAll_of : ∀ {S : Store} {ls : List Nat} {os : List Ob}, getAll S ls = some os → os.length = ls.length ∧ ∀ (j : Nat) (n : Nat), ls[j]? = some n → ∃ o, S[n]? = some o ∧ flatO o = true ∧ os[j]? = some o
  | _, [], _, h => by cases h; exact ⟨rfl, fun j n e => by simp at e⟩
  | S, n :: r, os, h => by
    unfold getAll at h
    split at h
    · rename_i o ho
      split at h
      · rename_i hf
        obtain ⟨os', e, rfl⟩ := map_of h
        obtain ⟨h1, h2⟩ := getAll_of e
        refine ⟨by rw [List.length_cons, List.length_cons, h1], fun j k ej => ?_⟩
        cases j with
        | zero => simp at ej; subst ej; exact ⟨o, ho, hf, rfl⟩
        | succ j => simpa using h2 j k (by simpa using ej)
      · cases h
    · cases h
theorem putAll_nil1 (os : List Ob) (S : Store) : putAll S [] os = S := by unfold putAll; rfl
theorem putAll_nil2 (ls : List Nat) (S : Store) : putAll S ls [] = S := by unfold putAll; cases ls <;> rfl
theorem putAll_cons (n : Nat) (r : List Nat) (o : Ob) (os : List Ob) (S : Store) : putAll S (n :: r) (o :: os) = putAll (S.set n o) r os := by rw [putAll]
theorem putAll_len : ∀ (ls : List Nat) (os : List Ob) (S : Store), (putAll S ls os).length = S.length
  | [], _, _ => by rw [putAll_nil1]
  | _ :: _, [], _ => by rw [putAll_nil2]
  | n :: r, o :: os, S => by
    rw [putAll_cons, putAll_len r os, List.length_set]
theorem putAll_off : ∀ (ls : List Nat) (os : List Ob) (S : Store) (k : Nat), k ∉ ls → (putAll S ls os)[k]? = S[k]?
  | [], _, _, _, _ => by rw [putAll_nil1]
  | _ :: _, [], _, _, _ => by rw [putAll_nil2]
  | n :: r, o :: os, S, k, h => by
    rw [putAll_cons, putAll_off r os _ k (fun z => h (List.mem_cons_of_mem _ z)), List.getElem?_set_ne (fun e => h (by rw [e]; exact List.mem_cons_self ..))]
theorem putAll_at : ∀ (ls : List Nat) (os : List Ob) (S : Store) (j k : Nat) (o : Ob), ls.Nodup → ls[j]? = some k → os[j]? = some o → k < S.length → (putAll S ls os)[k]? = some o
  | [], _, _, _, _, _, _, h, _, _ => by simp at h
  | _ :: _, [], _, _, _, _, _, _, h, _ => by simp at h
  | n :: r, o' :: os, S, 0, k, o, nd, h1, h2, hk => by
    simp at h1 h2
    subst h1 h2
    rw [putAll_cons, putAll_off r os _ n (List.nodup_cons.mp nd).1, List.getElem?_set_self hk]
  | n :: r, o' :: os, S, j + 1, k, o, nd, h1, h2, hk => by
    rw [putAll_cons]
    exact putAll_at r os _ j k o (List.nodup_cons.mp nd).2 (by simpa using h1) (by simpa using h2) (by rw [List.length_set]; exact hk)

section
variable {K : PySem.W.Frag} {mg : Str → Option Value} {F G H : Hp} {m : List Addr} {S : Store} {E : XK}
/-- where the handed places lie -/
def subM (m : List Addr) (ls : List Nat) : List Addr := ls.filterMap fun n => m[n]?
theorem subM_get {m : List Addr} : ∀ {ls : List Nat} {j n : Nat} {a : Addr}, (∀ n ∈ ls, n < m.length) → ls[j]? = some n → m[n]? = some a → (subM m ls)[j]? = some a
  | [], _, _, _, _, h, _ => by simp at h
  | k :: r, j, n, a, hb, h, e => by
    obtain ⟨z, hk⟩ : ∃ z, m[k]? = some z := ⟨_, List.getElem?_eq_getElem (hb k (List.mem_cons_self ..))⟩
    unfold subM
    rw [List.filterMap_cons, hk]
    cases j with
    | zero => simp at h; subst h; rw [hk] at e; simpa using e
    | succ j =>
      show (subM m r)[j]? = some a
      exact subM_get (ls := r) (fun n hn => hb n (List.mem_cons_of_mem _ hn)) (by simpa using h) e
theorem subM_len {m : List Addr} : ∀ {ls : List Nat}, (∀ n ∈ ls, n < m.length) → (subM m ls).length = ls.length
  | [], _ => rfl
  | k :: r, hb => by
    obtain ⟨z, hk⟩ : ∃ z, m[k]? = some z := ⟨_, List.getElem?_eq_getElem (hb k (List.mem_cons_self ..))⟩
    unfold subM
    rw [List.filterMap_cons, hk]
    show ((subM m r).length + 1) = _
    rw [subM_len fun n hn => hb n (List.mem_cons_of_mem _ hn)]
    rfl
theorem subM_mem {m : List Addr} {ls : List Nat} {a : Addr} (h : a ∈ subM m ls) : ∃ n ∈ ls, m[n]? = some a := by
  obtain ⟨n, hn, e⟩ := List.mem_filterMap.mp h
  exact ⟨n, hn, e⟩
theorem subM_nodup {m : List Addr} : ∀ {ls : List Nat}, m.Nodup → ls.Nodup → (∀ n ∈ ls, n < m.length) → (subM m ls).Nodup
  | [], _, _, _ => .nil
  | k :: r, nd, nl, hb => by
    obtain ⟨z, hk⟩ : ∃ z, m[k]? = some z := ⟨_, List.getElem?_eq_getElem (hb k (List.mem_cons_self ..))⟩
    unfold subM
    rw [List.filterMap_cons, hk]
    refine List.nodup_cons.mpr ⟨fun hm => ?_, subM_nodup nd (List.nodup_cons.mp nl).2 fun n hn => hb n (List.mem_cons_of_mem _ hn)⟩
    obtain ⟨n, hn, e⟩ := subM_mem hm
    have := nodup_get nd hk e
    subst this
    exact (List.nodup_cons.mp nl).1 hn
theorem flat_reps {F : Hp} {m m' : List Addr} : ∀ {xs : List W} {vs : List V}, xs.all isD = true → RepWs K F m xs vs → RepWs K F m' xs vs
  | [], _, _, .nil => .nil
  | x :: xs, _, h, .cons a r => by
    rw [List.all_cons, Bool.and_eq_true] at h
    cases a with
    | d a => exact .cons (.d a) (flat_reps h.2 r)
    | l e => exact absurd h.1 Bool.false_ne_true
/-- the callee's view -/
def subG (F G H : Hp) (m : List Addr) (ls : List Nat) : Hp := fun a => if (decide (a ∈ m) && !decide (a ∈ subM m ls) && (F a).isNone) = true then H a else G a
theorem subG_yes {ls : List Nat} {a : Addr} (h1 : a ∈ m) (h2 : a ∉ subM m ls) (h3 : F a = none) : subG F G H m ls a = H a := by
  unfold subG
  rw [if_pos (by simp [h1, h2, h3])]
theorem subG_no {ls : List Nat} {a : Addr} (h : a ∉ m ∨ a ∈ subM m ls ∨ F a ≠ none) : subG F G H m ls a = G a := by
  unfold subG
  rw [if_neg]
  intro z
  rw [Bool.and_eq_true, Bool.and_eq_true] at z
  obtain ⟨⟨z1, z2⟩, z3⟩ := z
  rcases h with h | h | h
  · exact h (of_decide_eq_true z1)
  · rw [decide_eq_true h] at z2; cases z2
  · exact h (by simpa using z3)
theorem subG_cases (ls : List Nat) (a : Addr) : (a ∈ m ∧ a ∉ subM m ls ∧ F a = none ∧ subG F G H m ls a = H a) ∨ subG F G H m ls a = G a := by
  by_cases h1 : a ∈ m
  · by_cases h2 : a ∈ subM m ls
    · exact .inr (subG_no (.inr (.inl h2)))
    · by_cases h3 : F a = none
      · exact .inl ⟨h1, h2, h3, subG_yes h1 h2 h3⟩
      · exact .inr (subG_no (.inr (.inr h3)))
  · exact .inr (subG_no (.inl h1))
theorem Sim.sub (s : Sim K F G H m S) {ls : List Nat} {os : List Ob} (nl : ls.Nodup) (e : getAll S ls = some os) : Sim K F (subG F G H m ls) H (subM m ls) os := by
  obtain ⟨h1, h2⟩ := getAll_of e
  have hb : ∀ n ∈ ls, n < m.length := fun n hn => by
    obtain ⟨j, hj, ej⟩ := List.mem_iff_getElem.mp hn
    obtain ⟨o, eo, _⟩ := h2 j n (by rw [List.getElem?_eq_getElem hj, ej])
    rw [s.len]
    exact (List.getElem?_eq_some_iff.mp eo).1
  have sm : ∀ a ∈ subM m ls, a ∈ m := fun a ha => by
    obtain ⟨n, _, q⟩ := subM_mem ha
    exact List.mem_of_getElem? q
  refine ⟨s.fr, fun a u q => ?_, fun a u q => ?_, fun a ha => s.mh a (sm a ha), fun a ha => ?_, subM_nodup s.nd nl hb, by rw [subM_len hb, h1], fun j o a e1 e2 => ?_⟩
  · rcases subG_cases (F := F) (G := G) (H := H) (m := m) ls a with ⟨_, _, _, z⟩ | z
    · rw [z] at q; exact q
    · rw [z] at q; exact s.gr a u q
  · rcases subG_cases (F := F) (G := G) (H := H) (m := m) ls a with ⟨_, _, z, _⟩ | z
    · exact z
    · rw [z] at q; exact s.dis a u q
  · rw [subG_no (.inr (.inl ha))]
    exact s.mg a (sm a ha)
  · have hj : j < ls.length := by rw [← h1]; exact (List.getElem?_eq_some_iff.mp e1).1
    obtain ⟨o', eo, fo, eo2⟩ := h2 j ls[j] (List.getElem?_eq_getElem hj)
    rw [e1] at eo2
    cases eo2
    have hn : ls[j] < m.length := hb _ (List.getElem_mem hj)
    have ea := subM_get hb (List.getElem?_eq_getElem hj) (List.getElem?_eq_getElem hn)
    rw [e2] at ea
    have ha : a = m[ls[j]] := Option.some.inj ea
    have q := s.ob _ _ a eo (by rw [ha]; exact List.getElem?_eq_getElem hn)
    cases o with
    | dead => trivial
    | lst xs =>
      obtain ⟨vs, q1, q2, q3, r⟩ := q
      exact ⟨vs, q1, q2, by rw [subG_no (.inr (.inl (List.mem_of_getElem? e2)))]; exact q3, flat_reps fo r⟩
theorem reix_rep {ls : List Nat} (hb : ∀ n ∈ ls, n < m.length) {w : W} {v : V} (r : RepW K F m w v) (h : ∀ n, w = .l n → n ∈ ls) : RepW K F (subM m ls) (reix ls w) v := by
  cases r with
  | d r => exact .d r
  | @l n a e =>
    have hn := h n rfl
    refine .l (subM_get hb (j := ls.idxOf n) (n := n) ?_ e)
    rw [List.getElem?_eq_getElem (List.idxOf_lt_length_of_mem hn), List.getElem_idxOf]
theorem reix_reps {ls : List Nat} (hb : ∀ n ∈ ls, n < m.length) : ∀ {ws : List W} {vs : List V}, RepWs K F m ws vs → (∀ n, W.l n ∈ ws → n ∈ ls) → RepWs K F (subM m ls) (ws.map (reix ls)) vs
  | _, _, .nil, _ => .nil
  | _, _, .cons a r, h => .cons (reix_rep hb a fun n e => h n (by rw [e]; exact List.mem_cons_self ..)) (reix_reps hb r fun n hn => h n (List.mem_cons_of_mem _ hn))
/-- back from the callee -/
theorem Sim.back {F2 H2 : Hp} {m2 : List Addr} {S2 : Store} (s : Sim K F G H m S) {ls : List Nat} {os : List Ob} (nl : ls.Nodup) (e : getAll S ls = some os) (l : Le F (subM m ls) F2 m2) (s2 : Sim K F2 (subG F G H m ls) H2 m2 S2)
    (hf : (S2.take os.length).all flatO = true) (hl : os.length ≤ S2.length) : Sim K F2 G H2 m (putAll S ls (S2.take os.length)) ∧ Le F m F2 m := by
  obtain ⟨h1, h2⟩ := getAll_of e
  have hb : ∀ n ∈ ls, n < m.length := fun n hn => by
    obtain ⟨j, hj, ej⟩ := List.mem_iff_getElem.mp hn
    obtain ⟨o, eo, _⟩ := h2 j n (by rw [List.getElem?_eq_getElem hj, ej])
    rw [s.len]
    exact (List.getElem?_eq_some_iff.mp eo).1
  have sm : ∀ a ∈ subM m ls, a ∈ m := fun a ha => by
    obtain ⟨n, _, q⟩ := subM_mem ha
    exact List.mem_of_getElem? q
  have gle : ∀ a u, G a = some u → subG F G H m ls a = some u := fun a u q => by
    by_cases h : a ∈ m
    · rw [s.mg a h] at q; cases q
    · rw [subG_no (.inl h)]; exact q
  have keep : ∀ a ∈ m, a ∉ subM m ls → F a = none → H2 a = H a ∧ F2 a = none := fun a h h' hF => by
    obtain ⟨u, hu⟩ := s.mh a h
    have q := subG_yes (G := G) (H := H) h h' hF
    rw [hu] at q
    exact ⟨by rw [s2.gr a u q, hu], s2.dis a u q⟩
  have l1 : Le F m F2 m := ⟨l.f, [], by simp⟩
  refine ⟨⟨s2.fr, fun a u q => s2.gr a u (gle a u q), fun a u q => s2.dis a u (gle a u q), fun a ha => ?_, s.mg, s.nd, by rw [putAll_len]; exact s.len, fun k o a e1 e2 => ?_⟩, l1⟩
  · by_cases h : a ∈ subM m ls
    · obtain ⟨r, hr⟩ := l.m
      exact s2.mh a (by rw [hr]; exact List.mem_append_left _ h)
    · cases hF : F a with
      | some u => exact ⟨u, s2.fr a u (l.f a u hF)⟩
      | none => rw [(keep a ha h hF).1]; exact s.mh a ha
  · by_cases hk : k ∈ ls
    · obtain ⟨j, hj, ej⟩ := List.mem_iff_getElem.mp hk
      have ej' : ls[j]? = some k := by rw [List.getElem?_eq_getElem hj, ej]
      have hj2 : j < os.length := by rw [h1]; exact hj
      have hj3 : j < S2.length := Nat.lt_of_lt_of_le hj2 hl
      have ho : (S2.take os.length)[j]? = some S2[j] := by rw [List.getElem?_take_of_lt hj2, List.getElem?_eq_getElem hj3]
      rw [putAll_at ls _ S j k _ nl ej' ho (by rw [← s.len]; exact hb k hk)] at e1
      cases e1
      have ea := l.get (subM_get hb ej' e2)
      have q := s2.ob j _ a (List.getElem?_eq_getElem hj3) ea
      have fo : flatO S2[j] = true := List.all_eq_true.mp hf _ (List.mem_of_getElem? ho)
      generalize S2[j] = o at q fo
      cases o with
      | dead => trivial
      | lst xs =>
        obtain ⟨vs, q1, q2, q3, r⟩ := q
        exact ⟨vs, q1, q2, s.mg a (List.mem_of_getElem? e2), flat_reps fo r⟩
    · rw [putAll_off ls _ S k hk] at e1
      have q := s.ob k o a e1 e2
      cases o with
      | dead => trivial
      | lst xs =>
        obtain ⟨vs, q1, q2, q3, r⟩ := q
        have hns : a ∉ subM m ls := fun z => by
          obtain ⟨n, hn, en⟩ := subM_mem z
          have := nodup_get s.nd e2 en
          subst this
          exact hk hn
        obtain ⟨k1, k2⟩ := keep a (List.mem_of_getElem? e2) hns q2
        exact ⟨vs, by rw [k1]; exact q1, k2, q3, RepWs.le l1 r⟩
/-- THE CALL -/
theorem call_rep {f : Fn} {ws : List W} {vs : List V} {Q : VK} (s : Sim K F G H m S) (r : RepWs K F m ws vs) (hp : Post K mg G E F m (evCall f ws S) (kW K Q)) :
    ∃ F' G' m' S' ws', Sim K F' G' H m' S' ∧ RepWs K F' m' ws' vs ∧ ws'.length = ws.length ∧ Post K mg G' E F' m' (f ws' S') (kW K Q) := by
  unfold evCall at hp
  split at hp
  · exact hp.elim
  · rename_i os eo
    have nl := nodup_locs ws
    have s1 := s.sub nl eo
    obtain ⟨h1, h2⟩ := getAll_of eo
    have hb : ∀ n ∈ locsOf ws, n < m.length := fun n hn => by
      obtain ⟨j, hj, ej⟩ := List.mem_iff_getElem.mp hn
      obtain ⟨o, eo, _⟩ := h2 j n (by rw [List.getElem?_eq_getElem hj, ej])
      rw [s.len]
      exact (List.getElem?_eq_some_iff.mp eo).1
    refine ⟨F, _, _, os, _, s1, reix_reps hb r (fun n hn => mem_locs.mpr hn), by rw [List.length_map], ?_⟩
    split at hp
    · rename_i w S2 ew
      rw [ew]
      split at hp
      · rename_i hc
        rw [Bool.and_eq_true, decide_eq_true_eq] at hc
        intro F2 m2 H2 l2 s2 v rv
        obtain ⟨s3, l3⟩ := s.back nl eo l2 s2 hc.1 hc.2
        split at hp
        · exact hp F2 m H2 l3 s3 v (.d (dOf rv))
        · rename_i j
          split at hp
          · rename_i hj
            obtain ⟨w, e3, hp⟩ := Post.of hp
            obtain ⟨n, en, rfl⟩ := map_of e3
            refine hp F2 m H2 l3 s3 v ?_
            cases rv with
            | @l _ a ea =>
              have hn : n < m.length := hb n (List.mem_of_getElem? en)
              have q := l2.get (subM_get hb en (List.getElem?_eq_getElem hn))
              rw [ea] at q
              cases q
              exact .l (List.getElem?_eq_getElem hn)
          · rename_i hj
            split at hp
            · rename_i xs ex
              split at hp
              · rename_i hfl
                cases rv with
                | @l _ a ea =>
                  obtain ⟨vs', q1, q2, q3, rx⟩ := s2.ob j _ a ex ea
                  have ham2 := List.mem_of_getElem? ea
                  have nam : a ∉ m := fun ham => by
                    have g0 := s2.mg a ham2
                    by_cases hs : a ∈ subM m (locsOf ws)
                    · obtain ⟨i, hi, ei⟩ := List.mem_iff_getElem.mp hs
                      have q4 := l2.get (show (subM m (locsOf ws))[i]? = some a by rw [List.getElem?_eq_getElem hi, ei])
                      have q5 := nodup_get s2.nd ea q4
                      rw [subM_len hb] at hi
                      rw [h1] at hj
                      omega
                    · have hF : F a = none := by
                        cases z : F a with
                        | none => rfl
                        | some u => rw [l2.f a u z] at q2; cases q2
                      rw [subG_yes ham hs hF] at g0
                      obtain ⟨u, hu⟩ := s.mh a ham
                      rw [hu] at g0
                      cases g0
                  have hS : (putAll S (locsOf ws) (S2.take os.length)).length = m.length := by rw [putAll_len, s.len]
                  have gG : G a = none := by
                    cases z : G a with
                    | none => rfl
                    | some u =>
                      have g0 := s2.mg a ham2
                      rw [subG_no (.inl nam), z] at g0
                      cases g0
                  have l4 : Le F2 m F2 (m ++ [a]) := ⟨fun _ _ q => q, [a], rfl⟩
                  refine hp F2 (m ++ [a]) H2 (l3.trans l4) ⟨s3.fr, s3.gr, s3.dis, fun b hb' => ?_, fun b hb' => ?_, ?_, by rw [List.length_append, List.length_append, hS]; rfl, fun k o b e1 e2 => ?_⟩ _ (.l ?_)
                  · rcases List.mem_append.mp hb' with z | z
                    · exact s3.mh b z
                    · rw [List.mem_singleton.mp z]; exact ⟨_, q1⟩
                  · rcases List.mem_append.mp hb' with z | z
                    · exact s3.mg b z
                    · rw [List.mem_singleton.mp z]; exact gG
                  · refine List.nodup_append.mpr ⟨s3.nd, by simp, fun b hb' c hc' => ?_⟩
                    rw [List.mem_singleton.mp hc']
                    rintro rfl
                    exact nam hb'
                  · by_cases hk : k < (putAll S (locsOf ws) (S2.take os.length)).length
                    · rw [List.getElem?_append_left hk] at e1
                      rw [List.getElem?_append_left (by rw [← hS]; exact hk)] at e2
                      exact (s3.ob k o b e1 e2).le l4 fun vs e z _ => ⟨e, z⟩
                    · have hk2 : k = m.length := by
                        have := (List.getElem?_eq_some_iff.mp e1).1
                        rw [List.length_append] at this
                        simp at this
                        omega
                      subst hk2
                      rw [← hS, List.getElem?_append_right (Nat.le_refl _)] at e1
                      rw [List.getElem?_append_right (Nat.le_refl _)] at e2
                      simp at e1 e2
                      subst e1 e2
                      exact ⟨vs', q1, q2, gG, flat_reps hfl rx⟩
                  · rw [← s.len, List.getElem?_append_right (Nat.le_refl _)]
                    simp
              · exact hp.elim
            · exact hp.elim
      · exact hp.elim
    · rename_i c x S2 ew
      rw [ew]
      split at hp
      · rename_i hc
        rw [Bool.and_eq_true, decide_eq_true_eq] at hc
        intro F2 m2 H2 C d v l2 s2
        obtain ⟨s3, l3⟩ := s.back nl eo l2 s2 hc.1 hc.2
        exact hp F2 m H2 C d v l3 s3
      · exact hp.elim
    · exact hp.elim
end
end DL
/-! DLl: statements. -/
namespace DL
open PySem PySem.Spec PyProof.Rows L2

abbrev kS (K : PySem.W.Frag) (D : Ends) : Fl → Store → Hp → List Addr → Hp → Prop := fun r _ F' m' H' => match r with
  | .nx env => ∀ σ', RepE K F' m' env σ' → D.nx σ' H'
  | .rt w => ∀ v, RepW K F' m' w v → D.rt v H'
  | .bk env => ∀ σ', RepE K F' m' env σ' → D.bk σ' H'
def tS (K : PySem.W.Frag) (mg : Str → Option Value) (E : XK) (d : Ev → Store → Out Fl) : TS := fun D σ H => ∃ F G m env S, Sim K F G H m S ∧ RepE K F m env σ ∧ Post K mg G E F m (d env S) (kS K D)
theorem PS.imp {X : Cx} {e : Stmt} {t t' : TS} (h : ∀ D σ H, t' D σ H → t D σ H) (p : PS X e t) : PS X e t' := ⟨fun pins s σ H D I q => p.run pins s σ H D I (h D σ H q)⟩
theorem PSs.imp {X : Cx} {e : List Stmt} {t t' : TS} (h : ∀ D σ H, t' D σ H → t D σ H) (p : PSs X e t) : PSs X e t' := ⟨fun pins s σ H D I q => p.run pins s σ H D I (h D σ H q)⟩
abbrev RdS (X : Cx) (E : XK) (x : Stmt) (d : Ev → Store → Out Fl) : Prop := PS X x (tS X.K X.mg E d)
abbrev RdSs (X : Cx) (E : XK) (x : List Stmt) (d : Ev → Store → Out Fl) : Prop := PSs X x (tS X.K X.mg E d)

section
variable {X : Cx} {E : XK} {a b c tg iter : Expr} {pos : Pos} {da db : Ev → Store → Out W} {dt : Ev → Store → Out Bool} {ds : Ev → Store → Out (List W)} {di : Ev → Store → Out (List W × Option Nat)} {s : Stmt} {ss st1 st2 : List Stmt} {dx dy : Ev → Store → Out Fl} {t : T}
theorem rss_nil : RdSs X E [] fun env st => .ok (.nx env) st := PSs.imp (fun D σ H ⟨F, G, m, env, S, hs, he, hp⟩ => hp.now hs σ he) pss_nil
theorem rss_cons (h1 : RdS X E s dx) (h2 : RdSs X E ss dy) : RdSs X E (s :: ss) fun env st => (dx env st).bind fun r st => match r with
    | .nx env => dy env st
    | .bk env => .ok (.bk env) st
    | .rt w => .ok (.rt w) st := by
  refine PSs.imp (fun D σ H ⟨F, G, m, env, S, hs, he, hp⟩ => ?_) (pss_cons h1 h2)
  refine ⟨F, G, m, env, S, hs, he, hp.bind.mono fun r S1 F1 m1 H1 l s1 hp1 => ?_⟩
  cases r with
  | nx env1 => exact fun σ1 he1 => ⟨F1, G, m1, env1, S1, s1, he1, hp1⟩
  | rt w => exact hp1.now s1
  | bk env1 => exact hp1.now s1
theorem rs_asg (ha : RdE X E a da) (hg : PG X tg (gT X.K t)) (hs : swapsWithSole [tg] a pos.line X.env = pure false) (hw : swappedStores [tg] a X.env = pure none) (h1 : (assignEach [tg] X.env).map (·.2) = [assign tg X.env]) :
    RdS X E (.Assign [tg] a pos) fun env st => (da env st).bind fun x st => Out.of ((bindT t x env).map .nx) st := by
  refine PS.imp (fun D σ H ⟨F, G, m, env, S, hs, he, hp⟩ => ?_) (ps_asg ha hg hs hw h1)
  refine ⟨F, G, m, env, S, hs, he, hp.bind.mono fun w S1 F1 m1 H1 l s1 hp1 v rv => ?_⟩
  obtain ⟨r, e, hp1⟩ := Post.of hp1
  obtain ⟨env1, e1, rfl⟩ := map_of e
  exact ⟨F1, m1, env, env1, w, s1.fr, he.le l, rv, e1, fun σ1 he1 _ => hp1.now s1 σ1 he1⟩
theorem rs_lc {elt : Expr} {ifs : List Expr} {scope : Scope} {i : Nat} {y : Str} {py lpos : Pos} {b : Bool} {dc : Ev → Store → Out Bool} {de : Ev → Store → Out W} {own : List Nat} {ownP : List (Str × Nat)} (hc : X.calm = true) (hN : X.N.Nodup) (hy : X.N[i]? = some y) (hyl : X.env.scope.names.lookup y = some .local)
    (hsw : swapsWith (.ListComp elt [⟨tg, iter, ifs, 0⟩] scope lpos) (some (.Name y py)) pos.line X.env = pure true) (hi : RdI X E tg iter di) (ok : BlkOk X.N X.env.scope scope ownP) (hown : ownP.map (·.2) = own) (hsl : ∀ i ∈ tsl t, i ∈ own)
    (hg : ∀ (s : Shared) (H : Hp) (C : Addr) (cl : List (Str × Addr)) (fp : List Addr), PG (X.blk s H scope (compEnvC scope cl C X.env) fp) tg (gT X.K t))
    (ht : ∀ (s : Shared) (H : Hp) (C : Addr) (cl : List (Str × Addr)) (fp : List Addr), PTs (X.blk s H scope (compEnvC scope cl C X.env) fp) ifs (tBl X.K X.mg E0 dc))
    (he : ∀ (s : Shared) (H : Hp) (C : Addr) (cl : List (Str × Addr)) (fp : List Addr), PE (X.blk s H scope (compEnvC scope cl C X.env) fp) elt (tE X.K X.mg E0 de)) (hs : ∀ x, foldedSetIterable iter X.env x = pure x) :
    RdS X E (.Assign [.Name y py] (.ListComp elt [⟨tg, iter, ifs, 0⟩] scope lpos) pos) fun env st => ((di env st).bind fun p S => if p.1.length < lineS then (compL (keeps p.2 p.1) (fun x S => (Out.of (bindT t x (wipeE env own)) S).bind fun env1 S => (dc env1 S).noErr.bind fun k S =>
      if k = true then (de env1 S).noErr.bind fun y S => .ok (some y) S else .ok none S) p.1 S).bind fun ys S => newL b ys S else .bad).bind fun x st => Out.of ((bindT (.name i) x env).map .nx) st := by
  subst hown
  refine PS.imp (fun D σ H ⟨F, G, m, env, S, hs, hr, hp⟩ => ?_) (ps_setLc hc hN hy hyl hsw hi ok hg ht he hs)
  refine lc_imp (b := b) hsl σ H _ ⟨F, G, m, env, S, hs, hr, hp.bind.mono fun w S1 F1 m1 H1 l s1 hp1 v rv => ?_⟩
  obtain ⟨r, e, hp1⟩ := Post.of hp1
  obtain ⟨env1, e1, rfl⟩ := map_of e
  unfold bindT at e1
  split at e1
  · cases e1
    exact hp1.now s1 _ ((hr.le l).set rv i)
  · cases e1
theorem rs_expr (ha : RdE X E a da) (hs : swapsWith a none pos.line X.env = pure false) : RdS X E (.Expr a pos) fun env st => (da env st).bind fun _ st => .ok (.nx env) st := by
  refine PS.imp (fun D σ H ⟨F, G, m, env, S, hs, he, hp⟩ => ?_) (ps_expr ha hs)
  exact ⟨F, G, m, env, S, hs, he, hp.bind.mono fun w S1 F1 m1 H1 l s1 hp1 v rv => hp1.now s1 σ (he.le l)⟩
theorem rs_doc {x : Str} {j : Nat} {p2 : Pos} : RdS X E (.Expr (.Constant (.str x) j p2) pos) fun env st => .ok (.nx env) st := PS.imp (fun D σ H ⟨F, G, m, env, S, hs, he, hp⟩ => hp.now hs σ he) ps_doc
theorem rs_ret (ha : RdE X E a da) : RdS X E (.Return (some a) pos) fun env st => (da env st).bind fun x st => .ok (.rt x) st := by
  refine PS.imp (fun D σ H ⟨F, G, m, env, S, hs, he, hp⟩ => ?_) (ps_ret ha)
  exact ⟨F, G, m, env, S, hs, he, hp.bind.mono fun w S1 F1 m1 H1 l s1 hp1 v rv => hp1.now s1 v rv⟩
theorem rs_retN : RdS X E (.Return none pos) fun _ st => .ok (.rt (.d .non)) st := PS.imp (fun D σ H ⟨F, G, m, env, S, hs, he, hp⟩ => hp.now hs _ (.d .non)) ps_retN
theorem rs_pass : RdS X E (.Pass pos) fun env st => .ok (.nx env) st := PS.imp (fun D σ H ⟨F, G, m, env, S, hs, he, hp⟩ => hp.now hs σ he) ps_pass
theorem rs_brk : RdS X E (.Break pos) fun env st => .ok (.bk env) st := PS.imp (fun D σ H ⟨F, G, m, env, S, hs, he, hp⟩ => hp.now hs σ he) ps_break
theorem rs_never : RdS X E s fun _ _ => .bad := PS.imp (fun D σ H ⟨F, G, m, env, S, hs, he, hp⟩ => hp.elim) ps_never
theorem rs_if (hc : RdT X E c dt) (ha : RdSs X E st1 dx) (hb : RdSs X E st2 dy) : RdS X E (.If c st1 st2 pos) fun env st => (dt env st).bind fun k st => if k = true then dx env st else dy env st := by
  refine PS.imp (fun D σ H ⟨F, G, m, env, S, hs, he, hp⟩ => ?_) (ps_if hc ha hb)
  refine ⟨F, G, m, env, S, hs, he, hp.bind.mono fun k S1 F1 m1 H1 l s1 hp1 => ?_⟩
  cases k with
  | true => exact ⟨F1, G, m1, env, S1, s1, he.le l, hp1⟩
  | false => exact ⟨F1, G, m1, env, S1, s1, he.le l, hp1⟩
theorem forL_ok {K : PySem.W.Frag} {mg : Str → Option Value} {G F : Hp} {m : List Addr} {ok : Store → Bool} {f : W → Ev → Store → Out Fl} {xs : List W} {env : Ev} {S : Store} {k : Fl → Store → Hp → List Addr → Hp → Prop} (h : Post K mg G E F m (forL ok f xs env S) k) : ok S = true := by
  cases e : ok S with
  | true => rfl
  | false => cases xs <;> (unfold forL at h; rw [e] at h; exact h.elim)
theorem rs_for (ho : PassesOwn (model X.prog X.w) X.A X.env X.xe) (hc : X.calm = true) (hi : RdI X E tg iter di) (hg : PG X tg (gT X.K t)) (hb : RdSs X E ss dx) (hf : ∀ x, foldedSetIterable iter X.env x = pure x) :
    RdS X E (.For tg iter ss [] pos) fun env st => (di env st).bind fun p st => forL (keeps p.2 p.1) (fun x env st => (Out.of (bindT t x env) st).bind fun env st => dx env st) p.1 env st := by
  refine PS.imp (fun D σ H ⟨F, G, m, env, S, hs, he, hp⟩ => ?_) (ps_for ho hc hi hg hb hf)
  refine ⟨F, G, m, env, S, hs, he, hp.bind.mono fun pw S1 F1 m1 H1 l s1 hp1 J hJ => ?_⟩
  obtain ⟨ws, kk⟩ := pw
  simp only at hp1 hJ
  obtain ⟨Gd, Y, hw, hgd, hy⟩ := hJ.run
  refine for_it hw (fun i σ' H' => ∃ F2 m2 env2 S2, Le F1 m1 F2 m2 ∧ Sim X.K F2 G H' m2 S2 ∧ RepE X.K F2 m2 env2 σ' ∧ Post X.K X.mg G E F2 m2 (forL (keeps kk ws) (fun x env st => (Out.of (bindT t x env) st).bind fun env st => dx env st) (ws.drop i) env2 S2) (kS X.K D))
    ⟨F1, m1, env, S1, .refl, s1, he.le l, hp1⟩ (fun i σ' H' hi ⟨F2, m2, env2, S2, l2, s2, _, hp2⟩ => hgd F2 _ m2 S2 H' l2 s2 (forL_ok hp2)) (fun i x σ2 H2 H3 hi hpv hyv => ?_) (fun σ' H' ⟨F2, m2, env2, S2, l2, s2, he2, hp2⟩ => ?_)
  · obtain ⟨F2, m2, env2, S2, l2, s2, he2, hp2⟩ := hpv
    have ew : ws[i]? = some ws[i] := List.getElem?_eq_getElem hi
    have hk := forL_ok hp2
    obtain ⟨F3, l3, s3, rw3⟩ := hy i _ F2 _ m2 S2 H2 x H3 ew l2 s2 hk hyv
    rw [List.drop_eq_getElem_cons hi] at hp2
    unfold forL at hp2
    rw [hk, if_pos rfl] at hp2
    cases hb : bindT t ws[i] env2 with
    | none => rw [hb] at hp2; exact hp2.elim
    | some env3 =>
      rw [hb] at hp2
      simp only [Out.of_some, Out.bind_ok] at hp2
      refine ⟨F3, m2, env2, env3, ws[i], s3.fr, he2.le l3, rw3, hb, fun σ3 he3 _ => ?_⟩
      refine ⟨F3, G, m2, env3, S2, s3, he3, (Post.le hp2 l3).bind.mono fun r S4 F4 m4 H4 l4 s4 hp4 => ?_⟩
      cases r with
      | nx env4 => exact fun σ4 he4 => ⟨F4, m4, env4, S4, (l2.trans l3).trans l4, s4, he4, hp4⟩
      | rt w => exact hp4.now s4
      | bk env4 => exact hp4.now s4
  · have hk := forL_ok hp2
    rw [List.drop_length] at hp2
    unfold forL at hp2
    rw [hk, if_pos rfl] at hp2
    exact hp2.now s2 σ' he2
theorem rs_while {n : Nat} (ho : PassesOwn (model X.prog X.w) X.A X.env X.xe) (hc : RdT X E c dt) (hb : RdSs X E ss dx) : RdS X E (.While c ss [] pos) fun env st => whileL dt dx n env st := by
  refine PS.imp (fun D σ H ⟨F, G, m, env, S, hs, he, hp⟩ => ?_) (ps_while ho hc hb)
  refine ⟨fun k σ' H' => ∃ F2 m2 env2 S2, Sim X.K F2 G H' m2 S2 ∧ RepE X.K F2 m2 env2 σ' ∧ Post X.K X.mg G E F2 m2 (whileL dt dx k env2 S2) (kS X.K D), ⟨n, F, m, env, S, hs, he, hp⟩, fun k σ' H' ⟨F2, m2, env2, S2, s2, he2, hp2⟩ => ?_⟩
  cases k with
  | zero => exact hp2.elim
  | succ k =>
    unfold whileL at hp2
    refine ⟨F2, G, m2, env2, S2, s2, he2, hp2.bind.mono fun q S3 F3 m3 H3 l3 s3 hp3 => ?_⟩
    cases q with
    | false => exact hp3.now s3 σ' (he2.le l3)
    | true =>
      refine ⟨fun σ4 H4 => ∃ F4 m4 env4 S4, Sim X.K F4 G H4 m4 S4 ∧ RepE X.K F4 m4 env4 σ4 ∧ Post X.K X.mg G E F4 m4 (whileL dt dx k env4 S4) (kS X.K D), fun σ4 H4 h => ⟨k, Nat.lt_succ_self k, h⟩, ?_⟩
      refine ⟨F3, G, m3, env2, S3, s3, he2.le l3, hp3.bind.mono fun r S4 F4 m4 H4 l4 s4 hp4 => ?_⟩
      cases r with
      | nx env4 => exact fun σ4 he4 => ⟨F4, m4, env4, S4, s4, he4, hp4⟩
      | rt w => exact hp4.now s4
      | bk env4 => exact hp4.now s4

/-! ### stores -/
theorem setN_of {i : Nat} {w : W} {env env' : Ev} (h : setN i w env = some env') : env' = env.set i (some w) := by
  unfold setN at h
  split at h
  · cases h; rfl
  · cases h
theorem pip_add (mg : Str → Option Value) (E : XK) : PIp X .Add (fun x y H Q => rW2 X.K mg E (augD .Add) x y H Q) := by
  rintro pins s σ H x y v u Q I rx ry ⟨F, G, m, S, wx, wy, hs, hx, hy, hp⟩
  unfold augD at hp
  split at hp
  · cases intOf (dOf hx); cases intOf (dOf hy)
    exact iop_add pins s σ H _ _ v u Q I rx ry ⟨_, _, rfl, rfl, hp.now hs _ (.d (.int _))⟩
  · rename_i h; cases h
  · cases strOf (dOf hx); cases strOf (dOf hy)
    split at hp
    · rename_i hl
      exact iop_add_str pins s σ H _ _ v u Q I rx ry ⟨_, _, rfl, rfl, Nat.le_trans hl (by decide), hp.now hs _ (.d (.str _))⟩
    · exact hp.elim
  · exact hp.elim
theorem pip_sub (mg : Str → Option Value) (E : XK) : PIp X .Sub (fun x y H Q => rW2 X.K mg E (augD .Sub) x y H Q) := by
  rintro pins s σ H x y v u Q I rx ry ⟨F, G, m, S, wx, wy, hs, hx, hy, hp⟩
  unfold augD at hp
  split at hp
  · rename_i h; cases h
  · cases intOf (dOf hx); cases intOf (dOf hy)
    exact iop_sub pins s σ H _ _ v u Q I rx ry ⟨_, _, rfl, rfl, hp.now hs _ (.d (.int _))⟩
  · rename_i h; cases h
  · exact hp.elim
theorem rs_aug {i : Nat} {n : Str} {p : Pos} {op : Operator} (hop : op = .Add ∨ op = .Sub) (hN : X.N.Nodup) (hi : X.N[i]? = some n) (hx : Loc X.env.scope n) (hf : X.fn n = true ∨ X.env.scope.names.lookup n = some .local) (ha : RdE X E a da) :
    RdS X E (.AugAssign (.Name n p) op a pos) fun env st => (Out.of (getE env i) st).bind fun x st => (da env st).bind fun y st => (augD op x y st).bind fun z st => Out.of ((setN i z env).map .nx) st := by
  have core : ∀ {op : Operator} (ho : PIp X op (fun x y H Q => rW2 X.K X.mg E (augD op) x y H Q)), RdS X E (.AugAssign (.Name n p) op a pos) fun env st => (Out.of (getE env i) st).bind fun x st => (da env st).bind fun y st => (augD op x y st).bind fun z st => Out.of ((setN i z env).map .nx) st := fun {op} ho => by
    refine PS.imp (fun D σ H ⟨F, G, m, env, S, hs, he, hp⟩ => ?_) (ps_aug hN hi hx ha ho hf)
    dsimp only at hp
    cases e : getE env i with
    | none => rw [e] at hp; exact hp.elim
    | some w =>
      rw [e] at hp
      simp only [Out.of_some, Out.bind_ok] at hp
      obtain ⟨v, h, rv⟩ := he.get i w (getE_of e)
      refine ⟨v, h, F, G, m, env, S, hs, he, hp.bind.mono fun w2 S1 F1 m1 H1 l s1 hp1 v2 rv2 => ?_⟩
      refine ⟨F1, G, m1, S1, w, w2, s1, rv.le l, rv2, hp1.bind.mono fun w3 S2 F2 m2 H2 l2 s2 hp2 v3 rv3 => ?_⟩
      obtain ⟨r, e2, hp2⟩ := Post.of hp2
      obtain ⟨env1, e1, rfl⟩ := map_of e2
      rw [setN_of e1] at hp2
      exact hp2.now s2 _ (((he.le l).le l2).set rv3 i)
  rcases hop with rfl | rfl
  · exact core (pip_add _ _)
  · exact core (pip_sub _ _)
/-- two plain names at once -/
theorem rs_par2 {i j : Nat} {x y : Str} {px py pt : Pos} {kt k2 : Nat} {pt2 : Pos} (hc : X.calm = true) (hN : X.N.Nodup) (hi : X.N[i]? = some x) (hj : X.N[j]? = some y) (hij : i ≠ j) (hx : X.env.scope.names.lookup x = some .local) (hy : X.env.scope.names.lookup y = some .local) (ha : RdA X E [a, b] ds)
    (hw : swappedStores [.Tuple [.Name x px, .Name y py] kt pt] (.Tuple [a, b] k2 pt2) X.env = pure (some [x, y])) :
    RdS X E (.Assign [.Tuple [.Name x px, .Name y py] kt pt] (.Tuple [a, b] k2 pt2) pos) fun env st => (ds env st).bind fun ws st => Out.of ((setNs [i, j] ws env).map .nx) st := by
  refine PS.imp (fun D σ H ⟨F, G, m, env, S, hs, he, hp⟩ => ?_) (ps_par hc hN hi hj hij hx hy ha hw)
  refine ⟨F, G, m, env, S, hs, he, hp.bind.mono fun ws S1 F1 m1 H1 l s1 hp1 vs rvs => ?_⟩
  obtain ⟨r, e, hq⟩ := Post.of hp1
  obtain ⟨env1, e1, rfl⟩ := map_of e
  match ws, rvs, e1 with
  | [], _, e1 => cases e1
  | [w1, w2], rvs, e1 =>
    obtain ⟨v, v', rfl, r1, r2⟩ := two_rep rvs
    obtain ⟨enva, ea, e2⟩ := bind_of (show (setN i w1 env).bind (setNs [j] [w2]) = some env1 from e1)
    obtain ⟨envb, eb, e3⟩ := bind_of (show (setN j w2 enva).bind (setNs [] []) = some env1 from e2)
    cases e3
    rw [setN_of eb, setN_of ea] at hq
    exact ⟨v, v', rfl, hq.now s1 _ (((he.le l).set r1 i).set r2 j)⟩
  | [w1], _, e1 =>
    obtain ⟨enva, ea, e2⟩ := bind_of (show (setN i w1 env).bind (setNs [j] []) = some env1 from e1)
    cases e2
  | w1 :: w2 :: w3 :: r, _, e1 =>
    obtain ⟨enva, ea, e2⟩ := bind_of (show (setN i w1 env).bind (setNs [j] (w2 :: w3 :: r)) = some env1 from e1)
    obtain ⟨envb, eb, e3⟩ := bind_of (show (setN j w2 enva).bind (setNs [] (w3 :: r)) = some env1 from e2)
    cases e3
theorem rs_par3 {i j k : Nat} {x y z : Str} {px py pz pt : Pos} {kt k2 : Nat} {pt2 : Pos} (hc : X.calm = true) (hN : X.N.Nodup) (hi : X.N[i]? = some x) (hj : X.N[j]? = some y) (hk : X.N[k]? = some z) (hij : i ≠ j) (hik : i ≠ k) (hjk : j ≠ k)
    (hx : X.env.scope.names.lookup x = some .local) (hy : X.env.scope.names.lookup y = some .local) (hz : X.env.scope.names.lookup z = some .local) (ha : RdA X E [a, b, c] ds)
    (hw : swappedStores [.Tuple [.Name x px, .Name y py, .Name z pz] kt pt] (.Tuple [a, b, c] k2 pt2) X.env = pure (some [x, y, z])) :
    RdS X E (.Assign [.Tuple [.Name x px, .Name y py, .Name z pz] kt pt] (.Tuple [a, b, c] k2 pt2) pos) fun env st => (ds env st).bind fun ws st => Out.of ((setNs [i, j, k] ws env).map .nx) st := by
  refine PS.imp (fun D σ H ⟨F, G, m, env, S, hs, he, hp⟩ => ?_) (ps_par3 hc hN hi hj hk hij hik hjk hx hy hz ha hw)
  refine ⟨F, G, m, env, S, hs, he, hp.bind.mono fun ws S1 F1 m1 H1 l s1 hp1 vs rvs => ?_⟩
  obtain ⟨r, e, hq⟩ := Post.of hp1
  obtain ⟨env1, e1, rfl⟩ := map_of e
  match ws, rvs, e1 with
  | [], _, e1 => cases e1
  | [w1], _, e1 =>
    obtain ⟨enva, ea, e2⟩ := bind_of (show (setN i w1 env).bind (setNs [j, k] []) = some env1 from e1)
    cases e2
  | [w1, w2], _, e1 =>
    obtain ⟨enva, ea, e2⟩ := bind_of (show (setN i w1 env).bind (setNs [j, k] [w2]) = some env1 from e1)
    obtain ⟨envb, eb, e3⟩ := bind_of (show (setN j w2 enva).bind (setNs [k] []) = some env1 from e2)
    cases e3
  | [w1, w2, w3], .cons r1 (.cons r2 (.cons r3 .nil)), e1 =>
    obtain ⟨enva, ea, e2⟩ := bind_of (show (setN i w1 env).bind (setNs [j, k] [w2, w3]) = some env1 from e1)
    obtain ⟨envb, eb, e3⟩ := bind_of (show (setN j w2 enva).bind (setNs [k] [w3]) = some env1 from e2)
    obtain ⟨envc, ec, e4⟩ := bind_of (show (setN k w3 envb).bind (setNs [] []) = some env1 from e3)
    cases e4
    rw [setN_of ec, setN_of eb, setN_of ea] at hq
    exact ⟨_, _, _, rfl, hq.now s1 _ ((((he.le l).set r1 i).set r2 j).set r3 k)⟩
  | w1 :: w2 :: w3 :: w4 :: r, _, e1 =>
    obtain ⟨enva, ea, e2⟩ := bind_of (show (setN i w1 env).bind (setNs [j, k] (w2 :: w3 :: w4 :: r)) = some env1 from e1)
    obtain ⟨envb, eb, e3⟩ := bind_of (show (setN j w2 enva).bind (setNs [k] (w3 :: w4 :: r)) = some env1 from e2)
    obtain ⟨envc, ec, e4⟩ := bind_of (show (setN k w3 envb).bind (setNs [] (w4 :: r)) = some env1 from e3)
    cases e4
/-- a target that is stored to -/
def gW (K : PySem.W.Frag) (mg : Str → Option Value) (E : XK) (d : W → Ev → Store → Out Ev) : TG := fun v σ H Q => ∃ F G m env S w, Sim K F G H m S ∧ RepE K F m env σ ∧ RepW K F m w v ∧ Post K mg G E F m (d w env S) fun env' _ F' m' H' => ∀ σ', RepE K F' m' env' σ' → Q σ' H'
def gWs (K : PySem.W.Frag) (mg : Str → Option Value) (E : XK) (d : List W → Ev → Store → Out Ev) : TGs := fun vs σ H Q => ∃ F G m env S ws, Sim K F G H m S ∧ RepE K F m env σ ∧ RepWs K F m ws vs ∧ Post K mg G E F m (d ws env S) fun env' _ F' m' H' => ∀ σ', RepE K F' m' env' σ' → Q σ' H'
theorem rw_name {i : Nat} {n : Str} {p : Pos} (hN : X.N.Nodup) (hi : X.N[i]? = some n) (hx : Loc X.env.scope n) (hf : X.fn n = true ∨ X.env.scope.names.lookup n = some .local) : PG X (.Name n p) (gW X.K X.mg E fun w env st => Out.of (setN i w env) st) := by
  refine PG.imp (fun v σ H Q ⟨F, G, m, env, S, w, hs, he, hw, hp⟩ => ?_) (pg_name hN hi hx hf)
  obtain ⟨env1, e, hp⟩ := Post.of hp
  rw [setN_of e] at hp
  exact hp.now hs _ (he.set hw i)
def plainIxB : Expr → Bool
  | .Slice .. => false
  | _ => true
theorem plainIx_of {b : Expr} (h : plainIxB b = true) : PlainIx b := by
  intro o i
  cases b <;> first | rfl | cases h
theorem rw_ix {p : Pos} (ha : RdE X E a da) (hb : RdE X E b db) (hpl : plainIxB b = true) : PG X (.Subscript a b p) (gW X.K X.mg E fun w env st => (da env st).bind fun o st => (db env st).bind fun k st => match setIx o k w st with
    | some st => .ok env st
    | none => .bad) := by
  refine PG.imp (fun v σ H Q ⟨F, G, m, env, S, w, hs, he, hw, hp⟩ => ?_) (pg_sub ha hb set_list (by intro v; cases b <;> first | rfl | cases hpl))
  refine ⟨F, G, m, env, S, hs, he, hp.bind.mono fun wo S1 F1 m1 H1 l s1 hp1 vo ro => ⟨F1, G, m1, env, S1, s1, he.le l, hp1.bind.mono fun wi S2 F2 m2 H2 l2 s2 hp2 vi ri => ?_⟩⟩
  cases e : setIx wo wi w S2 with
  | none => rw [e] at hp2; exact hp2.elim
  | some S3 =>
    rw [e] at hp2
    exact set_rule s2 (ro.le l2) ri ((hw.le l).le l2) e fun H' s3 => hp2 F2 m2 H' .refl s3 σ ((he.le l).le l2)
theorem rws_nil : PGs X [] (gWs X.K X.mg E fun ws env st => match ws with
    | [] => .ok env st
    | _ => .bad) := by
  refine PGs.imp (fun vs σ H Q ⟨F, G, m, env, S, ws, hs, he, hw, hp⟩ => ?_) pgs_nil
  cases ws with
  | nil => cases hw; exact ⟨rfl, hp.now hs σ he⟩
  | cons => exact hp.elim
theorem rws_cons {d1 : W → Ev → Store → Out Ev} {d2 : List W → Ev → Store → Out Ev} {es : List Expr} (h1 : PG X a (gW X.K X.mg E d1)) (h2 : PGs X es (gWs X.K X.mg E d2)) (hp : plainE a = true) : PGs X (a :: es) (gWs X.K X.mg E fun ws env st => match ws with
    | w :: ws => (d1 w env st).bind fun env st => d2 ws env st
    | [] => .bad) := by
  refine PGs.imp (fun vs σ H Q ⟨F, G, m, env, S, ws, hs, he, hw, hp⟩ => ?_) (pgs_cons h1 h2 (by rw [assign_star hp]; rfl))
  cases ws with
  | nil => exact hp.elim
  | cons w ws =>
    cases hw with
    | cons r rr =>
      exact ⟨_, _, rfl, F, G, m, env, S, w, hs, he, r, hp.bind.mono fun env1 S1 F1 m1 H1 l s1 hp1 σ1 he1 => ⟨F1, G, m1, env1, S1, ws, s1, he1, RepWs.le l rr, hp1⟩⟩
/-- several targets from a tuple that is made on the way -/
theorem rs_asgs {es : List Expr} {tgs : List Expr} {k k2 : Nat} {pt pt2 : Pos} {d2 : List W → Ev → Store → Out Ev} (hc : X.calm = true) (ha : RdA X E es ds) (hg : PGs X tgs (gWs X.K X.mg E d2)) (hp : tgs.all plainE = true) (hl : ∀ ws env st, d2 ws env st ≠ .bad → ws.length = tgs.length) (hw : swappedStores [.Tuple tgs k pt] (.Tuple es k2 pt2) X.env = pure none) :
    RdS X E (.Assign [.Tuple tgs k pt] (.Tuple es k2 pt2) pos) fun env st => (ds env st).bind fun ws st => if ws.length ≤ lineS then (d2 ws env st).bind fun env st => .ok (.nx env) st else .bad := by
  obtain ⟨h1, h2⟩ := star_none (env := X.env) hp
  refine PS.imp (fun D σ H ⟨F, G, m, env, S, hs, he, hp⟩ => ?_) (ps_asg (pe_tup ha) (pg_tup hc hg h2 h1) rfl hw rfl)
  refine ⟨F, G, m, env, S, hs, he, hp.bind.mono fun ws S1 F1 m1 H1 l s1 hp1 vs rvs => ?_⟩
  split at hp1
  · rename_i hll
    refine ⟨by rw [← ws_length rvs]; exact Nat.le_trans hll (by decide), fun p hpn => ?_⟩
    obtain ⟨s2, l2⟩ := s1.froze (.tup vs) hpn
    have hlen : vs.length = tgs.length := by
      rw [← ws_length rvs]
      refine hl ws env S1 fun e => ?_
      rw [e] at hp1
      exact hp1.elim
    exact ⟨p, vs, rfl, .inl (.inl upd_same), hlen, _, G, m1, env, S1, ws, s2, (he.le l).le l2, RepWs.le l2 rvs, (Post.le hp1 l2).bind.mono fun env1 S3 F3 m3 H3 l3 s3 hp3 σ' he' => hp3.now s3 σ' he'⟩
  · exact hp1.elim
/-- o[i] = e -/
theorem rs_set {p : Pos} {dv : Ev → Store → Out W} {v : Expr} (hv : RdE X E v dv) (ha : RdE X E a da) (hb : RdE X E b db) (hpl : plainIxB b = true) (hs : swapsWithSole [.Subscript a b p] v pos.line X.env = pure false) (hw : swappedStores [.Subscript a b p] v X.env = pure none) :
    RdS X E (.Assign [.Subscript a b p] v pos) fun env st => (dv env st).bind fun w st => ((da env st).bind fun o st => (db env st).bind fun k st => match setIx o k w st with
    | some st => .ok env st
    | none => .bad).bind fun env st => .ok (.nx env) st := by
  refine PS.imp (fun D σ H ⟨F, G, m, env, S, hs, he, hp⟩ => ?_) (ps_asg hv (rw_ix (E := E) ha hb hpl) hs hw rfl)
  refine ⟨F, G, m, env, S, hs, he, hp.bind.mono fun w S1 F1 m1 H1 l s1 hp1 v rv => ?_⟩
  exact ⟨F1, G, m1, env, S1, w, s1, he.le l, rv, hp1.bind.mono fun env1 S2 F2 m2 H2 l2 s2 hp2 σ' he' => hp2.now s2 σ' he'⟩
end
end DL
/-! DLm: which text a term stands for; what it reckons is what the text does. -/
namespace DL
open PySem PySem.Spec PyProof.Rows L2

def visB (sc : Scope) (x : Str) : Bool := decide (sc.names.lookup x = some .local) || decide (sc.names.lookup x = some .cell) || decide (sc.names.lookup x = some .free)
def locB (sc : Scope) (x : Str) : Bool := decide (sc.names.lookup x = some .local) || decide (sc.names.lookup x = some .cell)
def glB (sc : Scope) (x : Str) : Bool := decide (sc.names.lookup x = some .globalImplicit)
def okN (x : Str) : Bool := !(x == ("__debug__" : Str)) && !(x == ("__classdict__" : Str)) && !decide (x = ("__name__" : Str))
def biNm : Bi → Str
  | .len => "len" | .int => "int" | .tuple => "tuple" | .list _ => "list" | .isinst _ => "isinstance" | .repr => "repr" | .abs => "abs" | .sum => "sum" | .all => "all" | .any => "any" | .min => "min" | .max => "max" | .str => "str"
def biVal : Bi → Value
  | .len => .builtin "len" | .int => .type "int" | .tuple => .type "tuple" | .list _ => .type "list" | .isinst _ => .builtin "isinstance" | .repr => .builtin "repr" | .abs => .builtin "abs" | .sum => .builtin "sum" | .all => .builtin "all" | .any => .builtin "any" | .min => .builtin "min" | .max => .builtin "max" | .str => .type "str"
def mtNm : Mt → Str
  | .append => "append" | .extend => "extend" | .popAt => "pop" | .pop => "pop" | .split => "split" | .join => "join" | .count => "count"
def notSuper : Expr → Bool
  | .Call .. => false
  | _ => true
def notTest : Expr → Bool
  | .UnaryOp .Not .. | .BoolOp .. | .IfExp .. | .Compare .. => false
  | _ => true
def notComp : Expr → Bool
  | .ListComp .. | .SetComp .. | .DictComp .. => false
  | _ => true
def ownP (N : List Str) (own : List Nat) : List (Str × Nat) := own.map fun i => (N.getD i "", i)
def isPop : Mt → Bool
  | .pop => true
  | _ => false
def isYes : B → Bool
  | .yes => true
  | _ => false
def isAnd : BoolOp → Bool
  | .And => true
  | .Or => false
mutual
def chkT (N : List Str) (sc : Scope) (fb : Str → Bool) : T → Expr → Bool
  | .name i, .Name x _ => decide (N[i]? = some x) && locB sc x && (fb x || decide (sc.names.lookup x = some .local))
  | .tup ts, .Tuple xs _ _ => chkTs N sc fb ts xs
  | _, _ => false
def chkTs (N : List Str) (sc : Scope) (fb : Str → Bool) : List T → List Expr → Bool
  | [], [] => true
  | t :: ts, x :: xs => chkT N sc fb t x && chkTs N sc fb ts xs
  | _, _ => false
end
mutual
def chkE (Γ : Tab) (N : List Str) : Scope → E → Expr → Bool
  | sc, .var i, .Name x _ => decide (N[i]? = some x) && visB sc x && okN x
  | _, .const (.int i), .Constant (.int j) _ _ => decide (i = j)
  | _, .const (.str i), .Constant (.str j) _ _ => decide (i = j)
  | _, .const (.bl i), .Constant (.bool j) _ _ => i == j
  | _, .const .non, .Constant .none _ _ => true
  | sc, .glob x v, .Name y _ => decide (x = y) && glB sc y && okN y && Γ.gl.any fun p => decide (p.1 = y) && sameD p.2 v
  | sc, .bin op a b, .BinOp x o y _ => decide (op = o) && chkE Γ N sc a x && chkE Γ N sc b y
  | sc, .neg a, .UnaryOp .USub x _ => chkE Γ N sc a x
  | sc, .cmp op a b, .Compare x [o] [y] _ => decide (op = o) && chkE Γ N sc a x && chkE Γ N sc b y && !behindInMarks o y
  | sc, .chain op op' a b c, .Compare x [o, o'] [y, z] _ => decide (op = o) && decide (op' = o') && chkE Γ N sc a x && chkE Γ N sc b y && chkE Γ N sc c z && !lastMarks [o, o'] [y, z]
  | sc, .not a, .UnaryOp .Not x _ => chkE Γ N sc a x
  | sc, .bop k es, .BoolOp op xs _ => decide (isAnd op = k) && !xs.isEmpty && chkEs Γ N sc es xs
  | sc, .ifx c a b, .IfExp x y z _ => chkB Γ N sc c x && chkE Γ N sc a y && chkE Γ N sc b z
  | sc, .tup es, .Tuple xs _ _ => chkEs Γ N sc es xs
  | sc, .lst _ es, .List xs _ => chkEs Γ N sc es xs
  | sc, .ix a i, .Subscript x y _ => chkE Γ N sc a x && chkE Γ N sc i y && plainIxB y
  | sc, .slice a lo hi l h, .Subscript x (.Slice lo' hi' none _) _ => chkE Γ N sc a x && (match lo' with
      | none => !l
      | some y => l && chkE Γ N sc lo y) && (match hi' with
      | none => !h
      | some y => h && chkE Γ N sc hi y)
  | sc, .call f es, .Call (.Name x _) xs kws _ => (match Γ.fns[f]? with
      | some c => decide (c.name = x) && decide (c.n = xs.length) && decide (c.ks = kwNames kws) && decide (c.ord.length = c.np) && c.ord.all fun i => decide (i < c.n + c.ks.length)
      | none => false) && glB sc x && okN x && kwPlain kws && chkEs Γ N sc es (xs ++ kws.map (·.value))
  | sc, .bi b es, .Call (.Name x _) xs [] _ => decide (biNm b = x) && glB sc x && decide (x ∈ Γ.free) && (match b with
      | .isinst t => (match xs with
        | [y, .Name T _] => chkEs Γ N sc es [y] && glB sc T && decide (T ∈ Γ.free) && decide (T = Str.ofString t) && decide (t ∈ tyAsk)
        | _ => false)
      | _ => !xs.isEmpty && chkEs Γ N sc es xs)
  | sc, .lrange _ es, .Call (.Name f _) [.Call (.Name g _) xs [] _] [] _ => decide (f = "list") && decide (g = "range") && glB sc f && glB sc g && decide (f ∈ Γ.free) && decide (g ∈ Γ.free) && chkEs Γ N sc es xs && (xs.length == 1 || xs.length == 2)
  | sc, .mt m a es, .Call (.Attribute x name apos) xs [] cpos => decide (mtNm m = name) && (isPop m == xs.isEmpty) && notSuper x && (apos.endLine == cpos.line) && chkE Γ N sc a x && chkEs Γ N sc es xs && decide (xs.length < 20)
  | sc, .comp _ e t it c own, .ListComp elt [⟨tg, iter, ifs, 0⟩] scope _ => chkI Γ N sc it iter tg && blkC N sc scope (ownP N own) && (tsl t).all (fun i => decide (i ∈ own)) && chkT N (relS scope sc) (fun x => scope.names.lookup x == some .cell) t tg &&
      (match ifs with
      | [] => isYes c
      | [z] => chkB Γ N (relS scope sc) c z
      | _ => false) && chkE Γ N (relS scope sc) e elt
  | _, _, _ => false
def chkEs (Γ : Tab) (N : List Str) : Scope → List E → List Expr → Bool
  | _, [], [] => true
  | sc, e :: es, x :: xs => chkE Γ N sc e x && chkEs Γ N sc es xs
  | _, _, _ => false
def chkB (Γ : Tab) (N : List Str) : Scope → B → Expr → Bool
  | sc, .val a, x => notTest x && chkE Γ N sc a x
  | sc, .not a, .UnaryOp .Not x _ => chkB Γ N sc a x
  | sc, .bop k bs, .BoolOp op xs _ => decide (isAnd op = k) && !xs.isEmpty && chkBs Γ N sc bs xs
  | sc, .cmp op a b, .Compare x [o] [y] _ => decide (op = o) && chkE Γ N sc a x && chkE Γ N sc b y && !behindInMarks o y
  | sc, .chain op op' a b c, .Compare x [o, o'] [y, z] _ => decide (op = o) && decide (op' = o') && chkE Γ N sc a x && chkE Γ N sc b y && chkE Γ N sc c z && !lastMarks [o, o'] [y, z]
  | _, _, _ => false
def chkBs (Γ : Tab) (N : List Str) : Scope → List B → List Expr → Bool
  | _, [], [] => true
  | sc, b :: bs, x :: xs => chkB Γ N sc b x && chkBs Γ N sc bs xs
  | _, _, _ => false
def chkI (Γ : Tab) (N : List Str) : Scope → I → Expr → Expr → Bool
  | sc, .seq a, x, _ => chkE Γ N sc a x
  | sc, .range es, .Call (.Name f _) xs [] _, _ => decide (f = "range") && glB sc f && decide (f ∈ Γ.free) && chkEs Γ N sc es xs && (xs.length == 1 || xs.length == 2)
  | sc, .enum a, .Call (.Name f _) [x] [] _, .Tuple .. => decide (f = "enumerate") && glB sc f && decide (f ∈ Γ.free) && chkE Γ N sc a x
  | sc, .zip a b, .Call (.Name f _) [x, y] [] _, .Tuple .. => decide (f = "zip") && glB sc f && decide (f ∈ Γ.free) && chkE Γ N sc a x && chkE Γ N sc b y
  | _, _, _, _ => false
end
end DL
/-! DLn: what a checked term reckons is what its text does: expressions. -/
namespace DL
open PySem PySem.Spec PyProof.Rows L2

section
variable {Γ : Tab} {N : List Str} {sc : Scope} {fb : Str → Bool} {E : XK} {X : Cx}
theorem Amb.blk (h : Amb Γ N sc fb E X) {scope : Scope} (hk : scope.kind = .function) (s : Shared) (H : Hp) (C : Addr) (cl : List (Str × Addr)) (fp : List Addr) :
    Amb Γ N (relS scope sc) (fun x => scope.names.lookup x == some .cell) E0 (X.blk s H scope (compEnvC scope cl C X.env) fp) where
  calm := h.calm
  grd := h.grd
  hN := h.hN
  nd := h.nd
  hsc := by rw [← h.hsc]; rfl
  kind := hk
  hun := h.hun
  pas := by
    rintro pins σ H s e s' I ⟨a, B, H', cls, d, _, _, _, _, _, _, _, hE⟩
    exact hE.elim
  tab := h.tab
  fnb := fun x e => e
theorem Amb.gl (h : Amb Γ N sc fb E X) {x : Str} (e : glB sc x = true) : Gl X x := by
  show X.env.scope.names.lookup x = _
  rw [h.hsc]
  exact of_decide_eq_true e
theorem Amb.vis (h : Amb Γ N sc fb E X) {x : Str} (e : visB sc x = true) : Vis X.env.scope x := by
  rw [h.hsc]
  unfold visB at e
  simp only [Bool.or_eq_true, decide_eq_true_eq, or_assoc] at e
  exact e
theorem Amb.loc (h : Amb Γ N sc fb E X) {x : Str} (e : locB sc x = true) : Loc X.env.scope x := by
  rw [h.hsc]
  unfold locB at e
  simp only [Bool.or_eq_true, decide_eq_true_eq] at e
  exact e
theorem Amb.nix (h : Amb Γ N sc fb E X) {i : Nat} {x : Str} (e : N[i]? = some x) : X.N[i]? = some x := by rw [h.hN]; exact e
theorem Amb.ndX (h : Amb Γ N sc fb E X) : X.N.Nodup := by rw [h.hN]; exact h.nd
theorem Amb.mfree (h : Amb Γ N sc fb E X) {x : Str} (e : x ∈ Γ.free) : X.mg x = none := h.tab.free x e
theorem congrE {x : Expr} {d d' : Ev → Store → Out W} (h : RdE X E x d) (e : ∀ env S, d env S = d' env S) : RdE X E x d' := by
  rw [show d' = d from funext fun env => funext fun S => (e env S).symm]
  exact h
theorem okN_of {x : Str} (h : okN x = true) : (x == ("__debug__" : Str)) = false ∧ (x == ("__classdict__" : Str)) = false ∧ x ≠ "__name__" := by
  unfold okN at h
  simp only [Bool.and_eq_true, Bool.not_eq_true', decide_eq_false_iff_not] at h
  exact ⟨h.1.1, h.1.2, h.2⟩

/-! ### texts that are plain -/
theorem chkE_plain {e : DL.E} {x : Expr} (h : chkE Γ N sc e x = true) : plainE x = true := by
  cases x <;> first | rfl | (cases e <;> first | cases h | (rename_i d _ _; cases d <;> cases h) | (rename_i d; cases d <;> cases h))
theorem attr_base {o : Expr} {attr : Str} {env : Env} {whole : Sem Value} (h : notSuper o = true) : attributeBase o attr env whole = whole := by
  cases o <;> first | rfl | cases h
theorem test_base {a : Expr} {env : Env} (h : notTest a = true) (whole : Sem Value) : isTrue a env whole = (do let v ← whole; standAt a.pos; holding [v] (truthy v)) := by
  cases a with
  | UnaryOp op x p => cases op <;> first | rfl | cases h
  | BoolOp => cases h
  | IfExp => cases h
  | Compare => cases h
  | _ => rfl
theorem fold_base {Γ : Tab} {N : List Str} {sc : Scope} {it : I} {x tg : Expr} {env : Env} (h : chkI Γ N sc it x tg = true) (v : Value) : foldedSetIterable x env v = pure v := by
  cases x with
  | Set => cases it with
    | seq a => 
      cases a <;> (simp only [chkI, chkE, Bool.and_false, Bool.false_eq_true] at h)
    | _ => cases h
  | _ => rfl

/-! ### one by one -/
inductive Rds (X : Cx) (E : XK) (fns : Nat → Fn) : List DL.E → List Expr → Prop
  | nil : Rds X E fns [] []
  | cons {e : DL.E} {x : Expr} {es : List DL.E} {xs : List Expr} : RdE X E x (ev fns e) → plainE x = true → Rds X E fns es xs → Rds X E fns (e :: es) (x :: xs)
inductive Rts (X : Cx) (E : XK) (fns : Nat → Fn) : List DL.B → List Expr → Prop
  | nil : Rts X E fns [] []
  | cons {e : DL.B} {x : Expr} {es : List DL.B} {xs : List Expr} : RdT X E x (evB fns e) → Rts X E fns es xs → Rts X E fns (e :: es) (x :: xs)
variable {fns : Nat → Fn} {es : List DL.E} {xs : List Expr} {pos : Pos}
theorem Rds.ra (h : Rds X E fns es xs) : RdA X E xs (evs fns es) := by
  induction h with
  | nil => exact ra_nil
  | cons h hp _ ih => exact ra_cons h ih hp
theorem Rds.plain (h : Rds X E fns es xs) : xs.all plainE = true := by
  induction h with
  | nil => rfl
  | cons h hp _ ih => rw [List.all_cons, hp, ih]; rfl
theorem Rds.len (h : Rds X E fns es xs) : es.length = xs.length := by
  induction h with
  | nil => rfl
  | cons h hp _ ih => rw [List.length_cons, List.length_cons, ih]
theorem Rds.split {ys : List Expr} : ∀ {xs : List Expr} {es : List DL.E}, Rds X E fns es (xs ++ ys) → ∃ e1 e2, es = e1 ++ e2 ∧ Rds X E fns e1 xs ∧ Rds X E fns e2 ys
  | [], es, h => ⟨[], es, rfl, .nil, h⟩
  | x :: xs, _, .cons h hp r => by
    obtain ⟨e1, e2, rfl, h1, h2⟩ := Rds.split r
    exact ⟨_ :: e1, e2, rfl, .cons h hp h1, h2⟩
theorem Rds.rk : ∀ {kws : List Keyword} {es : List DL.E}, Rds X E fns es (kws.map (·.value)) → PK X kws (tAr X.K X.mg E (evs fns es))
  | [], _, .nil => rk_nil
  | ⟨nm, x, kp⟩ :: kws, _, .cons h hp r => rk_cons h (Rds.rk r)
theorem evs_append (fns : Nat → Fn) : ∀ (a b : List DL.E) (env : Ev) (S : Store), evs fns (a ++ b) env S = (evs fns a env S).bind fun xs S => (evs fns b env S).bind fun ys S => .ok (xs ++ ys) S
  | [], b, env, S => by
    show evs fns b env S = (evs fns b env S).bind fun ys S => .ok ([] ++ ys) S
    cases evs fns b env S <;> rfl
  | e :: a, b, env, S => by
    show (ev fns e env S).bind (fun x S => (evs fns (a ++ b) env S).bind fun xs S => .ok (x :: xs) S) = ((ev fns e env S).bind fun x S => (evs fns a env S).bind fun xs S => .ok (x :: xs) S).bind _
    cases ev fns e env S with
    | ok x S1 =>
      show (evs fns (a ++ b) env S1).bind _ = ((evs fns a env S1).bind _).bind _
      rw [evs_append fns a b env S1]
      cases evs fns a env S1 with
      | ok xs S2 =>
        show ((evs fns b env S2).bind _).bind _ = (evs fns b env S2).bind _
        cases evs fns b env S2 <;> rfl
      | _ => rfl
    | _ => rfl
theorem Rds.bop {k : Bool} {op : BoolOp} (hk : isAnd op = k) : ∀ {es : List DL.E} {xs : List Expr}, xs ≠ [] → Rds X E fns es xs → RdE X E (.BoolOp op xs pos) (evBop fns k es)
  | _, _, hn, .nil => absurd rfl hn
  | _, _, _, .cons h hp .nil => rd_bop1 h
  | _, _, _, .cons h hp (.cons h2 hp2 r) => by
    have ih := Rds.bop (op := op) hk (List.cons_ne_nil _ _) (Rds.cons h2 hp2 r)
    cases op with
    | And => cases hk; exact rd_and h ih
    | Or => cases hk; exact rd_or h ih
theorem Rts.bop {k : Bool} : ∀ {bs : List DL.B} {xs : List Expr}, xs ≠ [] → Rts X E fns bs xs → RdW X E (.BoolOp (if k then .And else .Or) xs pos) (evBs fns k bs)
  | _, _, hn, .nil => absurd rfl hn
  | _, _, _, .cons h .nil => rw_1 k h
  | _, _, _, .cons h (.cons h2 r) => by
    have ih := Rts.bop (k := k) (List.cons_ne_nil _ _) (Rts.cons h2 r)
    exact rw_cons k h ih
/-! ### calls -/
theorem fold_free {K : PySem.W.Frag} {F : Hp} {m : List Addr} : ∀ {ws : List W} {vs : List V}, RepWs K F m ws vs → ∀ ord : List Nat, RepWs K F m (ord.filterMap fun i => ws[i]?) (ord.filterMap fun i => vs[i]?) := by
  intro ws vs r ord
  have get : ∀ {ws : List W} {vs : List V}, RepWs K F m ws vs → ∀ i : Nat, (ws[i]? = none ∧ vs[i]? = none) ∨ ∃ w v, ws[i]? = some w ∧ vs[i]? = some v ∧ RepW K F m w v := by
    intro ws vs r
    induction r with
    | nil => exact fun i => .inl ⟨rfl, rfl⟩
    | cons a r ih =>
      intro i
      cases i with
      | zero => exact .inr ⟨_, _, rfl, rfl, a⟩
      | succ i => simpa using ih i
  induction ord with
  | nil => exact .nil
  | cons i ord ih =>
    rw [List.filterMap_cons, List.filterMap_cons]
    rcases get r i with ⟨e1, e2⟩ | ⟨w, v, e1, e2, q⟩
    · rw [e1, e2]; exact ih
    · rw [e1, e2]; exact .cons q ih
theorem evs_len {fns : Nat → Fn} : ∀ {es : List DL.E} {env : Ev} {S S' : Store} {ws : List W}, evs fns es env S = .ok ws S' → ws.length = es.length
  | [], env, S, S', ws, h => by cases h; rfl
  | e :: es, env, S, S', ws, h => by
    have h : ((ev fns e env S).bind fun x S => (evs fns es env S).bind fun xs S => .ok (x :: xs) S) = .ok ws S' := h
    cases e1 : ev fns e env S with
    | ok x S1 =>
      rw [e1] at h
      have h : ((evs fns es env S1).bind fun xs S => .ok (x :: xs) S) = .ok ws S' := h
      cases e2 : evs fns es env S1 with
      | ok xs S2 =>
        rw [e2] at h
        cases h
        rw [List.length_cons, List.length_cons, evs_len e2]
      | err => rw [e2] at h; cases h
      | bad => rw [e2] at h; cases h
    | err => rw [e1] at h; cases h
    | bad => rw [e1] at h; cases h
theorem Post.evs {α : Type} {K : PySem.W.Frag} {mg : Str → Option Value} {G F : Hp} {m : List Addr} {E : XK} {fns : Nat → Fn} {es : List DL.E} {env : Ev} {S : Store} {f : List W → Store → Out α} {k : α → Store → Hp → List Addr → Hp → Prop} (hp : Post K mg G E F m ((DL.evs fns es env S).bind f) k) :
    Post K mg G E F m (DL.evs fns es env S) fun ws S' F' m' _ => ws.length = es.length ∧ Post K mg G E F' m' (f ws S') k := by
  cases e : DL.evs fns es env S with
  | ok ws S1 =>
    rw [e] at hp
    exact fun F' m' H' l s => ⟨evs_len e, Post.le hp l⟩
  | err c x S1 => rw [e] at hp; exact hp
  | bad => rw [e] at hp; exact hp
theorem kw_len : ∀ {kws : List Keyword}, kwPlain kws = true → kws.length = (kwNames kws).length
  | [], _ => rfl
  | ⟨some x, v, p⟩ :: r, h => by
    show r.length + 1 = (kwNames r).length + 1
    rw [kw_len (kws := r) h]
theorem pick_len {α : Type} {xs : List α} : ∀ ord : List Nat, (∀ i ∈ ord, i < xs.length) → (ord.filterMap fun i => xs[i]?).length = ord.length
  | [], _ => rfl
  | i :: ord, h => by
    rw [List.filterMap_cons, List.getElem?_eq_getElem (h i (List.mem_cons_self ..))]
    show (ord.filterMap fun i => xs[i]?).length + 1 = _
    rw [pick_len ord fun j hj => h j (List.mem_cons_of_mem _ hj)]
    rfl
theorem rd_call (h : Amb Γ N sc fb E X) {f : Nat} {c : Callee} {x : Str} {p : Pos} {kws : List Keyword} {es : List DL.E} {xs : List Expr} (ef : Γ.fns[f]? = some c) (ex : c.name = x) (en : c.n = xs.length) (ek : c.ks = kwNames kws) (hg : glB sc x = true) (hx : okN x = true) (hkp : kwPlain kws = true)
    (r : Rds X E (fnsOf Γ) es (xs ++ kws.map (·.value))) (hlen : c.ord.length = c.np) (hord : ∀ i ∈ c.ord, i < c.n + c.ks.length) : RdE X E (.Call (.Name x p) xs kws pos) (ev (fnsOf Γ) (.call f es)) := by
  obtain ⟨e1, e2, rfl, r1, r2⟩ := r.split
  obtain ⟨g, fd, ps, k, hm, fn, room, keep, hb⟩ := h.tab.fns c (List.mem_of_getElem? ef)
  obtain ⟨hdb, _, _⟩ := okN_of hx
  subst ex
  rw [ek] at hb
  have main : PE X (.Call (.Name c.name p) xs kws pos) (tCallG c.n (kwNames kws).length c.ord (spD X.K X.mg c.np c.den) E (tAr X.K X.mg E (evs (fnsOf Γ) e1)) (tAr X.K X.mg E (evs (fnsOf Γ) e2))) := by
    cases xs with
    | nil =>
      cases r1
      refine PE.imp (fun σ H Q ⟨F, G, m, env, S, hs, he, hp⟩ => ?_) (pe_callG0 fn room h.grd (h.gl hg) hm keep hb h.pas r2.rk hkp hdb)
      exact hp.now hs [] .nil
    | cons y ys => exact pe_callG fn room h.grd (h.gl hg) hm keep hb h.pas r1.ra r2.rk r1.plain hkp hdb
  refine PE.imp (fun σ H Q ⟨F, G, m, env, S, hs, he, hp⟩ => ?_) main
  have hp : Post X.K X.mg G E F m ((evs (fnsOf Γ) (e1 ++ e2) env S).bind fun ws S => evCall (fnsOf Γ f) ws S) (kW X.K Q) := hp
  rw [evs_append] at hp
  simp only [bind_assoc', Out.bind_ok] at hp
  have hfn : fnsOf Γ f = fun ws S => c.den (c.ord.filterMap fun i => ws[i]?) S := by
    unfold fnsOf
    rw [ef]
  refine ⟨F, G, m, env, S, hs, he, (Post.evs hp).mono fun ws S1 F1 m1 H1 l s1 ⟨lw, hp1⟩ vs rvs => ⟨F1, G, m1, env, S1, s1, he.le l, (Post.evs hp1).mono fun zs S2 F2 m2 H2 l2 s2 ⟨lz, hp2⟩ us rus => ?_⟩⟩
  rw [hfn] at hp2
  have rr : RepWs X.K F2 m2 (ws ++ zs) (vs ++ us) := RepWs.append (RepWs.le l2 rvs) rus
  obtain ⟨F3, G3, m3, S3, ws3, s3, r3, l3, hp3⟩ := call_rep s2 rr hp2
  have l4 : zs.length = (kwNames kws).length := by rw [lz, r2.len, List.length_map, kw_len hkp]
  have l5 : ws.length = c.n := by rw [lw, r1.len, en]
  refine ⟨by rw [← ws_length rvs]; exact l5, by rw [← ws_length rus]; exact l4, F3, G3, m3, S3, _, ?_, s3, fold_free r3 c.ord, hp3⟩
  rw [← hlen]
  refine pick_len c.ord fun i hi => ?_
  have := hord i hi
  rw [l3, List.length_append, l5, l4, ← ek]
  exact this
/-! ### methods, built-ins -/
theorem nil_of {xs : List Expr} (h : (!xs.isEmpty) = true) : xs ≠ [] := by
  intro e
  subst e
  cases h
theorem rd_bi1 (h : Amb Γ N sc fb E X) {b : Bi} {x : Str} {p : Pos} {y : Expr} {ys : List Expr} {es : List DL.E} (hb : biNm b = x) (hne : ∀ t, b ≠ .isinst t) (hg : glB sc x = true) (hf : x ∈ Γ.free) (r : Rds X E fns es (y :: ys)) : RdE X E (.Call (.Name x p) (y :: ys) [] pos) (ev fns (.bi b es)) := by
  subst hb
  have hm := h.mfree hf
  have hgl := h.gl hg
  cases b with
  | len => exact rd_callB cr_len hgl hm (by decide +kernel) r.ra r.plain (by decide) (by decide)
  | int => exact rd_callT cr_int hgl hm (by decide +kernel) r.ra r.plain (by decide) (by decide)
  | tuple => exact rd_callT cr_tuple hgl hm (by decide +kernel) r.ra r.plain (by decide) (by decide)
  | list b => exact rd_callT (x := "list") (cr_list b) hgl hm (by decide +kernel) r.ra r.plain (by decide) (by decide)
  | isinst t => exact absurd rfl (hne t)
  | repr => exact rd_callB (cr_repr h.grd h.hun h.tab.dig) hgl hm (by decide +kernel) r.ra r.plain (by decide) (by decide)
  | abs => exact rd_callB cr_abs hgl hm (by decide +kernel) r.ra r.plain (by decide) (by decide)
  | sum => exact rd_callB (crl_sum h.calm) hgl hm (by decide +kernel) r.ra r.plain (by decide) (by decide)
  | all => exact rd_callB (crl_all h.calm) hgl hm (by decide +kernel) r.ra r.plain (by decide) (by decide)
  | any => exact rd_callB (crl_any h.calm) hgl hm (by decide +kernel) r.ra r.plain (by decide) (by decide)
  | min => exact rd_callB (crl_min h.calm) hgl hm (by decide +kernel) r.ra r.plain (by decide) (by decide)
  | max => exact rd_callB (crl_max h.calm) hgl hm (by decide +kernel) r.ra r.plain (by decide) (by decide)
  | str => exact rd_callT cr_str hgl hm (by decide +kernel) r.ra r.plain (by decide) (by decide)
theorem rd_isi1 (h : Amb Γ N sc fb E X) {t : String} {x T : Str} {p p2 : Pos} {y : Expr} {es : List DL.E} (hb : ("isinstance" : Str) = x) (hT : T = Str.ofString t) (ht : t ∈ tyAsk) (hg : glB sc x = true) (hf : x ∈ Γ.free) (hg2 : glB sc T = true) (hf2 : T ∈ Γ.free) (r : Rds X E fns es [y]) :
    RdE X E (.Call (.Name x p) [y, .Name T p2] [] pos) (ev fns (.bi (.isinst t) es)) := by
  subst hb hT
  cases r with
  | cons r1 hp r2 =>
    cases r2
    have q := rd_isi (p := p) (p2 := p2) (pos := pos) ht (h.gl hg) (h.mfree hf) (by decide +kernel) (h.gl hg2) (h.mfree hf2) (by simp only [tyAsk, List.mem_cons, List.not_mem_nil, or_false] at ht; rcases ht with rfl | rfl | rfl | rfl | rfl | rfl <;> decide +kernel) r1 hp (by decide) (by decide)
      (by simp only [tyAsk, List.mem_cons, List.not_mem_nil, or_false] at ht; rcases ht with rfl | rfl | rfl | rfl | rfl | rfl <;> decide) (by simp only [tyAsk, List.mem_cons, List.not_mem_nil, or_false] at ht; rcases ht with rfl | rfl | rfl | rfl | rfl | rfl <;> decide)
    refine congrE q fun env S => ?_
    show _ = ((ev fns _ env S).bind fun x S => (Out.ok [] S).bind fun xs S => .ok (x :: xs) S).bind fun ws S => evBi (.isinst t) ws S
    cases ev fns _ env S <;> rfl
theorem rd_mt1 (h : Amb Γ N sc fb E X) {m : Mt} {name : Str} {o : Expr} {a : DL.E} {apos cpos : Pos} {xs : List Expr} {es : List DL.E} (hm : mtNm m = name) (hpop : (isPop m == xs.isEmpty) = true) (hs : notSuper o = true) (hl : (apos.endLine == cpos.line) = true) (ha : RdE X E o (ev fns a)) (r : Rds X E fns es xs) (hlen : xs.length < 20) :
    RdE X E (.Call (.Attribute o name apos) xs [] cpos) (ev fns (.mt m a es)) := by
  subst hm
  have hbase : attributeBase o (mtNm m) X.env (eval o X.env) = eval o X.env := attr_base hs
  cases xs with
  | nil =>
    cases r
    cases m <;> first | cases hpop | skip
    exact rd_mt0 F.plainAttrs_list F.slot_list_pop F.type_list_pop crm_pop (.inr rfl) ha hbase hl
  | cons y ys =>
    cases m with
    | append => exact rd_mt F.plainAttrs_list F.slot_list_append F.type_list_append crm_append (.inr rfl) ha r.ra r.plain hlen hbase hl
    | extend => exact rd_mt F.plainAttrs_list F.slot_list_extend F.type_list_extend crm_extend (.inr rfl) ha r.ra r.plain hlen hbase hl
    | popAt => exact rd_mt F.plainAttrs_list F.slot_list_pop F.type_list_pop crm_popAt (.inr rfl) ha r.ra r.plain hlen hbase hl
    | pop => cases hpop
    | count => exact rd_mt F.plainAttrs_list F.slot_list_count F.type_list_count (crm_count (by have := h.hun; omega)) (.inr rfl) ha r.ra r.plain hlen hbase hl
    | split => exact rd_mt F.plainAttrs_str F.slot_str_split F.type_str_split crm_split (.inl rfl) ha r.ra r.plain hlen hbase hl
    | join => exact rd_mt F.plainAttrs_str F.slot_str_join F.type_str_join crm_join (.inl rfl) ha r.ra r.plain hlen hbase hl
end
end DL
/-! DLo: a checked expression reckons what its text does. -/
namespace DL
open PySem PySem.Spec PyProof.Rows L2

section
variable {Γ : Tab} {N : List Str}
theorem and2 {a b : Bool} (h : (a && b) = true) : a = true ∧ b = true := by rw [Bool.and_eq_true] at h; exact h
theorem beq_marks {b : Bool} (h : (!b) = true) : b = false := by cases b <;> first | rfl | cases h
theorem ownP_snd (N : List Str) (own : List Nat) : (ownP N own).map (·.2) = own := by
  unfold ownP
  rw [List.map_map]
  exact List.map_id' own
theorem congrI {X : Cx} {E : XK} {tg x : Expr} {d d' : Ev → Store → Out (List W × Option Nat)} (h : RdI X E tg x d) (e : ∀ env S, d env S = d' env S) : RdI X E tg x d' := by
  rw [show d' = d from funext fun env => funext fun S => (e env S).symm]
  exact h
theorem rts_yes {X : Cx} {E : XK} : PTs X [] (tBl X.K X.mg E (evB (fnsOf Γ) .yes)) :=
  ⟨fun pins s σ H Q I ⟨F, G, m, env, S, hs, he, hp⟩ => pts_nil.run pins s σ H Q I (Post.now (a := true) hp hs)⟩
mutual
theorem sndT : ∀ {t : T} {sc : Scope} {fb : Str → Bool} {E : XK} {X : Cx} {x : Expr}, chkT N sc fb t x = true → Amb Γ N sc fb E X → PG X x (gT X.K t)
  | .name i, sc, fb, E, X, x, h, am => by
    cases x with
    | Name y p =>
      simp only [chkT, Bool.and_eq_true, Bool.or_eq_true, decide_eq_true_eq] at h
      obtain ⟨⟨h1, h2⟩, h3⟩ := h
      exact rg_name am.ndX (am.nix h1) (am.loc h2) (h3.imp (am.fnb y) fun e => by rw [am.hsc]; exact e)
    | _ => cases h
  | .tup ts, sc, fb, E, X, x, h, am => by
    cases x with
    | Tuple xs k p =>
      obtain ⟨q, h1, h2⟩ := sndTs (ts := ts) h am
      exact rg_tup am.calm q h1 h2
    | _ => cases h
theorem sndTs : ∀ {ts : List T} {sc : Scope} {fb : Str → Bool} {E : XK} {X : Cx} {xs : List Expr}, chkTs N sc fb ts xs = true → Amb Γ N sc fb E X → PGs X xs (gTs X.K ts) ∧ xs.all plainE = true ∧ ts.length = xs.length
  | [], sc, fb, E, X, [], h, am => ⟨rgs_nil, rfl, rfl⟩
  | [], sc, fb, E, X, _ :: _, h, am => by cases h
  | _ :: _, sc, fb, E, X, [], h, am => by cases h
  | t :: ts, sc, fb, E, X, x :: xs, h, am => by
    obtain ⟨h1, h2⟩ := and2 (show (chkT N sc fb t x && chkTs N sc fb ts xs) = true from h)
    have q1 := sndT h1 am
    obtain ⟨q2, h3, h4⟩ := sndTs h2 am
    have hp : plainE x = true := by
      cases x <;> first | rfl | (cases t <;> cases h1)
    exact ⟨rgs_cons q1 q2 hp, by rw [List.all_cons, hp, h3]; rfl, by rw [List.length_cons, List.length_cons, h4]⟩
end
mutual
theorem sndE : ∀ {e : E} {sc : Scope} {fb : Str → Bool} {E : XK} {X : Cx} {x : Expr}, chkE Γ N sc e x = true → Amb Γ N sc fb E X → RdE X E x (ev (fnsOf Γ) e)
  | .var i, sc, fb, E, X, x, h, am => by
    cases x with
    | Name y p =>
      obtain ⟨h, h3⟩ := and2 (show (decide (N[i]? = some y) && visB sc y && okN y) = true from h)
      obtain ⟨h1, h2⟩ := and2 h
      obtain ⟨d1, d2, d3⟩ := okN_of h3
      exact rd_var (am.nix (of_decide_eq_true h1)) (am.vis h2) d1 d2
    | _ => cases h
  | .const d, sc, fb, E, X, x, h, am => by
    cases x with
    | Constant c k p =>
      cases d with
      | int i => cases c with
        | int j => cases of_decide_eq_true h; exact rd_const pe_int fun F => .int _
        | _ => cases h
      | str i => cases c with
        | str j => cases of_decide_eq_true h; exact rd_const pe_str fun F => .str _
        | _ => cases h
      | bl i => cases c with
        | bool j => cases eq_of_beq (show (i == j) = true from h); exact rd_const pe_bl fun F => .bl _
        | _ => cases h
      | non => cases c with
        | none => exact rd_const pe_non fun F => .non
        | _ => cases h
      | _ => cases c <;> cases h
    | _ => cases d <;> cases h
  | .glob y v, sc, fb, E, X, x, h, am => by
    cases x with
    | Name z p =>
      obtain ⟨h, h4⟩ := and2 (show (decide (y = z) && glB sc z && okN z && Γ.gl.any fun p => decide (p.1 = z) && sameD p.2 v) = true from h)
      obtain ⟨h, h3⟩ := and2 h
      obtain ⟨h1, h2⟩ := and2 h
      obtain ⟨d1, d2, d3⟩ := okN_of h3
      obtain ⟨q, hq, hh⟩ := List.any_eq_true.mp h4
      obtain ⟨g1, g2⟩ := and2 hh
      obtain ⟨u, w, hm, r1, r2⟩ := am.tab.gl q hq
      rw [of_decide_eq_true g1] at hm
      rw [sameD_eq g2] at r2
      exact rd_const (pe_glob (am.gl h2) hm r1 d1) fun F => r2.le fun a o e => by cases e
    | _ => cases h
  | .bin op a b, sc, fb, E, X, x, h, am => by
    cases x with
    | BinOp y o z p =>
      obtain ⟨h, h3⟩ := and2 (show (decide (op = o) && chkE Γ N sc a y && chkE Γ N sc b z) = true from h)
      obtain ⟨h1, h2⟩ := and2 h
      cases of_decide_eq_true h1
      exact rd_bin (sndE h2 am) (sndE h3 am)
    | _ => cases h
  | .neg a, sc, fb, E, X, x, h, am => by
    cases x with
    | UnaryOp o y p => cases o with
      | USub => exact rd_neg (sndE (show chkE Γ N sc a y = true from h) am)
      | _ => cases h
    | _ => cases h
  | .cmp op a b, sc, fb, E, X, x, h, am => by
    cases x with
    | Compare y os zs p =>
      match os, zs, h with
      | [o], [z], h =>
        obtain ⟨h, h4⟩ := and2 (show (decide (op = o) && chkE Γ N sc a y && chkE Γ N sc b z && !behindInMarks o z) = true from h)
        obtain ⟨h, h3⟩ := and2 h
        obtain ⟨h1, h2⟩ := and2 h
        cases of_decide_eq_true h1
        exact rd_cmp (by have := am.hun; omega) (sndE h2 am) (sndE h3 am) (beq_marks h4)
      | [], _, h => cases h
      | [_], [], h => cases h
      | [_], _ :: _ :: _, h => cases h
      | _ :: _ :: _, _, h => cases h
    | _ => cases h
  | .chain op op' a b c, sc, fb, E, X, x, h, am => by
    cases x with
    | Compare y os zs p =>
      match os, zs, h with
      | [o, o'], [z, z'], h =>
        obtain ⟨h, h6⟩ := and2 (show (decide (op = o) && decide (op' = o') && chkE Γ N sc a y && chkE Γ N sc b z && chkE Γ N sc c z' && !lastMarks [o, o'] [z, z']) = true from h)
        obtain ⟨h, h5⟩ := and2 h
        obtain ⟨h, h4⟩ := and2 h
        obtain ⟨h, h3⟩ := and2 h
        obtain ⟨h1, h2⟩ := and2 h
        cases of_decide_eq_true h1
        cases of_decide_eq_true h2
        exact rd_chain (by have := am.hun; omega) (sndE h3 am) (sndE h4 am) (sndE h5 am) (beq_marks h6)
      | [], _, h => cases h
      | [_], _, h => cases h
      | [_, _], [], h => cases h
      | [_, _], [_], h => cases h
      | [_, _], _ :: _ :: _ :: _, h => cases h
      | _ :: _ :: _ :: _, _, h => cases h
    | _ => cases h
  | .not a, sc, fb, E, X, x, h, am => by
    cases x with
    | UnaryOp o y p => cases o with
      | Not => exact rd_not (sndE (show chkE Γ N sc a y = true from h) am)
      | _ => cases h
    | _ => cases h
  | .bop k es, sc, fb, E, X, x, h, am => by
    cases x with
    | BoolOp o xs p =>
      obtain ⟨h, h3⟩ := and2 (show (decide (isAnd o = k) && !xs.isEmpty && chkEs Γ N sc es xs) = true from h)
      obtain ⟨h1, h2⟩ := and2 h
      exact Rds.bop (of_decide_eq_true h1) (nil_of h2) (sndEs h3 am)
    | _ => cases h
  | .ifx c a b, sc, fb, E, X, x, h, am => by
    cases x with
    | IfExp y z w p =>
      obtain ⟨h, h3⟩ := and2 (show (chkB Γ N sc c y && chkE Γ N sc a z && chkE Γ N sc b w) = true from h)
      obtain ⟨h1, h2⟩ := and2 h
      exact rd_ifx (sndB h1 am) (sndE h2 am) (sndE h3 am)
    | _ => cases h
  | .tup es, sc, fb, E, X, x, h, am => by
    cases x with
    | Tuple xs k p => exact rd_tup (sndEs (show chkEs Γ N sc es xs = true from h) am).ra
    | _ => cases h
  | .lst m es, sc, fb, E, X, x, h, am => by
    cases x with
    | List xs p => exact rd_lst (k := m) (sndEs (show chkEs Γ N sc es xs = true from h) am).ra
    | _ => cases h
  | .ix a i, sc, fb, E, X, x, h, am => by
    cases x with
    | Subscript y z p =>
      obtain ⟨h, h3⟩ := and2 (show (chkE Γ N sc a y && chkE Γ N sc i z && plainIxB z) = true from (by cases z <;> first | exact h | (cases i <;> first | cases h | (rename_i d _ _ _ _; cases d <;> cases h))))
      obtain ⟨h1, h2⟩ := and2 h
      exact rd_ix (sndE h1 am) (sndE h2 am) (plainIx_of h3)
    | _ => cases h
  | .slice a lo hi l hh, sc, fb, E, X, x, h, am => by
    cases x with
    | Subscript y z p => 
      cases z with
      | Slice lo' hi' st p2 =>
        cases st with
        | none =>
          obtain ⟨h, h3⟩ := and2 (show (chkE Γ N sc a y && (match (generalizing := false) lo' with | none => !l | some y => l && chkE Γ N sc lo y) && (match (generalizing := false) hi' with | none => !hh | some y => hh && chkE Γ N sc hi y)) = true from h)
          obtain ⟨h1, h2⟩ := and2 h
          refine rd_slice (sndE h1 am) (dl := fun env S => if l = true then (ev (fnsOf Γ) lo env S).bind boundI else .ok none S) (dh := fun env S => if hh = true then (ev (fnsOf Γ) hi env S).bind boundI else .ok none S) ?_ ?_
          · cases lo' with
            | none => cases beq_marks h2; exact po_no
            | some w =>
              obtain ⟨e1, e2⟩ := and2 h2
              cases e1
              exact po_yes (sndE e2 am)
          · cases hi' with
            | none => cases beq_marks h3; exact po_no
            | some w =>
              obtain ⟨e1, e2⟩ := and2 h3
              cases e1
              exact po_yes (sndE e2 am)
        | some => cases h
      | _ => cases h
    | _ => cases h
  | .call f es, sc, fb, E, X, x, h, am => by
    cases x with
    | Call fx xs kws p =>
      cases fx with
      | Name y p2 =>
        obtain ⟨h, h5⟩ := and2 (show ((match (generalizing := false) Γ.fns[f]? with
      | some c => decide (c.name = y) && decide (c.n = xs.length) && decide (c.ks = kwNames kws) && decide (c.ord.length = c.np) && c.ord.all fun i => decide (i < c.n + c.ks.length)
      | none => false) && glB sc y && okN y && kwPlain kws && chkEs Γ N sc es (xs ++ kws.map (·.value))) = true from h)
        obtain ⟨h, h4⟩ := and2 h
        obtain ⟨h, h3⟩ := and2 h
        obtain ⟨h1, h2⟩ := and2 h
        cases ef : Γ.fns[f]? with
        | none => rw [ef] at h1; cases h1
        | some c =>
          rw [ef] at h1
          obtain ⟨h, g5⟩ := and2 h1
          obtain ⟨h, g4⟩ := and2 h
          obtain ⟨h, g3⟩ := and2 h
          obtain ⟨g1, g2⟩ := and2 h
          exact rd_call am ef (of_decide_eq_true g1) (of_decide_eq_true g2) (of_decide_eq_true g3) h2 h3 h4 (sndEs h5 am) (of_decide_eq_true g4) fun i hi => of_decide_eq_true (List.all_eq_true.mp g5 i hi)
      | _ => cases h
    | _ => cases h
  | .bi b es, sc, fb, E, X, x, h, am => by
    cases x with
    | Call fx xs kws p =>
      cases fx with
      | Name y p2 =>
        cases kws with
        | nil =>
          obtain ⟨h, h4⟩ := and2 (show (decide (biNm b = y) && glB sc y && decide (y ∈ Γ.free) && (match (generalizing := false) b with
      | .isinst t => (match (generalizing := false) xs with
        | [y, .Name T _] => chkEs Γ N sc es [y] && glB sc T && decide (T ∈ Γ.free) && decide (T = Str.ofString t) && decide (t ∈ tyAsk)
        | _ => false)
      | _ => !xs.isEmpty && chkEs Γ N sc es xs)) = true from h)
          obtain ⟨h, h3⟩ := and2 h
          obtain ⟨h1, h2⟩ := and2 h
          have other : ∀ {b : Bi}, (∀ t, b ≠ .isinst t) → biNm b = y → (!xs.isEmpty && chkEs Γ N sc es xs) = true → RdE X E (.Call (.Name y p2) xs [] p) (ev (fnsOf Γ) (.bi b es)) := by
            intro b hb hn hc
            obtain ⟨g1, g2⟩ := and2 hc
            cases xs with
            | nil => cases g1
            | cons z zs => exact rd_bi1 am hn hb h2 (of_decide_eq_true h3) (sndEs g2 am)
          cases b with
          | isinst t =>
            match xs, h4 with
            | [z, .Name T p3], h4 =>
              obtain ⟨h, g5⟩ := and2 (show (chkEs Γ N sc es [z] && glB sc T && decide (T ∈ Γ.free) && decide (T = Str.ofString t) && decide (t ∈ tyAsk)) = true from h4)
              obtain ⟨h, g4⟩ := and2 h
              obtain ⟨h, g3⟩ := and2 h
              obtain ⟨g1, g2⟩ := and2 h
              exact rd_isi1 am (of_decide_eq_true h1) (of_decide_eq_true g4) (of_decide_eq_true g5) h2 (of_decide_eq_true h3) g2 (of_decide_eq_true g3) (sndEs g1 am)
          | _ => exact other (fun t e => by cases e) (of_decide_eq_true h1) h4
        | cons => cases h
      | _ => cases h
    | _ => cases h
  | .lrange m es, sc, fb, E, X, x, h, am => by
    cases x with
    | Call fx xs kws p =>
      match fx, xs, kws, h with
      | .Name f p1, [.Call (.Name g p2) zs [] p3], [], h =>
        obtain ⟨h, h8⟩ := and2 (show (decide (f = "list") && decide (g = "range") && glB sc f && glB sc g && decide (f ∈ Γ.free) && decide (g ∈ Γ.free) && chkEs Γ N sc es zs && (zs.length == 1 || zs.length == 2)) = true from h)
        obtain ⟨h, h7⟩ := and2 h
        obtain ⟨h, h6⟩ := and2 h
        obtain ⟨h, h5⟩ := and2 h
        obtain ⟨h, h4⟩ := and2 h
        obtain ⟨h, h3⟩ := and2 h
        obtain ⟨h1, h2⟩ := and2 h
        cases of_decide_eq_true h1
        cases of_decide_eq_true h2
        have q := sndEs h7 am
        match zs, q, h8 with
        | [_], .cons r1 hp1 .nil, _ =>
          refine congrE (rd_lrange1 (k := m) am.calm (am.gl h3) (am.mfree (of_decide_eq_true h5)) (am.gl h4) (am.mfree (of_decide_eq_true h6)) r1 hp1) fun env S => ?_
          show _ = ((ev (fnsOf Γ) _ env S).bind fun x S => (Out.ok [] S).bind fun xs S => .ok (x :: xs) S).bind fun ws S => (Out.of (rangeOf ws) S).bind fun xs S => newL m xs S
          cases ev (fnsOf Γ) _ env S <;> rfl
        | [_, _], .cons r1 hp1 (.cons r2 hp2 .nil), _ =>
          refine congrE (rd_lrange2 (k := m) am.calm (am.gl h3) (am.mfree (of_decide_eq_true h5)) (am.gl h4) (am.mfree (of_decide_eq_true h6)) r1 r2 hp1 hp2) fun env S => ?_
          show _ = ((ev (fnsOf Γ) _ env S).bind fun x S => ((ev (fnsOf Γ) _ env S).bind fun x S => (Out.ok [] S).bind fun xs S => .ok (x :: xs) S).bind fun xs S => .ok (x :: xs) S).bind fun ws S => (Out.of (rangeOf ws) S).bind fun xs S => newL m xs S
          simp only [bind_assoc', Out.bind_ok]
    | _ => cases h
  | .mt m a es, sc, fb, E, X, x, h, am => by
    cases x with
    | Call fx xs kws p =>
      cases fx with
      | Attribute o name apos =>
        cases kws with
        | nil =>
          obtain ⟨h, h7⟩ := and2 (show (decide (mtNm m = name) && (isPop m == xs.isEmpty) && notSuper o && (apos.endLine == p.line) && chkE Γ N sc a o && chkEs Γ N sc es xs && decide (xs.length < 20)) = true from h)
          obtain ⟨h, h6⟩ := and2 h
          obtain ⟨h, h5⟩ := and2 h
          obtain ⟨h, h4⟩ := and2 h
          obtain ⟨h, h3⟩ := and2 h
          obtain ⟨h1, h2⟩ := and2 h
          exact rd_mt1 am (of_decide_eq_true h1) h2 h3 h4 (sndE h5 am) (sndEs h6 am) (of_decide_eq_true h7)
        | cons => cases h
      | _ => cases h
    | _ => cases h
  | .comp m e t it c own, sc, fb, E, X, x, h, am => by
    cases x with
    | ListComp elt gs scope p =>
      match gs, h with
      | [⟨tg, iter, ifs, 0⟩], h =>
        obtain ⟨h, h6⟩ := and2 (show (chkI Γ N sc it iter tg && blkC N sc scope (ownP N own) && (tsl t).all (fun i => decide (i ∈ own)) && chkT N (relS scope sc) (fun x => scope.names.lookup x == some .cell) t tg &&
      (match (generalizing := false) ifs with
      | [] => isYes c
      | [z] => chkB Γ N (relS scope sc) c z
      | _ => false) && chkE Γ N (relS scope sc) e elt) = true from h)
        obtain ⟨h, h5⟩ := and2 h
        obtain ⟨h, h4⟩ := and2 h
        obtain ⟨h, h3⟩ := and2 h
        obtain ⟨h1, h2⟩ := and2 h
        have ok := blkOk_by h2
        have bl := fun s H C cl fp => am.blk ok.kind s H C cl fp
        refine rd_comp (b := m) am.calm am.ndX (sndI h1 am) (ownP := ownP N own) (by rw [am.hN, am.hsc]; exact ok) (ownP_snd N own) (fun i hi => of_decide_eq_true (List.all_eq_true.mp h3 i hi)) (fun s H C cl fp => sndT h4 (bl s H C cl fp)) (fun s H C cl fp => ?_) (fun s H C cl fp => sndE h6 (bl s H C cl fp)) (fold_base h1)
        match ifs, h5 with
        | [], h5 => cases c <;> first | exact rts_yes | cases h5
        | [z], h5 => exact pts_one (sndB h5 (bl s H C cl fp))
        | _ :: _ :: _, h5 => cases h5
    | _ => cases h
theorem sndEs : ∀ {es : List DL.E} {sc : Scope} {fb : Str → Bool} {E : XK} {X : Cx} {xs : List Expr}, chkEs Γ N sc es xs = true → Amb Γ N sc fb E X → Rds X E (fnsOf Γ) es xs
  | [], sc, fb, E, X, [], h, am => .nil
  | [], sc, fb, E, X, _ :: _, h, am => by cases h
  | _ :: _, sc, fb, E, X, [], h, am => by cases h
  | e :: es, sc, fb, E, X, x :: xs, h, am => by
    obtain ⟨h1, h2⟩ := and2 (show (chkE Γ N sc e x && chkEs Γ N sc es xs) = true from h)
    exact .cons (sndE h1 am) (chkE_plain h1) (sndEs h2 am)
theorem sndB : ∀ {b : B} {sc : Scope} {fb : Str → Bool} {E : XK} {X : Cx} {x : Expr}, chkB Γ N sc b x = true → Amb Γ N sc fb E X → RdT X E x (evB (fnsOf Γ) b)
  | .val a, sc, fb, E, X, x, h, am => by
    obtain ⟨h1, h2⟩ := and2 (show (notTest x && chkE Γ N sc a x) = true from h)
    exact rt_val (sndE h2 am) (test_base h1)
  | .yes, sc, fb, E, X, x, h, am => by cases x <;> cases h
  | .not a, sc, fb, E, X, x, h, am => by
    cases x with
    | UnaryOp o y p => cases o with
      | Not => exact rt_not (sndB (show chkB Γ N sc a y = true from h) am)
      | _ => cases h
    | _ => cases h
  | .bop k bs, sc, fb, E, X, x, h, am => by
    cases x with
    | BoolOp o xs p =>
      obtain ⟨h, h3⟩ := and2 (show (decide (isAnd o = k) && !xs.isEmpty && chkBs Γ N sc bs xs) = true from h)
      obtain ⟨h1, h2⟩ := and2 h
      have q := (Rts.bop (pos := p) (k := k) (nil_of h2) (sndBs h3 am)).pt
      rw [show (if k then BoolOp.And else .Or) = o from by cases of_decide_eq_true h1; cases o <;> rfl] at q
      exact q
    | _ => cases h
  | .cmp op a b, sc, fb, E, X, x, h, am => by
    cases x with
    | Compare y os zs p =>
      match os, zs, h with
      | [o], [z], h =>
        obtain ⟨h, h4⟩ := and2 (show (decide (op = o) && chkE Γ N sc a y && chkE Γ N sc b z && !behindInMarks o z) = true from h)
        obtain ⟨h, h3⟩ := and2 h
        obtain ⟨h1, h2⟩ := and2 h
        cases of_decide_eq_true h1
        exact rt_cmp (by have := am.hun; omega) (sndE h2 am) (sndE h3 am) (beq_marks h4)
      | [], _, h => cases h
      | [_], [], h => cases h
      | [_], _ :: _ :: _, h => cases h
      | _ :: _ :: _, _, h => cases h
    | _ => cases h
  | .chain op op' a b c, sc, fb, E, X, x, h, am => by
    cases x with
    | Compare y os zs p =>
      match os, zs, h with
      | [o, o'], [z, z'], h =>
        obtain ⟨h, h6⟩ := and2 (show (decide (op = o) && decide (op' = o') && chkE Γ N sc a y && chkE Γ N sc b z && chkE Γ N sc c z' && !lastMarks [o, o'] [z, z']) = true from h)
        obtain ⟨h, h5⟩ := and2 h
        obtain ⟨h, h4⟩ := and2 h
        obtain ⟨h, h3⟩ := and2 h
        obtain ⟨h1, h2⟩ := and2 h
        cases of_decide_eq_true h1
        cases of_decide_eq_true h2
        exact rt_chain (by have := am.hun; omega) (sndE h3 am) (sndE h4 am) (sndE h5 am) (beq_marks h6)
      | [], _, h => cases h
      | [_], _, h => cases h
      | [_, _], [], h => cases h
      | [_, _], [_], h => cases h
      | [_, _], _ :: _ :: _ :: _, h => cases h
      | _ :: _ :: _ :: _, _, h => cases h
    | _ => cases h
theorem sndBs : ∀ {bs : List B} {sc : Scope} {fb : Str → Bool} {E : XK} {X : Cx} {xs : List Expr}, chkBs Γ N sc bs xs = true → Amb Γ N sc fb E X → Rts X E (fnsOf Γ) bs xs
  | [], sc, fb, E, X, [], h, am => .nil
  | [], sc, fb, E, X, _ :: _, h, am => by cases h
  | _ :: _, sc, fb, E, X, [], h, am => by cases h
  | e :: es, sc, fb, E, X, x :: xs, h, am => by
    obtain ⟨h1, h2⟩ := and2 (show (chkB Γ N sc e x && chkBs Γ N sc es xs) = true from h)
    exact .cons (sndB h1 am) (sndBs h2 am)
theorem sndI : ∀ {it : I} {sc : Scope} {fb : Str → Bool} {E : XK} {X : Cx} {x tg : Expr}, chkI Γ N sc it x tg = true → Amb Γ N sc fb E X → RdI X E tg x (evI (fnsOf Γ) it)
  | .seq a, sc, fb, E, X, x, tg, h, am => by
    exact ri_seq (sndE (show chkE Γ N sc a x = true from h) am)
  | .range es, sc, fb, E, X, x, tg, h, am => by
    cases x with
    | Call fx xs kws p =>
      match fx, kws, h with
      | .Name f p1, [], h =>
        obtain ⟨h, h5⟩ := and2 (show (decide (f = "range") && glB sc f && decide (f ∈ Γ.free) && chkEs Γ N sc es xs && (xs.length == 1 || xs.length == 2)) = true from h)
        obtain ⟨h, h4⟩ := and2 h
        obtain ⟨h, h3⟩ := and2 h
        obtain ⟨h1, h2⟩ := and2 h
        cases of_decide_eq_true h1
        have q := sndEs h4 am
        match xs, q, h5 with
        | [_], .cons r1 hp1 .nil, _ =>
          refine congrI (ri_range1 (am.gl h2) (am.mfree (of_decide_eq_true h3)) r1 hp1) fun env S => ?_
          show _ = ((ev (fnsOf Γ) _ env S).bind fun x S => (Out.ok [] S).bind fun xs S => .ok (x :: xs) S).bind fun ws S => Out.of ((rangeOf ws).map fun xs => (xs, none)) S
          cases ev (fnsOf Γ) _ env S <;> rfl
        | [_, _], .cons r1 hp1 (.cons r2 hp2 .nil), _ =>
          refine congrI (ri_range2 (am.gl h2) (am.mfree (of_decide_eq_true h3)) r1 r2 hp1 hp2) fun env S => ?_
          show _ = ((ev (fnsOf Γ) _ env S).bind fun x S => ((ev (fnsOf Γ) _ env S).bind fun x S => (Out.ok [] S).bind fun xs S => .ok (x :: xs) S).bind fun xs S => .ok (x :: xs) S).bind fun ws S => Out.of ((rangeOf ws).map fun xs => (xs, none)) S
          simp only [bind_assoc', Out.bind_ok]
    | _ => cases h
  | .enum a, sc, fb, E, X, x, tg, h, am => by
    cases x with
    | Call fx xs kws p =>
      match fx, xs, kws, tg, h with
      | .Name f p1, [y], [], .Tuple es k tp, h =>
        obtain ⟨h, h4⟩ := and2 (show (decide (f = "enumerate") && glB sc f && decide (f ∈ Γ.free) && chkE Γ N sc a y) = true from h)
        obtain ⟨h, h3⟩ := and2 h
        obtain ⟨h1, h2⟩ := and2 h
        cases of_decide_eq_true h1
        exact ri_enum (am.gl h2) (am.mfree (of_decide_eq_true h3)) (sndE h4 am) (chkE_plain h4)
    | _ => cases h
  | .zip a b, sc, fb, E, X, x, tg, h, am => by
    cases x with
    | Call fx xs kws p =>
      match fx, xs, kws, tg, h with
      | .Name f p1, [y, z], [], .Tuple es k tp, h =>
        obtain ⟨h, h5⟩ := and2 (show (decide (f = "zip") && glB sc f && decide (f ∈ Γ.free) && chkE Γ N sc a y && chkE Γ N sc b z) = true from h)
        obtain ⟨h, h4⟩ := and2 h
        obtain ⟨h, h3⟩ := and2 h
        obtain ⟨h1, h2⟩ := and2 h
        cases of_decide_eq_true h1
        exact ri_zip (am.gl h2) (am.mfree (of_decide_eq_true h3)) (sndE h4 am) (sndE h5 am) (chkE_plain h4) (chkE_plain h5)
    | _ => cases h
end
theorem comp_parts {m : Bool} {e : DL.E} {t : T} {it : I} {c : B} {own : List Nat} {sc : Scope} {fb : Str → Bool} {E : XK} {X : Cx} {elt tg iter : Expr} {ifs : List Expr} {scope : Scope} {p : Pos} (h : chkE Γ N sc (.comp m e t it c own) (.ListComp elt [⟨tg, iter, ifs, 0⟩] scope p) = true) (am : Amb Γ N sc fb E X) :
    BlkOk X.N X.env.scope scope (ownP N own) ∧ (ownP N own).map (·.2) = own ∧ (∀ i ∈ tsl t, i ∈ own) ∧ RdI X E tg iter (evI (fnsOf Γ) it) ∧
    (∀ (s : Shared) (H : Hp) (C : Addr) (cl : List (Str × Addr)) (fp : List Addr), PG (X.blk s H scope (compEnvC scope cl C X.env) fp) tg (gT X.K t)) ∧
    (∀ (s : Shared) (H : Hp) (C : Addr) (cl : List (Str × Addr)) (fp : List Addr), PTs (X.blk s H scope (compEnvC scope cl C X.env) fp) ifs (tBl X.K X.mg E0 (evB (fnsOf Γ) c))) ∧
    (∀ (s : Shared) (H : Hp) (C : Addr) (cl : List (Str × Addr)) (fp : List Addr), PE (X.blk s H scope (compEnvC scope cl C X.env) fp) elt (tE X.K X.mg E0 (ev (fnsOf Γ) e))) ∧ ∀ x, foldedSetIterable iter X.env x = pure x := by
  obtain ⟨h, h6⟩ := and2 (show (chkI Γ N sc it iter tg && blkC N sc scope (ownP N own) && (tsl t).all (fun i => decide (i ∈ own)) && chkT N (relS scope sc) (fun x => scope.names.lookup x == some .cell) t tg &&
      (match (generalizing := false) ifs with
      | [] => isYes c
      | [z] => chkB Γ N (relS scope sc) c z
      | _ => false) && chkE Γ N (relS scope sc) e elt) = true from h)
  obtain ⟨h, h5⟩ := and2 h
  obtain ⟨h, h4⟩ := and2 h
  obtain ⟨h, h3⟩ := and2 h
  obtain ⟨h1, h2⟩ := and2 h
  have ok := blkOk_by h2
  have bl := fun s H C cl fp => am.blk ok.kind s H C cl fp
  refine ⟨by rw [am.hN, am.hsc]; exact ok, ownP_snd N own, fun i hi => of_decide_eq_true (List.all_eq_true.mp h3 i hi), sndI h1 am, fun s H C cl fp => sndT h4 (bl s H C cl fp), fun s H C cl fp => ?_, fun s H C cl fp => sndE h6 (bl s H C cl fp), fold_base h1⟩
  match ifs, h5 with
  | [], h5 => cases c <;> first | exact rts_yes | cases h5
  | [z], h5 => exact pts_one (sndB h5 (bl s H C cl fp))
  | _ :: _ :: _, h5 => cases h5
end
end DL
/-! DLp: statements and defs that are checked. -/
namespace DL
open PySem PySem.Spec PyProof.Rows L2

/-! ### stores at once -/
def nameL (sc : Scope) (line : Nat) : Expr → Option Str
  | .Name id pos => if sc.names.lookup id == some .local && pos.line == line then some id else none
  | _ => none
/-- what swappedStores tells -/
def swapN (ts vs : List Expr) (sc : Scope) : Option (Option (List Str)) :=
  if (!(ts.length == 2 || ts.length == 3) || vs.length != ts.length) = true then some none
  else if (ts.filterMap (nameL sc ((ts.head?.map (·.pos.line)).getD 0))).length != ts.length || (ts.filterMap (nameL sc ((ts.head?.map (·.pos.line)).getD 0))).eraseDups.length != (ts.filterMap (nameL sc ((ts.head?.map (·.pos.line)).getD 0))).length then some none
  else if vs.all (foldedForSure 8) then some none
  else if vs.all (constantsAlone 8) then none
  else some (some (ts.filterMap (nameL sc ((ts.head?.map (·.pos.line)).getD 0))))
theorem swapN_of {ts vs : List Expr} {env : Env} {r : Option (List Str)} {k k2 : Nat} {p p2 : Pos} (hk : env.scope.kind = .function) (hp : vs.all plainE = true) (h : swapN ts vs env.scope = some r) : swappedStores [.Tuple ts k p] (.Tuple vs k2 p2) env = pure r := by
  have hb : env.blockKind = .function := by unfold Env.blockKind; rw [hk]; rfl
  have hs : (vs.any fun | .Starred .. => true | _ => false) = false := by
    rw [List.any_eq_false]
    intro v hv
    have := List.all_eq_true.mp hp v hv
    cases v <;> first | (cases this; done) | (intro h; cases h; done)
  unfold swapN at h
  unfold swappedStores
  dsimp only
  rw [hb]
  have hbb : (ScopeKind.function != ScopeKind.function) = false := by decide
  rw [hbb, Bool.or_false]
  split at h
  · rename_i h1; cases h; rw [if_pos h1]
  rename_i h1
  rw [if_neg h1]
  refine (if_neg (by erw [hs]; decide)).trans ?_
  have hn : (fun | Expr.Name id pos => if env.kindOf id == some .local && pos.line == (ts.head?.map (·.pos.line)).getD 0 then some id else none | _ => none) = nameL env.scope ((ts.head?.map (·.pos.line)).getD 0) := by
    funext x
    cases x <;> rfl
  split at h
  · rename_i h2; cases h; rw [← hn] at h2; exact if_pos h2
  rename_i h2
  refine (if_neg (by rw [← hn] at h2; exact h2)).trans ?_
  split at h
  · rename_i h3; cases h; exact if_pos h3
  rename_i h3
  refine (if_neg h3).trans ?_
  split at h
  · cases h
  · rename_i h4
    cases h
    refine (if_neg h4).trans ?_
    rw [← hn]
    rfl

/-! ### which text a statement stands for -/
def isTup : Expr → Bool
  | .Tuple .. => true
  | .List .. => true
  | _ => false
/-- a comprehension that is stored under a name at once -/
def compOk (sc : Scope) : Expr → Expr → Bool
  | .Name y py, .ListComp _ _ scope lpos => decide (sc.names.lookup y = some .local) && (py.line == lpos.line) && !(scope.names.any fun (n, k) => n == y && (k == .local || k == .cell))
  | _, _ => false
def isStrB : Expr → Bool
  | .Constant (.str _) _ _ => true
  | _ => false
def addSub (op : Operator) : Bool := decide (op = .Add) || decide (op = .Sub)
def chkTg (Γ : Tab) (N : List Str) (sc : Scope) : Tg → Expr → Bool
  | .name i, .Name x _ => decide (N[i]? = some x) && locB sc x
  | .ix a i, .Subscript x y _ => chkE Γ N sc a x && chkE Γ N sc i y && plainIxB y
  | _, _ => false
def chkTgs (Γ : Tab) (N : List Str) (sc : Scope) : List Tg → List Expr → Bool
  | [], [] => true
  | t :: ts, x :: xs => chkTg Γ N sc t x && chkTgs Γ N sc ts xs
  | _, _ => false
def parB (N : List Str) (sc : Scope) : List Nat → List Expr → List Expr → Bool
  | [i, j], [.Name x _, .Name y _], [v, w] => decide (N[i]? = some x) && decide (N[j]? = some y) && decide (i ≠ j) && decide (sc.names.lookup x = some .local) && decide (sc.names.lookup y = some .local) && plainE v && plainE w
  | [i, j, k], [.Name x _, .Name y _, .Name z _], [v, w, u] => decide (N[i]? = some x) && decide (N[j]? = some y) && decide (N[k]? = some z) && decide (i ≠ j) && decide (i ≠ k) && decide (j ≠ k) && decide (sc.names.lookup x = some .local) && decide (sc.names.lookup y = some .local) && decide (sc.names.lookup z = some .local)
  | _, _, _ => false
def namesOf : List Expr → List Str
  | .Name x _ :: r => x :: namesOf r
  | _ => []
mutual
def chkS (Γ : Tab) (N : List Str) (sc : Scope) : Sm → Stmt → Bool
  | .asg t e, .Assign [tg] v _ => chkT N sc (fun _ => true) t tg && chkE Γ N sc e v && (if notComp v = true then !(isTup tg && isTup v) else compOk sc tg v)
  | .asgs ts es, .Assign [.Tuple tgs _ _] (.Tuple vs _ _) _ => chkTgs Γ N sc ts tgs && chkEs Γ N sc es vs && decide (swapN tgs vs sc = some none) && decide (es.length = ts.length)
  | .set a i e, .Assign [.Subscript x y _] v _ => chkE Γ N sc a x && chkE Γ N sc i y && plainIxB y && chkE Γ N sc e v
  | .par is es, .Assign [.Tuple tgs _ _] (.Tuple vs _ _) _ => parB N sc is tgs vs && chkEs Γ N sc es vs && decide (swapN tgs vs sc = some (some (namesOf tgs)))
  | .aug i op e, .AugAssign (.Name x _) o v _ => decide (N[i]? = some x) && locB sc x && decide (op = o) && addSub op && chkE Γ N sc e v
  | .expr e, .Expr v _ => notComp v && chkE Γ N sc e v
  | .pass, .Expr v _ => isStrB v
  | .pass, .Pass _ => true
  | .ret e, .Return (some v) _ => chkE Γ N sc e v
  | .retN, .Return none _ => true
  | .ife c a b, .If x s1 s2 _ => chkB Γ N sc c x && chkSs Γ N sc a s1 && chkSs Γ N sc b s2
  | .for_ t it b, .For tg iter body [] _ => chkT N sc (fun _ => true) t tg && chkI Γ N sc it iter tg && chkSs Γ N sc b body
  | .while_ _ c b, .While x body [] _ => chkB Γ N sc c x && chkSs Γ N sc b body
  | .brk, .Break _ => true
  | .never, _ => true
  | _, _ => false
def chkSs (Γ : Tab) (N : List Str) (sc : Scope) : List Sm → List Stmt → Bool
  | [], [] => true
  | a :: as, x :: xs => chkS Γ N sc a x && chkSs Γ N sc as xs
  | _, _ => false
end

section
variable {Γ : Tab} {N : List Str} {sc : Scope} {E : XK} {X : Cx}
theorem swap_false {v : Expr} {t : Option Expr} {l : Nat} {env : Env} (h : notComp v = true) : swapsWith v t l env = pure false := by
  cases v <;> first | rfl | cases h
theorem swap_none {tg v : Expr} {env : Env} (h : (!(isTup tg && isTup v)) = true) : swappedStores [tg] v env = pure none := by
  cases tg <;> first | rfl | (cases v <;> first | rfl | cases h)
theorem fnb_all (am : Amb Γ N sc (fun _ => true) E X) (x : Str) : X.fn x = true := am.fnb x rfl
theorem sndTg {t : Tg} {x : Expr} (h : chkTg Γ N sc t x = true) (am : Amb Γ N sc (fun _ => true) E X) : PG X x (gW X.K X.mg E (evTg (fnsOf Γ) t)) ∧ plainE x = true := by
  cases t with
  | name i =>
    cases x with
    | Name y p =>
      obtain ⟨h1, h2⟩ := and2 (show (decide (N[i]? = some y) && locB sc y) = true from h)
      exact ⟨rw_name am.ndX (am.nix (of_decide_eq_true h1)) (am.loc h2) (.inl (fnb_all am y)), rfl⟩
    | _ => cases h
  | ix a i =>
    cases x with
    | Subscript y z p =>
      obtain ⟨h, h3⟩ := and2 (show (chkE Γ N sc a y && chkE Γ N sc i z && plainIxB z) = true from h)
      obtain ⟨h1, h2⟩ := and2 h
      exact ⟨rw_ix (sndE h1 am) (sndE h2 am) h3, rfl⟩
    | _ => cases h
theorem sndTgs : ∀ {ts : List Tg} {xs : List Expr}, chkTgs Γ N sc ts xs = true → Amb Γ N sc (fun _ => true) E X → PGs X xs (gWs X.K X.mg E (evTgs (fnsOf Γ) ts)) ∧ xs.all plainE = true ∧ ts.length = xs.length
  | [], [], h, am => by
    refine ⟨?_, rfl, rfl⟩
    have e : (evTgs (fnsOf Γ) []) = fun ws env st => match ws with | [] => .ok env st | _ => .bad := by
      funext ws env st
      cases ws <;> rfl
    rw [e]
    exact rws_nil
  | [], _ :: _, h, am => by cases h
  | _ :: _, [], h, am => by cases h
  | t :: ts, x :: xs, h, am => by
    obtain ⟨h1, h2⟩ := and2 (show (chkTg Γ N sc t x && chkTgs Γ N sc ts xs) = true from h)
    obtain ⟨q1, p1⟩ := sndTg h1 am
    obtain ⟨q2, p2, l2⟩ := sndTgs h2 am
    refine ⟨?_, by rw [List.all_cons, p1, p2]; rfl, by rw [List.length_cons, List.length_cons, l2]⟩
    have e : (evTgs (fnsOf Γ) (t :: ts)) = fun ws env st => match ws with | w :: ws => (evTg (fnsOf Γ) t w env st).bind fun env st => evTgs (fnsOf Γ) ts ws env st | [] => .bad := by
      funext ws env st
      cases ws <;> rfl
    rw [e]
    exact rws_cons q1 q2 p1
theorem rs_asgs2 {fns : Nat → Fn} {es : List DL.E} {vs tgs : List Expr} {k k2 : Nat} {pos pt pt2 : Pos} {d2 : List W → Ev → Store → Out Ev} (hc : X.calm = true) (ha : RdA X E vs (evs fns es)) (hg : PGs X tgs (gWs X.K X.mg E d2)) (hp : tgs.all plainE = true) (hl : es.length = tgs.length) (hw : swappedStores [.Tuple tgs k pt] (.Tuple vs k2 pt2) X.env = pure none) :
    RdS X E (.Assign [.Tuple tgs k pt] (.Tuple vs k2 pt2) pos) fun env st => (evs fns es env st).bind fun ws st => if ws.length ≤ lineS then (d2 ws env st).bind fun env st => .ok (.nx env) st else .bad := by
  obtain ⟨h1, h2⟩ := star_none (env := X.env) hp
  refine PS.imp (fun D σ H ⟨F, G, m, env, S, hs, he, hp⟩ => ?_) (ps_asg (pe_tup ha) (pg_tup hc hg h2 h1) rfl hw rfl)
  refine ⟨F, G, m, env, S, hs, he, (Post.evs hp).mono fun ws S1 F1 m1 H1 l s1 ⟨lw, hp1⟩ vs rvs => ?_⟩
  split at hp1
  · rename_i hll
    refine ⟨by rw [← ws_length rvs]; exact Nat.le_trans hll (by decide), fun p hpn => ?_⟩
    obtain ⟨s2, l2⟩ := s1.froze (.tup vs) hpn
    have hlen : vs.length = tgs.length := by rw [← ws_length rvs, lw, hl]
    exact ⟨p, vs, rfl, .inl (.inl upd_same), hlen, _, G, m1, env, S1, ws, s2, (he.le l).le l2, RepWs.le l2 rvs, (Post.le hp1 l2).bind.mono fun env1 S3 F3 m3 H3 l3 s3 hp3 σ' he' => hp3.now s3 σ' he'⟩
  · exact hp1.elim
theorem congrS {x : Stmt} {d d' : Ev → Store → Out Fl} (h : RdS X E x d) (e : ∀ env S, d env S = d' env S) : RdS X E x d' := by
  rw [show d' = d from funext fun env => funext fun S => (e env S).symm]
  exact h
mutual
theorem sndS : ∀ {s : Sm} {x : Stmt}, chkS Γ N sc s x = true → Amb Γ N sc (fun _ => true) E X → PassesOwn (model X.prog X.w) X.A X.env X.xe → RdS X E x (evS (fnsOf Γ) s)
  | .asg t e, x, h, am, ho => by
    cases x with
    | Assign tgs v pos =>
      match tgs, h with
      | [tg], h =>
        obtain ⟨h, h3⟩ := and2 (show (chkT N sc (fun _ => true) t tg && chkE Γ N sc e v && (if notComp v = true then !(isTup tg && isTup v) else compOk sc tg v)) = true from h)
        obtain ⟨h1, h2⟩ := and2 h
        cases hn : notComp v with
        | true =>
          rw [hn, if_pos rfl] at h3
          have hpl : plainE tg = true := by cases tg <;> first | rfl | (cases t <;> cases h1)
          exact rs_asg (sndE h2 am) (sndT h1 am) (swap_false hn) (swap_none h3) (by rw [assign_star hpl]; rfl)
        | false =>
          rw [hn, if_neg (by decide)] at h3
          cases tg with
          | Name y py =>
            cases v with
            | ListComp elt gs scope lpos =>
              obtain ⟨h, h6⟩ := and2 (show (decide (sc.names.lookup y = some .local) && (py.line == lpos.line) && !(scope.names.any fun (n, k) => n == y && (k == .local || k == .cell))) = true from h3)
              obtain ⟨h4, h5⟩ := and2 h
              cases t with
              | tup => cases h1
              | name i =>
                cases e with
                | comp m e t it c own =>
                  match gs, h2 with
                  | [⟨tg, iter, ifs, 0⟩], h2 =>
                    obtain ⟨ok, hown, hsl, hi, hg, ht, he, hf⟩ := comp_parts h2 am
                    have hNi : N[i]? = some y := by
                      simp only [chkT, Bool.and_eq_true, decide_eq_true_eq] at h1
                      exact h1.1.1
                    have hy : X.env.scope.names.lookup y = some .local := by rw [am.hsc]; exact of_decide_eq_true h4
                    exact rs_lc (b := m) am.calm am.ndX (am.nix hNi) hy (sw_true (by rw [am.hsc]; exact am.kind) hy h5 (beq_marks h6)) hi ok hown hsl hg ht he hf
                | const d => cases d <;> cases h2
                | _ => cases h2
            | SetComp => cases h3
            | DictComp => cases h3
            | _ => cases hn
          | _ => cases v <;> cases h3
      | [], h => cases h
      | _ :: _ :: _, h => cases h
    | _ => cases h
  | .asgs ts es, x, h, am, ho => by
    cases x with
    | Assign tgs v pos =>
      match tgs, v, h with
      | [.Tuple tgs k p], .Tuple vs k2 p2, h =>
        obtain ⟨h, h4⟩ := and2 (show (chkTgs Γ N sc ts tgs && chkEs Γ N sc es vs && decide (swapN tgs vs sc = some none) && decide (es.length = ts.length)) = true from h)
        obtain ⟨h, h3⟩ := and2 h
        obtain ⟨h1, h2⟩ := and2 h
        obtain ⟨q, p1, l1⟩ := sndTgs h1 am
        have r := sndEs h2 am
        exact rs_asgs2 am.calm r.ra q p1 (by rw [of_decide_eq_true h4, l1]) (swapN_of (by rw [am.hsc]; exact am.kind) r.plain (by rw [am.hsc]; exact of_decide_eq_true h3))
    | _ => cases h
  | .set a i e, x, h, am, ho => by
    cases x with
    | Assign tgs v pos =>
      match tgs, h with
      | [.Subscript y z p], h =>
        obtain ⟨h, h4⟩ := and2 (show (chkE Γ N sc a y && chkE Γ N sc i z && plainIxB z && chkE Γ N sc e v) = true from h)
        obtain ⟨h, h3⟩ := and2 h
        obtain ⟨h1, h2⟩ := and2 h
        exact rs_set (sndE h4 am) (sndE h1 am) (sndE h2 am) h3 (by cases v <;> rfl) rfl
    | _ => cases h
  | .par is es, x, h, am, ho => by
    cases x with
    | Assign tgs v pos =>
      match tgs, v, h with
      | [.Tuple tgs k p], .Tuple vs k2 p2, h =>
        obtain ⟨h, h3⟩ := and2 (show (parB N sc is tgs vs && chkEs Γ N sc es vs && decide (swapN tgs vs sc = some (some (namesOf tgs)))) = true from h)
        obtain ⟨h1, h2⟩ := and2 h
        have r := sndEs h2 am
        have hw := swapN_of (k := k) (k2 := k2) (p := p) (p2 := p2) (by rw [am.hsc]; exact am.kind) r.plain (by rw [am.hsc]; exact of_decide_eq_true h3)
        match is, tgs, vs, h1, r, hw with
        | [i, j], [.Name x px, .Name y py], [v, w], h1, r, hw =>
          simp only [parB, Bool.and_eq_true, decide_eq_true_eq] at h1
          obtain ⟨⟨⟨⟨⟨⟨g1, g2⟩, g3⟩, g4⟩, g5⟩, _⟩, _⟩ := h1
          exact rs_par2 am.calm am.ndX (am.nix g1) (am.nix g2) g3 (by rw [am.hsc]; exact g4) (by rw [am.hsc]; exact g5) r.ra hw
        | [i, j, l], [.Name x px, .Name y py, .Name z pz], [v, w, u], h1, r, hw =>
          simp only [parB, Bool.and_eq_true, decide_eq_true_eq] at h1
          obtain ⟨⟨⟨⟨⟨⟨⟨⟨g1, g2⟩, g3⟩, g4⟩, g5⟩, g6⟩, g7⟩, g8⟩, g9⟩ := h1
          exact rs_par3 am.calm am.ndX (am.nix g1) (am.nix g2) (am.nix g3) g4 g5 g6 (by rw [am.hsc]; exact g7) (by rw [am.hsc]; exact g8) (by rw [am.hsc]; exact g9) r.ra hw
    | _ => cases h
  | .aug i op e, x, h, am, ho => by
    cases x with
    | AugAssign tg o v pos =>
      cases tg with
      | Name y p =>
        obtain ⟨h, h5⟩ := and2 (show (decide (N[i]? = some y) && locB sc y && decide (op = o) && addSub op && chkE Γ N sc e v) = true from h)
        obtain ⟨h, h4⟩ := and2 h
        obtain ⟨h, h3⟩ := and2 h
        obtain ⟨h1, h2⟩ := and2 h
        cases of_decide_eq_true h3
        refine rs_aug ?_ am.ndX (am.nix (of_decide_eq_true h1)) (am.loc h2) (.inl (fnb_all am y)) (sndE h5 am)
        simp only [addSub, Bool.or_eq_true, decide_eq_true_eq] at h4
        exact h4
      | _ => cases h
    | _ => cases h
  | .expr e, x, h, am, ho => by
    cases x with
    | Expr v pos =>
      obtain ⟨h1, h2⟩ := and2 (show (notComp v && chkE Γ N sc e v) = true from h)
      exact rs_expr (sndE h2 am) (swap_false h1)
    | _ => cases h
  | .pass, x, h, am, ho => by
    cases x with
    | Expr v pos =>
      cases v with
      | Constant c k p => cases c <;> first | exact rs_doc | cases h
      | _ => cases h
    | Pass pos => exact rs_pass
    | _ => cases h
  | .ret e, x, h, am, ho => by
    cases x with
    | Return v pos =>
      cases v with
      | some v => exact rs_ret (sndE (show chkE Γ N sc e v = true from h) am)
      | none => cases h
    | _ => cases h
  | .retN, x, h, am, ho => by
    cases x with
    | Return v pos =>
      cases v with
      | some v => cases h
      | none => exact rs_retN
    | _ => cases h
  | .ife c a b, x, h, am, ho => by
    cases x with
    | If y s1 s2 pos =>
      obtain ⟨h, h3⟩ := and2 (show (chkB Γ N sc c y && chkSs Γ N sc a s1 && chkSs Γ N sc b s2) = true from h)
      obtain ⟨h1, h2⟩ := and2 h
      exact rs_if (sndB h1 am) (sndSs h2 am ho) (sndSs h3 am ho)
    | _ => cases h
  | .for_ t it b, x, h, am, ho => by
    cases x with
    | For tg iter body els pos =>
      cases els with
      | nil =>
        obtain ⟨h, h3⟩ := and2 (show (chkT N sc (fun _ => true) t tg && chkI Γ N sc it iter tg && chkSs Γ N sc b body) = true from h)
        obtain ⟨h1, h2⟩ := and2 h
        exact rs_for ho am.calm (sndI h2 am) (sndT h1 am) (sndSs h3 am ho) (fold_base h2)
      | cons => cases h
    | _ => cases h
  | .while_ n c b, x, h, am, ho => by
    cases x with
    | While y body els pos =>
      cases els with
      | nil =>
        obtain ⟨h1, h2⟩ := and2 (show (chkB Γ N sc c y && chkSs Γ N sc b body) = true from h)
        exact rs_while ho (sndB h1 am) (sndSs h2 am ho)
      | cons => cases h
    | _ => cases h
  | .brk, x, h, am, ho => by
    cases x with
    | Break => exact rs_brk
    | _ => cases h
  | .never, x, h, am, ho => rs_never
theorem sndSs : ∀ {ss : List Sm} {xs : List Stmt}, chkSs Γ N sc ss xs = true → Amb Γ N sc (fun _ => true) E X → PassesOwn (model X.prog X.w) X.A X.env X.xe → RdSs X E xs (evSs (fnsOf Γ) ss)
  | [], [], h, am, ho => rss_nil
  | [], _ :: _, h, am, ho => by cases h
  | _ :: _, [], h, am, ho => by cases h
  | s :: ss, x :: xs, h, am, ho => by
    obtain ⟨h1, h2⟩ := and2 (show (chkS Γ N sc s x && chkSs Γ N sc ss xs) = true from h)
    exact rss_cons (sndS h1 am ho) (sndSs h2 am ho)
end
end
end DL
/-! DLq: defs by their terms; the law's own call. -/
namespace DL
open PySem PySem.Spec PyProof.Rows L2

/-- what stands around the defs of a level -/
structure TabK (P : Program) (w : World) (K : PySem.W.Frag) (mg : Str → Option Value) (base : Heap) (k : Nat) (Γ : Tab) : Prop where
  fns : ∀ c ∈ Γ.fns, ∃ f fd ps j, mg c.name = some (.ref f) ∧ FnG P w K mg base j f fd ps (spD K mg c.np c.den) ∧ j ≤ k ∧ PySem.W.keepIn K (.ref f) = true ∧ BindsK fd ps c.ks c.n c.ord
  free : ∀ x ∈ Γ.free, mg x = none
  gl : ∀ p ∈ Γ.gl, ∃ u v, mg p.1 = some u ∧ RelV v u ∧ RepD K (fun _ => none) p.2 v
  dig : base.NoDigits
section
variable {P : Program} {w : World} {K : PySem.W.Frag} {mg : Str → Option Value} {base : Heap} {k : Nat} {Γ : Tab}
theorem TabK.ok {A : Around} (t : TabK P w K mg base k Γ) (r : Room k A) : TabOk P w K mg base A Γ where
  fns := fun c hc => by
    obtain ⟨f, fd, ps, j, h1, h2, h3, h4, h5⟩ := t.fns c hc
    exact ⟨f, fd, ps, j, h1, h2, r.mono h3, h4, h5⟩
  free := t.free
  gl := t.gl
  dig := t.dig
theorem rep_somes {F : Hp} {m : List Addr} : ∀ {ws : List W} {vs : List V}, RepWs K F m ws vs → ∀ n : Nat, RepE K F m (ws.map some ++ List.replicate n none) (vs.map some ++ List.replicate n none) := by
  intro ws vs r n
  induction r with
  | nil =>
    refine ⟨by simp, fun i w e => ?_⟩
    rw [List.map_nil, List.nil_append, List.getElem?_replicate] at e
    split at e <;> simp at e
  | @cons w v ws vs a r ih =>
    refine ⟨by have := ih.len; simpa using this, fun i u e => ?_⟩
    cases i with
    | zero =>
      have e : some (some w) = some (some u) := e
      cases e
      exact ⟨v, rfl, a⟩
    | succ i => exact ih.get i u e
theorem def_ok {x qual : Str} {params : Arguments} {body : List Stmt} {scope : Scope} {dvs : List V} {kws : List (Str × V)} {f : Addr} {fd : FuncData} {N ps : List Str} {b : List Sm}
    (F : FunD K x qual params body scope dvs kws f fd) (S : C8.scC N ps scope = true) (t : TabK P w K mg base k Γ) (h : chkSs Γ N scope b body = true) :
    FnG P w K mg base (k + 1) f fd ps (spD K mg ps.length (evF (fnsOf Γ) N.length b)) := by
  have S := C8.fnScope_by S
  have lenp : ∀ vs H Q E, spD K mg ps.length (evF (fnsOf Γ) N.length b) vs H Q E → vs.length = ps.length := by
    rintro vs H Q E ⟨F, G, m, S, ws, hl, _, hw, _⟩
    rw [← ws_length hw]
    exact hl
  refine okG F S lenp fun cdv A outer s H vs Q E hr hg hsp => ?_
  have am : Amb Γ N scope (fun _ => true) E (cxOf (L2.CX P w) P w K mg base N qual scope f cdv A outer s H E) := {
    calm := rfl
    grd := hg
    hN := rfl
    nd := S.nd
    hsc := rfl
    kind := S.kind
    hun := by
      have := hr.un
      show (A.deeper (envOfC qual scope s.heap.objs.size f cdv)).units + 70 < cLine
      omega
    pas := passes_call (takes_of rfl rfl rfl rfl) (fun _ _ _ _ h => h)
    tab := t.ok hr
    fnb := fun _ _ => rfl }
  refine ⟨_, sndSs h am (passes_of rfl), ?_⟩
  obtain ⟨F, G, m, St, ws, hl, hs, hw, hp⟩ := hsp
  refine ⟨F, G, m, _, St, hs, rep_somes hw (N.length - vs.length), ?_⟩
  unfold evF at hp
  rw [ws_length hw] at hp
  refine hp.bind.mono fun r S1 F1 m1 H1 l s1 hp1 => ?_
  cases r with
  | nx env => exact fun σ' _ => hp1.now s1 _ (.d .non)
  | rt w => exact hp1.now s1
  | bk env => exact hp1.elim
end

/-! ### the law is called -/
/-- nothing is known but the one thing at a -/
def Sole (H : Hp) (a : Addr) (o : Obj) (xs : List V) : Prop := ∀ b u, H b = some u → b = a ∧ u = .frz o (.lst xs)
section
variable {P : Program} {w : World} {K : PySem.W.Frag} {mg mb : Str → Option Value} {k : Nat} {fa a : Addr} {fd : FuncData} {x : Str} {sp : Sp} {s : Shared} {vs : List Value} {ns : List Int}
theorem law_in (KX : K.In s.heap) (hns : s.heap.Ns mainGlobals mg) (hb : s.heap.Ns builtinsNs mb)
    (hbb : ∀ x : Str, x ≠ "__name__" → mb x = bootBuiltins x) (hlim : s.heap.NoLimit) (hdig : s.heap.NoDigits)
    (hg : s.gens = #[]) (ha : s.heap.get? a = some { cls := .type "list", data := .seq vs.toArray })
    (hr : Room k callerA)
    (F : ∀ base : Heap, K.In base → base.Ns mainGlobals mg → base.NoDigits → FnG P w K mg base k fa fd [x] sp)
    (hbind : ∀ (s : Shared) (u : Value), BindsTo s fd ⟨[u], []⟩ [(x, u)]) {H : Hp}
    (one : Sole H a { cls := .type "list", data := .seq vs.toArray } (ns.map V.int)) (off : H a ≠ none → K.lookup a = none) (hok : HOk P w H s.heap)
    (hsp : sp [.ref a] H (fun v _ => v = .bl true) fun _ _ _ => False) :
    codeAny (model P w) callerA (.call (.ref fa) ⟨[.ref a], []⟩)
      (fun r s' => r = .ok (.ret (.bool true)) ∧ OldK s.heap s'.heap ∧ s'.os = s.os ∧ AllBare s'.gens) s := by
  -- what is not the script stays as it is
  have keep : ∀ {b : Addr} {o : Obj}, s.heap.get? b = some o → b ≠ a → (hidT s.heap H).get? b = some o := fun {b o} e ne =>
    hidT_get e (by
      cases q : H b with
      | none => rfl
      | some u => exact absurd (one b u q).1 ne)
  have space : ∀ {b : Addr} {m : Str → Option Value}, s.heap.Ns b m → (hidT s.heap H).Ns b m := by
    rintro b m ⟨o, es, ep, e, d, r⟩
    refine ⟨o, es, ep, keep e ?_, d, r⟩
    rintro rfl
    rw [ha] at e
    cases e
    have d2 : Data.seq vs.toArray _ = Data.dict es ep := d
    cases d2
  have kin : K.In (hidT s.heap H) := fun b o e => by
    cases q : H b with
    | none => exact hidT_get (KX b o e) q
    | some u =>
      obtain ⟨rfl, _⟩ := one b u q
      rw [off (by rw [q]; simp)] at e
      cases e
  obtain ⟨mc, n1, n2⟩ := hlim
  have modu : Mod K mg (hidT s.heap H) := ⟨kin, space hns, ⟨mb, space hb, hbb⟩, mc, space n1, n2⟩
  obtain ⟨md, m1, m2⟩ := hdig
  have nil : ∀ b : Addr, b ∉ ([] : List Addr) := fun b => List.not_mem_nil
  have e0 : Env0 P w K mg (hidT s.heap H) callerA [] s H :=
    ⟨rfl, modu, fun b o e => of_hidT e, Nat.le_of_eq (hidT_size _ _), trivial, fun b hb => absurd hb (nil b), hok, .of_eq hg⟩
  have go := (F _ kin (space hns) ⟨md, space m1, m2⟩).run callerA [] s H ⟨[.ref a], []⟩ [.ref a] [.ref a] _ _ hr rfl e0 (hbind s (.ref a)) (.cons rfl .nil) hsp
  refine codeAny_mono go fun r s' h => ?_
  match r, h with
  | .error e, h =>
    obtain ⟨_, _, _, _, _, _, _, _, _, _, _, _, no⟩ := h
    exact no.elim
  | .ok .next, h => exact False.elim h
  | .ok .brk, h => exact False.elim h
  | .ok .cont, h => exact False.elim h
  | .ok (.ret u), h =>
    obtain ⟨v, H', os, bare, un, hok', rv, q⟩ := h
    cases (show v = .bl true from q)
    cases (show u = Value.bool true from rv)
    refine ⟨rfl, OldK.of_keep fun b o e => ?_, os, bare⟩
    cases q : H b with
    | none => exact un.keep b o e q (nil b) (nil b)
    | some u =>
      obtain ⟨rfl, rfl⟩ := one b u q
      have q2 := un.frzs _ _ _ q
      rw [ha] at e
      cases e
      exact (hok' _ _ q2).1
theorem law_callG (KX : K.In s.heap) (hns : s.heap.Ns mainGlobals mg) (hb : s.heap.Ns builtinsNs mb)
    (hbb : ∀ x : Str, x ≠ "__name__" → mb x = bootBuiltins x) (hlim : s.heap.NoLimit) (hdig : s.heap.NoDigits)
    (hg : s.gens = #[]) (ha : s.heap.get? a = some { cls := .type "list", data := .seq vs.toArray }) (hi : IntsAre vs ns) (hl : ns.length ≤ sizeLine)
    (hr : Room k callerA)
    (F : ∀ base : Heap, K.In base → base.Ns mainGlobals mg → base.NoDigits → FnG P w K mg base k fa fd [x] sp)
    (hbind : ∀ (s : Shared) (u : Value), BindsTo s fd ⟨[u], []⟩ [(x, u)])
    (hsp : ∀ H : Hp, SqL K H a (ns.map V.int) → sp [.ref a] H (fun v _ => v = .bl true) fun _ _ _ => False) :
    codeAny (model P w) callerA (.call (.ref fa) ⟨[.ref a], []⟩)
      (fun r s' => r = .ok (.ret (.bool true)) ∧ OldK s.heap s'.heap ∧ s'.os = s.os ∧ AllBare s'.gens) s := by
  have rv := vals_ints hi
  have hlen : (ns.map V.int).length ≤ sizeLine := by rw [List.length_map]; exact hl
  cases hk : K.lookup a with
  | some o =>
    have e := KX a o hk
    rw [ha] at e
    cases e
    refine law_in (H := fun _ => none) (ns := ns) KX hns hb hbb hlim hdig hg ha hr F hbind (fun b u z => by cases z) (fun z => absurd rfl z) (fun b u z => by cases z) (hsp _ (.inr ⟨_, vs.toArray, _, hk, rfl, rfl, rfl, ?_, by simpa using rv⟩))
    rw [List.size_toArray, hi.length]
    exact hl
  | none =>
    have up := upd_same (H := fun _ => none) (a := a) (o := .frz { cls := .type "list", data := .seq vs.toArray } (.lst (ns.map V.int)))
    have only : Sole (upd (fun _ => none) a (.frz { cls := .type "list", data := .seq vs.toArray } (.lst (ns.map V.int)))) a { cls := .type "list", data := .seq vs.toArray } (ns.map V.int) := fun b u z => by
      by_cases e : b = a
      · rw [e, up] at z
        cases z
        exact ⟨e, rfl⟩
      · rw [upd_ne e] at z
        cases z
    refine law_in KX hns hb hbb hlim hdig hg ha hr F hbind only (fun _ => hk) (fun b u z => ?_) (hsp _ (.inl (.inr ⟨_, up⟩)))
    obtain ⟨rfl, rfl⟩ := only b u z
    exact ⟨ha, hlen, vs, _, rv, ha⟩
theorem walk_ofG {l : PySem.W.OpenLaw} {n k : Nat} {q : Program} {loose : List Str} {XP : (Str → Option Value) → Heap → Prop} {YP : World → Heap → Prop} {d : DefRec} {x : Str}
    (hn : l.most = some n) (hn2 : n ≤ sizeLine) (hdf : d.params.defaults = []) (hr : Room k callerA)
    (F : ∀ (w : World) (mg : Str → Option Value) (fa : Addr) (h : Heap), YP w h → h.Ns mainGlobals mg → mg d.name = some (.ref fa) →
      ∃ (K : PySem.W.Frag) (fd : FuncData) (sp : Sp), K.In h ∧ (∀ (s : Shared) (u : Value), BindsTo s fd ⟨[u], []⟩ [(x, u)]) ∧
        (∀ (H : Hp) (a : Addr) (ns : List Int), ns.length ≤ n → SqL K H a (ns.map V.int) → sp [.ref a] H (fun v _ => v = .bl true) fun _ _ _ => False) ∧
        ∀ base : Heap, K.In base → base.Ns mainGlobals mg → base.NoDigits → FnG l.prog w K mg base k fa fd [x] sp) :
    PySem.W.WalkO q loose XP YP l.row.toRowW d [] (fun f vs => PySem.call f vs) := by
  refine Att.attach_call hn hdf fun w s₀ s₁ mg mb fa o pm cd doc a vs ns G Y ho hd hcd hmg hobj hints hlen hg => ?_
  obtain ⟨K, fd, sp, KX, hb, hsp, hF⟩ := F w mg fa _ Y G.T.g hmg
  exact law_callG KX G.T.g G.T.b G.T.builtins G.T.nolimit G.T.nodigits hg hobj hints (Nat.le_trans hlen hn2) hr hF hb fun H hS => hsp H a ns hlen hS
end
end DL
/-! DLr: what the head tells: defs, names that are free, data under names. -/
namespace DL
open PySem PySem.Spec PyProof.Rows L2

mutual
/-- a value of the module that stands for such data -/
def repV (K : PySem.W.Frag) : D → Value → Bool
  | .non, .none => true
  | .bl b, .bool c => b == c
  | .int i, .int j _ => decide (i = j)
  | .str x, .str y _ => decide (x = y)
  | .tup xs, .ref a => (match K.lookup a with
    | some ⟨.type c, _, .seq its _, _⟩ => decide (c = "tuple") && (decide (its.size ≤ sizeLine) && repVs K xs its.toList)
    | _ => false)
  | .rol xs, .ref a => (match K.lookup a with
    | some ⟨.type c, none, .seq its _, _⟩ => decide (c = "list") && (decide (its.size ≤ sizeLine) && repVs K xs its.toList)
    | _ => false)
  | _, _ => false
def repVs (K : PySem.W.Frag) : List D → List Value → Bool
  | [], [] => true
  | d :: ds, u :: us => repV K d u && repVs K ds us
  | _, _ => false
end
mutual
theorem repV_ok {K : PySem.W.Frag} (F : Hp) : ∀ {d : D} {u : Value}, repV K d u = true → ∃ v, RelV v u ∧ RepD K F d v
  | .non, u, h => by cases u <;> first | exact ⟨.non, rfl, .non⟩ | cases h
  | .bl b, u, h => by
    cases u with
    | bool c => cases eq_of_beq (show (b == c) = true from h); exact ⟨.bl b, rfl, .bl b⟩
    | _ => cases h
  | .int i, u, h => by
    cases u with
    | int j t => cases of_decide_eq_true (show decide (i = j) = true from h); exact ⟨.int i, ⟨t, rfl⟩, .int i⟩
    | _ => cases h
  | .str x, u, h => by
    cases u with
    | str y t => cases of_decide_eq_true (show decide (x = y) = true from h); exact ⟨.str x, ⟨t, rfl⟩, .str x⟩
    | _ => cases h
  | .tup xs, u, h => by
    cases u with
    | ref a =>
      have h : (match K.lookup a with
        | some ⟨.type c, _, .seq its _, _⟩ => decide (c = "tuple") && (decide (its.size ≤ sizeLine) && repVs K xs its.toList)
        | _ => false) = true := h
      cases q : K.lookup a with
      | none => rw [q] at h; cases h
      | some o =>
        obtain ⟨oc, od, dt, osl⟩ := o
        rw [q] at h
        cases oc with
        | type c =>
          cases dt with
          | seq its n =>
            obtain ⟨h1, h2⟩ := and2 (show (decide (c = "tuple") && (decide (its.size ≤ sizeLine) && repVs K xs its.toList)) = true from h)
            obtain ⟨h3, h4⟩ := and2 h2
            obtain ⟨vs, r1, r2⟩ := repVs_ok F h4
            exact ⟨.ref a, rfl, .tup (.inr ⟨_, its, n, q, congrArg Value.type (of_decide_eq_true h1), rfl, of_decide_eq_true h3, r1⟩) r2⟩
          | _ => cases h
        | _ => cases dt <;> cases h
    | _ => cases h
  | .rol xs, u, h => by
    cases u with
    | ref a =>
      have h : (match K.lookup a with
        | some ⟨.type c, none, .seq its _, _⟩ => decide (c = "list") && (decide (its.size ≤ sizeLine) && repVs K xs its.toList)
        | _ => false) = true := h
      cases q : K.lookup a with
      | none => rw [q] at h; cases h
      | some o =>
        obtain ⟨oc, od, dt, osl⟩ := o
        rw [q] at h
        cases oc with
        | type c =>
          cases od with
          | none =>
            cases dt with
            | seq its n =>
              obtain ⟨h1, h2⟩ := and2 (show (decide (c = "list") && (decide (its.size ≤ sizeLine) && repVs K xs its.toList)) = true from h)
              obtain ⟨h3, h4⟩ := and2 h2
              obtain ⟨vs, r1, r2⟩ := repVs_ok F h4
              exact ⟨.ref a, rfl, .rol (.inr ⟨_, its, n, q, congrArg Value.type (of_decide_eq_true h1), rfl, rfl, of_decide_eq_true h3, r1⟩) r2⟩
            | _ => cases h
          | some d => cases dt <;> cases h
        | _ => cases od <;> cases dt <;> cases h
    | _ => cases h
  | .lst xs, u, h => by cases u <;> cases h
theorem repVs_ok {K : PySem.W.Frag} (F : Hp) : ∀ {ds : List D} {us : List Value}, repVs K ds us = true → ∃ vs, Vals vs us ∧ RepDs K F ds vs
  | [], [], h => ⟨[], .nil, .nil⟩
  | [], _ :: _, h => by cases h
  | _ :: _, [], h => by cases h
  | d :: ds, u :: us, h => by
    obtain ⟨h1, h2⟩ := and2 (show (repV K d u && repVs K ds us) = true from h)
    obtain ⟨v, a, b⟩ := repV_ok F h1
    obtain ⟨vs, as, bs⟩ := repVs_ok F h2
    exact ⟨v :: vs, .cons a as, .cons b bs⟩
end
/-- a name of the module for such data -/
def gB (K : PySem.W.Frag) (p : Str × D) : Bool := match PySem.W.nsIn K mainGlobals p.1 with
  | some (some u) => repV K p.2 u
  | _ => false
theorem gB_ok {K : PySem.W.Frag} {h : Heap} {mg : Str → Option Value} (X : K.In h) (G : h.Ns mainGlobals mg) {p : Str × D} (c : gB K p = true) : ∃ u v, mg p.1 = some u ∧ RelV v u ∧ RepD K (fun _ => none) p.2 v := by
  unfold gB at c
  cases e : PySem.W.nsIn K mainGlobals p.1 with
  | none => rw [e] at c; cases c
  | some o =>
    rw [e] at c
    cases o with
    | none => cases c
    | some u =>
      obtain ⟨v, r1, r2⟩ := repV_ok _ c
      exact ⟨u, v, PySem.W.mg_of X G e, r1, r2⟩

abbrev AlG : Type := Bool × He.AlD
def obsG (gl : List (Str × D)) (fa : List He.Fa) (fn : List He.DefD) (K : PySem.W.Frag) : AlG := (gl.all (gB K), He.obsD fa fn K)
def valG (fn : List He.DefD) : AlG := (true, He.valD fn)
structure SaysG (gl : List (Str × D)) (fa : List He.Fa) (fn : List He.DefD) (K : PySem.W.Frag) : Prop where
  gl : ∀ p ∈ gl, gB K p = true
  df : He.SaysD fa fn K
def frT (n : Nat) (g : Addr → Option Obj) : PySem.W.Frag := He.frG g (He.asD g n)
def hookG (n : Nat) (gl : List (Str × D)) (fa : List He.Fa) (fn : List He.DefD) : PySem.W.Hook where
  α := AlG
  obs := fun s => obsG gl fa fn (frT n s.heap.get?)
  val := fun _ => valG fn
  says := fun _ h => ∃ K : PySem.W.Frag, K.In h ∧ SaysG gl fa fn K
  of := fun _ _ e => ⟨_, He.frG_in, ⟨fun p hp => List.all_eq_true.mp (congrArg (fun z : AlG => z.1) e) p hp, congrArg (fun z : AlG => z.2) e⟩⟩
  keeps := fun _ _ _ ⟨K, hK, c⟩ k => ⟨K, PySem.W.Frag.In.keeps hK k, c⟩
theorem obsG_eq {n : Nat} {gl : List (Str × D)} {fa : List He.Fa} {fn : List He.DefD} {g : Addr → Option Obj} {s : Shared} (h : ∀ a, g a = s.heap.get? a) : obsG gl fa fn (frT n g) = (hookG n gl fa fn).obs s := by
  have e : g = s.heap.get? := funext h
  rw [e]
  rfl
end DL
namespace DL
open PySem PySem.Spec PyProof.Rows L2
theorem bindsK {K : PySem.W.Frag} {x qual : Str} {params : Arguments} {body : List Stmt} {scope : Scope} {f : Addr} {fd : FuncData} {ps ks : List Str} {n : Nat} {ord : List Nat} (F : FunD K x qual params body scope [] [] f fd)
    (h : ∀ (kV doc pm : Value) (an : Option Addr) (cdv ct : Value) (us ws : List Value), us.length = n → ws.length = ks.length → bindArgs (PySem.W.fnOf x qual params body scope .none kV doc pm an cdv ct) ⟨us, ks.zip ws⟩ = pure (ps.zip (ord.filterMap fun i => (us ++ ws)[i]?))) : BindsK fd ps ks n ord := by
  obtain ⟨oc, od, dV, kV, doc, pm, an, cdv, ct, osl, rfl, lk, hcd, hD, hK⟩ := F.ex
  rcases hD with ⟨_, rfl⟩ | ⟨e, _⟩
  · exact fun s us ws h1 h2 => .of_eq (h kV doc pm an cdv ct us ws h1 h2)
  · exact absurd rfl e
theorem all_nil {α : Type} {p : α → Prop} : ∀ x ∈ ([] : List α), p x := fun _ h => nomatch h
theorem all_cons {α : Type} {p : α → Prop} {a : α} {l : List α} (h : p a) (r : ∀ x ∈ l, p x) : ∀ x ∈ a :: l, p x := List.forall_mem_cons.mpr ⟨h, r⟩
end DL
/-! DLs: what the plain part leans on. -/
namespace DL
open PySem PySem.Spec PyProof.Rows L2

theorem ints_rep {K : PySem.W.Frag} {F : Hp} : ∀ ns : List Int, RepDs K F (ns.map .int) (ns.map V.int)
  | [] => .nil
  | n :: ns => .cons (.int n) (ints_rep ns)
/-- the law's own promise -/
theorem law_sp {K : PySem.W.Frag} {mg : Str → Option Value} {H : Hp} {a : Addr} {ns : List Int} {den : Fn} {b : Nat} (h : ∀ ns : List Int, ns.length ≤ b → ∃ S, den [.d (.rol (ns.map .int))] [] = .ok (.d (.bl true)) S) (hl : ns.length ≤ b) (hS : SqL K H a (ns.map V.int)) :
    spD K mg 1 den [.ref a] H (fun v _ => v = .bl true) fun _ _ _ => False := by
  obtain ⟨S, e⟩ := h ns hl
  refine ⟨H, fun _ => none, [], [], [.d (.rol (ns.map .int))], rfl, ?_, .cons (.d (.rol hS (ints_rep ns))) .nil, ?_⟩
  · refine ⟨fun _ _ e => e, (fun _ _ e => nomatch e), (fun _ _ e => nomatch e), (fun _ h => nomatch h), (fun _ h => nomatch h), List.nodup_nil, rfl, fun n u a e => by simp at e⟩
  · rw [e]
    intro F' m' H' l s v r
    exact blOf (dOf r)

/-! ### sizes -/
theorem bits_lt {i : Int} {a : Nat} (h : i.natAbs < 2 ^ a) : Builtin.Int.intBits i ≤ a := by
  unfold Builtin.Int.intBits
  split
  · exact Nat.zero_le a
  · rename_i h0
    have h1 : i.natAbs ≠ 0 := by simpa using h0
    have := (Nat.log2_lt h1).mpr h
    omega
theorem mulOk_bits {i j : Int} (a b : Nat) (hi : i.natAbs < 2 ^ a) (hj : j.natAbs < 2 ^ b) (h : a + b ≤ 134217728) : mulOk i j = true := by
  have := bits_lt hi
  have := bits_lt hj
  unfold mulOk
  exact decide_eq_true (by omega)
/-- not long -/
def big : Nat := 2 ^ 30000
theorem big_lt {n : Nat} (h : n ≤ 2 ^ 200) : n < big := Nat.lt_of_le_of_lt h (Nat.pow_lt_pow_right (by decide) (by decide))
theorem mulOk_big {i j : Int} (hi : i.natAbs < big) (hj : j.natAbs < big) : mulOk i j = true := mulOk_bits 30000 30000 hi hj (by decide)
theorem powOk_big {i j : Int} (hi : i.natAbs < big) (h0 : 0 ≤ j) (hj : j ≤ 3000) : powOk i j = true := by
  have h := bits_lt hi
  unfold powOk
  refine decide_eq_true ⟨h0, ?_⟩
  have : (Builtin.Int.intBits i : Int) * j ≤ 30000 * 3000 := Int.mul_le_mul (by omega) hj h0 (by decide)
  omega
theorem divOk_of {j : Int} (h0 : 0 < j) (h : j < 2 ^ 200) : divOk j = true := by
  unfold divOk
  refine decide_eq_true ⟨h0, ?_⟩
  have h1 : j.natAbs ≠ 0 := by omega
  exact (Nat.log2_lt h1).mpr (Nat.lt_of_lt_of_le (show j.natAbs < 2 ^ 200 by omega) (Nat.pow_le_pow_right (by decide) (by decide)))
end DL
/-! DLs2: calls, loops, texts of data, as the plain part meets them. -/
namespace DL
open PySem PySem.Spec PyProof.Rows L2

/-! ### calls -/
/-- behind a call that was handed data alone -/
def outD (S : Store) (o : Out W) : Out W := match o with
  | .ok (.d x) _ => .ok (.d x) S
  | .ok (.l j) S' => (match S'[j]? with
    | some (.lst xs) => if xs.all isD = true then .ok (.l S.length) (S ++ [.lst xs]) else .bad
    | _ => .bad)
  | .err c x _ => .err c x S
  | .bad => .bad
@[simp] theorem outD_ok (S S' : Store) (x : D) : outD S (.ok (.d x) S') = .ok (.d x) S := rfl
theorem evCall_data {f : Fn} {ws : List W} {S : Store} (h : locsOf ws = []) : evCall f ws S = outD S (f (ws.map (reix [])) []) := by
  unfold evCall outD
  rw [h]
  simp only [getAll]
  cases f (ws.map (reix [])) [] with
  | ok r S' =>
    cases r with
    | d x => simp [putAll_nil1]
    | l j => first | (simp [putAll_nil1]; done) | (simp [putAll_nil1]; rfl)
  | err c x S' => simp [putAll_nil1]
  | bad => rfl
@[simp] theorem evCall_d1 (f : Fn) (a : D) (S : Store) : evCall f [.d a] S = outD S (f [.d a] []) := evCall_data rfl
@[simp] theorem evCall_d2 (f : Fn) (a b : D) (S : Store) : evCall f [.d a, .d b] S = outD S (f [.d a, .d b] []) := evCall_data rfl
@[simp] theorem evCall_d3 (f : Fn) (a b c : D) (S : Store) : evCall f [.d a, .d b, .d c] S = outD S (f [.d a, .d b, .d c] []) := evCall_data rfl
@[simp] theorem evCall_d4 (f : Fn) (a b c d : D) (S : Store) : evCall f [.d a, .d b, .d c, .d d] S = outD S (f [.d a, .d b, .d c, .d d] []) := evCall_data rfl
@[simp] theorem evCall_d5 (f : Fn) (a b c d e : D) (S : Store) : evCall f [.d a, .d b, .d c, .d d, .d e] S = outD S (f [.d a, .d b, .d c, .d d, .d e] []) := evCall_data rfl
/-- a place that is handed on with data -/
def outP (S : Store) (n : Nat) (o : Out W) : Out W := match o with
  | .ok (.d x) (p :: _) => if flatO p = true then .ok (.d x) (S.set n p) else .bad
  | .err c x (p :: _) => if flatO p = true then .err c x (S.set n p) else .bad
  | .ok (.l j) S' => evCall (fun _ _ => .ok (.l j) S') [.l n] S
  | _ => .bad
@[simp] theorem outP_ok (S S' : Store) (n : Nat) (p : Ob) (x : D) (h : flatO p = true) : outP S n (.ok (.d x) (p :: S')) = .ok (.d x) (S.set n p) := by
  show (if flatO p = true then _ else _) = _
  rw [if_pos h]
theorem evCall_place {f : Fn} {ws : List W} {S : Store} {n : Nat} {p : Ob} (h : locsOf ws = [n]) (hn : S[n]? = some p) (hf : flatO p = true) : evCall f ws S = outP S n (f (ws.map (reix [n])) [p]) := by
  have g : getAll S [n] = some [p] := by simp [getAll, hn, hf]
  unfold evCall outP
  rw [h]
  simp only [g]
  cases e : f (ws.map (reix [n])) [p] with
  | ok r S' =>
    cases r with
    | d x =>
      cases S' with
      | nil => simp
      | cons q r => simp [putAll_cons, putAll_nil1]
    | l j =>
      unfold evCall
      simp only [show locsOf [.l n] = [n] from rfl, g]
  | err c x S' =>
    cases S' with
    | nil => simp
    | cons q r => simp [putAll_cons, putAll_nil1]
  | bad => rfl
/-! ### loops -/
theorem forL_inv {ok : Store → Bool} {f : W → Ev → Store → Out Fl} {P : Nat → Ev → Store → Prop} : ∀ (xs : List W) (k : Nat) (env : Ev) (st : Store), P k env st →
    (∀ (i : Nat) (x : W) (env : Ev) (st : Store), xs[i]? = some x → P (k + i) env st → ok st = true ∧ ∃ env' st', f x env st = .ok (.nx env') st' ∧ P (k + i + 1) env' st') →
    (∀ env st, P (k + xs.length) env st → ok st = true) → ∃ env' st', forL ok f xs env st = .ok (.nx env') st' ∧ P (k + xs.length) env' st'
  | [], k, env, st, h, _, he => ⟨env, st, by unfold forL; rw [if_pos (he env st h)], h⟩
  | x :: xs, k, env, st, h, hs, he => by
    obtain ⟨h1, env1, st1, h2, h3⟩ := hs 0 x env st rfl h
    obtain ⟨env2, st2, h4, h5⟩ := forL_inv (f := f) (ok := ok) (P := P) xs (k + 1) env1 st1 h3
      (fun i y env st hi hp => by
        have q := hs (i + 1) y env st (by simpa using hi) (by rw [show k + (i + 1) = k + 1 + i by omega]; exact hp)
        rw [show k + (i + 1) + 1 = k + 1 + i + 1 by omega] at q
        exact q)
      (fun env st hp => he env st (by rw [List.length_cons, show k + (xs.length + 1) = k + 1 + xs.length by omega]; exact hp))
    refine ⟨env2, st2, ?_, by rw [List.length_cons, show k + (xs.length + 1) = k + 1 + xs.length by omega]; exact h5⟩
    unfold forL
    rw [if_pos h1, h2]
    exact h4
theorem compL_pure {ok : Store → Bool} {f : W → Store → Out (Option W)} {g : W → W} {S : Store} (h : ok S = true) : ∀ xs : List W, (∀ x ∈ xs, f x S = .ok (some (g x)) S) → compL ok f xs S = .ok (xs.map g) S
  | [], _ => by unfold compL; rw [if_pos h]; rfl
  | x :: xs, hs => by
    unfold compL
    rw [if_pos h, hs x (List.mem_cons_self ..)]
    simp only [Out.bind_ok]
    rw [compL_pure h xs fun y hy => hs y (List.mem_cons_of_mem _ hy)]
    rfl
theorem rangeL_eq (lo : Int) (n : Nat) : rangeL lo (lo + (n : Int)) = (List.range n).map fun (i : Nat) => W.d (.int (lo + (i : Int))) := by
  unfold rangeL
  rw [show (lo + (n : Int) - lo).toNat = n by omega]
theorem rangeL_nat (n : Nat) : rangeL 0 (n : Int) = (List.range n).map fun (i : Nat) => W.d (.int (i : Int)) := by
  have := rangeL_eq 0 n
  simp only [Int.zero_add] at this
  exact this

/-! ### the text of data -/
mutual
/-- no longer text than this -/
def wt : D → Nat
  | .non => 4
  | .bl _ => 5
  | .int _ => 4302
  | .str x => (reprText x).length
  | .tup xs => wts xs + 3
  | .lst xs => wts xs + 3
  | .rol xs => wts xs + 3
def wts : List D → Nat
  | [] => 0
  | x :: xs => wt x + 2 + wts xs
end
mutual
def txOk : D → Bool
  | .str x => strF (reprText x)
  | .tup xs => txOks xs
  | .lst xs => txOks xs
  | .rol xs => txOks xs
  | _ => true
def txOks : List D → Bool
  | [] => true
  | x :: xs => txOk x && txOks xs
end
theorem strF_append (a b : Str) : strF (a ++ b) = (strF a && strF b) := by
  show (a.cps ++ b.cps).all _ = _
  rw [Array.all_append]
  rfl
theorem strF_of (s : String) : strF (Str.ofString s) = true := by
  rw [Str.ofString_eq_toList]
  unfold strF
  rw [List.all_toArray, List.all_eq_true]
  intro n hn
  obtain ⟨c, _, rfl⟩ := List.mem_map.mp hn
  have h := c.valid
  refine decide_eq_true ?_
  show c.val.toNat < _
  rcases h with h | ⟨_, h⟩ <;> omega
theorem strF_join (sep : Str) (hs : strF sep = true) : ∀ ts : List Str, (∀ t ∈ ts, strF t = true) → strF (Str.join sep ts) = true
  | [], _ => by show strF Str.empty = true; decide +kernel
  | [x], h => h x (List.mem_cons_self ..)
  | x :: y :: r, h => by
    show strF (x ++ sep ++ Str.join sep (y :: r)) = true
    rw [strF_append, strF_append, h x (List.mem_cons_self ..), hs, strF_join sep hs (y :: r) fun t ht => h t (List.mem_cons_of_mem _ ht)]
    rfl
theorem strF_from : ∀ (ts : List Str) (k : Nat) (acc : Str), strF acc = true → (∀ t ∈ ts, strF t = true) → strF (textFrom k acc ts) = true
  | [], _, _, h, _ => h
  | t :: ts, k, acc, h, hs => by
    show strF (textFrom (k + 1) (acc ++ (if k > 0 then ", " else "" : String) ++ t) ts) = true
    refine strF_from ts _ _ ?_ fun t ht => hs t (List.mem_cons_of_mem _ ht)
    rw [strF_append, strF_append, h, strF_of, hs t (List.mem_cons_self ..)]
    rfl
theorem from_len : ∀ (ts : List Str) (k : Nat) (acc : Str), (textFrom k acc ts).length ≤ acc.length + piled ts
  | [], _, acc => Nat.le_add_right ..
  | t :: ts, k, acc => by
    have ih := from_len ts (k + 1) (acc ++ (if k > 0 then ", " else "" : String) ++ t)
    have e : ((if k > 0 then ", " else "" : String) : Str).length ≤ 2 := by split <;> decide
    rw [strLen_append, strLen_append] at ih
    rw [piled_cons]
    show (textFrom (k + 1) _ ts).length ≤ _
    omega
theorem list_len (ts : List Str) : (listText ts).length ≤ piled ts + 3 := by
  unfold listText
  have := from_len ts 0 "["
  rw [strLen_append]
  have e1 : (("[" : String) : Str).length = 1 := rfl
  have e2 : (("]" : String) : Str).length = 1 := rfl
  omega
theorem tuple_len (ts : List Str) : (tupleText ts).length ≤ piled ts + 3 := by
  unfold tupleText
  rw [strLen_append, strLen_append]
  have e1 : (("(" : String) : Str).length = 1 := rfl
  have e2 : ((if ts.length == 1 then ",)" else ")" : String) : Str).length ≤ 2 := by split <;> decide
  cases ts with
  | nil =>
    have e3 : (Str.join ", " ([] : List Str)).length = 0 := rfl
    omega
  | cons t ts =>
    have := join_length_add (t :: ts) (List.cons_ne_nil _ _)
    omega
mutual
theorem shown_fits : ∀ x : D, tells x.py = true → txOk x = true → strF x.py.shown = true ∧ x.py.shown.length ≤ wt x
  | .non, _, _ => ⟨strF_of _, by decide⟩
  | .bl b, _, _ => by cases b <;> exact ⟨strF_of _, by decide⟩
  | .int i, h, _ => by
    refine ⟨strF_of _, ?_⟩
    have h : i.natAbs < 10 ^ 4300 := of_decide_eq_true h
    have := int_text_length_le10 (k := 4300) (by decide) h
    clear h
    show (Str.ofString (toString i)).length ≤ 4302
    rw [PySem.ofString_length]
    omega
  | .str x, _, h => ⟨h, Nat.le_refl _⟩
  | .tup xs, h, h2 => by
    obtain ⟨q1, q2⟩ := shown_all xs h h2
    refine ⟨?_, Nat.le_trans (tuple_len _) (Nat.add_le_add_right q2 3)⟩
    show strF (tupleText _) = true
    unfold tupleText
    rw [strF_append, strF_append, strF_of, strF_join _ (strF_of _) _ q1, strF_of]
    rfl
  | .lst xs, h, h2 => by
    obtain ⟨q1, q2⟩ := shown_all xs h h2
    refine ⟨?_, Nat.le_trans (list_len _) (Nat.add_le_add_right q2 3)⟩
    show strF (listText _) = true
    unfold listText
    rw [strF_append, strF_from _ _ _ (strF_of _) q1, strF_of]
    rfl
  | .rol xs, h, h2 => by
    obtain ⟨q1, q2⟩ := shown_all xs h h2
    refine ⟨?_, Nat.le_trans (list_len _) (Nat.add_le_add_right q2 3)⟩
    show strF (listText _) = true
    unfold listText
    rw [strF_append, strF_from _ _ _ (strF_of _) q1, strF_of]
    rfl
theorem shown_all : ∀ xs : List D, tellsAll (D.pys xs) = true → txOks xs = true → (∀ t ∈ PyData.shownAll (D.pys xs), strF t = true) ∧ piled (PyData.shownAll (D.pys xs)) ≤ wts xs
  | [], _, _ => ⟨fun _ h => (nomatch h), Nat.le_refl _⟩
  | x :: xs, h, h2 => by
    have h : (tells x.py && tellsAll (D.pys xs)) = true := h
    have h2 : (txOk x && txOks xs) = true := h2
    rw [Bool.and_eq_true] at h h2
    obtain ⟨a1, a2⟩ := shown_fits x h.1 h2.1
    obtain ⟨b1, b2⟩ := shown_all xs h.2 h2.2
    show (∀ t ∈ PyData.shown x.py :: PyData.shownAll (D.pys xs), strF t = true) ∧ piled (PyData.shown x.py :: PyData.shownAll (D.pys xs)) ≤ wt x + 2 + wts xs
    refine ⟨fun t ht => ?_, ?_⟩
    · rcases List.mem_cons.mp ht with rfl | ht
      · exact a1
      · exact b1 t ht
    · rw [piled_cons]
      omega
end
/-- repr tells it -/
def shw (x : D) : Bool := sh 60 x && tells x.py && txOk x && decide (wt x ≤ lineS)
theorem repr_shw {x : D} {S : Store} (h : shw x = true) : evBi .repr [.d x] S = .ok (.d (.str x.py.shown)) S ∧ strF x.py.shown = true := by
  unfold shw at h
  simp only [Bool.and_eq_true, decide_eq_true_eq] at h
  obtain ⟨⟨⟨h1, h2⟩, h3⟩, h4⟩ := h
  obtain ⟨q1, q2⟩ := shown_fits x h2 h3
  refine ⟨?_, q1⟩
  show biRepr (.d x) S = _
  unfold biRepr
  simp only
  rw [if_pos (by rw [h1, h2, decide_eq_true (Nat.le_trans q2 h4)]; rfl)]
theorem ne_str {x : Str} {S : Store} (h : strF x = true) : evCmp .NotEq (.d (.str x)) (.d (.str x)) S = .ok false S := by
  simp [evCmp, cmpD, sh, h, deq]
theorem eq_str {x : Str} {S : Store} (h : strF x = true) : evCmp .Eq (.d (.str x)) (.d (.str x)) S = .ok true S := by
  simp [evCmp, cmpD, sh, h, deq]
theorem digit_of {i : Int} (h : i.natAbs < 2 ^ 14000) : i.natAbs < digitL := Nat.lt_trans h (by unfold digitL; decide +kernel)
theorem at_0 {α : Type} (xs : List α) : at_ xs 0 = xs[0]? := rfl
theorem at_1 {α : Type} (xs : List α) : at_ xs 1 = xs[1]? := rfl
theorem at_2 {α : Type} (xs : List α) : at_ xs 2 = xs[2]? := rfl
theorem at_3 {α : Type} (xs : List α) : at_ xs 3 = xs[3]? := rfl
theorem at_4 {α : Type} (xs : List α) : at_ xs 4 = xs[4]? := rfl
theorem at_nat {α : Type} (xs : List α) (n : Nat) : at_ xs (n : Int) = xs[n]? := rfl
end DL
/-! DLs3: comprehensions, loops in the plain part. -/
namespace DL
open PySem PySem.Spec PyProof.Rows L2
def turnC (fns : Nat → Fn) (e : E) (t : T) (c : B) (env : Ev) : W → Store → Out (Option W) := fun x S => (Out.of (bindT t x env) S).bind fun env1 S => (evB fns c env1 S).noErr.bind fun k S =>
  if k = true then (ev fns e env1 S).noErr.bind fun y S => .ok (some y) S else .ok none S
theorem ev_comp (fns : Nat → Fn) (m : Bool) (e : E) (t : T) (it : I) (c : B) (own : List Nat) (env : Ev) (S : Store) :
    ev fns (.comp m e t it c own) env S = (evI fns it env S).bind fun p S => if p.1.length < lineS then (compL (keeps p.2 p.1) (turnC fns e t c (wipeE env own)) p.1 S).bind fun ys S => newL m ys S else .bad := by
  rw [ev]
  rfl
/-- a comprehension that changes nothing -/
theorem comp_pure {fns : Nat → Fn} {m : Bool} {e : E} {t : T} {it : I} {c : B} {own : List Nat} {env : Ev} {S : Store} {xs : List W} {k : Option Nat} (g : W → W) (hi : evI fns it env S = .ok (xs, k) S) (hk : keeps k xs S = true) (hl : xs.length < lineS)
    (h : ∀ x ∈ xs, turnC fns e t c (wipeE env own) x S = .ok (some (g x)) S) : ev fns (.comp m e t it c own) env S = newL m (xs.map g) S := by
  rw [ev_comp, hi]
  simp only [Out.bind_ok]
  rw [if_pos hl, compL_pure hk xs h]
  rfl
theorem newL_data {xs : List W} {ds : List D} {S : Store} (h : xs.length ≤ lineS) (e : pures xs = some ds) : newL false xs S = .ok (.d (.lst ds)) S := by
  unfold newL
  rw [if_pos h, if_neg (by decide), e]
  rfl
theorem range_mem {n : Nat} {x : W} (h : x ∈ rangeL 0 (n : Int)) : ∃ r : Nat, r < n ∧ x = .d (.int r) := by
  rw [rangeL_nat] at h
  obtain ⟨r, hr, rfl⟩ := List.mem_map.mp h
  exact ⟨r, List.mem_range.mp hr, rfl⟩
theorem range_ok {b : Nat} (hb : b < 1000000) : rangeOk (b : Int) = true := by
  unfold rangeOk
  have h1 : -(2 ^ 62) ≤ (b : Int) := by omega
  have h2 : (b : Int) < 2 ^ 62 := by omega
  exact decide_eq_true ⟨h1, h2⟩
theorem range_len {b : Nat} (hb : b < 1000000) : (rangeL 0 (b : Int)).length < lineS := by
  rw [rangeL_nat, List.length_map, List.length_range]
  unfold lineS
  omega
theorem evI_rng {fns : Nat → Fn} {es : List E} {env : Ev} {S : Store} : evI fns (.range es) env S = (evs fns es env S).bind fun ws S => Out.of ((rangeOf ws).map fun xs => (xs, none)) S := by
  rw [evI]
theorem evs_one {fns : Nat → Fn} {e : E} {env : Ev} {S : Store} {w : W} (h : ev fns e env S = .ok w S) : evs fns [e] env S = .ok [w] S := by
  rw [evs, h]
  simp only [Out.bind_ok]
  rw [evs]
  rfl
theorem out_rng {ws : List W} {xs : List W} {S : Store} (h : rangeOf ws = some xs) : Out.of ((rangeOf ws).map fun xs => (xs, (none : Option Nat))) S = .ok (xs, none) S := by rw [h]; rfl
theorem evI_rngs {fns : Nat → Fn} {es : List E} {env : Ev} {S : Store} {ws : List W} {xs : List W} (h : evs fns es env S = .ok ws S) (h2 : rangeOf ws = some xs) : evI fns (.range es) env S = .ok (xs, none) S := by
  rw [evI_rng, h]
  exact out_rng h2
theorem rangeOf_1 {n : Int} (h : rangeOk n = true) : rangeOf [.d (.int n)] = some (rangeL 0 n) := by
  rw [rangeOf]
  rw [if_pos h]
theorem evI_range0 {fns : Nat → Fn} {e : E} {env : Ev} {S : Store} {b : Nat} (h : ev fns e env S = .ok (.d (.int (b : Int))) S) (hb : rangeOk (b : Int) = true) : evI fns (.range [e]) env S = .ok (rangeL 0 (b : Int), none) S := evI_rngs (evs_one h) (rangeOf_1 hb)
/-- range(e) -/
theorem evI_range {fns : Nat → Fn} {e : E} {env : Ev} {S : Store} {b : Nat} (h : ev fns e env S = .ok (.d (.int (b : Int))) S) (hb : b < 1000000) : evI fns (.range [e]) env S = .ok (rangeL 0 (b : Int), none) S := evI_range0 h (range_ok hb)
/-! ### one statement behind another -/
theorem evSs_nx {fns : Nat → Fn} {s : Sm} {ss : List Sm} {env env' : Ev} {st st' : Store} (h : evS fns s env st = .ok (.nx env') st') : evSs fns (s :: ss) env st = evSs fns ss env' st' := by
  rw [evSs, h]
  rfl
theorem evSs_rt {fns : Nat → Fn} {s : Sm} {ss : List Sm} {env : Ev} {st st' : Store} {w : W} (h : evS fns s env st = .ok (.rt w) st') : evSs fns (s :: ss) env st = .ok (.rt w) st' := by
  rw [evSs, h]
  rfl
theorem evSs_nil {fns : Nat → Fn} {env : Ev} {st : Store} : evSs fns [] env st = .ok (.nx env) st := by rw [evSs]
theorem evS_asg {fns : Nat → Fn} {i : Nat} {e : E} {env : Ev} {st st' : Store} {w : W} (h : ev fns e env st = .ok w st') (hi : i < env.length) : evS fns (.asg (.name i) e) env st = .ok (.nx (env.set i (some w))) st' := by
  rw [evS, h]
  simp only [Out.bind_ok]
  rw [bindT, if_pos hi]
  rfl
theorem evS_ret {fns : Nat → Fn} {e : E} {env : Ev} {st st' : Store} {w : W} (h : ev fns e env st = .ok w st') : evS fns (.ret e) env st = .ok (.rt w) st' := by
  rw [evS, h]
  rfl
theorem evS_for {fns : Nat → Fn} {t : T} {it : I} {b : List Sm} {env env' : Ev} {st st1 st' : Store} {xs : List W} {k : Option Nat} (h : evI fns it env st = .ok (xs, k) st1)
    (h2 : forL (keeps k xs) (fun x env st => (Out.of (bindT t x env) st).bind fun env st => evSs fns b env st) xs env st1 = .ok (.nx env') st') : evS fns (.for_ t it b) env st = .ok (.nx env') st' := by
  rw [evS, h]
  exact h2
theorem evF_rt {fns : Nat → Fn} {n : Nat} {b : List Sm} {ws : List W} {st st' : Store} {w : W} (h : evSs fns b (ws.map some ++ List.replicate (n - ws.length) none) st = .ok (.rt w) st') : evF fns n b ws st = .ok w st' := by
  unfold evF
  rw [h]
  rfl
theorem mtIs_list {w : W} {S : Store} {xs : List W} (h : lseq S w = some xs) : mtIs "list" w S = true := by
  unfold mtIs
  rw [if_neg (by decide), h]
  rfl
theorem bind_step {α : Type} {o : Option Ev} {env : Ev} {st : Store} {g : Ev → Store → Out α} {r : Out α} (h : o = some env) (h2 : g env st = r) : (Out.of o st).bind g = r := by
  subst h
  exact h2
theorem evS_if_f {fns : Nat → Fn} {c : B} {a b : List Sm} {env : Ev} {st st' : Store} (h : evB fns c env st = .ok false st') : evS fns (.ife c a b) env st = evSs fns b env st' := by
  rw [evS, h]
  rfl
theorem evS_if_t {fns : Nat → Fn} {c : B} {a b : List Sm} {env : Ev} {st st' : Store} (h : evB fns c env st = .ok true st') : evS fns (.ife c a b) env st = evSs fns a env st' := by
  rw [evS, h]
  rfl
theorem evS_skip {fns : Nat → Fn} {c : B} {a : List Sm} {env : Ev} {st st' : Store} (h : evB fns c env st = .ok false st') : evS fns (.ife c a []) env st = .ok (.nx env) st' := (evS_if_f h).trans evSs_nil
theorem evS_par {fns : Nat → Fn} {is : List Nat} {es : List E} {env env' : Ev} {st st' : Store} {ws : List W} (h : evs fns es env st = .ok ws st') (h2 : setNs is ws env = some env') : evS fns (.par is es) env st = .ok (.nx env') st' := by
  rw [evS, h]
  simp only [Out.bind_ok]
  rw [h2]
  rfl
theorem ev_repr {fns : Nat → Fn} {e : E} {env : Ev} {st st' : Store} {x : D} (h : ev fns e env st = .ok (.d x) st') (hx : shw x = true) : ev fns (.bi .repr [e]) env st = .ok (.d (.str x.py.shown)) st' := by
  rw [ev, evs, h]
  simp only [Out.bind_ok]
  rw [evs]
  simp only [Out.bind_ok]
  exact (repr_shw hx).1
/-- repr(e) != repr(e2) of the same data -/
theorem repr_ne {fns : Nat → Fn} {e e2 : E} {env : Ev} {st st1 st2 : Store} {x : D} (h : ev fns e env st = .ok (.d x) st1) (h2 : ev fns e2 env st1 = .ok (.d x) st2) (hx : shw x = true) : evB fns (.cmp .NotEq (.bi .repr [e]) (.bi .repr [e2])) env st = .ok false st2 := by
  rw [evB, ev_repr h hx]
  simp only [Out.bind_ok]
  rw [ev_repr h2 hx]
  simp only [Out.bind_ok]
  exact ne_str (repr_shw (S := st2) hx).2
theorem repr_eq {fns : Nat → Fn} {e e2 : E} {env : Ev} {st st1 st2 : Store} {x : D} (h : ev fns e env st = .ok (.d x) st1) (h2 : ev fns e2 env st1 = .ok (.d x) st2) (hx : shw x = true) : ev fns (.cmp .Eq (.bi .repr [e]) (.bi .repr [e2])) env st = .ok (.d (.bl true)) st2 := by
  rw [ev, ev_repr h hx]
  simp only [Out.bind_ok]
  rw [ev_repr h2 hx]
  simp only [Out.bind_ok]
  rw [eq_str (repr_shw (S := st2) hx).2]
  rfl
theorem ev_call2 {fns : Nat → Fn} {f : Nat} {e1 e2 : E} {env : Ev} {st st1 st2 st3 : Store} {u v w : W} (h1 : ev fns e1 env st = .ok u st1) (h2 : ev fns e2 env st1 = .ok v st2) (h : evCall (fns f) [u, v] st2 = .ok w st3) : ev fns (.call f [e1, e2]) env st = .ok w st3 := by
  rw [ev, evs, h1]
  simp only [Out.bind_ok]
  rw [evs, h2]
  simp only [Out.bind_ok]
  rw [evs]
  simp only [Out.bind_ok]
  exact h
theorem ev_call1 {fns : Nat → Fn} {f : Nat} {e1 : E} {env : Ev} {st st1 st3 : Store} {u w : W} (h1 : ev fns e1 env st = .ok u st1) (h : evCall (fns f) [u] st1 = .ok w st3) : ev fns (.call f [e1]) env st = .ok w st3 := by
  rw [ev, evs, h1]
  simp only [Out.bind_ok]
  rw [evs]
  simp only [Out.bind_ok]
  exact h
theorem ev_var {fns : Nat → Fn} {i : Nat} {env : Ev} {st : Store} {w : W} (h : env[i]? = some (some w)) : ev fns (.var i) env st = .ok w st := by
  rw [ev, getE, h]
  rfl
/-! ### which def a call is of -/
theorem fns1 {G : Tab} {i np n : Nat} {nm : Str} {ks : List Str} {den : Fn} (h : G.fns[i]? = some ⟨nm, np, n, ks, [0], den⟩) (u : W) (S : Store) : fnsOf G i [u] S = den [u] S := by
  unfold fnsOf
  rw [h]
  rfl
theorem fns2 {G : Tab} {i np n : Nat} {nm : Str} {ks : List Str} {den : Fn} (h : G.fns[i]? = some ⟨nm, np, n, ks, [0, 1], den⟩) (u v : W) (S : Store) : fnsOf G i [u, v] S = den [u, v] S := by
  unfold fnsOf
  rw [h]
  rfl
theorem fns2r {G : Tab} {i np n : Nat} {nm : Str} {ks : List Str} {den : Fn} (h : G.fns[i]? = some ⟨nm, np, n, ks, [1, 0], den⟩) (u v : W) (S : Store) : fnsOf G i [u, v] S = den [v, u] S := by
  unfold fnsOf
  rw [h]
  rfl
theorem fns3 {G : Tab} {i np n : Nat} {nm : Str} {ks : List Str} {den : Fn} (h : G.fns[i]? = some ⟨nm, np, n, ks, [0, 1, 2], den⟩) (u v w : W) (S : Store) : fnsOf G i [u, v, w] S = den [u, v, w] S := by
  unfold fnsOf
  rw [h]
  rfl
theorem ev_tup2 {fns : Nat → Fn} {e1 e2 : E} {env : Ev} {st st1 st2 : Store} {u v : D} (h1 : ev fns e1 env st = .ok (.d u) st1) (h2 : ev fns e2 env st1 = .ok (.d v) st2) : ev fns (.tup [e1, e2]) env st = .ok (.d (.tup [u, v])) st2 := by
  rw [ev, evs, h1]
  simp only [Out.bind_ok]
  rw [evs, h2]
  simp only [Out.bind_ok]
  rw [evs]
  simp only [Out.bind_ok]
  have h : [W.d u, W.d v].length ≤ lineS := (show 2 ≤ lineS by decide)
  rw [if_pos h]
  rfl
end DL
namespace K45
open PySem PySem.Spec PyProof.Rows L2 DL
def top (i : Nat) : Stmt := PySem.Challenge.pw_fewthrows_k45_whole_shares_of_several_ta.main.body.getD i (.Pass ⟨0, 0, 0, 0⟩)
abbrev st__law_take : Stmt := top 16
def n__law_take : List Str := ["pot", "upto", "digit", "prime", "blend"]
def b__law_take : List Sm := [(.ife (.cmp .Gt (.ix (.var 0) (.const (.int 0))) (.const (.int 0))) [(.asg (.name 2) (.bin .Mod (.bi .int [(.ix (.var 0) (.const (.int 0)))]) (.var 1))), (.set (.var 0) (.const (.int 0)) (.bin .FloorDiv (.ix (.var 0) (.const (.int 0))) (.var 1))), (.ret (.var 2))] []), (.set (.var 0) (.const (.int 2)) (.bin .Add (.ix (.var 0) (.const (.int 2))) (.const (.int 1)))), (.asg (.name 3) (.ix (.lst false [(.const (.int 2147483647)), (.const (.int 2147483629)), (.const (.int 2147483587)), (.const (.int 2147483579)), (.const (.int 2147483563))]) (.bin .Mod (.bi .int [(.ix (.var 0) (.const (.int 2)))]) (.const (.int 5))))), (.asg (.name 4) (.bin .Mod (.bi .int [(.bin .Pow (.bi .int [(.bin .Add (.bin .Add (.ix (.var 0) (.const (.int 1))) (.bin .Mult (.bin .Mult (.const (.int 98299)) (.ix (.var 0) (.const (.int 2)))) (.ix (.var 0) (.const (.int 2))))) (.const (.int 467)))]) (.const (.int 3)))]) (.var 3))), (.asg (.name 4) (.bin .Mod (.bi .int [(.bin .Mult (.var 4) (.bin .Add (.bin .Mod (.bi .int [(.var 4)]) (.const (.int 10009))) (.bin .Mult (.const (.int 89)) (.ix (.var 0) (.const (.int 2))))))]) (.const (.int 2305843009213693907)))), (.ret (.bin .Mod (.bi .int [(.bin .FloorDiv (.var 4) (.const (.int 173)))]) (.var 1)))]
def t__law_take : Tab := ⟨[], ["int"], []⟩
def d__law_take : Fn := evF (fnsOf t__law_take) 5 b__law_take
theorem c__law_take : chkSs t__law_take n__law_take (defScope st__law_take) b__law_take (defBody st__law_take) = true := by decide +kernel
theorem s__law_take : C8.scC n__law_take ["pot", "upto"] (defScope st__law_take) = true := by decide +kernel
def f__law_take : He.DefD := ⟨("_law_take", none), "_law_take", "_law_take", defArgs st__law_take, defBody st__law_take, defScope st__law_take, [], []⟩
abbrev st__law_share : Stmt := top 19
def n__law_share : List Str := ["pot", "most", "rows"]
def b__law_share : List Sm := [(.asg (.name 2) (.bin .Add (.const (.int 1)) (.call 0 [(.var 0), (.var 1)]))), (.ret (.tup [(.call 0 [(.var 0), (.bin .Add (.var 2) (.const (.int 1)))]), (.bi .int [(.var 2)])]))]
def t__law_share : Tab := ⟨[⟨"_law_take", 2, 2, [], [0, 1], d__law_take⟩], ["int"], []⟩
def d__law_share : Fn := evF (fnsOf t__law_share) 3 b__law_share
theorem c__law_share : chkSs t__law_share n__law_share (defScope st__law_share) b__law_share (defBody st__law_share) = true := by decide +kernel
theorem s__law_share : C8.scC n__law_share ["pot", "most"] (defScope st__law_share) = true := by decide +kernel
def f__law_share : He.DefD := ⟨("_law_share", none), "_law_share", "_law_share", defArgs st__law_share, defBody st__law_share, defScope st__law_share, [], []⟩
abbrev st__law_of : Stmt := top 17
def n__law_of : List Str := ["pot", "some"]
def b__law_of : List Sm := [(.ret (.ix (.var 1) (.call 0 [(.var 0), (.bi .len [(.var 1)])])))]
def t__law_of : Tab := ⟨[⟨"_law_take", 2, 2, [], [0, 1], d__law_take⟩], ["len"], []⟩
def d__law_of : Fn := evF (fnsOf t__law_of) 2 b__law_of
theorem c__law_of : chkSs t__law_of n__law_of (defScope st__law_of) b__law_of (defBody st__law_of) = true := by decide +kernel
theorem s__law_of : C8.scC n__law_of ["pot", "some"] (defScope st__law_of) = true := by decide +kernel
def f__law_of : He.DefD := ⟨("_law_of", none), "_law_of", "_law_of", defArgs st__law_of, defBody st__law_of, defScope st__law_of, [], []⟩
abbrev st__law_product : Stmt := top 22
def n__law_product : List Str := ["number", "many", "found", "lap"]
def b__law_product : List Sm := [(.asg (.name 2) (.const (.int 1))), (.for_ (.name 3) (.range [(.var 1)]) [(.asg (.name 2) (.bin .Mult (.var 2) (.var 0)))]), (.ret (.var 2))]
def t__law_product : Tab := ⟨[], ["range"], []⟩
def d__law_product : Fn := evF (fnsOf t__law_product) 4 b__law_product
theorem c__law_product : chkSs t__law_product n__law_product (defScope st__law_product) b__law_product (defBody st__law_product) = true := by decide +kernel
theorem s__law_product : C8.scC n__law_product ["number", "many"] (defScope st__law_product) = true := by decide +kernel
def f__law_product : He.DefD := ⟨("_law_product", none), "_law_product", "_law_product", defArgs st__law_product, defBody st__law_product, defScope st__law_product, [], []⟩
abbrev st_is_integer : Stmt := top 5
def n_is_integer : List Str := ["value"]
def b_is_integer : List Sm := [(.ret (.bop true [(.bi (.isinst "int") [(.var 0)]), (.not (.bi (.isinst "bool") [(.var 0)]))]))]
def t_is_integer : Tab := ⟨[], ["isinstance", "int", "bool"], []⟩
def d_is_integer : Fn := evF (fnsOf t_is_integer) 1 b_is_integer
theorem c_is_integer : chkSs t_is_integer n_is_integer (defScope st_is_integer) b_is_integer (defBody st_is_integer) = true := by decide +kernel
theorem s_is_integer : C8.scC n_is_integer ["value"] (defScope st_is_integer) = true := by decide +kernel
def f_is_integer : He.DefD := ⟨("is_integer", none), "is_integer", "is_integer", defArgs st_is_integer, defBody st_is_integer, defScope st_is_integer, [], []⟩
abbrev st_check_share : Stmt := top 10
def n_check_share : List Str := ["value", "one"]
def b_check_share : List Sm := [(.ife (.bop false [(.not (.val (.bi (.isinst "tuple") [(.var 0)]))), (.cmp .NotEq (.bi .len [(.var 0)]) (.glob "PAIR" (.int 2))), (.not (.val (.bi .all [(.comp false (.call 0 [(.var 1)]) (.name 1) (.seq (.var 0)) .yes [1])])))]) [.never] []), (.ife (.bop false [(.not (.chain .LtE .LtE (.const (.int 0)) (.ix (.var 0) (.const (.int 0))) (.ix (.var 0) (.const (.int 1))))), (.cmp .Lt (.ix (.var 0) (.const (.int 1))) (.const (.int 1)))]) [.never] [])]
def t_check_share : Tab := ⟨[⟨"is_integer", 1, 1, [], [0], d_is_integer⟩], ["isinstance", "tuple", "len", "all"], [("PAIR", (.int 2))]⟩
def d_check_share : Fn := evF (fnsOf t_check_share) 2 b_check_share
theorem c_check_share : chkSs t_check_share n_check_share (defScope st_check_share) b_check_share (defBody st_check_share) = true := by decide +kernel
theorem s_check_share : C8.scC n_check_share ["value"] (defScope st_check_share) = true := by decide +kernel
def f_check_share : He.DefD := ⟨("check_share", none), "check_share", "check_share", defArgs st_check_share, defBody st_check_share, defScope st_check_share, [], []⟩
abbrev st_raised : Stmt := top 9
def n_raised : List Str := ["base", "many", "found"]
def b_raised : List Sm := [(.asg (.name 2) (.const (.int 1))), (.while_ 1000000000 (.cmp .Gt (.var 1) (.const (.int 0))) [(.ife (.cmp .Eq (.bin .Mod (.var 1) (.const (.int 2))) (.const (.int 1))) [(.asg (.name 2) (.bin .Mult (.var 2) (.var 0)))] []), (.asg (.name 1) (.bin .FloorDiv (.var 1) (.const (.int 2)))), (.ife (.cmp .Gt (.var 1) (.const (.int 0))) [(.asg (.name 0) (.bin .Mult (.var 0) (.var 0)))] [])]), (.ret (.var 2))]
def t_raised : Tab := ⟨[], [], []⟩
def d_raised : Fn := evF (fnsOf t_raised) 3 b_raised
theorem c_raised : chkSs t_raised n_raised (defScope st_raised) b_raised (defBody st_raised) = true := by decide +kernel
theorem s_raised : C8.scC n_raised ["base", "many"] (defScope st_raised) = true := by decide +kernel
def f_raised : He.DefD := ⟨("raised", none), "raised", "raised", defArgs st_raised, defBody st_raised, defScope st_raised, [], []⟩
abbrev st_repeated_share : Stmt := top 11
def n_repeated_share : List Str := ["share", "many"]
def b_repeated_share : List Sm := [(.expr (.call 0 [(.var 0)])), (.ife (.bop false [(.not (.val (.call 1 [(.var 1)]))), (.not (.chain .LtE .LtE (.const (.int 1)) (.var 1) (.glob "MOST_REPEATS" (.int 40))))]) [.never] []), (.ret (.tup [(.call 2 [(.ix (.var 0) (.const (.int 0))), (.var 1)]), (.call 2 [(.ix (.var 0) (.const (.int 1))), (.var 1)])]))]
def t_repeated_share : Tab := ⟨[⟨"check_share", 1, 1, [], [0], d_check_share⟩, ⟨"is_integer", 1, 1, [], [0], d_is_integer⟩, ⟨"raised", 2, 2, [], [0, 1], d_raised⟩], [], [("MOST_REPEATS", (.int 40))]⟩
def d_repeated_share : Fn := evF (fnsOf t_repeated_share) 2 b_repeated_share
theorem c_repeated_share : chkSs t_repeated_share n_repeated_share (defScope st_repeated_share) b_repeated_share (defBody st_repeated_share) = true := by decide +kernel
theorem s_repeated_share : C8.scC n_repeated_share ["share", "many"] (defScope st_repeated_share) = true := by decide +kernel
def f_repeated_share : He.DefD := ⟨("repeated_share", none), "repeated_share", "repeated_share", defArgs st_repeated_share, defBody st_repeated_share, defScope st_repeated_share, [], []⟩
abbrev st_led_share : Stmt := top 12
def n_led_share : List Str := ["one", "other", "rows"]
def b_led_share : List Sm := [(.expr (.call 0 [(.var 0)])), (.expr (.call 0 [(.var 1)])), (.asg (.name 2) (.bin .Mult (.ix (.var 0) (.const (.int 1))) (.ix (.var 1) (.const (.int 1))))), (.ret (.tup [(.bin .Sub (.var 2) (.bin .Mult (.bin .Sub (.ix (.var 0) (.const (.int 1))) (.ix (.var 0) (.const (.int 0)))) (.bin .Sub (.ix (.var 1) (.const (.int 1))) (.ix (.var 1) (.const (.int 0)))))), (.var 2)]))]
def t_led_share : Tab := ⟨[⟨"check_share", 1, 1, [], [0], d_check_share⟩], [], []⟩
def d_led_share : Fn := evF (fnsOf t_led_share) 3 b_led_share
theorem c_led_share : chkSs t_led_share n_led_share (defScope st_led_share) b_led_share (defBody st_led_share) = true := by decide +kernel
theorem s_led_share : C8.scC n_led_share ["one", "other"] (defScope st_led_share) = true := by decide +kernel
def f_led_share : He.DefD := ⟨("led_share", none), "led_share", "led_share", defArgs st_led_share, defBody st_led_share, defScope st_led_share, [], []⟩
abbrev st_greater_share : Stmt := top 13
def n_greater_share : List Str := ["one", "other"]
def b_greater_share : List Sm := [(.expr (.call 0 [(.var 0)])), (.expr (.call 0 [(.var 1)])), (.ret (.ifx (.cmp .Gt (.bin .Mult (.ix (.var 1) (.const (.int 0))) (.ix (.var 0) (.const (.int 1)))) (.bin .Mult (.ix (.var 0) (.const (.int 0))) (.ix (.var 1) (.const (.int 1))))) (.var 1) (.var 0)))]
def t_greater_share : Tab := ⟨[⟨"check_share", 1, 1, [], [0], d_check_share⟩], [], []⟩
def d_greater_share : Fn := evF (fnsOf t_greater_share) 2 b_greater_share
theorem c_greater_share : chkSs t_greater_share n_greater_share (defScope st_greater_share) b_greater_share (defBody st_greater_share) = true := by decide +kernel
theorem s_greater_share : C8.scC n_greater_share ["one", "other"] (defScope st_greater_share) = true := by decide +kernel
def f_greater_share : He.DefD := ⟨("greater_share", none), "greater_share", "greater_share", defArgs st_greater_share, defBody st_greater_share, defScope st_greater_share, [], []⟩
abbrev st__law_are_great_right : Stmt := top 23
def n__law_are_great_right : List Str := ["pot", "one", "other", "many", "due", "rows", "twice"]
def b__law_are_great_right : List Sm := [(.asg (.name 1) (.call 0 [(.var 0), (.lst false [(.tup [(.bin .Sub (.bin .Pow (.const (.int 10)) (.const (.int 20))) (.const (.int 1))), (.bin .Pow (.const (.int 10)) (.const (.int 20)))]), (.tup [(.const (.int 3)), (.bin .Pow (.const (.int 10)) (.const (.int 30)))]), (.tup [(.const (.int 0)), (.const (.int 7))]), (.tup [(.const (.int 5)), (.const (.int 5))]), (.tup [(.bin .Sub (.const (.int 343)) (.const (.int 125))), (.const (.int 343))])])])), (.par [2, 3] [(.call 1 [(.var 0), (.const (.int 1000))]), (.bin .Add (.const (.int 1)) (.call 2 [(.var 0), (.const (.int 40))]))]), (.asg (.name 4) (.tup [(.call 3 [(.ix (.var 1) (.const (.int 0))), (.var 3)]), (.call 3 [(.ix (.var 1) (.const (.int 1))), (.var 3)])])), (.ife (.cmp .NotEq (.bi .repr [(.call 4 [(.var 3), (.var 1)])]) (.bi .repr [(.var 4)])) [(.ret (.const (.bl false)))] []), (.asg (.name 5) (.bin .Mult (.ix (.var 1) (.const (.int 1))) (.ix (.var 2) (.const (.int 1))))), (.ife (.cmp .NotEq (.bi .repr [(.call 5 [(.var 2), (.var 1)])]) (.bi .repr [(.tup [(.bin .Sub (.var 5) (.bin .Mult (.bin .Sub (.ix (.var 1) (.const (.int 1))) (.ix (.var 1) (.const (.int 0)))) (.bin .Sub (.ix (.var 2) (.const (.int 1))) (.ix (.var 2) (.const (.int 0)))))), (.var 5)])])) [(.ret (.const (.bl false)))] []), (.asg (.name 6) (.tup [(.bin .Mult (.ix (.var 2) (.const (.int 0))) (.ix (.var 2) (.const (.int 0)))), (.bin .Mult (.ix (.var 2) (.const (.int 1))) (.ix (.var 2) (.const (.int 1))))])), (.asg (.name 5) (.bin .Mult (.ix (.var 1) (.const (.int 1))) (.ix (.var 6) (.const (.int 1))))), (.ife (.cmp .NotEq (.bi .repr [(.call 6 [(.var 1), (.call 7 [(.var 2), (.const (.int 2))])])]) (.bi .repr [(.tup [(.bin .Sub (.var 5) (.bin .Mult (.bin .Sub (.ix (.var 1) (.const (.int 1))) (.ix (.var 1) (.const (.int 0)))) (.bin .Sub (.ix (.var 6) (.const (.int 1))) (.ix (.var 6) (.const (.int 0)))))), (.var 5)])])) [(.ret (.const (.bl false)))] []), (.asg (.name 4) (.ifx (.cmp .Gt (.bin .Mult (.ix (.var 2) (.const (.int 0))) (.ix (.var 1) (.const (.int 1)))) (.bin .Mult (.ix (.var 1) (.const (.int 0))) (.ix (.var 2) (.const (.int 1))))) (.var 2) (.var 1))), (.ret (.cmp .Eq (.bi .repr [(.call 8 [(.var 1), (.var 2)])]) (.bi .repr [(.var 4)])))]
def t__law_are_great_right : Tab := ⟨[⟨"_law_of", 2, 2, [], [0, 1], d__law_of⟩, ⟨"_law_share", 2, 2, [], [0, 1], d__law_share⟩, ⟨"_law_take", 2, 2, [], [0, 1], d__law_take⟩, ⟨"_law_product", 2, 2, [], [0, 1], d__law_product⟩, ⟨"repeated_share", 2, 0, ["many", "share"], [1, 0], d_repeated_share⟩, ⟨"led_share", 2, 0, ["other", "one"], [1, 0], d_led_share⟩, ⟨"led_share", 2, 2, [], [0, 1], d_led_share⟩, ⟨"repeated_share", 2, 2, [], [0, 1], d_repeated_share⟩, ⟨"greater_share", 2, 2, [], [0, 1], d_greater_share⟩], ["repr"], []⟩
def d__law_are_great_right : Fn := evF (fnsOf t__law_are_great_right) 7 b__law_are_great_right
theorem c__law_are_great_right : chkSs t__law_are_great_right n__law_are_great_right (defScope st__law_are_great_right) b__law_are_great_right (defBody st__law_are_great_right) = true := by decide +kernel
theorem s__law_are_great_right : C8.scC n__law_are_great_right ["pot"] (defScope st__law_are_great_right) = true := by decide +kernel
def f__law_are_great_right : He.DefD := ⟨("_law_are_great_right", none), "_law_are_great_right", "_law_are_great_right", defArgs st__law_are_great_right, defBody st__law_are_great_right, defScope st__law_are_great_right, [], []⟩
abbrev st__law_rows_all : Stmt := top 20
def n__law_rows_all : List Str := ["share", "many", "found", "lap", "later", "is_let", "row"]
def b__law_rows_all : List Sm := [(.asg (.name 2) (.lst false [(.const (.bl true))])), (.for_ (.name 3) (.range [(.var 1)]) [(.asg (.name 4) (.lst true [])), (.for_ (.name 5) (.seq (.var 2)) [(.expr (.mt .extend (.var 4) [(.comp false (.bop true [(.var 5), (.cmp .Lt (.var 6) (.ix (.var 0) (.const (.int 0))))]) (.name 6) (.range [(.ix (.var 0) (.const (.int 1)))]) .yes [6])]))]), (.asg (.name 2) (.var 4))]), (.ret (.tup [(.mt .count (.var 2) [(.const (.bl true))]), (.bi .len [(.var 2)])]))]
def t__law_rows_all : Tab := ⟨[], ["range", "len"], []⟩
def d__law_rows_all : Fn := evF (fnsOf t__law_rows_all) 7 b__law_rows_all
theorem c__law_rows_all : chkSs t__law_rows_all n__law_rows_all (defScope st__law_rows_all) b__law_rows_all (defBody st__law_rows_all) = true := by decide +kernel
theorem s__law_rows_all : C8.scC n__law_rows_all ["share", "many"] (defScope st__law_rows_all) = true := by decide +kernel
def f__law_rows_all : He.DefD := ⟨("_law_rows_all", none), "_law_rows_all", "_law_rows_all", defArgs st__law_rows_all, defBody st__law_rows_all, defScope st__law_rows_all, [], []⟩
abbrev st__law_rows_led : Stmt := top 21
def n__law_rows_led : List Str := ["one", "other", "found", "first", "second"]
def b__law_rows_led : List Sm := [(.asg (.name 2) (.lst true [])), (.for_ (.name 3) (.range [(.ix (.var 0) (.const (.int 1)))]) [(.expr (.mt .extend (.var 2) [(.comp false (.bop false [(.cmp .Lt (.var 3) (.ix (.var 0) (.const (.int 0)))), (.cmp .Lt (.var 4) (.ix (.var 1) (.const (.int 0))))]) (.name 4) (.range [(.ix (.var 1) (.const (.int 1)))]) .yes [4])]))]), (.ret (.tup [(.mt .count (.var 2) [(.const (.bl true))]), (.bi .len [(.var 2)])]))]
def t__law_rows_led : Tab := ⟨[], ["range", "len"], []⟩
def d__law_rows_led : Fn := evF (fnsOf t__law_rows_led) 5 b__law_rows_led
theorem c__law_rows_led : chkSs t__law_rows_led n__law_rows_led (defScope st__law_rows_led) b__law_rows_led (defBody st__law_rows_led) = true := by decide +kernel
theorem s__law_rows_led : C8.scC n__law_rows_led ["one", "other"] (defScope st__law_rows_led) = true := by decide +kernel
def f__law_rows_led : He.DefD := ⟨("_law_rows_led", none), "_law_rows_led", "_law_rows_led", defArgs st__law_rows_led, defBody st__law_rows_led, defScope st__law_rows_led, [], []⟩
abbrev st__law_right : Stmt := top 24
def n__law_right : List Str := ["pot", "one", "other", "many", "twice", "due"]
def b__law_right : List Sm := [(.par [1, 2, 3] [(.call 0 [(.var 0), (.const (.int 6))]), (.call 0 [(.var 0), (.const (.int 12))]), (.bin .Add (.const (.int 1)) (.call 1 [(.var 0), (.const (.int 4))]))]), (.ife (.cmp .NotEq (.bi .repr [(.call 2 [(.var 1), (.var 3)])]) (.bi .repr [(.call 3 [(.var 1), (.var 3)])])) [(.ret (.const (.bl false)))] []), (.ife (.cmp .NotEq (.bi .repr [(.call 4 [(.var 1), (.var 2)])]) (.bi .repr [(.call 5 [(.var 1), (.var 2)])])) [(.ret (.const (.bl false)))] []), (.ife (.cmp .NotEq (.bi .repr [(.call 4 [(.var 2), (.var 1)])]) (.bi .repr [(.call 5 [(.var 2), (.var 1)])])) [(.ret (.const (.bl false)))] []), (.asg (.name 4) (.tup [(.bin .Mult (.const (.int 2)) (.ix (.var 1) (.const (.int 0)))), (.bin .Mult (.const (.int 2)) (.ix (.var 1) (.const (.int 1))))])), (.ife (.cmp .NotEq (.bi .repr [(.lst false [(.call 6 [(.var 1), (.var 4)]), (.call 6 [(.var 4), (.var 1)])])]) (.bi .repr [(.lst false [(.var 1), (.var 4)])])) [(.ret (.const (.bl false)))] []), (.asg (.name 5) (.ifx (.cmp .Gt (.bin .Mult (.ix (.var 2) (.const (.int 0))) (.ix (.var 1) (.const (.int 1)))) (.bin .Mult (.ix (.var 1) (.const (.int 0))) (.ix (.var 2) (.const (.int 1))))) (.var 2) (.var 1))), (.ret (.bop true [(.cmp .Eq (.bi .repr [(.call 7 [(.var 2), (.var 1)])]) (.bi .repr [(.var 5)])), (.call 8 [(.var 0)])]))]
def t__law_right : Tab := ⟨[⟨"_law_share", 2, 2, [], [0, 1], d__law_share⟩, ⟨"_law_take", 2, 2, [], [0, 1], d__law_take⟩, ⟨"repeated_share", 2, 2, [], [0, 1], d_repeated_share⟩, ⟨"_law_rows_all", 2, 2, [], [0, 1], d__law_rows_all⟩, ⟨"led_share", 2, 2, [], [0, 1], d_led_share⟩, ⟨"_law_rows_led", 2, 2, [], [0, 1], d__law_rows_led⟩, ⟨"greater_share", 2, 2, [], [0, 1], d_greater_share⟩, ⟨"greater_share", 2, 0, ["other", "one"], [1, 0], d_greater_share⟩, ⟨"_law_are_great_right", 1, 1, [], [0], d__law_are_great_right⟩], ["repr"], []⟩
def d__law_right : Fn := evF (fnsOf t__law_right) 6 b__law_right
theorem c__law_right : chkSs t__law_right n__law_right (defScope st__law_right) b__law_right (defBody st__law_right) = true := by decide +kernel
theorem s__law_right : C8.scC n__law_right ["pot"] (defScope st__law_right) = true := by decide +kernel
def f__law_right : He.DefD := ⟨("_law_right", none), "_law_right", "_law_right", defArgs st__law_right, defBody st__law_right, defScope st__law_right, [], []⟩
abbrev st__law_pot : Stmt := top 15
def n__law_pot : List Str := ["script", "place", "cell", "own", "small"]
def b__law_pot : List Sm := [(.asg (.name 2) (.ifx (.cmp .Lt (.var 1) (.bi .len [(.var 0)])) (.ix (.var 0) (.var 1)) (.bin .Add (.bin .Add (.bin .Mod (.bi .sum [(.slice (.var 0) (.const .non) (.const (.int 1)) false true)]) (.const (.int 1000003))) (.bin .Mult (.const (.int 1154)) (.var 1))) (.const (.int 529))))), (.asg (.name 3) (.bin .Mult (.bin .Mod (.bi .int [(.bi .abs [(.var 2)])]) (.bin .Pow (.bin .Pow (.const (.int 10)) (.const (.int 60))) (.const (.int 5)))) (.bi .int [(.cmp .GtE (.bi .abs [(.var 2)]) (.bin .Pow (.const (.int 10)) (.const (.int 18))))]))), (.asg (.name 4) (.bin .Mod (.bi .int [(.var 2)]) (.const (.int 2305843009213693951)))), (.ret (.lst true [(.var 3), (.bin .Mod (.bi .int [(.bin .Add (.bin .Add (.bin .Mult (.var 4) (.const (.int 73199))) (.bin .Mult (.bin .Mult (.const (.int 8093)) (.var 1)) (.var 1))) (.const (.int 470)))]) (.const (.int 2305843009213693921))), (.const (.int 0))]))]
def t__law_pot : Tab := ⟨[], ["len", "sum", "int", "abs"], []⟩
def d__law_pot : Fn := evF (fnsOf t__law_pot) 5 b__law_pot
theorem c__law_pot : chkSs t__law_pot n__law_pot (defScope st__law_pot) b__law_pot (defBody st__law_pot) = true := by decide +kernel
theorem s__law_pot : C8.scC n__law_pot ["script", "place"] (defScope st__law_pot) = true := by decide +kernel
def f__law_pot : He.DefD := ⟨("_law_pot", none), "_law_pot", "_law_pot", defArgs st__law_pot, defBody st__law_pot, defScope st__law_pot, [], []⟩
abbrev st__law_cells : Stmt := top 18
def n__law_cells : List Str := ["script", "most"]
def b__law_cells : List Sm := [(.ret (.lrange false [(.bi .max [(.const (.int 1)), (.bi .min [(.var 1), (.bi .len [(.var 0)])])])]))]
def t__law_cells : Tab := ⟨[], ["list", "range", "max", "min", "len"], []⟩
def d__law_cells : Fn := evF (fnsOf t__law_cells) 2 b__law_cells
theorem c__law_cells : chkSs t__law_cells n__law_cells (defScope st__law_cells) b__law_cells (defBody st__law_cells) = true := by decide +kernel
theorem s__law_cells : C8.scC n__law_cells ["script", "most"] (defScope st__law_cells) = true := by decide +kernel
def f__law_cells : He.DefD := ⟨("_law_cells", none), "_law_cells", "_law_cells", defArgs st__law_cells, defBody st__law_cells, defScope st__law_cells, [], []⟩
abbrev st_law : Stmt := top 25
def n_law : List Str := ["script", "place"]
def b_law : List Sm := [(.ret (.bi .all [(.comp false (.call 1 [(.call 2 [(.var 0), (.var 1)])]) (.name 1) (.seq (.call 0 [(.var 0), (.const (.int 3))])) .yes [1])]))]
def t_law : Tab := ⟨[⟨"_law_cells", 2, 2, [], [0, 1], d__law_cells⟩, ⟨"_law_right", 1, 1, [], [0], d__law_right⟩, ⟨"_law_pot", 2, 2, [], [0, 1], d__law_pot⟩], ["all"], []⟩
def d_law : Fn := evF (fnsOf t_law) 2 b_law
theorem c_law : chkSs t_law n_law (defScope st_law) b_law (defBody st_law) = true := by decide +kernel
theorem s_law : C8.scC n_law ["script"] (defScope st_law) = true := by decide +kernel
def f_law : He.DefD := ⟨("law", none), "law", "law", defArgs st_law, defBody st_law, defScope st_law, [], []⟩
def fn : List He.DefD := [f__law_take, f__law_share, f__law_of, f__law_product, f_is_integer, f_check_share, f_raised, f_repeated_share, f_led_share, f_greater_share, f__law_are_great_right, f__law_rows_all, f__law_rows_led, f__law_right, f__law_pot, f__law_cells, f_law]
def fa : List He.Fa := [.glo "_law_take", .glo "_law_share", .glo "_law_of", .glo "_law_product", .glo "is_integer", .glo "check_share", .glo "raised", .glo "repeated_share", .glo "led_share", .glo "greater_share", .glo "_law_are_great_right", .glo "_law_rows_all", .glo "_law_rows_led", .glo "_law_right", .glo "_law_pot", .glo "_law_cells", .glo "law", .free "int", .free "len", .free "range", .free "isinstance", .free "bool", .free "tuple", .free "all", .free "repr", .free "sum", .free "abs", .free "list", .free "max", .free "min"]
def gl : List (Str × D) := [("PAIR", (.int 2)), ("MOST_REPEATS", (.int 40))]
abbrev R : PySem.W.OpenRow := PySem.W.OpenLaw.row PySem.Challenge.rw_fewthrows_k45_whole_shares_of_several_ta
abbrev hk : PySem.W.Hook := hookG 3 gl fa fn
def ob (s : PySem.W.SharedT) : AlG := obsG gl fa fn (frT 3 (HandSHeadRun.getT s))
theorem ob_eq (s : PySem.W.SharedT) : ob s = hk.obs s.abs := obsG_eq (HandSHeadRun.getT_eq s)
def loose : List Str := (["__name__", "ThrowError", "BadShare", "BadNumber", "is_integer", "MOST_REPEATS", "PAIR", "raised", "check_share", "repeated_share", "led_share", "greater_share", "_law_pot", "_law_take", "_law_of", "_law_cells", "_law_share", "_law_rows_all", "_law_rows_led", "_law_product", "_law_are_great_right", "_law_right"] : List Str)
theorem run (w : World) : HandSHeadRun.RunEq R (PySem.W.view R.prog [25]) hk ob 20000 loose w := by
  intro os
  kernel_rfl
theorem k__law_take_2 {K : PySem.W.Frag} {a : Addr} {fd : FuncData} (F : FunD K "_law_take" "_law_take" (defArgs st__law_take) (defBody st__law_take) (defScope st__law_take) [] [] a fd) : BindsK fd ["pot", "upto"] [] 2 [0, 1] :=
  bindsK F fun _ _ _ _ _ _ us ws h1 h2 => match us, ws, h1, h2 with | [_, _], [], _, _ => rfl
theorem k_is_integer_1 {K : PySem.W.Frag} {a : Addr} {fd : FuncData} (F : FunD K "is_integer" "is_integer" (defArgs st_is_integer) (defBody st_is_integer) (defScope st_is_integer) [] [] a fd) : BindsK fd ["value"] [] 1 [0] :=
  bindsK F fun _ _ _ _ _ _ us ws h1 h2 => match us, ws, h1, h2 with | [_], [], _, _ => rfl
theorem k_check_share_1 {K : PySem.W.Frag} {a : Addr} {fd : FuncData} (F : FunD K "check_share" "check_share" (defArgs st_check_share) (defBody st_check_share) (defScope st_check_share) [] [] a fd) : BindsK fd ["value"] [] 1 [0] :=
  bindsK F fun _ _ _ _ _ _ us ws h1 h2 => match us, ws, h1, h2 with | [_], [], _, _ => rfl
theorem k_raised_2 {K : PySem.W.Frag} {a : Addr} {fd : FuncData} (F : FunD K "raised" "raised" (defArgs st_raised) (defBody st_raised) (defScope st_raised) [] [] a fd) : BindsK fd ["base", "many"] [] 2 [0, 1] :=
  bindsK F fun _ _ _ _ _ _ us ws h1 h2 => match us, ws, h1, h2 with | [_, _], [], _, _ => rfl
theorem k__law_of_2 {K : PySem.W.Frag} {a : Addr} {fd : FuncData} (F : FunD K "_law_of" "_law_of" (defArgs st__law_of) (defBody st__law_of) (defScope st__law_of) [] [] a fd) : BindsK fd ["pot", "some"] [] 2 [0, 1] :=
  bindsK F fun _ _ _ _ _ _ us ws h1 h2 => match us, ws, h1, h2 with | [_, _], [], _, _ => rfl
theorem k__law_share_2 {K : PySem.W.Frag} {a : Addr} {fd : FuncData} (F : FunD K "_law_share" "_law_share" (defArgs st__law_share) (defBody st__law_share) (defScope st__law_share) [] [] a fd) : BindsK fd ["pot", "most"] [] 2 [0, 1] :=
  bindsK F fun _ _ _ _ _ _ us ws h1 h2 => match us, ws, h1, h2 with | [_, _], [], _, _ => rfl
theorem k__law_product_2 {K : PySem.W.Frag} {a : Addr} {fd : FuncData} (F : FunD K "_law_product" "_law_product" (defArgs st__law_product) (defBody st__law_product) (defScope st__law_product) [] [] a fd) : BindsK fd ["number", "many"] [] 2 [0, 1] :=
  bindsK F fun _ _ _ _ _ _ us ws h1 h2 => match us, ws, h1, h2 with | [_, _], [], _, _ => rfl
theorem k_repeated_share_0_many_share {K : PySem.W.Frag} {a : Addr} {fd : FuncData} (F : FunD K "repeated_share" "repeated_share" (defArgs st_repeated_share) (defBody st_repeated_share) (defScope st_repeated_share) [] [] a fd) : BindsK fd ["share", "many"] ["many", "share"] 0 [1, 0] :=
  bindsK F fun _ _ _ _ _ _ us ws h1 h2 => match us, ws, h1, h2 with | [], [_, _], _, _ => rfl
theorem k_led_share_0_other_one {K : PySem.W.Frag} {a : Addr} {fd : FuncData} (F : FunD K "led_share" "led_share" (defArgs st_led_share) (defBody st_led_share) (defScope st_led_share) [] [] a fd) : BindsK fd ["one", "other"] ["other", "one"] 0 [1, 0] :=
  bindsK F fun _ _ _ _ _ _ us ws h1 h2 => match us, ws, h1, h2 with | [], [_, _], _, _ => rfl
theorem k_led_share_2 {K : PySem.W.Frag} {a : Addr} {fd : FuncData} (F : FunD K "led_share" "led_share" (defArgs st_led_share) (defBody st_led_share) (defScope st_led_share) [] [] a fd) : BindsK fd ["one", "other"] [] 2 [0, 1] :=
  bindsK F fun _ _ _ _ _ _ us ws h1 h2 => match us, ws, h1, h2 with | [_, _], [], _, _ => rfl
theorem k_repeated_share_2 {K : PySem.W.Frag} {a : Addr} {fd : FuncData} (F : FunD K "repeated_share" "repeated_share" (defArgs st_repeated_share) (defBody st_repeated_share) (defScope st_repeated_share) [] [] a fd) : BindsK fd ["share", "many"] [] 2 [0, 1] :=
  bindsK F fun _ _ _ _ _ _ us ws h1 h2 => match us, ws, h1, h2 with | [_, _], [], _, _ => rfl
theorem k_greater_share_2 {K : PySem.W.Frag} {a : Addr} {fd : FuncData} (F : FunD K "greater_share" "greater_share" (defArgs st_greater_share) (defBody st_greater_share) (defScope st_greater_share) [] [] a fd) : BindsK fd ["one", "other"] [] 2 [0, 1] :=
  bindsK F fun _ _ _ _ _ _ us ws h1 h2 => match us, ws, h1, h2 with | [_, _], [], _, _ => rfl
theorem k__law_rows_all_2 {K : PySem.W.Frag} {a : Addr} {fd : FuncData} (F : FunD K "_law_rows_all" "_law_rows_all" (defArgs st__law_rows_all) (defBody st__law_rows_all) (defScope st__law_rows_all) [] [] a fd) : BindsK fd ["share", "many"] [] 2 [0, 1] :=
  bindsK F fun _ _ _ _ _ _ us ws h1 h2 => match us, ws, h1, h2 with | [_, _], [], _, _ => rfl
theorem k__law_rows_led_2 {K : PySem.W.Frag} {a : Addr} {fd : FuncData} (F : FunD K "_law_rows_led" "_law_rows_led" (defArgs st__law_rows_led) (defBody st__law_rows_led) (defScope st__law_rows_led) [] [] a fd) : BindsK fd ["one", "other"] [] 2 [0, 1] :=
  bindsK F fun _ _ _ _ _ _ us ws h1 h2 => match us, ws, h1, h2 with | [_, _], [], _, _ => rfl
theorem k_greater_share_0_other_one {K : PySem.W.Frag} {a : Addr} {fd : FuncData} (F : FunD K "greater_share" "greater_share" (defArgs st_greater_share) (defBody st_greater_share) (defScope st_greater_share) [] [] a fd) : BindsK fd ["one", "other"] ["other", "one"] 0 [1, 0] :=
  bindsK F fun _ _ _ _ _ _ us ws h1 h2 => match us, ws, h1, h2 with | [], [_, _], _, _ => rfl
theorem k__law_are_great_right_1 {K : PySem.W.Frag} {a : Addr} {fd : FuncData} (F : FunD K "_law_are_great_right" "_law_are_great_right" (defArgs st__law_are_great_right) (defBody st__law_are_great_right) (defScope st__law_are_great_right) [] [] a fd) : BindsK fd ["pot"] [] 1 [0] :=
  bindsK F fun _ _ _ _ _ _ us ws h1 h2 => match us, ws, h1, h2 with | [_], [], _, _ => rfl
theorem k__law_cells_2 {K : PySem.W.Frag} {a : Addr} {fd : FuncData} (F : FunD K "_law_cells" "_law_cells" (defArgs st__law_cells) (defBody st__law_cells) (defScope st__law_cells) [] [] a fd) : BindsK fd ["script", "most"] [] 2 [0, 1] :=
  bindsK F fun _ _ _ _ _ _ us ws h1 h2 => match us, ws, h1, h2 with | [_, _], [], _, _ => rfl
theorem k__law_right_1 {K : PySem.W.Frag} {a : Addr} {fd : FuncData} (F : FunD K "_law_right" "_law_right" (defArgs st__law_right) (defBody st__law_right) (defScope st__law_right) [] [] a fd) : BindsK fd ["pot"] [] 1 [0] :=
  bindsK F fun _ _ _ _ _ _ us ws h1 h2 => match us, ws, h1, h2 with | [_], [], _, _ => rfl
theorem k__law_pot_2 {K : PySem.W.Frag} {a : Addr} {fd : FuncData} (F : FunD K "_law_pot" "_law_pot" (defArgs st__law_pot) (defBody st__law_pot) (defScope st__law_pot) [] [] a fd) : BindsK fd ["script", "place"] [] 2 [0, 1] :=
  bindsK F fun _ _ _ _ _ _ us ws h1 h2 => match us, ws, h1, h2 with | [_, _], [], _, _ => rfl
theorem k_law_1 {K : PySem.W.Frag} {a : Addr} {fd : FuncData} (F : FunD K "law" "law" (defArgs st_law) (defBody st_law) (defScope st_law) [] [] a fd) : BindsK fd ["script"] [] 1 [0] :=
  bindsK F fun _ _ _ _ _ _ us ws h1 h2 => match us, ws, h1, h2 with | [_], [], _, _ => rfl
theorem facts {P : Program} {w : World} {K : PySem.W.Frag} {h : Heap} {mg : Str → Option Value} {f : Addr} (X : K.In h) (G : h.Ns mainGlobals mg) (hfa : mg ("law" : Str) = some (.ref f)) (c : SaysG gl fa fn K) :
    ∃ fd : FuncData, (∀ (s : Shared) (v : Value), BindsTo s fd ⟨[v], []⟩ [("script", v)]) ∧ ∀ base : Heap, K.In base → base.Ns mainGlobals mg → base.NoDigits → FnG P w K mg base 6 f fd ["script"] (spD K mg 1 d_law) := by
  obtain ⟨fd__law_take, F__law_take⟩ := c.df.def_ 0 (d := f__law_take) rfl
  have m__law_take := He.glo_ok X G (c.df.fact 0 (f := .glo "_law_take") rfl)
  obtain ⟨fd__law_share, F__law_share⟩ := c.df.def_ 1 (d := f__law_share) rfl
  have m__law_share := He.glo_ok X G (c.df.fact 1 (f := .glo "_law_share") rfl)
  obtain ⟨fd__law_of, F__law_of⟩ := c.df.def_ 2 (d := f__law_of) rfl
  have m__law_of := He.glo_ok X G (c.df.fact 2 (f := .glo "_law_of") rfl)
  obtain ⟨fd__law_product, F__law_product⟩ := c.df.def_ 3 (d := f__law_product) rfl
  have m__law_product := He.glo_ok X G (c.df.fact 3 (f := .glo "_law_product") rfl)
  obtain ⟨fd_is_integer, F_is_integer⟩ := c.df.def_ 4 (d := f_is_integer) rfl
  have m_is_integer := He.glo_ok X G (c.df.fact 4 (f := .glo "is_integer") rfl)
  obtain ⟨fd_check_share, F_check_share⟩ := c.df.def_ 5 (d := f_check_share) rfl
  have m_check_share := He.glo_ok X G (c.df.fact 5 (f := .glo "check_share") rfl)
  obtain ⟨fd_raised, F_raised⟩ := c.df.def_ 6 (d := f_raised) rfl
  have m_raised := He.glo_ok X G (c.df.fact 6 (f := .glo "raised") rfl)
  obtain ⟨fd_repeated_share, F_repeated_share⟩ := c.df.def_ 7 (d := f_repeated_share) rfl
  have m_repeated_share := He.glo_ok X G (c.df.fact 7 (f := .glo "repeated_share") rfl)
  obtain ⟨fd_led_share, F_led_share⟩ := c.df.def_ 8 (d := f_led_share) rfl
  have m_led_share := He.glo_ok X G (c.df.fact 8 (f := .glo "led_share") rfl)
  obtain ⟨fd_greater_share, F_greater_share⟩ := c.df.def_ 9 (d := f_greater_share) rfl
  have m_greater_share := He.glo_ok X G (c.df.fact 9 (f := .glo "greater_share") rfl)
  obtain ⟨fd__law_are_great_right, F__law_are_great_right⟩ := c.df.def_ 10 (d := f__law_are_great_right) rfl
  have m__law_are_great_right := He.glo_ok X G (c.df.fact 10 (f := .glo "_law_are_great_right") rfl)
  obtain ⟨fd__law_rows_all, F__law_rows_all⟩ := c.df.def_ 11 (d := f__law_rows_all) rfl
  have m__law_rows_all := He.glo_ok X G (c.df.fact 11 (f := .glo "_law_rows_all") rfl)
  obtain ⟨fd__law_rows_led, F__law_rows_led⟩ := c.df.def_ 12 (d := f__law_rows_led) rfl
  have m__law_rows_led := He.glo_ok X G (c.df.fact 12 (f := .glo "_law_rows_led") rfl)
  obtain ⟨fd__law_right, F__law_right⟩ := c.df.def_ 13 (d := f__law_right) rfl
  have m__law_right := He.glo_ok X G (c.df.fact 13 (f := .glo "_law_right") rfl)
  obtain ⟨fd__law_pot, F__law_pot⟩ := c.df.def_ 14 (d := f__law_pot) rfl
  have m__law_pot := He.glo_ok X G (c.df.fact 14 (f := .glo "_law_pot") rfl)
  obtain ⟨fd__law_cells, F__law_cells⟩ := c.df.def_ 15 (d := f__law_cells) rfl
  have m__law_cells := He.glo_ok X G (c.df.fact 15 (f := .glo "_law_cells") rfl)
  obtain ⟨fd_law, F_law⟩ := c.df.def_ 16 (d := f_law) rfl
  have m_law := He.glo_ok X G (c.df.fact 16 (f := .glo "law") rfl)
  have e := hfa.symm.trans m_law
  cases e
  have r_int := He.free_ok X G (c.df.fact 17 (f := .free "int") rfl)
  have r_len := He.free_ok X G (c.df.fact 18 (f := .free "len") rfl)
  have r_range := He.free_ok X G (c.df.fact 19 (f := .free "range") rfl)
  have r_isinstance := He.free_ok X G (c.df.fact 20 (f := .free "isinstance") rfl)
  have r_bool := He.free_ok X G (c.df.fact 21 (f := .free "bool") rfl)
  have r_tuple := He.free_ok X G (c.df.fact 22 (f := .free "tuple") rfl)
  have r_all := He.free_ok X G (c.df.fact 23 (f := .free "all") rfl)
  have r_repr := He.free_ok X G (c.df.fact 24 (f := .free "repr") rfl)
  have r_sum := He.free_ok X G (c.df.fact 25 (f := .free "sum") rfl)
  have r_abs := He.free_ok X G (c.df.fact 26 (f := .free "abs") rfl)
  have r_list := He.free_ok X G (c.df.fact 27 (f := .free "list") rfl)
  have r_max := He.free_ok X G (c.df.fact 28 (f := .free "max") rfl)
  have r_min := He.free_ok X G (c.df.fact 29 (f := .free "min") rfl)
  have g_PAIR := gB_ok X G (c.gl _ (List.mem_of_getElem? (i := 0) (l := gl) rfl))
  have g_MOST_REPEATS := gB_ok X G (c.gl _ (List.mem_of_getElem? (i := 1) (l := gl) rfl))
  have bl := k_law_1 F_law
  refine ⟨fd_law, fun s v => bl s [v] [] rfl rfl, fun base KB GB dig => ?_⟩
  have o__law_take : FnG P w K mg base 1 _ fd__law_take ["pot", "upto"] (spD K mg 2 d__law_take) := def_ok F__law_take s__law_take (k := 0) (Γ := t__law_take) ⟨all_nil, (all_cons r_int all_nil), all_nil, dig⟩ c__law_take
  have o__law_share : FnG P w K mg base 2 _ fd__law_share ["pot", "most"] (spD K mg 2 d__law_share) := def_ok F__law_share s__law_share (k := 1) (Γ := t__law_share) ⟨(all_cons ⟨_, _, _, _, m__law_take, o__law_take, by decide, F__law_take.kp, k__law_take_2 F__law_take⟩ all_nil), (all_cons r_int all_nil), all_nil, dig⟩ c__law_share
  have o__law_of : FnG P w K mg base 2 _ fd__law_of ["pot", "some"] (spD K mg 2 d__law_of) := def_ok F__law_of s__law_of (k := 1) (Γ := t__law_of) ⟨(all_cons ⟨_, _, _, _, m__law_take, o__law_take, by decide, F__law_take.kp, k__law_take_2 F__law_take⟩ all_nil), (all_cons r_len all_nil), all_nil, dig⟩ c__law_of
  have o__law_product : FnG P w K mg base 1 _ fd__law_product ["number", "many"] (spD K mg 2 d__law_product) := def_ok F__law_product s__law_product (k := 0) (Γ := t__law_product) ⟨all_nil, (all_cons r_range all_nil), all_nil, dig⟩ c__law_product
  have o_is_integer : FnG P w K mg base 1 _ fd_is_integer ["value"] (spD K mg 1 d_is_integer) := def_ok F_is_integer s_is_integer (k := 0) (Γ := t_is_integer) ⟨all_nil, (all_cons r_isinstance (all_cons r_int (all_cons r_bool all_nil))), all_nil, dig⟩ c_is_integer
  have o_check_share : FnG P w K mg base 2 _ fd_check_share ["value"] (spD K mg 1 d_check_share) := def_ok F_check_share s_check_share (k := 1) (Γ := t_check_share) ⟨(all_cons ⟨_, _, _, _, m_is_integer, o_is_integer, by decide, F_is_integer.kp, k_is_integer_1 F_is_integer⟩ all_nil), (all_cons r_isinstance (all_cons r_tuple (all_cons r_len (all_cons r_all all_nil)))), (all_cons g_PAIR all_nil), dig⟩ c_check_share
  have o_raised : FnG P w K mg base 1 _ fd_raised ["base", "many"] (spD K mg 2 d_raised) := def_ok F_raised s_raised (k := 0) (Γ := t_raised) ⟨all_nil, all_nil, all_nil, dig⟩ c_raised
  have o_repeated_share : FnG P w K mg base 3 _ fd_repeated_share ["share", "many"] (spD K mg 2 d_repeated_share) := def_ok F_repeated_share s_repeated_share (k := 2) (Γ := t_repeated_share) ⟨(all_cons ⟨_, _, _, _, m_check_share, o_check_share, by decide, F_check_share.kp, k_check_share_1 F_check_share⟩ (all_cons ⟨_, _, _, _, m_is_integer, o_is_integer, by decide, F_is_integer.kp, k_is_integer_1 F_is_integer⟩ (all_cons ⟨_, _, _, _, m_raised, o_raised, by decide, F_raised.kp, k_raised_2 F_raised⟩ all_nil))), all_nil, (all_cons g_MOST_REPEATS all_nil), dig⟩ c_repeated_share
  have o_led_share : FnG P w K mg base 3 _ fd_led_share ["one", "other"] (spD K mg 2 d_led_share) := def_ok F_led_share s_led_share (k := 2) (Γ := t_led_share) ⟨(all_cons ⟨_, _, _, _, m_check_share, o_check_share, by decide, F_check_share.kp, k_check_share_1 F_check_share⟩ all_nil), all_nil, all_nil, dig⟩ c_led_share
  have o_greater_share : FnG P w K mg base 3 _ fd_greater_share ["one", "other"] (spD K mg 2 d_greater_share) := def_ok F_greater_share s_greater_share (k := 2) (Γ := t_greater_share) ⟨(all_cons ⟨_, _, _, _, m_check_share, o_check_share, by decide, F_check_share.kp, k_check_share_1 F_check_share⟩ all_nil), all_nil, all_nil, dig⟩ c_greater_share
  have o__law_are_great_right : FnG P w K mg base 4 _ fd__law_are_great_right ["pot"] (spD K mg 1 d__law_are_great_right) := def_ok F__law_are_great_right s__law_are_great_right (k := 3) (Γ := t__law_are_great_right) ⟨(all_cons ⟨_, _, _, _, m__law_of, o__law_of, by decide, F__law_of.kp, k__law_of_2 F__law_of⟩ (all_cons ⟨_, _, _, _, m__law_share, o__law_share, by decide, F__law_share.kp, k__law_share_2 F__law_share⟩ (all_cons ⟨_, _, _, _, m__law_take, o__law_take, by decide, F__law_take.kp, k__law_take_2 F__law_take⟩ (all_cons ⟨_, _, _, _, m__law_product, o__law_product, by decide, F__law_product.kp, k__law_product_2 F__law_product⟩ (all_cons ⟨_, _, _, _, m_repeated_share, o_repeated_share, by decide, F_repeated_share.kp, k_repeated_share_0_many_share F_repeated_share⟩ (all_cons ⟨_, _, _, _, m_led_share, o_led_share, by decide, F_led_share.kp, k_led_share_0_other_one F_led_share⟩ (all_cons ⟨_, _, _, _, m_led_share, o_led_share, by decide, F_led_share.kp, k_led_share_2 F_led_share⟩ (all_cons ⟨_, _, _, _, m_repeated_share, o_repeated_share, by decide, F_repeated_share.kp, k_repeated_share_2 F_repeated_share⟩ (all_cons ⟨_, _, _, _, m_greater_share, o_greater_share, by decide, F_greater_share.kp, k_greater_share_2 F_greater_share⟩ all_nil))))))))), (all_cons r_repr all_nil), all_nil, dig⟩ c__law_are_great_right
  have o__law_rows_all : FnG P w K mg base 1 _ fd__law_rows_all ["share", "many"] (spD K mg 2 d__law_rows_all) := def_ok F__law_rows_all s__law_rows_all (k := 0) (Γ := t__law_rows_all) ⟨all_nil, (all_cons r_range (all_cons r_len all_nil)), all_nil, dig⟩ c__law_rows_all
  have o__law_rows_led : FnG P w K mg base 1 _ fd__law_rows_led ["one", "other"] (spD K mg 2 d__law_rows_led) := def_ok F__law_rows_led s__law_rows_led (k := 0) (Γ := t__law_rows_led) ⟨all_nil, (all_cons r_range (all_cons r_len all_nil)), all_nil, dig⟩ c__law_rows_led
  have o__law_right : FnG P w K mg base 5 _ fd__law_right ["pot"] (spD K mg 1 d__law_right) := def_ok F__law_right s__law_right (k := 4) (Γ := t__law_right) ⟨(all_cons ⟨_, _, _, _, m__law_share, o__law_share, by decide, F__law_share.kp, k__law_share_2 F__law_share⟩ (all_cons ⟨_, _, _, _, m__law_take, o__law_take, by decide, F__law_take.kp, k__law_take_2 F__law_take⟩ (all_cons ⟨_, _, _, _, m_repeated_share, o_repeated_share, by decide, F_repeated_share.kp, k_repeated_share_2 F_repeated_share⟩ (all_cons ⟨_, _, _, _, m__law_rows_all, o__law_rows_all, by decide, F__law_rows_all.kp, k__law_rows_all_2 F__law_rows_all⟩ (all_cons ⟨_, _, _, _, m_led_share, o_led_share, by decide, F_led_share.kp, k_led_share_2 F_led_share⟩ (all_cons ⟨_, _, _, _, m__law_rows_led, o__law_rows_led, by decide, F__law_rows_led.kp, k__law_rows_led_2 F__law_rows_led⟩ (all_cons ⟨_, _, _, _, m_greater_share, o_greater_share, by decide, F_greater_share.kp, k_greater_share_2 F_greater_share⟩ (all_cons ⟨_, _, _, _, m_greater_share, o_greater_share, by decide, F_greater_share.kp, k_greater_share_0_other_one F_greater_share⟩ (all_cons ⟨_, _, _, _, m__law_are_great_right, o__law_are_great_right, by decide, F__law_are_great_right.kp, k__law_are_great_right_1 F__law_are_great_right⟩ all_nil))))))))), (all_cons r_repr all_nil), all_nil, dig⟩ c__law_right
  have o__law_pot : FnG P w K mg base 1 _ fd__law_pot ["script", "place"] (spD K mg 2 d__law_pot) := def_ok F__law_pot s__law_pot (k := 0) (Γ := t__law_pot) ⟨all_nil, (all_cons r_len (all_cons r_sum (all_cons r_int (all_cons r_abs all_nil)))), all_nil, dig⟩ c__law_pot
  have o__law_cells : FnG P w K mg base 1 _ fd__law_cells ["script", "most"] (spD K mg 2 d__law_cells) := def_ok F__law_cells s__law_cells (k := 0) (Γ := t__law_cells) ⟨all_nil, (all_cons r_list (all_cons r_range (all_cons r_max (all_cons r_min (all_cons r_len all_nil))))), all_nil, dig⟩ c__law_cells
  have o_law : FnG P w K mg base 6 _ fd_law ["script"] (spD K mg 1 d_law) := def_ok F_law s_law (k := 5) (Γ := t_law) ⟨(all_cons ⟨_, _, _, _, m__law_cells, o__law_cells, by decide, F__law_cells.kp, k__law_cells_2 F__law_cells⟩ (all_cons ⟨_, _, _, _, m__law_right, o__law_right, by decide, F__law_right.kp, k__law_right_1 F__law_right⟩ (all_cons ⟨_, _, _, _, m__law_pot, o__law_pot, by decide, F__law_pot.kp, k__law_pot_2 F__law_pot⟩ all_nil))), (all_cons r_all all_nil), all_nil, dig⟩ c_law
  exact o_law
end K45
namespace K45
open PySem PySem.Spec PyProof.Rows L2 DL
/-! ### the pot -/
def P (o s c : Int) : Ob := .lst [.d (.int o), .d (.int s), .d (.int c)]
@[simp] theorem flatP (o s c : Int) : flatO (P o s c) = true := rfl
structure Pot (k : Int) (o s c : Int) : Prop where
  o0 : 0 ≤ o
  ob : o.natAbs < big
  s0 : 0 ≤ s
  sb : s < 2 ^ 62
  c0 : 0 ≤ c
  cb : c ≤ k
theorem primes_get {n : Nat} (h : n < 5) : ∃ p : Int, at_ ([.d (.int 2147483647), .d (.int 2147483629), .d (.int 2147483587), .d (.int 2147483579), .d (.int 2147483563)] : List W) (n : Int) = some (.d (.int p)) ∧ 0 < p ∧ p < 2 ^ 31 := by
  match n, h with
  | 0, _ => exact ⟨_, rfl, by decide, by decide⟩
  | 1, _ => exact ⟨_, rfl, by decide, by decide⟩
  | 2, _ => exact ⟨_, rfl, by decide, by decide⟩
  | 3, _ => exact ⟨_, rfl, by decide, by decide⟩
  | 4, _ => exact ⟨_, rfl, by decide, by decide⟩
theorem small_big {i : Int} (h1 : -(2 ^ 190) < i) (h2 : i < 2 ^ 190) : i.natAbs < big := big_lt (by omega)
theorem sq_lt {x y : Int} (hx0 : 0 ≤ x) (hx : x < 2 ^ 60) (hy0 : 0 ≤ y) (hy : y < 2 ^ 60) : 0 ≤ x * y ∧ x * y < 2 ^ 120 := by
  refine ⟨Int.mul_nonneg hx0 hy0, ?_⟩
  have h := Int.mul_le_mul (show x ≤ 2 ^ 60 - 1 by omega) (show y ≤ 2 ^ 60 - 1 by omega) hy0 (by decide)
  have e : ((2 : Int) ^ 60 - 1) * (2 ^ 60 - 1) < 2 ^ 120 := by decide
  omega
theorem take_ok {k o s c upto : Int} (p : Pot k o s c) (hk : k < 2 ^ 30) (hu : 0 < upto) (hu2 : upto < 2 ^ 60) :
    ∃ r o' c', d__law_take [.l 0, .d (.int upto)] [P o s c] = .ok (.d (.int r)) [P o' s c'] ∧ 0 ≤ r ∧ r < upto ∧ Pot (k + 1) o' s c' := by
  have hd : divOk upto = true := divOk_of hu (by omega)
  by_cases h : 0 < o
  · refine ⟨o % upto, o / upto, c, ?_, Int.emod_nonneg _ (by omega), Int.emod_lt_of_pos _ hu, ?_⟩
    · simp [P, d__law_take, evF, b__law_take, evSs, evS, evB, ev, evs, getE, evIx, seqOf, at_, evCmp, cmpD, h, evBi, evBi1, biInt, evOp, opD, hu, bindT, setIx, ixOf, hd]
    · have h1 : 0 ≤ o / upto := Int.ediv_nonneg p.o0 (by omega)
      have h2 : o / upto ≤ o := Int.ediv_le_self _ p.o0
      exact ⟨h1, by have := p.ob; omega, p.s0, p.sb, p.c0, by have := p.cb; omega⟩
  · have hc0 := p.c0
    have hcb := p.cb
    have hs0 := p.s0
    have hsb := p.sb
    obtain ⟨n, hn⟩ : ∃ n : Nat, (c + 1) % 5 = (n : Int) := ⟨((c + 1) % 5).toNat, by omega⟩
    obtain ⟨q, hq, hq0, hq1⟩ := primes_get (n := n) (by omega)
    have hq := hq
    rw [← hn] at hq
    -- the products are short
    have m1 : mulOk 98299 (c + 1) = true := mulOk_big (small_big (by omega) (by omega)) (small_big (by omega) (by omega))
    have m2 : mulOk (98299 * (c + 1)) (c + 1) = true := mulOk_big (small_big (by omega) (by omega)) (small_big (by omega) (by omega))
    obtain ⟨b1, b2⟩ := sq_lt (x := 98299 * (c + 1)) (y := c + 1) (by omega) (by omega) (by omega) (by omega)
    have e1 : powOk (s + 98299 * (c + 1) * (c + 1) + 467) 3 = true := powOk_big (small_big (by omega) (by omega)) (by decide) (by decide)
    obtain ⟨z, hz⟩ : ∃ z, (s + 98299 * (c + 1) * (c + 1) + 467) ^ 3 = z := ⟨_, rfl⟩
    have z0 : 0 ≤ z % q := Int.emod_nonneg _ (by omega)
    have z1 : z % q < q := Int.emod_lt_of_pos _ hq0
    have m3 : mulOk 89 (c + 1) = true := mulOk_big (small_big (by omega) (by omega)) (small_big (by omega) (by omega))
    have w0 : 0 ≤ z % q % 10009 := Int.emod_nonneg _ (by decide)
    have w1 : z % q % 10009 < 10009 := Int.emod_lt_of_pos _ (by decide)
    have m4 : mulOk (z % q) (z % q % 10009 + 89 * (c + 1)) = true := mulOk_big (small_big (by omega) (by omega)) (small_big (by omega) (by omega))
    have d1 : divOk 173 = true := divOk_of (by decide) (by decide)
    refine ⟨z % q * (z % q % 10009 + 89 * (c + 1)) % 2305843009213693907 / 173 % upto, o, c + 1, ?_, Int.emod_nonneg _ (by omega), Int.emod_lt_of_pos _ hu, ⟨p.o0, p.ob, p.s0, p.sb, by omega, by omega⟩⟩
    simp [P, d__law_take, evF, b__law_take, evSs, evS, evB, ev, evs, getE, evIx, seqOf, at_0, at_1, at_2, hq, evCmp, cmpD, h, evBi, evBi1, biInt, evOp, opD, hu, bindT, setIx, ixOf, newL, pures, lineS, m1, m2, e1, hz, m3, m4, d1, hq0]
theorem of_ok {k o s c : Int} {ds : List D} (p : Pot k o s c) (hk : k < 2 ^ 30) (h0 : 0 < ds.length) (h1 : ds.length < 1000000) :
    ∃ (i : Nat) (d : D) (o' c' : Int), d__law_of [.l 0, .d (.lst ds)] [P o s c] = .ok (.d d) [P o' s c'] ∧ ds[i]? = some d ∧ Pot (k + 1) o' s c' := by
  obtain ⟨r, o', c', h, r0, r1, p'⟩ := take_ok (upto := (ds.length : Int)) p hk (by omega) (by omega)
  obtain ⟨i, rfl⟩ : ∃ i : Nat, r = (i : Int) := ⟨r.toNat, by omega⟩
  obtain ⟨d, hd⟩ : ∃ d, ds[i]? = some d := ⟨ds[i]'(by omega), List.getElem?_eq_getElem (by omega)⟩
  refine ⟨i, d, o', c', ?_, hd, p'⟩
  have hc : evCall (fnsOf t__law_of 0) [.l 0, .d (.int (ds.length : Int))] [P o s c] = .ok (.d (.int (i : Int))) [P o' s c'] := by
    rw [evCall_place (n := 0) (p := P o s c) rfl rfl rfl]
    show outP _ 0 (d__law_take [.l 0, .d (.int (ds.length : Int))] [P o s c]) = _
    rw [h, outP_ok _ _ _ _ _ rfl]
    rfl
  simp [d__law_of, evF, b__law_of, evSs, evS, ev, evs, getE, evBi, evBi1, biLen, seqOf, hc, evIx, at_nat, hd]
end K45
namespace K45
open PySem PySem.Spec PyProof.Rows L2 DL
theorem callP {den f : Fn} {o s c o' c' : Int} {d x : D} (hf : f [.l 0, .d d] [P o s c] = den [.l 0, .d d] [P o s c]) (h : den [.l 0, .d d] [P o s c] = .ok (.d x) [P o' s c']) : evCall f [.l 0, .d d] [P o s c] = .ok (.d x) [P o' s c'] := by
  rw [evCall_place (n := 0) (p := P o s c) rfl rfl rfl]
  show outP _ 0 (f [.l 0, .d d] [P o s c]) = _
  rw [hf, h, outP_ok _ _ _ _ _ rfl]
  rfl
theorem callP0 {den f : Fn} {o s c o' c' : Int} {x : D} (hf : f [.l 0] [P o s c] = den [.l 0] [P o s c]) (h : den [.l 0] [P o s c] = .ok (.d x) [P o' s c']) : evCall f [.l 0] [P o s c] = .ok (.d x) [P o' s c'] := by
  rw [evCall_place (n := 0) (p := P o s c) rfl rfl rfl]
  show outP _ 0 (f [.l 0] [P o s c]) = _
  rw [hf, h, outP_ok _ _ _ _ _ rfl]
  rfl
theorem call1 {den f : Fn} {a x : D} {S S' : Store} (hf : f [.d a] [] = den [.d a] []) (h : den [.d a] [] = .ok (.d x) S') : evCall f [.d a] S = .ok (.d x) S := by
  rw [evCall_d1, hf, h]; rfl
theorem call2 {den f : Fn} {a b : D} {ws : List W} {x : D} {S S' : Store} (hf : f [.d a, .d b] [] = den ws []) (h : den ws [] = .ok (.d x) S') : evCall f [.d a, .d b] S = .ok (.d x) S := by
  rw [evCall_d2, hf, h]; rfl
def Sh (a b : Int) : D := .tup [.int a, .int b]
structure ShOk (a b m : Int) : Prop where
  h0 : 0 ≤ a
  h1 : a ≤ b
  h2 : 1 ≤ b
  h3 : b ≤ m
theorem share_ok {k o s c m : Int} (p : Pot k o s c) (hk : k < 2 ^ 29) (h0 : 0 < m) (h1 : m < 2 ^ 59) :
    ∃ a b o' c', d__law_share [.l 0, .d (.int m)] [P o s c] = .ok (.d (Sh a b)) [P o' s c'] ∧ ShOk a b m ∧ Pot (k + 2) o' s c' := by
  obtain ⟨r, o1, c1, e1, r0, r1, p1⟩ := take_ok (upto := m) p (by omega) h0 (by omega)
  obtain ⟨q, o2, c2, e2, q0, q1, p2⟩ := take_ok (upto := 1 + r + 1) p1 (by omega) (by omega) (by omega)
  refine ⟨q, 1 + r, o2, c2, ?_, ⟨q0, by omega, by omega, by omega⟩, by rw [show k + 2 = k + 1 + 1 by omega]; exact p2⟩
  have g1 := callP (f := fnsOf t__law_share 0) rfl e1
  have g2 := callP (f := fnsOf t__law_share 0) rfl e2
  simp [d__law_share, evF, b__law_share, evSs, evS, ev, evs, getE, evOp, opD, g1, g2, bindT, evBi, evBi1, biInt, pures, lineS, Sh]
theorem integer_ok (n : Int) : d_is_integer [.d (.int n)] [] = .ok (.d (.bl true)) [] := by
  simp [d_is_integer, evF, b_is_integer, evSs, evS, ev, evs, evBop, getE, evBi, evBi1, tyW, tyD, isTy, tru]
theorem check_ok {a b m : Int} (h : ShOk a b m) : d_check_share [.d (Sh a b)] [] = .ok (.d .non) [] := by
  have g : ∀ n : Int, ∀ S, evCall (fnsOf t_check_share 0) [.d (.int n)] S = .ok (.d (.bl true)) S := fun n S => call1 rfl (integer_ok n)
  have h0 := h.h0
  have h1 := h.h1
  have h2 := h.h2
  have n1 : ¬ b < 1 := by omega
  simp [d_check_share, evF, b_check_share, evSs, evS, evB, evBs, ev, evs, getE, evBi, evBi1, tyW, tyD, isTy, tru, Sh, biLen, seqOf, evCmp, cmpD, sh, deq, evI, itemsD, compL, bindT, wipeE, g, newL, pures, lineS, lseq, blsOf, evIx, at_0, at_1, h0, h1, n1]
/-! ### powers -/
def cR : DL.B := (.cmp .Gt (.var 1) (.const (.int 0)))
def bR : List Sm := [(.ife (.cmp .Eq (.bin .Mod (.var 1) (.const (.int 2))) (.const (.int 1))) [(.asg (.name 2) (.bin .Mult (.var 2) (.var 0)))] []), (.asg (.name 1) (.bin .FloorDiv (.var 1) (.const (.int 2)))), (.ife (.cmp .Gt (.var 1) (.const (.int 0))) [(.asg (.name 0) (.bin .Mult (.var 0) (.var 0)))] [])]
theorem raised_shape : b_raised = [(.asg (.name 2) (.const (.int 1))), (.while_ 1000000000 cR bR), (.ret (.var 2))] := rfl
def eR (b m f : Int) : Ev := [some (.d (.int b)), some (.d (.int m)), some (.d (.int f))]
theorem raised_turn (fns : Nat → Fn) {m b f : Nat} (hm : 0 < m) (hb : b < big) (hf : f < big) :
    evSs fns bR (eR b m f) [] = .ok (.nx (eR (if 0 < m / 2 then b * b else b : Nat) (m / 2 : Nat) (if m % 2 = 1 then f * b else f : Nat))) [] := by
  have m1 : mulOk (f : Int) (b : Int) = true := mulOk_big (by omega) (by omega)
  have m2 : mulOk (b : Int) (b : Int) = true := mulOk_big (by omega) (by omega)
  have d2 : divOk 2 = true := divOk_of (by decide) (by decide)
  by_cases h1 : m % 2 = 1
  · have g1 : (m : Int) % 2 = 1 := by omega
    by_cases h2 : 0 < m / 2
    · have g2 : (0 : Int) < (m : Int) / 2 := by omega
      simp [bR, eR, evSs, evS, evB, ev, getE, evOp, opD, evCmp, cmpD, sh, deq, g1, g2, bindT, m1, m2, d2, h1, h2]
    · have g2 : ¬ (0 : Int) < (m : Int) / 2 := by omega
      simp [bR, eR, evSs, evS, evB, ev, getE, evOp, opD, evCmp, cmpD, sh, deq, g1, g2, bindT, m1, m2, d2, h1, h2]
  · have g1 : ¬ (m : Int) % 2 = 1 := by omega
    by_cases h2 : 0 < m / 2
    · have g2 : (0 : Int) < (m : Int) / 2 := by omega
      simp [bR, eR, evSs, evS, evB, ev, getE, evOp, opD, evCmp, cmpD, sh, deq, g1, g2, bindT, m1, m2, d2, h1, h2]
    · have g2 : ¬ (0 : Int) < (m : Int) / 2 := by omega
      simp [bR, eR, evSs, evS, evB, ev, getE, evOp, opD, evCmp, cmpD, sh, deq, g1, g2, bindT, m1, m2, d2, h1, h2]
theorem pow_half (b m : Nat) : (b * b) ^ (m / 2) = b ^ (2 * (m / 2)) := by rw [← Nat.pow_two, Nat.pow_mul]
theorem q_pow {b m q : Nat} (hq : q = if 0 < m / 2 then b * b else b) : q ^ (m / 2) = b ^ (2 * (m / 2)) := by
  by_cases h : 0 < m / 2
  · rw [if_pos h] at hq; rw [hq, pow_half]
  · rw [show m / 2 = 0 by omega]; simp
theorem pow_odd (b m : Nat) (h : m % 2 = 1) : b ^ (2 * (m / 2)) * b = b ^ m := by rw [← Nat.pow_succ, show (2 * (m / 2)).succ = m by omega]
theorem pow_even (b m : Nat) (h : ¬ m % 2 = 1) : b ^ (2 * (m / 2)) = b ^ m := by rw [show 2 * (m / 2) = m by omega]
theorem bound_half {b m f q : Nat} (hq : q = if 0 < m / 2 then b * b else b) : (max q 1) ^ (m / 2) * max (if m % 2 = 1 then f * b else f) 1 ≤ max b 1 ^ m * max f 1 := by
  have h1 : (max q 1) ^ (m / 2) ≤ max b 1 ^ (2 * (m / 2)) := by
    by_cases h : 0 < m / 2
    · rw [if_pos h] at hq
      rw [← pow_half]
      refine Nat.pow_le_pow_left ?_ _
      have : b * b ≤ max b 1 * max b 1 := Nat.mul_le_mul (by omega) (by omega)
      have : 0 < max b 1 * max b 1 := Nat.mul_pos (by omega) (by omega)
      omega
    · rw [show m / 2 = 0 by omega]; simp
  by_cases h : m % 2 = 1
  · rw [if_pos h, ← pow_odd (max b 1) m h]
    have h2 : max (f * b) 1 ≤ max b 1 * max f 1 := by
      have : f * b ≤ max f 1 * max b 1 := Nat.mul_le_mul (by omega) (by omega)
      have : 0 < max f 1 * max b 1 := Nat.mul_pos (by omega) (by omega)
      rw [Nat.mul_comm (max b 1)]
      omega
    rw [Nat.mul_assoc]
    exact Nat.mul_le_mul h1 h2
  · rw [if_neg h, ← pow_even (max b 1) m h]
    exact Nat.mul_le_mul h1 (Nat.le_refl _)
theorem val_half {b m f q : Nat} (hq : q = if 0 < m / 2 then b * b else b) : (if m % 2 = 1 then f * b else f) * q ^ (m / 2) = f * b ^ m := by
  rw [q_pow hq]
  by_cases h : m % 2 = 1
  · rw [if_pos h, ← pow_odd b m h, Nat.mul_assoc, Nat.mul_comm b]
  · rw [if_neg h, pow_even b m h]
theorem raised_loop (fns : Nat → Fn) : ∀ (m b f n B : Nat), (max b 1) ^ m * max f 1 ≤ B → B < big → m < n →
    ∃ b' : Nat, whileL (evB fns cR) (evSs fns bR) n (eR b m f) [] = .ok (.nx (eR b' 0 (f * b ^ m : Nat))) [] := by
  intro m
  induction m using Nat.strongRecOn with
  | _ m ih =>
    intro b f n B hB hBig hn
    obtain ⟨n, rfl⟩ : ∃ n', n = n' + 1 := ⟨n - 1, by omega⟩
    by_cases hm : 0 < m
    · have hb1 : max b 1 ≤ B := by
        refine Nat.le_trans ?_ hB
        have : max b 1 ≤ max b 1 ^ m := Nat.le_self_pow (by omega) _
        exact Nat.le_trans this (Nat.le_mul_of_pos_right _ (by omega))
      have hf1 : max f 1 ≤ B := Nat.le_trans (Nat.le_mul_of_pos_left _ (Nat.pow_pos (by omega))) hB
      have step := raised_turn fns hm (show b < big by omega) (show f < big by omega)
      have cond : evB fns cR (eR b m f) [] = .ok true [] := by
        have : (0 : Int) < (m : Int) := by omega
        simp [cR, eR, evB, ev, getE, evCmp, cmpD, hm]
      obtain ⟨q, hq, hle⟩ : ∃ q : Nat, q = (if 0 < m / 2 then b * b else b) ∧ (max q 1) ^ (m / 2) * max (if m % 2 = 1 then f * b else f) 1 ≤ B := by
        exact ⟨_, rfl, Nat.le_trans (bound_half rfl) hB⟩
      obtain ⟨b', e⟩ := ih (m / 2) (by omega) q (if m % 2 = 1 then f * b else f) n B hle hBig (by omega)
      refine ⟨b', ?_⟩
      unfold whileL
      rw [cond]
      simp only [Out.bind_ok, if_true]
      rw [step]
      simp only [Out.bind_ok]
      rw [← hq, e, val_half hq]
    · have hm : m = 0 := by omega
      subst hm
      refine ⟨b, ?_⟩
      unfold whileL
      simp [cR, eR, evB, ev, getE, evCmp, cmpD]
theorem raised_ok {b m : Nat} (h : (max b 1) ^ m < big) (hm : m < 1000) : d_raised [.d (.int b), .d (.int m)] [] = .ok (.d (.int (b ^ m : Nat))) [] := by
  obtain ⟨b', e⟩ := raised_loop (fnsOf t_raised) m b 1 1000000000 _ (Nat.le_of_eq (by simp : max b 1 ^ m * max 1 1 = max b 1 ^ m)) h (by omega)
  rw [Nat.one_mul] at e
  unfold d_raised
  rw [raised_shape]
  simp only [evF, evSs, evS, ev, bindT, List.map_cons, List.map_nil, List.length_cons, List.length_nil, List.replicate, List.cons_append, List.nil_append, Out.bind_ok]
  simp [eR] at e
  simp [e, getE]
theorem pow_big {b m : Nat} (hb : b ≤ 10 ^ 30) (hm : m ≤ 40) : (max b 1) ^ m < big := by
  have h1 : max b 1 ≤ 2 ^ 100 := by omega
  have h2 : max b 1 ^ m ≤ (2 ^ 100) ^ m := Nat.pow_le_pow_left h1 m
  rw [← Nat.pow_mul] at h2
  exact Nat.lt_of_le_of_lt h2 (Nat.pow_lt_pow_right (by decide) (by omega))
def Rep (a b : Int) (m : Nat) : D := .tup [.int (a ^ m), .int (b ^ m)]
theorem repeated_ok {a b B : Int} {m : Nat} (h : ShOk a b B) (hB : B ≤ 10 ^ 30) (h0 : 0 < m) (hm : m ≤ 40) : d_repeated_share [.d (Sh a b), .d (.int m)] [] = .ok (.d (Rep a b m)) [] := by
  obtain ⟨x, rfl⟩ : ∃ x : Nat, a = x := ⟨a.toNat, by have := h.h0; omega⟩
  obtain ⟨y, rfl⟩ : ∃ y : Nat, b = y := ⟨b.toNat, by have := h.h0; have := h.h1; omega⟩
  have i1 := h.h1
  have i3 := h.h3
  have g0 : ∀ S, evCall (fnsOf t_repeated_share 0) [.d (Sh x y)] S = .ok (.d .non) S := fun S => call1 rfl (check_ok h)
  have g1 : ∀ S, evCall (fnsOf t_repeated_share 1) [.d (.int (m : Int))] S = .ok (.d (.bl true)) S := fun S => call1 rfl (integer_ok _)
  have g2 : ∀ S, evCall (fnsOf t_repeated_share 2) [.d (.int (x : Int)), .d (.int (m : Int))] S = .ok (.d (.int (x ^ m : Nat))) S := fun S => call2 rfl (raised_ok (pow_big (by omega) hm) (by omega))
  have g3 : ∀ S, evCall (fnsOf t_repeated_share 2) [.d (.int (y : Int)), .d (.int (m : Int))] S = .ok (.d (.int (y ^ m : Nat))) S := fun S => call2 rfl (raised_ok (pow_big (by omega) hm) (by omega))
  have c1 : (1 : Int) ≤ m := by omega
  have c2 : (m : Int) ≤ 40 := by omega
  simp only [Sh] at g0
  simp [d_repeated_share, evF, b_repeated_share, evSs, evS, evB, evBs, ev, evs, getE, tru, Sh, seqOf, evCmp, cmpD, g0, g1, g2, g3, evIx, at_0, at_1, c1, c2, pures, lineS, Rep]
def Led (a b x y : Int) : D := .tup [.int (b * y - (b - a) * (y - x)), .int (b * y)]
theorem led_ok {a b x y B C : Int} (h : ShOk a b B) (h' : ShOk x y C) (hB : B ≤ 10 ^ 30) (hC : C ≤ 10 ^ 30) : d_led_share [.d (Sh a b), .d (Sh x y)] [] = .ok (.d (Led a b x y)) [] := by
  have i0 := h.h0
  have i1 := h.h1
  have i3 := h.h3
  have j0 := h'.h0
  have j1 := h'.h1
  have j3 := h'.h3
  have g0 : ∀ S, evCall (fnsOf t_led_share 0) [.d (Sh a b)] S = .ok (.d .non) S := fun S => call1 rfl (check_ok h)
  have g1 : ∀ S, evCall (fnsOf t_led_share 0) [.d (Sh x y)] S = .ok (.d .non) S := fun S => call1 rfl (check_ok h')
  have m1 : mulOk b y = true := mulOk_big (small_big (by omega) (by omega)) (small_big (by omega) (by omega))
  have m2 : mulOk (b - a) (y - x) = true := mulOk_big (small_big (by omega) (by omega)) (small_big (by omega) (by omega))
  simp only [Sh] at g0 g1
  simp [d_led_share, evF, b_led_share, evSs, evS, ev, evs, getE, Sh, seqOf, g0, g1, evIx, at_0, at_1, pures, lineS, Led, evOp, opD, m1, m2, bindT]
def Gr (a b x y : Int) : D := if a * y < x * b then Sh x y else Sh a b
theorem greater_ok {a b x y B C : Int} (h : ShOk a b B) (h' : ShOk x y C) (hB : B ≤ 10 ^ 30) (hC : C ≤ 10 ^ 30) : d_greater_share [.d (Sh a b), .d (Sh x y)] [] = .ok (.d (Gr a b x y)) [] := by
  have i0 := h.h0
  have i1 := h.h1
  have i3 := h.h3
  have j0 := h'.h0
  have j1 := h'.h1
  have j3 := h'.h3
  have g0 : ∀ S, evCall (fnsOf t_greater_share 0) [.d (Sh a b)] S = .ok (.d .non) S := fun S => call1 rfl (check_ok h)
  have g1 : ∀ S, evCall (fnsOf t_greater_share 0) [.d (Sh x y)] S = .ok (.d .non) S := fun S => call1 rfl (check_ok h')
  have m1 : mulOk x b = true := mulOk_big (small_big (by omega) (by omega)) (small_big (by omega) (by omega))
  have m2 : mulOk a y = true := mulOk_big (small_big (by omega) (by omega)) (small_big (by omega) (by omega))
  simp only [Sh] at g0 g1
  by_cases c : a * y < x * b
  · simp [d_greater_share, evF, b_greater_share, evSs, evS, evB, ev, evs, getE, Sh, seqOf, g0, g1, evIx, at_0, at_1, Gr, evOp, opD, m1, m2, evCmp, cmpD, c]
  · simp [d_greater_share, evF, b_greater_share, evSs, evS, evB, ev, evs, getE, Sh, seqOf, g0, g1, evIx, at_0, at_1, Gr, evOp, opD, m1, m2, evCmp, cmpD, c]
end K45
namespace K45
open PySem PySem.Spec PyProof.Rows L2 DL
/-! ### all rows -/
def rowB (l : Bool) (a b : Nat) : List Bool := (List.range b).map fun r => l && decide (r < a)
def stepB (a b : Nat) (F : List Bool) : List Bool := F.flatMap fun l => rowB l a b
def cC : DL.E := (.comp false (.bop true [(.var 5), (.cmp .Lt (.var 6) (.ix (.var 0) (.const (.int 0))))]) (.name 6) (.range [(.ix (.var 0) (.const (.int 1)))]) .yes [6])
def iB : List Sm := [(.expr (.mt .extend (.var 4) [cC]))]
def oB : List Sm := [(.asg (.name 4) (.lst true [])), (.for_ (.name 5) (.seq (.var 2)) iB), (.asg (.name 2) (.var 4))]
theorem all_shape : b__law_rows_all = [(.asg (.name 2) (.lst false [(.const (.bl true))])), (.for_ (.name 3) (.range [(.var 1)]) oB), (.ret (.tup [(.mt .count (.var 2) [(.const (.bl true))]), (.bi .len [(.var 2)])]))] := rfl
def gB (l : Bool) (a : Nat) (x : W) : W := match x with
  | .d (.int r) => W.d (.bl (l && decide (r < (a : Int))))
  | x => x
theorem turn_ok (fns : Nat → Fn) {a b : Nat} (mm w lp : Option W) (n : Nat) (l : Bool) (rw_ : Option W) (st : Store) (r : Nat) :
    ((Out.of (bindT (.name 6) (.d (.int (r : Int))) (wipeE [some (.d (Sh a b)), mm, w, lp, some (.l n), some (.d (.bl l)), rw_] [6])) st).bind fun env1 S => (evB fns .yes env1 S).noErr.bind fun k S =>
      if k = true then (ev fns (.bop true [(.var 5), (.cmp .Lt (.var 6) (.ix (.var 0) (.const (.int 0))))]) env1 S).noErr.bind fun y S => .ok (some y) S else .ok none S) = .ok (some (gB l a (.d (.int r)))) st := by
  cases l <;> simp [bindT, wipeE, evB, evBop, ev, getE, tru, evCmp, cmpD, evIx, seqOf, at_0, Sh, gB]
theorem pur_ok (l : Bool) (a b : Nat) : pures ((rangeL 0 (b : Int)).map (gB l a)) = some ((rowB l a b).map .bl) := by
  rw [rangeL_nat, List.map_map, ← pures_map]
  refine congrArg pures ?_
  unfold rowB
  rw [List.map_map, List.map_map]
  refine List.map_congr_left fun r hr => ?_
  show W.d (.bl (l && decide ((r : Int) < (a : Int)))) = W.d (.bl (l && decide (r < a)))
  have e : decide ((r : Int) < (a : Int)) = decide (r < a) := decide_eq_decide.mpr (by omega)
  rw [e]
theorem it_ok (fns : Nat → Fn) {a b : Nat} (hb : b < 1000) (mm w lp : Option W) (n : Nat) (l : Bool) (rw_ : Option W) (st : Store) :
    evI fns (.range [(.ix (.var 0) (.const (.int 1)))]) [some (.d (Sh a b)), mm, w, lp, some (.l n), some (.d (.bl l)), rw_] st = .ok (rangeL 0 (b : Int), none) st :=
  evI_range (by simp [ev, getE, Sh, evIx, seqOf, at_1]) (by omega)
theorem last_ok {l : Bool} {a b : Nat} (st : Store) (hl : (rangeL 0 (b : Int)).length < lineS) : newL false ((rangeL 0 (b : Int)).map (gB l a)) st = .ok (.d (.lst ((rowB l a b).map .bl))) st :=
  newL_data (by rw [List.length_map]; exact Nat.le_of_lt hl) (pur_ok l a b)
theorem comp_ok2 (fns : Nat → Fn) {a b : Nat} (mm w lp : Option W) (n : Nat) (l : Bool) (rw_ : Option W) (st : Store) (x : W) (hx : x ∈ rangeL 0 (b : Int)) :
    turnC fns (.bop true [(.var 5), (.cmp .Lt (.var 6) (.ix (.var 0) (.const (.int 0))))]) (.name 6) .yes (wipeE [some (.d (Sh a b)), mm, w, lp, some (.l n), some (.d (.bl l)), rw_] [6]) x st = .ok (some (gB l a x)) st := by
    obtain ⟨r, hr, rfl⟩ := range_mem hx
    exact turn_ok fns mm w lp n l rw_ st r
theorem comp_ok (fns : Nat → Fn) {a b : Nat} (hb : b < 1000) (mm w lp : Option W) (n : Nat) (l : Bool) (rw_ : Option W) (st : Store) :
    ev fns cC [some (.d (Sh a b)), mm, w, lp, some (.l n), some (.d (.bl l)), rw_] st = .ok (.d (.lst ((rowB l a b).map .bl))) st := by
  have hl := range_len (b := b) (by omega)
  have hr := range_ok (b := b) (by omega)
  unfold cC
  rw [comp_pure (gB l a) (it_ok fns hb mm w lp n l rw_ st) rfl hl]
  · exact last_ok st hl
  · exact fun x hx => comp_ok2 fns mm w lp n l rw_ st x hx
end K45
namespace K45
open PySem PySem.Spec PyProof.Rows L2 DL
def bls (F : List Bool) : List W := F.map fun b => W.d (.bl b)
theorem bls_eq (F : List Bool) : (F.map D.bl).map W.d = bls F := by rw [List.map_map]; rfl
theorem rowB_len (l : Bool) (a b : Nat) : (rowB l a b).length = b := by unfold rowB; rw [List.length_map, List.length_range]
theorem rowB_true (l : Bool) (a b : Nat) (h : a ≤ b) : (rowB l a b).count true = if l then a else 0 := by
  unfold rowB
  cases l with
  | false => simp [List.count_eq_zero]
  | true =>
    simp only [Bool.true_and, if_true]
    induction b with
    | zero => rw [show a = 0 by omega]; rfl
    | succ b ih =>
      rw [List.range_succ, List.map_append, List.count_append]
      by_cases hab : a ≤ b
      · rw [ih hab]
        simp [show ¬ b < a by omega]
      · have : a = b + 1 := by omega
        subst this
        have e : (List.range b).map (fun r => decide (r < b + 1)) = List.replicate b true := by
          rw [List.eq_replicate_iff]
          exact ⟨by simp, fun x hx => by obtain ⟨r, hr, rfl⟩ := List.mem_map.mp hx; have := List.mem_range.mp hr; simp; omega⟩
        rw [e]
        simp
theorem stepB_len (a b : Nat) : ∀ F : List Bool, (stepB a b F).length = F.length * b
  | [] => by simp [stepB]
  | l :: F => by
    have ih := stepB_len a b F
    unfold stepB at ih ⊢
    rw [List.flatMap_cons, List.length_append, ih, rowB_len, List.length_cons, Nat.succ_mul]
    omega
theorem stepB_true (a b : Nat) (h : a ≤ b) : ∀ F : List Bool, (stepB a b F).count true = F.count true * a
  | [] => by simp [stepB]
  | l :: F => by
    have ih := stepB_true a b h F
    unfold stepB at ih ⊢
    rw [List.flatMap_cons, List.count_append, ih, rowB_true l a b h, List.count_cons]
    cases l <;> simp [Nat.succ_mul] <;> omega
theorem stepB_snoc (a b : Nat) (F : List Bool) (l : Bool) : stepB a b (F ++ [l]) = stepB a b F ++ rowB l a b := by unfold stepB; simp
/-- one item of the inner loop -/
theorem inner_turn (fns : Nat → Fn) {a b : Nat} (hb : b < 1000) (mm w lp : Option W) (n : Nat) (isl rw_ : Option W) (st : Store) (l : Bool) (G : List Bool) (hn : st[n]? = some (.lst (bls G))) (hz : G.length + b ≤ lineS) :
    ((Out.of (bindT (.name 5) (.d (.bl l)) [some (.d (Sh a b)), mm, w, lp, some (.l n), isl, rw_]) st).bind fun env st => evSs fns iB env st) = .ok (.nx [some (.d (Sh a b)), mm, w, lp, some (.l n), some (.d (.bl l)), rw_]) (st.set n (.lst (bls (G ++ rowB l a b)))) := by
  have c := comp_ok fns hb mm w lp n l rw_ st (a := a)
  have e : bls (G ++ rowB l a b) = bls G ++ ((rowB l a b).map D.bl).map W.d := by rw [bls_eq]; unfold bls; rw [List.map_append]
  have hz2 : (bls G).length + ((rowB l a b).map D.bl).length ≤ lineS := by
    unfold bls
    rw [List.length_map, List.length_map, rowB_len]
    exact hz
  have m : mtExtend n (.d (.lst ((rowB l a b).map .bl))) st = .ok (.d .non) (st.set n (.lst (bls (G ++ rowB l a b)))) := by
    unfold mtExtend
    rw [hn, e]
    simp only
    rw [if_pos hz2]
  have mi : mtIs "list" (.l n) st = true := by
    unfold mtIs
    rw [if_neg (by decide)]
    simp [lseq, seqOf, hn]
  simp [bindT, iB, evSs, evS, ev, evs, getE, c, mtT, mi, evMt, evMt1, m]
theorem inner_loop (fns : Nat → Fn) {a b : Nat} (hb : b < 1000) (mm w lp isl rw_ : Option W) (k : Option Nat) (F : List Bool) (st : Store) (hk : ∀ o, keeps k (bls F) (st ++ [o]) = true) (hz : F.length * b + b ≤ lineS) :
    ∃ isl', forL (keeps k (bls F)) (fun x env st => (Out.of (bindT (.name 5) x env) st).bind fun env st => evSs fns iB env st) (bls F) [some (.d (Sh a b)), mm, w, lp, some (.l st.length), isl, rw_] (st ++ [.lst []]) =
      .ok (.nx [some (.d (Sh a b)), mm, w, lp, some (.l st.length), isl', rw_]) (st ++ [.lst (bls (stepB a b F))]) := by
  obtain ⟨env', st', e, isl', e1, e2⟩ := forL_inv (ok := keeps k (bls F)) (f := fun x env st => (Out.of (bindT (.name 5) x env) st).bind fun env st => evSs fns iB env st)
    (P := fun i env s => ∃ isl', env = [some (.d (Sh a b)), mm, w, lp, some (.l st.length), isl', rw_] ∧ s = st ++ [.lst (bls (stepB a b (F.take i)))]) (bls F) 0 _ _ ⟨isl, rfl, rfl⟩
    (fun i x env s hx ⟨isl', e1, e2⟩ => by
      subst e1 e2
      refine ⟨hk _, ?_⟩
      unfold bls at hx
      rw [List.getElem?_map] at hx
      obtain ⟨l, hl, rfl⟩ := map_of hx
      have hi : i < F.length := (List.getElem?_eq_some_iff.mp hl).1
      rw [Nat.zero_add] at *
      have t := inner_turn fns hb mm w lp st.length isl' rw_ (st ++ [.lst (bls (stepB a b (F.take i)))]) l (stepB a b (F.take i)) (by rw [List.getElem?_append_right (Nat.le_refl _)]; simp) (by
        rw [stepB_len, List.length_take]
        have : min i F.length * b ≤ F.length * b := Nat.mul_le_mul_right _ (by omega)
        omega) (a := a)
      refine ⟨_, _, t, _, rfl, ?_⟩
      rw [List.set_append_right _ _ (Nat.le_refl _), Nat.sub_self, ← stepB_snoc, List.take_add_one, hl]
      rfl)
    (fun env s ⟨isl', e1, e2⟩ => by subst e1 e2; exact hk _)
  refine ⟨isl', ?_⟩
  refine e.trans ?_
  rw [e1, e2]
  simp [bls]
def itB (a b : Nat) : Nat → List Bool
  | 0 => [true]
  | k + 1 => stepB a b (itB a b k)
theorem itB_len (a b : Nat) : ∀ k, (itB a b k).length = b ^ k
  | 0 => rfl
  | k + 1 => by
    show (stepB a b (itB a b k)).length = _
    rw [stepB_len, itB_len a b k, Nat.pow_succ]
theorem itB_true (a b : Nat) (h : a ≤ b) : ∀ k, (itB a b k).count true = a ^ k
  | 0 => rfl
  | k + 1 => by
    show (stepB a b (itB a b k)).count true = _
    rw [stepB_true a b h, itB_true a b h k, Nat.pow_succ]
/-- a list of truths, pure or of the store -/
inductive Is (F : List Bool) (st : Store) : W → Prop
  | d : Is F st (.d (.lst (F.map .bl)))
  | l {n : Nat} : st[n]? = some (.lst (bls F)) → Is F st (.l n)
theorem outer_turn (fns : Nat → Fn) {a b : Nat} (hb : b < 1000) (mm : Option W) (w : W) (lap later isl rw_ : Option W) (F : List Bool) (st : Store) (hw : Is F st w) (hz : F.length * b + b ≤ lineS) (x : W) :
    ∃ isl' st', ((Out.of (bindT (.name 3) x [some (.d (Sh a b)), mm, some w, lap, later, isl, rw_]) st).bind fun env st => evSs fns oB env st) =
      .ok (.nx [some (.d (Sh a b)), mm, some (.l st.length), some x, some (.l st.length), isl', rw_]) st' ∧ Is (stepB a b F) st' (.l st.length) := by
  have iter : ∃ k, (∀ o, keeps k (bls F) (st ++ [o]) = true) ∧ evI fns (.seq (.var 2)) [some (.d (Sh a b)), mm, some w, some x, some (.l st.length), isl, rw_] (st ++ [.lst []]) = .ok (bls F, k) (st ++ [.lst []]) := by
    cases hw with
    | d => exact ⟨none, fun _ => rfl, by simp [evI, ev, getE, itemsD, bls]⟩
    | @l n hn =>
      have hlt : n < st.length := (List.getElem?_eq_some_iff.mp hn).1
      refine ⟨some n, fun o => ?_, ?_⟩
      · have e : (st ++ [o])[n]? = some (.lst (bls F)) := by rw [List.getElem?_append_left hlt, hn]
        simp [keeps, e]
      · simp [evI, ev, getE, itemsD, List.getElem?_append_left hlt, hn]
  obtain ⟨k, hk, hi⟩ := iter
  obtain ⟨isl', e⟩ := inner_loop fns hb mm (some w) (some x) isl rw_ k F st hk hz (a := a)
  refine ⟨isl', _, ?_, .l (n := st.length) (st := st ++ [.lst (bls (stepB a b F))]) (by rw [List.getElem?_append_right (Nat.le_refl _)]; simp)⟩
  have b1 : bindT (.name 3) x [some (.d (Sh a b)), mm, some w, lap, later, isl, rw_] = some [some (.d (Sh a b)), mm, some w, some x, later, isl, rw_] := by simp [bindT]
  have v1 : ev fns (.lst true []) [some (.d (Sh a b)), mm, some w, some x, later, isl, rw_] st = .ok (.l st.length) (st ++ [.lst []]) := by simp [ev, evs, newL, lineS]
  have v2 : ev fns (.var 4) [some (.d (Sh a b)), mm, some w, some x, some (.l st.length), isl', rw_] (st ++ [.lst (bls (stepB a b F))]) = .ok (.l st.length) (st ++ [.lst (bls (stepB a b F))]) := by simp [ev, getE]
  rw [b1]
  simp only [Out.of_some, Out.bind_ok]
  unfold oB
  rw [evSs_nx (evS_asg v1 (by simp))]
  simp only [List.set_cons_succ, List.set_cons_zero]
  rw [evSs_nx (evS_for hi e), evSs_nx (evS_asg v2 (by simp)), evSs_nil]
  rfl
theorem outer_loop (fns : Nat → Fn) {a b : Nat} (hb : b ≤ 6) (m : Nat) (hm : m ≤ 4) (lap later isl rw_ : Option W) :
    ∃ w lap' later' isl' st, forL (keeps none (rangeL 0 (m : Int))) (fun x env st => (Out.of (bindT (.name 3) x env) st).bind fun env st => evSs fns oB env st) (rangeL 0 (m : Int)) [some (.d (Sh a b)), some (.d (.int (m : Int))), some (.d (.lst [.bl true])), lap, later, isl, rw_] [] =
      .ok (.nx [some (.d (Sh a b)), some (.d (.int (m : Int))), some w, lap', later', isl', rw_]) st ∧ Is (itB a b m) st w := by
  have hlen : (rangeL 0 (m : Int)).length = m := by rw [rangeL_nat, List.length_map, List.length_range]
  obtain ⟨env', st', e, w, lap', later', isl', e1, hw⟩ := forL_inv (ok := keeps none (rangeL 0 (m : Int))) (f := fun x env st => (Out.of (bindT (.name 3) x env) st).bind fun env st => evSs fns oB env st)
    (P := fun i env s => ∃ w lap' later' isl', env = [some (.d (Sh a b)), some (.d (.int (m : Int))), some w, lap', later', isl', rw_] ∧ Is (itB a b i) s w) (rangeL 0 (m : Int)) 0 _ [] ⟨_, lap, later, isl, rfl, .d⟩
    (fun i x env s hx ⟨w, lap', later', isl', e1, hw⟩ => by
      subst e1
      refine ⟨rfl, ?_⟩
      rw [Nat.zero_add] at *
      have hi : i < m := by have := (List.getElem?_eq_some_iff.mp hx).1; omega
      have hz : (itB a b i).length * b + b ≤ lineS := by
        rw [itB_len]
        have h1 : b ^ i ≤ 6 ^ i := Nat.pow_le_pow_left hb i
        have h2 : 6 ^ i ≤ 6 ^ 4 := Nat.pow_le_pow_right (by decide) (by omega)
        have h3 : b ^ i * b ≤ 6 ^ 4 * 6 := Nat.mul_le_mul (by omega) hb
        unfold lineS
        omega
      obtain ⟨isl2, st2, e2, h2⟩ := outer_turn fns (by omega) (some (.d (.int (m : Int)))) w lap' later' isl' rw_ (itB a b i) s hw hz x
      exact ⟨_, st2, e2, _, _, _, _, rfl, h2⟩)
    (fun env s _ => rfl)
  rw [e1] at e
  rw [Nat.zero_add, hlen] at hw
  exact ⟨w, lap', later', isl', st', e, hw⟩
theorem countP_bl : ∀ F : List Bool, (F.map D.bl).countP (fun y => deq y (.bl true)) = F.count true
  | [] => rfl
  | b :: F => by
    rw [List.map_cons, List.countP_cons, countP_bl F, List.count_cons]
    cases b <;> rfl
theorem shs_bl : ∀ F : List Bool, shs 59 (F.map D.bl) = true
  | [] => rfl
  | b :: F => by
    rw [List.map_cons]
    show (sh 59 (.bl b) && shs 59 (F.map D.bl)) = true
    rw [shs_bl F]
    rfl
theorem pures_bls (F : List Bool) : pures (bls F) = some (F.map D.bl) := by rw [← bls_eq, pures_map]
theorem is_seq {F : List Bool} {st : Store} {w : W} (h : Is F st w) : seqOf st w = some (bls F) ∧ lseq st w = some (bls F) := by
  cases h with
  | d => exact ⟨by rw [← bls_eq]; rfl, by rw [← bls_eq]; rfl⟩
  | @l n h =>
    have e : seqOf st (.l n) = some (bls F) := by unfold seqOf; simp only [h]
    exact ⟨e, e⟩
theorem is_count {F : List Bool} {st : Store} {w : W} (h : Is F st w) : mtCount w (.d (.bl true)) st = .ok (.d (.int (F.count true : Nat))) st := by
  unfold mtCount
  simp only
  rw [(is_seq h).2]
  show ((Out.of (pures (bls F)) st).bind _) = _
  rw [pures_bls]
  simp only [Out.of_some, Out.bind_ok]
  rw [if_pos (by rw [shs_bl]; rfl), countP_bl]
theorem is_len {F : List Bool} {st : Store} {w : W} (h : Is F st w) : biLen w st = .ok (.d (.int (F.length : Nat))) st := by
  unfold biLen
  rw [(is_seq h).1]
  simp [bls]
theorem rows_all_ok {a b m : Nat} (hab : a ≤ b) (hb : b ≤ 6) (hm : m ≤ 4) : ∃ S, d__law_rows_all [.d (Sh a b), .d (.int (m : Int))] [] = .ok (.d (Sh (a ^ m : Nat) (b ^ m : Nat))) S := by
  obtain ⟨w, lap', later', isl', st, e, hw⟩ := outer_loop (fnsOf t__law_rows_all) hb m hm none none none none (a := a)
  refine ⟨st, ?_⟩
  have c := is_count hw
  have l := is_len hw
  rw [itB_true a b hab] at c
  rw [itB_len] at l
  have it : evI (fnsOf t__law_rows_all) (.range [(.var 1)]) [some (.d (Sh a b)), some (.d (.int (m : Int))), some (.d (.lst [.bl true])), none, none, none, none] [] = .ok (rangeL 0 (m : Int), none) [] := evI_range (by simp [ev, getE]) (by omega)
  have mi : mtIs "list" w st = true := by
    unfold mtIs
    rw [if_neg (by decide), (is_seq hw).2]
    rfl
  have v0 : ev (fnsOf t__law_rows_all) (.lst false [(.const (.bl true))]) [some (.d (Sh a b)), some (.d (.int (m : Int))), none, none, none, none, none] [] = .ok (.d (.lst [.bl true])) [] := by simp [ev, evs, newL, lineS, pures]
  have v1 : ev (fnsOf t__law_rows_all) (.tup [(.mt .count (.var 2) [(.const (.bl true))]), (.bi .len [(.var 2)])]) [some (.d (Sh a b)), some (.d (.int (m : Int))), some w, lap', later', isl', none] st = .ok (.d (Sh (a ^ m : Nat) (b ^ m : Nat))) st := by
    simp [ev, evs, getE, mtT, mi, evMt, evMt1, c, evBi, evBi1, l, lineS, pures, Sh]
  unfold d__law_rows_all
  rw [all_shape]
  refine evF_rt ?_
  show evSs _ _ [some (.d (Sh a b)), some (.d (.int (m : Int))), none, none, none, none, none] [] = _
  rw [evSs_nx (evS_asg v0 (by simp))]
  simp only [List.set_cons_succ, List.set_cons_zero]
  rw [evSs_nx (evS_for it e), evSs_rt (evS_ret v1)]
end K45
namespace K45
open PySem PySem.Spec PyProof.Rows L2 DL
/-! ### rows of two led together -/
def rowL (a y x : Nat) (f : Nat) : List Bool := (List.range y).map fun s => decide (f < a) || decide (s < x)
def allL (a y x : Nat) (n : Nat) : List Bool := (List.range n).flatMap fun f => rowL a y x f
def cL : DL.E := (.comp false (.bop false [(.cmp .Lt (.var 3) (.ix (.var 0) (.const (.int 0)))), (.cmp .Lt (.var 4) (.ix (.var 1) (.const (.int 0))))]) (.name 4) (.range [(.ix (.var 1) (.const (.int 1)))]) .yes [4])
def iL : List Sm := [(.expr (.mt .extend (.var 2) [cL]))]
theorem led_shape : b__law_rows_led = [(.asg (.name 2) (.lst true [])), (.for_ (.name 3) (.range [(.ix (.var 0) (.const (.int 1)))]) iL), (.ret (.tup [(.mt .count (.var 2) [(.const (.bl true))]), (.bi .len [(.var 2)])]))] := rfl
def gL (a x f : Nat) (w : W) : W := match w with
  | .d (.int s) => W.d (.bl (decide (f < a) || decide (s < (x : Int))))
  | w => w
theorem turnL (fns : Nat → Fn) {a b x y : Nat} (n f : Nat) (sc : Option W) (st : Store) (s : Nat) :
    turnC fns (.bop false [(.cmp .Lt (.var 3) (.ix (.var 0) (.const (.int 0)))), (.cmp .Lt (.var 4) (.ix (.var 1) (.const (.int 0))))]) (.name 4) .yes (wipeE [some (.d (Sh a b)), some (.d (Sh x y)), some (.l n), some (.d (.int (f : Int))), sc] [4]) (.d (.int (s : Int))) st = .ok (some (gL a x f (.d (.int s)))) st := by
  by_cases h : f < a
  · simp [turnC, bindT, wipeE, evB, evBop, ev, getE, tru, evCmp, cmpD, evIx, seqOf, at_0, Sh, gL, h]
  · simp [turnC, bindT, wipeE, evB, evBop, ev, getE, tru, evCmp, cmpD, evIx, seqOf, at_0, Sh, gL, h]
theorem purL (a y x f : Nat) : pures ((rangeL 0 (y : Int)).map (gL a x f)) = some ((rowL a y x f).map .bl) := by
  rw [rangeL_nat, List.map_map, ← pures_map]
  refine congrArg pures ?_
  unfold rowL
  rw [List.map_map, List.map_map]
  refine List.map_congr_left fun r hr => ?_
  show W.d (.bl (decide (f < a) || decide ((r : Int) < (x : Int)))) = W.d (.bl (decide (f < a) || decide (r < x)))
  have e : decide ((r : Int) < (x : Int)) = decide (r < x) := decide_eq_decide.mpr (by omega)
  rw [e]
theorem compL_ok2 (fns : Nat → Fn) {a b x y : Nat} (hy : y < 1000) (n f : Nat) (sc : Option W) (st : Store) :
    ev fns cL [some (.d (Sh a b)), some (.d (Sh x y)), some (.l n), some (.d (.int (f : Int))), sc] st = .ok (.d (.lst ((rowL a y x f).map .bl))) st := by
  have hl := range_len (b := y) (by omega)
  have it : evI fns (.range [(.ix (.var 1) (.const (.int 1)))]) [some (.d (Sh a b)), some (.d (Sh x y)), some (.l n), some (.d (.int (f : Int))), sc] st = .ok (rangeL 0 (y : Int), none) st := evI_range (by simp [ev, getE, Sh, evIx, seqOf, at_1]) (by omega)
  unfold cL
  rw [comp_pure (gL a x f) it rfl hl]
  · exact newL_data (by rw [List.length_map]; exact Nat.le_of_lt hl) (purL a y x f)
  · intro w hw
    obtain ⟨s, hs, rfl⟩ := range_mem hw
    exact turnL fns n f sc st s
theorem rowL_len (a y x f : Nat) : (rowL a y x f).length = y := by unfold rowL; rw [List.length_map, List.length_range]
theorem rowL_true (a y x f : Nat) (h : x ≤ y) : (rowL a y x f).count true = if f < a then y else x := by
  by_cases hf : f < a
  · rw [if_pos hf]
    have e : rowL a y x f = List.replicate y true := by
      rw [List.eq_replicate_iff]
      refine ⟨rowL_len .., fun z hz => ?_⟩
      unfold rowL at hz
      obtain ⟨r, _, rfl⟩ := List.mem_map.mp hz
      simp [hf]
    rw [e]
    simp
  · rw [if_neg hf]
    have e : rowL a y x f = rowB true x y := by
      unfold rowL rowB
      refine List.map_congr_left fun r _ => ?_
      simp [hf]
    rw [e, rowB_true true x y h]
    rfl
theorem allL_succ (a y x n : Nat) : allL a y x (n + 1) = allL a y x n ++ rowL a y x n := by unfold allL; rw [List.range_succ, List.flatMap_append]; simp
theorem allL_len (a y x : Nat) : ∀ n, (allL a y x n).length = n * y
  | 0 => by simp [allL]
  | n + 1 => by rw [allL_succ, List.length_append, allL_len a y x n, rowL_len, Nat.succ_mul]
theorem allL_true (a y x : Nat) (h : x ≤ y) : ∀ n, (allL a y x n).count true = min n a * y + (n - a) * x
  | 0 => by simp [allL]
  | n + 1 => by
    rw [allL_succ, List.count_append, allL_true a y x h n, rowL_true a y x n h]
    by_cases hn : n < a
    · rw [if_pos hn, show min (n + 1) a = min n a + 1 by omega, show n + 1 - a = 0 by omega, show n - a = 0 by omega, Nat.succ_mul]
      omega
    · rw [if_neg hn, show min (n + 1) a = min n a by omega, show n + 1 - a = (n - a) + 1 by omega, Nat.succ_mul]
      omega
theorem ext_ok {n : Nat} {G H : List Bool} {st : Store} (hn : st[n]? = some (.lst (bls G))) (hz : G.length + H.length ≤ lineS) : mtExtend n (.d (.lst (H.map .bl))) st = .ok (.d .non) (st.set n (.lst (bls (G ++ H)))) := by
  have e : bls (G ++ H) = bls G ++ (H.map D.bl).map W.d := by rw [bls_eq]; unfold bls; rw [List.map_append]
  have hz2 : (bls G).length + (H.map D.bl).length ≤ lineS := by
    unfold bls
    rw [List.length_map, List.length_map]
    exact hz
  unfold mtExtend
  rw [hn, e]
  simp only
  rw [if_pos hz2]
theorem bindLed {a b x y f : Nat} {fo sc : Option W} : bindT (.name 3) (.d (.int (f : Int))) [some (.d (Sh a b)), some (.d (Sh x y)), some (.l 0), fo, sc] = some [some (.d (Sh a b)), some (.d (Sh x y)), some (.l 0), some (.d (.int (f : Int))), sc] := by simp [bindT]
theorem extend_ev {fns : Nat → Fn} {i n : Nat} {e : DL.E} {env : Ev} {st st' : Store} {w u : W} {xs : List W} (hv : ev fns (.var i) env st = .ok (.l n) st) (hs : lseq st (.l n) = some xs) (he : ev fns e env st = .ok w st) (hm : mtExtend n w st = .ok u st') :
    evS fns (.expr (.mt .extend (.var i) [e])) env st = .ok (.nx env) st' := by
  rw [evS, ev, hv]
  simp only [Out.bind_ok]
  rw [show mtT .extend = "list" from rfl, mtIs_list hs, if_pos rfl, evs_one he]
  simp only [Out.bind_ok]
  rw [show evMt .extend (.l n) [w] st = mtExtend n w st from rfl, hm]
  rfl
end K45
namespace K45
open PySem PySem.Spec PyProof.Rows L2 DL
theorem z1 (fns : Nat → Fn) {G H : List Bool} (hz : G.length + H.length ≤ lineS) : mtExtend 0 (.d (.lst (H.map .bl))) [.lst (bls G)] = .ok (.d .non) ([Ob.lst (bls G)].set 0 (.lst (bls (G ++ H)))) := ext_ok (n := 0) (G := G) (H := H) (st := [.lst (bls G)]) rfl hz
theorem z2 {G : List Bool} : lseq [Ob.lst (bls G)] (.l 0) = some (bls G) := (is_seq (F := G) (.l rfl)).2
theorem z3 {a y x f : Nat} {G : List Bool} (hz : G.length + y ≤ lineS) : G.length + (rowL a y x f).length ≤ lineS := by rw [rowL_len]; exact hz

theorem z4 (fns : Nat → Fn) {a b x y : Nat} (f : Nat) (sc : Option W) (G : List Bool) : ev fns (.var 2) [some (.d (Sh a b)), some (.d (Sh x y)), some (.l 0), some (.d (.int (f : Int))), sc] [.lst (bls G)] = .ok (.l 0) [.lst (bls G)] := by simp [ev, getE]
theorem z5 (fns : Nat → Fn) {a b x y : Nat} (hy : y < 1000) (f : Nat) (sc : Option W) (G : List Bool) (hz : G.length + y ≤ lineS) :
   evS fns (.expr (.mt .extend (.var 2) [cL])) [some (.d (Sh a b)), some (.d (Sh x y)), some (.l 0), some (.d (.int (f : Int))), sc] [.lst (bls G)] = .ok (.nx [some (.d (Sh a b)), some (.d (Sh x y)), some (.l 0), some (.d (.int (f : Int))), sc]) [.lst (bls (G ++ rowL a y x f))] :=
  extend_ev (z4 fns f sc G) z2 (compL_ok2 fns hy 0 f sc [.lst (bls G)]) (z1 fns (z3 hz))
theorem turnLed (fns : Nat → Fn) {a b x y : Nat} (hy : y < 1000) (f : Nat) (fo sc : Option W) (G : List Bool) (hz : G.length + y ≤ lineS) :
    ((Out.of (bindT (.name 3) (.d (.int (f : Int))) [some (.d (Sh a b)), some (.d (Sh x y)), some (.l 0), fo, sc]) [.lst (bls G)]).bind fun env st => evSs fns iL env st) = .ok (.nx [some (.d (Sh a b)), some (.d (Sh x y)), some (.l 0), some (.d (.int (f : Int))), sc]) [.lst (bls (G ++ rowL a y x f))] :=
  bind_step bindLed ((evSs_nx (z5 fns hy f sc G hz)).trans evSs_nil)
theorem loopLed (fns : Nat → Fn) {a b x y : Nat} (hb : b ≤ 12) (hy : y ≤ 12) (fo sc : Option W) :
    ∃ fo', forL (keeps none (rangeL 0 (b : Int))) (fun w env st => (Out.of (bindT (.name 3) w env) st).bind fun env st => evSs fns iL env st) (rangeL 0 (b : Int)) [some (.d (Sh a b)), some (.d (Sh x y)), some (.l 0), fo, sc] [.lst (bls [])] =
      .ok (.nx [some (.d (Sh a b)), some (.d (Sh x y)), some (.l 0), fo', sc]) [.lst (bls (allL a y x b))] := by
  have hlen : (rangeL 0 (b : Int)).length = b := by rw [rangeL_nat, List.length_map, List.length_range]
  obtain ⟨env', st', e, fo', e1, e2⟩ := forL_inv (ok := keeps none (rangeL 0 (b : Int))) (f := fun w env st => (Out.of (bindT (.name 3) w env) st).bind fun env st => evSs fns iL env st)
    (P := fun i env s => ∃ fo', env = [some (.d (Sh a b)), some (.d (Sh x y)), some (.l 0), fo', sc] ∧ s = [.lst (bls (allL a y x i))]) (rangeL 0 (b : Int)) 0 _ [.lst (bls [])] ⟨fo, rfl, rfl⟩
    (fun i w env s hx ⟨fo', e1, e2⟩ => by
      subst e1 e2
      refine ⟨rfl, ?_⟩
      rw [Nat.zero_add] at *
      have hi : i < b := by have := (List.getElem?_eq_some_iff.mp hx).1; omega
      rw [rangeL_nat, List.getElem?_map, List.getElem?_range hi] at hx
      cases hx
      have t := turnLed fns (show y < 1000 by omega) i fo' sc (allL a y x i) (by
        rw [allL_len]
        have : i * y ≤ 12 * 12 := Nat.mul_le_mul (by omega) hy
        unfold lineS
        omega) (a := a) (b := b) (x := x)
      exact ⟨_, _, t, _, rfl, by rw [allL_succ]⟩)
    (fun env s _ => rfl)
  rw [Nat.zero_add, hlen] at e2
  exact ⟨fo', by rw [e, e1, e2]⟩
theorem rows_led_ok {a b x y : Nat} (hab : a ≤ b) (hxy : x ≤ y) (hb : b ≤ 12) (hy : y ≤ 12) : ∃ S, d__law_rows_led [.d (Sh a b), .d (Sh x y)] [] = .ok (.d (Led a b x y)) S := by
  obtain ⟨fo', e⟩ := loopLed (fnsOf t__law_rows_led) hb hy none none (a := a) (x := x)
  have hw : Is (allL a y x b) [.lst (bls (allL a y x b))] (.l 0) := .l rfl
  refine ⟨[.lst (bls (allL a y x b))], ?_⟩
  have c := is_count hw
  have l := is_len hw
  have cv : ((allL a y x b).count true : Int) = (b : Int) * y - ((b : Int) - a) * ((y : Int) - x) := by
    rw [allL_true a y x hxy, show min b a = a by omega]
    obtain ⟨d, rfl⟩ : ∃ d, b = a + d := ⟨b - a, by omega⟩
    obtain ⟨z, rfl⟩ : ∃ z, y = x + z := ⟨y - x, by omega⟩
    rw [show a + d - a = d by omega]
    push_cast
    rw [show (a : Int) + d - a = d by omega, show (x : Int) + z - x = z by omega]
    simp only [Int.add_mul, Int.mul_add]
    omega
  have lv : ((allL a y x b).length : Int) = (b : Int) * y := by rw [allL_len]; push_cast; rfl
  have mi : mtIs "list" (.l 0) [.lst (bls (allL a y x b))] = true := mtIs_list (is_seq hw).2
  have v0 : ev (fnsOf t__law_rows_led) (.lst true []) [some (.d (Sh a b)), some (.d (Sh x y)), none, none, none] [] = .ok (.l 0) [.lst (bls [])] := by simp [ev, evs, newL, lineS, bls]
  have it : evI (fnsOf t__law_rows_led) (.range [(.ix (.var 0) (.const (.int 1)))]) [some (.d (Sh a b)), some (.d (Sh x y)), some (.l 0), none, none] [.lst (bls [])] = .ok (rangeL 0 (b : Int), none) [.lst (bls [])] := evI_range (by simp [ev, getE, Sh, evIx, seqOf, at_1]) (by omega)
  have v1 : ev (fnsOf t__law_rows_led) (.tup [(.mt .count (.var 2) [(.const (.bl true))]), (.bi .len [(.var 2)])]) [some (.d (Sh a b)), some (.d (Sh x y)), some (.l 0), fo', none] [.lst (bls (allL a y x b))] = .ok (.d (Led a b x y)) [.lst (bls (allL a y x b))] := by
    simp [ev, evs, getE, mtT, mi, evMt, evMt1, c, evBi, evBi1, l, lineS, pures, Led, cv, lv]
  unfold d__law_rows_led
  rw [led_shape]
  refine evF_rt ?_
  show evSs _ _ [some (.d (Sh a b)), some (.d (Sh x y)), none, none, none] [] = _
  rw [evSs_nx (evS_asg v0 (by simp))]
  simp only [List.set_cons_succ, List.set_cons_zero]
  rw [evSs_nx (evS_for it e), evSs_rt (evS_ret v1)]
/-! ### the plain product -/
def iP : List Sm := [(.asg (.name 2) (.bin .Mult (.var 2) (.var 0)))]
theorem product_shape : b__law_product = [(.asg (.name 2) (.const (.int 1))), (.for_ (.name 3) (.range [(.var 1)]) iP), (.ret (.var 2))] := rfl
theorem product_ok {b m : Nat} (h : (max b 1) ^ m < big) (hm : m < 1000) : d__law_product [.d (.int b), .d (.int m)] [] = .ok (.d (.int (b ^ m : Nat))) [] := by
  have hlen : (rangeL 0 (m : Int)).length = m := by rw [rangeL_nat, List.length_map, List.length_range]
  obtain ⟨env', st', e, lap, e1, e2⟩ := forL_inv (ok := keeps none (rangeL 0 (m : Int))) (f := fun w env st => (Out.of (bindT (.name 3) w env) st).bind fun env st => evSs (fnsOf t__law_product) iP env st)
    (P := fun i env s => ∃ lap, env = [some (.d (.int b)), some (.d (.int m)), some (.d (.int (b ^ i : Nat))), lap] ∧ s = []) (rangeL 0 (m : Int)) 0 [some (.d (.int b)), some (.d (.int m)), some (.d (.int 1)), none] [] ⟨none, rfl, rfl⟩
    (fun i w env s hx ⟨lap, e1, e2⟩ => by
      subst e1 e2
      refine ⟨rfl, ?_⟩
      rw [Nat.zero_add] at *
      have hi : i < m := by have := (List.getElem?_eq_some_iff.mp hx).1; omega
      have h1 : b ^ i ≤ max b 1 ^ m := Nat.le_trans (Nat.pow_le_pow_left (by omega) i) (Nat.pow_le_pow_right (by omega) (by omega))
      have h2 : b ≤ max b 1 ^ m := Nat.le_trans (show b ≤ max b 1 by omega) (Nat.le_self_pow (by omega) _)
      have mo : mulOk ((b ^ i : Nat) : Int) (b : Int) = true := mulOk_big (by omega) (by omega)
      refine ⟨[some (.d (.int b)), some (.d (.int m)), some (.d (.int (b ^ (i + 1) : Nat))), some w], [], ?_, some w, rfl, rfl⟩
      simp only [Int.natCast_pow] at mo
      simp [bindT, iP, evSs, evS, ev, getE, evOp, opD, mo, Int.pow_succ])
    (fun env s _ => rfl)
  rw [Nat.zero_add, hlen] at e1
  rw [e1, e2] at e
  have v0 : ev (fnsOf t__law_product) (.const (.int 1)) [some (.d (.int b)), some (.d (.int m)), none, none] [] = .ok (.d (.int 1)) [] := by simp [ev]
  have it : evI (fnsOf t__law_product) (.range [(.var 1)]) [some (.d (.int b)), some (.d (.int m)), some (.d (.int 1)), none] [] = .ok (rangeL 0 (m : Int), none) [] := evI_range (by simp [ev, getE]) (by omega)
  have v1 : ev (fnsOf t__law_product) (.var 2) [some (.d (.int b)), some (.d (.int m)), some (.d (.int (b ^ m : Nat))), lap] [] = .ok (.d (.int (b ^ m : Nat))) [] := by simp [ev, getE]
  unfold d__law_product
  rw [product_shape]
  refine evF_rt ?_
  show evSs _ _ [some (.d (.int b)), some (.d (.int m)), none, none] [] = _
  rw [evSs_nx (evS_asg v0 (by simp))]
  simp only [List.set_cons_succ, List.set_cons_zero]
  rw [evSs_nx (evS_for it e), evSs_rt (evS_ret v1)]
end K45
namespace K45
open PySem PySem.Spec PyProof.Rows L2 DL
theorem shw_sh {a b : Int} (ha : a.natAbs < digitL) (hb : b.natAbs < digitL) : shw (Sh a b) = true := by
  simp [shw, Sh, sh, shs, D.py, D.pys, tells, tellsAll, txOk, txOks, wt, wts, lineS, ha, hb]
theorem small_dig {a : Int} (h1 : -(2 ^ 200) < a) (h2 : a < 2 ^ 200) : a.natAbs < digitL :=
  digit_of (Nat.lt_of_lt_of_le (show a.natAbs < 2 ^ 201 by omega) (Nat.pow_le_pow_right (by decide) (by decide)))
theorem mul_lt {x y : Int} (hx0 : 0 ≤ x) (hx : x ≤ 10 ^ 30) (hy0 : 0 ≤ y) (hy : y ≤ 10 ^ 30) : 0 ≤ x * y ∧ x * y ≤ 10 ^ 60 := by
  refine ⟨Int.mul_nonneg hx0 hy0, ?_⟩
  have h := Int.mul_le_mul hx hy hy0 (by decide)
  have e : ((10 : Int) ^ 30) * 10 ^ 30 = 10 ^ 60 := by decide
  omega
theorem led_shw {a b x y B C : Int} (h : ShOk a b B) (h' : ShOk x y C) (hB : B ≤ 10 ^ 30) (hC : C ≤ 10 ^ 30) : shw (Led a b x y) = true := by
  have i0 := h.h0
  have i1 := h.h1
  have i3 := h.h3
  have j0 := h'.h0
  have j1 := h'.h1
  have j3 := h'.h3
  obtain ⟨p1, p2⟩ := mul_lt (x := b) (y := y) (by omega) (by omega) (by omega) (by omega)
  obtain ⟨q1, q2⟩ := mul_lt (x := b - a) (y := y - x) (by omega) (by omega) (by omega) (by omega)
  exact shw_sh (small_dig (by omega) (by omega)) (small_dig (by omega) (by omega))
end K45
namespace K45
open PySem PySem.Spec PyProof.Rows L2 DL
def five : List D := [Sh 99999999999999999999 100000000000000000000, Sh 3 1000000000000000000000000000000, Sh 0 7, Sh 5 5, Sh 218 343]
theorem five_ok {i : Nat} {d : D} (h : five[i]? = some d) : ∃ a b : Nat, d = Sh a b ∧ ShOk a b (10 ^ 30) := by
  match i, h with
  | 0, h => cases h; exact ⟨99999999999999999999, 100000000000000000000, rfl, ⟨by decide, by decide, by decide, by decide⟩⟩
  | 1, h => cases h; exact ⟨3, 1000000000000000000000000000000, rfl, ⟨by decide, by decide, by decide, by decide⟩⟩
  | 2, h => cases h; exact ⟨0, 7, rfl, ⟨by decide, by decide, by decide, by decide⟩⟩
  | 3, h => cases h; exact ⟨5, 5, rfl, ⟨by decide, by decide, by decide, by decide⟩⟩
  | 4, h => cases h; exact ⟨218, 343, rfl, ⟨by decide, by decide, by decide, by decide⟩⟩
  | n + 5, h => cases h
def eF : DL.E := (.lst false [(.tup [(.bin .Sub (.bin .Pow (.const (.int 10)) (.const (.int 20))) (.const (.int 1))), (.bin .Pow (.const (.int 10)) (.const (.int 20)))]), (.tup [(.const (.int 3)), (.bin .Pow (.const (.int 10)) (.const (.int 30)))]), (.tup [(.const (.int 0)), (.const (.int 7))]), (.tup [(.const (.int 5)), (.const (.int 5))]), (.tup [(.bin .Sub (.const (.int 343)) (.const (.int 125))), (.const (.int 343))])])
theorem five_ev (fns : Nat → Fn) (env : Ev) (S : Store) : ev fns eF env S = .ok (.d (.lst five)) S := by
  have p1 : powOk 10 20 = true := powOk_big (small_big (by decide) (by decide)) (by decide) (by decide)
  have p2 : powOk 10 30 = true := powOk_big (small_big (by decide) (by decide)) (by decide) (by decide)
  simp [eF, ev, evs, evOp, opD, p1, p2, pures, newL, lineS, five, Sh]
theorem callPl {den f : Fn} {o s c o' c' : Int} {d x : D} (hf : f [.l 0, .d d] [P o s c] = den [.l 0, .d d] [P o s c]) (h : den [.l 0, .d d] [P o s c] = .ok (.d x) [P o' s c']) : evCall f [.l 0, .d d] [P o s c] = .ok (.d x) [P o' s c'] := callP hf h
end K45
namespace K45
open PySem PySem.Spec PyProof.Rows L2 DL
abbrev T9 := t__law_are_great_right
abbrev F9 := fnsOf T9
def g3 : Sm := (.asg (.name 4) (.tup [(.call 3 [(.ix (.var 1) (.const (.int 0))), (.var 3)]), (.call 3 [(.ix (.var 1) (.const (.int 1))), (.var 3)])]))
def lE (r : Nat) (p q : Nat) : DL.E := (.tup [(.bin .Sub (.var r) (.bin .Mult (.bin .Sub (.ix (.var p) (.const (.int 1))) (.ix (.var p) (.const (.int 0)))) (.bin .Sub (.ix (.var q) (.const (.int 1))) (.ix (.var q) (.const (.int 0)))))), (.var r)])
def gE : DL.E := (.ifx (.cmp .Gt (.bin .Mult (.ix (.var 2) (.const (.int 0))) (.ix (.var 1) (.const (.int 1)))) (.bin .Mult (.ix (.var 1) (.const (.int 0))) (.ix (.var 2) (.const (.int 1))))) (.var 2) (.var 1))
theorem great_shape : b__law_are_great_right = [(.asg (.name 1) (.call 0 [(.var 0), eF])), (.par [2, 3] [(.call 1 [(.var 0), (.const (.int 1000))]), (.bin .Add (.const (.int 1)) (.call 2 [(.var 0), (.const (.int 40))]))]), g3,
  (.ife (.cmp .NotEq (.bi .repr [(.call 4 [(.var 3), (.var 1)])]) (.bi .repr [(.var 4)])) [(.ret (.const (.bl false)))] []), (.asg (.name 5) (.bin .Mult (.ix (.var 1) (.const (.int 1))) (.ix (.var 2) (.const (.int 1))))),
  (.ife (.cmp .NotEq (.bi .repr [(.call 5 [(.var 2), (.var 1)])]) (.bi .repr [lE 5 1 2])) [(.ret (.const (.bl false)))] []), (.asg (.name 6) (.tup [(.bin .Mult (.ix (.var 2) (.const (.int 0))) (.ix (.var 2) (.const (.int 0)))), (.bin .Mult (.ix (.var 2) (.const (.int 1))) (.ix (.var 2) (.const (.int 1))))])),
  (.asg (.name 5) (.bin .Mult (.ix (.var 1) (.const (.int 1))) (.ix (.var 6) (.const (.int 1))))), (.ife (.cmp .NotEq (.bi .repr [(.call 6 [(.var 1), (.call 7 [(.var 2), (.const (.int 2))])])]) (.bi .repr [lE 5 1 6])) [(.ret (.const (.bl false)))] []),
  (.asg (.name 4) gE), (.ret (.cmp .Eq (.bi .repr [(.call 8 [(.var 1), (.var 2)])]) (.bi .repr [(.var 4)])))] := rfl
theorem gr1 {o s c o1 c1 : Int} {a b : Nat} (e1 : d__law_of [.l 0, .d (.lst five)] [P o s c] = .ok (.d (Sh a b)) [P o1 s c1]) :
    evS F9 (.asg (.name 1) (.call 0 [(.var 0), eF])) [some (.l 0), none, none, none, none, none, none] [P o s c] = .ok (.nx [some (.l 0), some (.d (Sh a b)), none, none, none, none, none]) [P o1 s c1] :=
  evS_asg (ev_call2 (ev_var rfl) (five_ev _ _ _) (callP (fns2 rfl _ _ _) e1)) (by simp)
theorem gr2 {s o1 c1 o2 c2 o3 c3 r : Int} {a b x y m : Nat} (e2 : d__law_share [.l 0, .d (.int 1000)] [P o1 s c1] = .ok (.d (Sh x y)) [P o2 s c2]) (e3 : d__law_take [.l 0, .d (.int 40)] [P o2 s c2] = .ok (.d (.int r)) [P o3 s c3]) (hm : 1 + r = m) :
    evS F9 (.par [2, 3] [(.call 1 [(.var 0), (.const (.int 1000))]), (.bin .Add (.const (.int 1)) (.call 2 [(.var 0), (.const (.int 40))]))]) [some (.l 0), some (.d (Sh a b)), none, none, none, none, none] [P o1 s c1] =
      .ok (.nx [some (.l 0), some (.d (Sh a b)), some (.d (Sh x y)), some (.d (.int m)), none, none, none]) [P o3 s c3] := by
  have g1 : evCall (F9 1) [.l 0, .d (.int 1000)] [P o1 s c1] = .ok (.d (Sh x y)) [P o2 s c2] := callP (fns2 rfl _ _ _) e2
  have g2 : evCall (F9 2) [.l 0, .d (.int 40)] [P o2 s c2] = .ok (.d (.int r)) [P o3 s c3] := callP (fns2 rfl _ _ _) e3
  refine evS_par (ws := [.d (Sh x y), .d (.int m)]) ?_ ?_
  · simp [evs, ev, getE, g1, g2, evOp, opD, hm]
  · simp [setNs, setN]
theorem gr3 {S : Store} {a b x y m : Nat} (ha : a ≤ 10 ^ 30) (hb : b ≤ 10 ^ 30) (m40 : m ≤ 40) :
    evS F9 g3 [some (.l 0), some (.d (Sh a b)), some (.d (Sh x y)), some (.d (.int m)), none, none, none] S = .ok (.nx [some (.l 0), some (.d (Sh a b)), some (.d (Sh x y)), some (.d (.int m)), some (.d (Sh (a ^ m : Nat) (b ^ m : Nat))), none, none]) S := by
  have pa := product_ok (b := a) (m := m) (pow_big ha m40) (by omega)
  have pb := product_ok (b := b) (m := m) (pow_big hb m40) (by omega)
  have q1 : ∀ S, evCall (F9 3) [.d (.int (a : Int)), .d (.int (m : Int))] S = .ok (.d (.int (a ^ m : Nat))) S := fun S => call2 (fns2 rfl _ _ _) pa
  have q2 : ∀ S, evCall (F9 3) [.d (.int (b : Int)), .d (.int (m : Int))] S = .ok (.d (.int (b ^ m : Nat))) S := fun S => call2 (fns2 rfl _ _ _) pb
  refine evS_asg (w := .d (Sh (a ^ m : Nat) (b ^ m : Nat))) (ev_tup2 (ev_call2 ?_ (ev_var rfl) (q1 S)) (ev_call2 ?_ (ev_var rfl) (q2 S))) (by simp)
  · simp [ev, getE, Sh, evIx, seqOf, at_0]
  · simp [ev, getE, Sh, evIx, seqOf, at_1]
end K45
namespace K45
open PySem PySem.Spec PyProof.Rows L2 DL
theorem rep_sh (a b m : Nat) : Rep a b m = Sh (a ^ m : Nat) (b ^ m : Nat) := by simp [Rep, Sh]
theorem pow_dig {b m : Nat} (hb : b ≤ 10 ^ 30) (hm : m ≤ 40) : ((b ^ m : Nat) : Int).natAbs < digitL := by
  have h1 : b ^ m ≤ (2 ^ 100) ^ m := Nat.pow_le_pow_left (by omega) m
  rw [← Nat.pow_mul] at h1
  rw [Int.natAbs_natCast]
  have h2 : 2 ^ (100 * m) < 2 ^ 14000 := Nat.pow_lt_pow_right (by decide) (by omega)
  have := digit_of (i := ((b ^ m : Nat) : Int)) (by rw [Int.natAbs_natCast]; exact Nat.lt_of_le_of_lt h1 h2)
  rw [Int.natAbs_natCast] at this
  exact this
theorem gr4 {S : Store} {a b m : Nat} {w5 w6 : Option W} {xy : W} (h : ShOk a b (10 ^ 30)) (m0 : 0 < m) (m40 : m ≤ 40) :
    evS F9 (.ife (.cmp .NotEq (.bi .repr [(.call 4 [(.var 3), (.var 1)])]) (.bi .repr [(.var 4)])) [(.ret (.const (.bl false)))] []) [some (.l 0), some (.d (Sh a b)), some xy, some (.d (.int m)), some (.d (Sh (a ^ m : Nat) (b ^ m : Nat))), w5, w6] S =
      .ok (.nx [some (.l 0), some (.d (Sh a b)), some xy, some (.d (.int m)), some (.d (Sh (a ^ m : Nat) (b ^ m : Nat))), w5, w6]) S := by
  have h1 := h.h1
  have h3 := h.h3
  have r := repeated_ok (m := m) h (by decide) m0 m40
  rw [rep_sh] at r
  have q : evCall (F9 4) [.d (.int (m : Int)), .d (Sh a b)] S = .ok (.d (Sh (a ^ m : Nat) (b ^ m : Nat))) S := call2 (fns2r rfl _ _ _) r
  exact evS_skip (repr_ne (ev_call2 (ev_var rfl) (ev_var rfl) q) (ev_var rfl) (shw_sh (pow_dig (by omega) m40) (pow_dig (by omega) m40)))
theorem lE_ok {fns : Nat → Fn} {r p q : Nat} {env : Ev} {S : Store} {rows : Int} {a b x y : Nat} (h1 : env[r]? = some (some (.d (.int rows)))) (h2 : env[p]? = some (some (.d (Sh a b)))) (h3 : env[q]? = some (some (.d (Sh x y)))) (hm : mulOk ((b : Int) - a) ((y : Int) - x) = true) :
    ev fns (lE r p q) env S = .ok (.d (.tup [.int (rows - ((b : Int) - a) * ((y : Int) - x)), .int rows])) S := by
  unfold lE
  refine ev_tup2 ?_ (ev_var h1)
  simp [ev, getE, h1, h2, h3, Sh, evIx, seqOf, at_0, at_1, evOp, opD, hm]
theorem gr6 {S : Store} {a b x y : Nat} {mm w4 w6 : Option W} {B C : Int} (h : ShOk a b B) (h' : ShOk x y C) (hB : B ≤ 10 ^ 30) (hC : C ≤ 10 ^ 30) :
    evB F9 (.cmp .NotEq (.bi .repr [(.call 5 [(.var 2), (.var 1)])]) (.bi .repr [lE 5 1 2])) [some (.l 0), some (.d (Sh a b)), some (.d (Sh x y)), mm, w4, some (.d (.int ((b : Int) * y))), w6] S = .ok false S := by
  have q : evCall (F9 5) [.d (Sh x y), .d (Sh a b)] S = .ok (.d (Led a b x y)) S := call2 (fns2r rfl _ _ _) (led_ok h h' hB hC)
  have i0 := h.h0
  have i1 := h.h1
  have i3 := h.h3
  have j0 := h'.h0
  have j1 := h'.h1
  have j3 := h'.h3
  exact repr_ne (ev_call2 (ev_var rfl) (ev_var rfl) q) (lE_ok rfl rfl rfl (mulOk_big (small_big (by omega) (by omega)) (small_big (by omega) (by omega)))) (led_shw h h' hB hC)
theorem gr5 {S : Store} {a b x y : Nat} {mm w4 w5 w6 : Option W} (hm : mulOk (b : Int) (y : Int) = true) :
    evS F9 (.asg (.name 5) (.bin .Mult (.ix (.var 1) (.const (.int 1))) (.ix (.var 2) (.const (.int 1))))) [some (.l 0), some (.d (Sh a b)), some (.d (Sh x y)), mm, w4, w5, w6] S = .ok (.nx [some (.l 0), some (.d (Sh a b)), some (.d (Sh x y)), mm, w4, some (.d (.int ((b : Int) * y))), w6]) S := by
  refine evS_asg (w := .d (.int ((b : Int) * y))) ?_ (by simp)
  simp [ev, getE, Sh, evIx, seqOf, at_1, evOp, opD, hm]
theorem gr7 {S : Store} {x y : Nat} {w1 mm w4 w5 w6 : Option W} (h1 : mulOk (x : Int) (x : Int) = true) (h2 : mulOk (y : Int) (y : Int) = true) :
    evS F9 (.asg (.name 6) (.tup [(.bin .Mult (.ix (.var 2) (.const (.int 0))) (.ix (.var 2) (.const (.int 0)))), (.bin .Mult (.ix (.var 2) (.const (.int 1))) (.ix (.var 2) (.const (.int 1))))])) [some (.l 0), w1, some (.d (Sh x y)), mm, w4, w5, w6] S =
      .ok (.nx [some (.l 0), w1, some (.d (Sh x y)), mm, w4, w5, some (.d (Sh (x * x : Nat) (y * y : Nat)))]) S := by
  refine evS_asg (w := .d (Sh (x * x : Nat) (y * y : Nat))) (ev_tup2 (st1 := S) ?_ ?_) (by simp)
  · simp [ev, getE, Sh, evIx, seqOf, at_0, evOp, opD, h1]
  · simp [ev, getE, Sh, evIx, seqOf, at_1, evOp, opD, h2]
end K45
namespace K45
open PySem PySem.Spec PyProof.Rows L2 DL
theorem gr8 {S : Store} {a b X Y : Nat} {xy mm w4 w5 : Option W} (hm : mulOk (b : Int) (Y : Int) = true) :
    evS F9 (.asg (.name 5) (.bin .Mult (.ix (.var 1) (.const (.int 1))) (.ix (.var 6) (.const (.int 1))))) [some (.l 0), some (.d (Sh a b)), xy, mm, w4, w5, some (.d (Sh X Y))] S = .ok (.nx [some (.l 0), some (.d (Sh a b)), xy, mm, w4, some (.d (.int ((b : Int) * Y))), some (.d (Sh X Y))]) S := by
  refine evS_asg (w := .d (.int ((b : Int) * Y))) ?_ (by simp)
  simp [ev, getE, Sh, evIx, seqOf, at_1, evOp, opD, hm]
theorem rep_two (x y : Nat) : Rep x y 2 = Sh (x * x : Nat) (y * y : Nat) := by rw [rep_sh, Nat.pow_two, Nat.pow_two]
theorem gr9 {S : Store} {a b x y : Nat} {mm w4 : Option W} {B C : Int} (h : ShOk a b B) (h' : ShOk x y C) (h2 : ShOk (x * x : Nat) (y * y : Nat) (10 ^ 30)) (hB : B ≤ 10 ^ 30) (hC : C ≤ 10 ^ 30) :
    evB F9 (.cmp .NotEq (.bi .repr [(.call 6 [(.var 1), (.call 7 [(.var 2), (.const (.int 2))])])]) (.bi .repr [lE 5 1 6])) [some (.l 0), some (.d (Sh a b)), some (.d (Sh x y)), mm, w4, some (.d (.int ((b : Int) * (y * y : Nat)))), some (.d (Sh (x * x : Nat) (y * y : Nat)))] S = .ok false S := by
  have r := repeated_ok (m := 2) h' hC (by decide) (by decide)
  rw [rep_two] at r
  have q7 : evCall (F9 7) [.d (Sh x y), .d (.int 2)] S = .ok (.d (Sh (x * x : Nat) (y * y : Nat))) S := call2 (fns2 rfl _ _ _) r
  have q : evCall (F9 6) [.d (Sh a b), .d (Sh (x * x : Nat) (y * y : Nat))] S = .ok (.d (Led a b (x * x : Nat) (y * y : Nat))) S := call2 (fns2 rfl _ _ _) (led_ok h h2 hB (by decide))
  have i0 := h.h0
  have i1 := h.h1
  have i3 := h.h3
  have j0 := h2.h0
  have j1 := h2.h1
  have j3 := h2.h3
  exact repr_ne (ev_call2 (ev_var rfl) (ev_call2 (ev_var rfl) (by rw [ev]) q7) q) (lE_ok rfl rfl rfl (mulOk_big (small_big (by omega) (by omega)) (small_big (by omega) (by omega)))) (led_shw h h2 hB (by decide))
theorem gE_ok {fns : Nat → Fn} {env : Ev} {S : Store} {a b x y : Nat} (h1 : env[1]? = some (some (.d (Sh a b)))) (h2 : env[2]? = some (some (.d (Sh x y)))) (m1 : mulOk (x : Int) b = true) (m2 : mulOk (a : Int) y = true) :
    ev fns gE env S = .ok (.d (Gr a b x y)) S := by
  unfold gE
  by_cases c : (a : Int) * y < x * b
  · simp [Gr, ev, evB, getE, h1, h2, Sh, evIx, seqOf, at_0, at_1, evOp, opD, evCmp, cmpD, c, m1, m2]
  · simp [Gr, ev, evB, getE, h1, h2, Sh, evIx, seqOf, at_0, at_1, evOp, opD, evCmp, cmpD, c, m1, m2]
theorem gr_shw {a b x y : Nat} {B C : Int} (h : ShOk a b B) (h' : ShOk x y C) (hB : B ≤ 10 ^ 30) (hC : C ≤ 10 ^ 30) : shw (Gr a b x y) = true := by
  have i0 := h.h0
  have i1 := h.h1
  have i3 := h.h3
  have j0 := h'.h0
  have j1 := h'.h1
  have j3 := h'.h3
  unfold Gr
  split
  · exact shw_sh (small_dig (by omega) (by omega)) (small_dig (by omega) (by omega))
  · exact shw_sh (small_dig (by omega) (by omega)) (small_dig (by omega) (by omega))
theorem gr10 {S : Store} {a b x y : Nat} {mm w4 w5 w6 : Option W} {B C : Int} (h : ShOk a b B) (h' : ShOk x y C) (hB : B ≤ 10 ^ 30) (hC : C ≤ 10 ^ 30) :
    evS F9 (.asg (.name 4) gE) [some (.l 0), some (.d (Sh a b)), some (.d (Sh x y)), mm, w4, w5, w6] S = .ok (.nx [some (.l 0), some (.d (Sh a b)), some (.d (Sh x y)), mm, some (.d (Gr a b x y)), w5, w6]) S := by
  have i0 := h.h0
  have i1 := h.h1
  have i3 := h.h3
  have j0 := h'.h0
  have j1 := h'.h1
  have j3 := h'.h3
  exact evS_asg (gE_ok rfl rfl (mulOk_big (small_big (by omega) (by omega)) (small_big (by omega) (by omega))) (mulOk_big (small_big (by omega) (by omega)) (small_big (by omega) (by omega)))) (by simp)
theorem gr11 {S : Store} {a b x y : Nat} {mm w5 w6 : Option W} {B C : Int} (h : ShOk a b B) (h' : ShOk x y C) (hB : B ≤ 10 ^ 30) (hC : C ≤ 10 ^ 30) :
    evS F9 (.ret (.cmp .Eq (.bi .repr [(.call 8 [(.var 1), (.var 2)])]) (.bi .repr [(.var 4)]))) [some (.l 0), some (.d (Sh a b)), some (.d (Sh x y)), mm, some (.d (Gr a b x y)), w5, w6] S = .ok (.rt (.d (.bl true))) S := by
  have q : evCall (F9 8) [.d (Sh a b), .d (Sh x y)] S = .ok (.d (Gr a b x y)) S := call2 (fns2 rfl _ _ _) (greater_ok h h' hB hC)
  exact evS_ret (repr_eq (ev_call2 (ev_var rfl) (ev_var rfl) q) (ev_var rfl) (gr_shw h h' hB hC))
theorem great_right_ok {k o s c : Int} (p : Pot k o s c) (hk : k < 2 ^ 28) : ∃ o' c', d__law_are_great_right [.l 0] [P o s c] = .ok (.d (.bl true)) [P o' s c'] ∧ Pot (k + 4) o' s c' := by
  obtain ⟨i, d, o1, c1, e1, hd, p1⟩ := of_ok (ds := five) p (by omega) (by decide) (by decide)
  obtain ⟨a, b, rfl, h⟩ := five_ok hd
  obtain ⟨x, y, o2, c2, e2, h', p2⟩ := share_ok (m := 1000) p1 (by omega) (by decide) (by decide)
  obtain ⟨r, o3, c3, e3, r0, r1, p3⟩ := take_ok (upto := 40) p2 (by omega) (by decide) (by decide)
  obtain ⟨x, rfl⟩ : ∃ x' : Nat, x = x' := ⟨x.toNat, by have := h'.h0; omega⟩
  obtain ⟨y, rfl⟩ : ∃ y' : Nat, y = y' := ⟨y.toNat, by have := h'.h0; have := h'.h1; omega⟩
  obtain ⟨m, hm⟩ : ∃ m : Nat, 1 + r = m := ⟨(1 + r).toNat, by omega⟩
  have i1 := h.h1
  have i2 := h.h2
  have i3 := h.h3
  have j1 := h'.h1
  have j2 := h'.h2
  have j3 := h'.h3
  have xx : x * x ≤ y * y := Nat.mul_le_mul (by omega) (by omega)
  have yy : y * y ≤ 1000 * 1000 := Nat.mul_le_mul (by omega) (by omega)
  have y1 : 1 * 1 ≤ y * y := Nat.mul_le_mul (by omega) (by omega)
  have h2 : ShOk (x * x : Nat) (y * y : Nat) (10 ^ 30) := ⟨by omega, by omega, by omega, by omega⟩
  refine ⟨o3, c3, ?_, by rw [show k + 4 = k + 1 + 2 + 1 by omega]; exact p3⟩
  have hB : (10 : Int) ^ 30 ≤ 10 ^ 30 := Int.le_refl _
  have hC : (1000 : Int) ≤ 10 ^ 30 := by decide
  refine evF_rt ?_
  rw [great_shape]
  refine (evSs_nx (gr1 e1)).trans ?_
  refine (evSs_nx (gr2 e2 e3 hm)).trans ?_
  refine (evSs_nx (gr3 (by omega) (by omega) (by omega))).trans ?_
  refine (evSs_nx (gr4 h (by omega) (by omega))).trans ?_
  refine (evSs_nx (gr5 (mulOk_big (small_big (by omega) (by omega)) (small_big (by omega) (by omega))))).trans ?_
  refine (evSs_nx (evS_skip (gr6 h h' hB hC))).trans ?_
  refine (evSs_nx (gr7 (mulOk_big (small_big (by omega) (by omega)) (small_big (by omega) (by omega))) (mulOk_big (small_big (by omega) (by omega)) (small_big (by omega) (by omega))))).trans ?_
  refine (evSs_nx (gr8 (mulOk_big (small_big (by omega) (by omega)) (small_big (by omega) (by omega))))).trans ?_
  refine (evSs_nx (evS_skip (gr9 h h' h2 hB hC))).trans ?_
  refine (evSs_nx (gr10 h h' hB hC)).trans ?_
  exact evSs_rt (gr11 h h' hB hC)
end K45
namespace K45
open PySem PySem.Spec PyProof.Rows L2 DL
abbrev T10 := t__law_right
abbrev F10 := fnsOf T10
theorem right_shape : b__law_right = [(.par [1, 2, 3] [(.call 0 [(.var 0), (.const (.int 6))]), (.call 0 [(.var 0), (.const (.int 12))]), (.bin .Add (.const (.int 1)) (.call 1 [(.var 0), (.const (.int 4))]))]), (.ife (.cmp .NotEq (.bi .repr [(.call 2 [(.var 1), (.var 3)])]) (.bi .repr [(.call 3 [(.var 1), (.var 3)])])) [(.ret (.const (.bl false)))] []), (.ife (.cmp .NotEq (.bi .repr [(.call 4 [(.var 1), (.var 2)])]) (.bi .repr [(.call 5 [(.var 1), (.var 2)])])) [(.ret (.const (.bl false)))] []), (.ife (.cmp .NotEq (.bi .repr [(.call 4 [(.var 2), (.var 1)])]) (.bi .repr [(.call 5 [(.var 2), (.var 1)])])) [(.ret (.const (.bl false)))] []),
  (.asg (.name 4) (.tup [(.bin .Mult (.const (.int 2)) (.ix (.var 1) (.const (.int 0)))), (.bin .Mult (.const (.int 2)) (.ix (.var 1) (.const (.int 1))))])), (.ife (.cmp .NotEq (.bi .repr [(.lst false [(.call 6 [(.var 1), (.var 4)]), (.call 6 [(.var 4), (.var 1)])])]) (.bi .repr [(.lst false [(.var 1), (.var 4)])])) [(.ret (.const (.bl false)))] []), (.asg (.name 5) gE), (.ret (.bop true [(.cmp .Eq (.bi .repr [(.call 7 [(.var 2), (.var 1)])]) (.bi .repr [(.var 5)])), (.call 8 [(.var 0)])]))] := rfl
theorem ri1 {o s c o1 c1 o2 c2 o3 c3 r : Int} {a b x y m : Nat} (e1 : d__law_share [.l 0, .d (.int 6)] [P o s c] = .ok (.d (Sh a b)) [P o1 s c1]) (e2 : d__law_share [.l 0, .d (.int 12)] [P o1 s c1] = .ok (.d (Sh x y)) [P o2 s c2])
    (e3 : d__law_take [.l 0, .d (.int 4)] [P o2 s c2] = .ok (.d (.int r)) [P o3 s c3]) (hm : 1 + r = m) :
    evS F10 (.par [1, 2, 3] [(.call 0 [(.var 0), (.const (.int 6))]), (.call 0 [(.var 0), (.const (.int 12))]), (.bin .Add (.const (.int 1)) (.call 1 [(.var 0), (.const (.int 4))]))]) [some (.l 0), none, none, none, none, none] [P o s c] =
      .ok (.nx [some (.l 0), some (.d (Sh a b)), some (.d (Sh x y)), some (.d (.int m)), none, none]) [P o3 s c3] := by
  have g1 : evCall (F10 0) [.l 0, .d (.int 6)] [P o s c] = .ok (.d (Sh a b)) [P o1 s c1] := callP (fns2 rfl _ _ _) e1
  have g2 : evCall (F10 0) [.l 0, .d (.int 12)] [P o1 s c1] = .ok (.d (Sh x y)) [P o2 s c2] := callP (fns2 rfl _ _ _) e2
  have g3 : evCall (F10 1) [.l 0, .d (.int 4)] [P o2 s c2] = .ok (.d (.int r)) [P o3 s c3] := callP (fns2 rfl _ _ _) e3
  refine evS_par (ws := [.d (Sh a b), .d (Sh x y), .d (.int m)]) ?_ ?_
  · simp [evs, ev, getE, g1, g2, g3, evOp, opD, hm]
  · simp [setNs, setN]
theorem ri2 {S : Store} {a b m : Nat} {pt xy w4 w5 : Option W} (h : ShOk a b 6) (m0 : 0 < m) (m4 : m ≤ 4) :
    evB F10 (.cmp .NotEq (.bi .repr [(.call 2 [(.var 1), (.var 3)])]) (.bi .repr [(.call 3 [(.var 1), (.var 3)])])) [pt, some (.d (Sh a b)), xy, some (.d (.int m)), w4, w5] S = .ok false S := by
  have h1 := h.h1
  have h3 := h.h3
  have r := repeated_ok (m := m) h (by decide) m0 (by omega)
  rw [rep_sh] at r
  obtain ⟨S', r'⟩ := rows_all_ok (a := a) (b := b) (m := m) (by omega) (by omega) m4
  have q : evCall (F10 2) [.d (Sh a b), .d (.int (m : Int))] S = .ok (.d (Sh (a ^ m : Nat) (b ^ m : Nat))) S := call2 (fns2 rfl _ _ _) r
  have q' : evCall (F10 3) [.d (Sh a b), .d (.int (m : Int))] S = .ok (.d (Sh (a ^ m : Nat) (b ^ m : Nat))) S := call2 (fns2 rfl _ _ _) r'
  exact repr_ne (ev_call2 (ev_var rfl) (ev_var rfl) q) (ev_call2 (ev_var rfl) (ev_var rfl) q') (shw_sh (pow_dig (by omega) (by omega)) (pow_dig (by omega) (by omega)))
theorem ri3 {S : Store} {a b x y : Nat} {pt mm w4 w5 : Option W} (h : ShOk a b 6) (h' : ShOk x y 12) :
    evB F10 (.cmp .NotEq (.bi .repr [(.call 4 [(.var 1), (.var 2)])]) (.bi .repr [(.call 5 [(.var 1), (.var 2)])])) [pt, some (.d (Sh a b)), some (.d (Sh x y)), mm, w4, w5] S = .ok false S := by
  have i1 := h.h1
  have i3 := h.h3
  have j1 := h'.h1
  have j3 := h'.h3
  obtain ⟨S', r'⟩ := rows_led_ok (a := a) (b := b) (x := x) (y := y) (by omega) (by omega) (by omega) (by omega)
  have q : evCall (F10 4) [.d (Sh a b), .d (Sh x y)] S = .ok (.d (Led a b x y)) S := call2 (fns2 rfl _ _ _) (led_ok h h' (by decide) (by decide))
  have q' : evCall (F10 5) [.d (Sh a b), .d (Sh x y)] S = .ok (.d (Led a b x y)) S := call2 (fns2 rfl _ _ _) r'
  exact repr_ne (ev_call2 (ev_var rfl) (ev_var rfl) q) (ev_call2 (ev_var rfl) (ev_var rfl) q') (led_shw h h' (by decide) (by decide))
theorem ri4 {S : Store} {a b x y : Nat} {pt mm w4 w5 : Option W} (h : ShOk a b 6) (h' : ShOk x y 12) :
    evB F10 (.cmp .NotEq (.bi .repr [(.call 4 [(.var 2), (.var 1)])]) (.bi .repr [(.call 5 [(.var 2), (.var 1)])])) [pt, some (.d (Sh a b)), some (.d (Sh x y)), mm, w4, w5] S = .ok false S := by
  have i1 := h.h1
  have i3 := h.h3
  have j1 := h'.h1
  have j3 := h'.h3
  obtain ⟨S', r'⟩ := rows_led_ok (a := x) (b := y) (x := a) (y := b) (by omega) (by omega) (by omega) (by omega)
  have q : evCall (F10 4) [.d (Sh x y), .d (Sh a b)] S = .ok (.d (Led x y a b)) S := call2 (fns2 rfl _ _ _) (led_ok h' h (by decide) (by decide))
  have q' : evCall (F10 5) [.d (Sh x y), .d (Sh a b)] S = .ok (.d (Led x y a b)) S := call2 (fns2 rfl _ _ _) r'
  exact repr_ne (ev_call2 (ev_var rfl) (ev_var rfl) q) (ev_call2 (ev_var rfl) (ev_var rfl) q') (led_shw h' h (by decide) (by decide))
theorem ri5 {S : Store} {a b : Nat} {pt xy mm w4 w5 : Option W} (h : ShOk a b 6) :
    evS F10 (.asg (.name 4) (.tup [(.bin .Mult (.const (.int 2)) (.ix (.var 1) (.const (.int 0)))), (.bin .Mult (.const (.int 2)) (.ix (.var 1) (.const (.int 1))))])) [pt, some (.d (Sh a b)), xy, mm, w4, w5] S =
      .ok (.nx [pt, some (.d (Sh a b)), xy, mm, some (.d (Sh (2 * a : Nat) (2 * b : Nat))), w5]) S := by
  have i1 := h.h1
  have i3 := h.h3
  have m1 : mulOk 2 (a : Int) = true := mulOk_big (small_big (by omega) (by omega)) (small_big (by omega) (by omega))
  have m2 : mulOk 2 (b : Int) = true := mulOk_big (small_big (by omega) (by omega)) (small_big (by omega) (by omega))
  refine evS_asg (w := .d (Sh (2 * a : Nat) (2 * b : Nat))) (ev_tup2 (st1 := S) ?_ ?_) (by simp)
  · simp [ev, getE, Sh, evIx, seqOf, at_0, evOp, opD, m1]
  · simp [ev, getE, Sh, evIx, seqOf, at_1, evOp, opD, m2]
theorem gr_same {a b x y : Int} (h : a * y = x * b) : Gr a b x y = Sh a b := by
  unfold Gr
  rw [if_neg (by omega)]
theorem shw_two {a b x y : Int} (ha : a.natAbs < digitL) (hb : b.natAbs < digitL) (hx : x.natAbs < digitL) (hy : y.natAbs < digitL) : shw (.lst [Sh a b, Sh x y]) = true := by
  simp [shw, Sh, sh, shs, D.py, D.pys, tells, tellsAll, txOk, txOks, wt, wts, lineS, ha, hb, hx, hy]
theorem ev_lst2 {fns : Nat → Fn} {e1 e2 : E} {env : Ev} {st st1 st2 : Store} {u v : D} (h1 : ev fns e1 env st = .ok (.d u) st1) (h2 : ev fns e2 env st1 = .ok (.d v) st2) : ev fns (.lst false [e1, e2]) env st = .ok (.d (.lst [u, v])) st2 := by
  rw [ev, evs, h1]
  simp only [Out.bind_ok]
  rw [evs, h2]
  simp only [Out.bind_ok]
  rw [evs]
  simp only [Out.bind_ok]
  exact newL_data (show 2 ≤ lineS by decide) rfl
theorem ri6 {S : Store} {a b : Nat} {pt xy mm w5 : Option W} (h : ShOk a b 6) :
    evB F10 (.cmp .NotEq (.bi .repr [(.lst false [(.call 6 [(.var 1), (.var 4)]), (.call 6 [(.var 4), (.var 1)])])]) (.bi .repr [(.lst false [(.var 1), (.var 4)])])) [pt, some (.d (Sh a b)), xy, mm, some (.d (Sh (2 * a : Nat) (2 * b : Nat))), w5] S = .ok false S := by
  have i0 := h.h0
  have i1 := h.h1
  have i2 := h.h2
  have i3 := h.h3
  have h' : ShOk (2 * a : Nat) (2 * b : Nat) 12 := ⟨by omega, by omega, by omega, by omega⟩
  have r := greater_ok h h' (by decide) (by decide)
  have r' := greater_ok h' h (by decide) (by decide)
  have e : (a : Int) * (2 * b : Nat) = (2 * a : Nat) * (b : Int) := by
    have : a * (2 * b) = 2 * a * b := by rw [Nat.mul_comm 2 a, Nat.mul_assoc]
    exact_mod_cast this
  rw [gr_same e] at r
  rw [gr_same e.symm] at r'
  have q : evCall (F10 6) [.d (Sh a b), .d (Sh (2 * a : Nat) (2 * b : Nat))] S = .ok (.d (Sh a b)) S := call2 (fns2 rfl _ _ _) r
  have q' : evCall (F10 6) [.d (Sh (2 * a : Nat) (2 * b : Nat)), .d (Sh a b)] S = .ok (.d (Sh (2 * a : Nat) (2 * b : Nat))) S := call2 (fns2 rfl _ _ _) r'
  exact repr_ne (ev_lst2 (ev_call2 (ev_var rfl) (ev_var rfl) q) (ev_call2 (ev_var rfl) (ev_var rfl) q')) (ev_lst2 (ev_var rfl) (ev_var rfl))
    (shw_two (small_dig (by omega) (by omega)) (small_dig (by omega) (by omega)) (small_dig (by omega) (by omega)) (small_dig (by omega) (by omega)))
theorem ri7 {S : Store} {a b x y : Nat} {pt mm w4 w5 : Option W} (h : ShOk a b 6) (h' : ShOk x y 12) :
    evS F10 (.asg (.name 5) gE) [pt, some (.d (Sh a b)), some (.d (Sh x y)), mm, w4, w5] S = .ok (.nx [pt, some (.d (Sh a b)), some (.d (Sh x y)), mm, w4, some (.d (Gr a b x y))]) S := by
  have i1 := h.h1
  have i3 := h.h3
  have j1 := h'.h1
  have j3 := h'.h3
  exact evS_asg (gE_ok rfl rfl (mulOk_big (small_big (by omega) (by omega)) (small_big (by omega) (by omega))) (mulOk_big (small_big (by omega) (by omega)) (small_big (by omega) (by omega)))) (by simp)
theorem ev_and2 {fns : Nat → Fn} {e1 e2 : E} {env : Ev} {st st1 st2 : Store} {w : W} (h1 : ev fns e1 env st = .ok (.d (.bl true)) st1) (h2 : ev fns e2 env st1 = .ok w st2) : ev fns (.bop true [e1, e2]) env st = .ok w st2 := by
  simp [ev, evBop, h1, tru, h2]
theorem ri8 {o s c o1 c1 : Int} {a b x y : Nat} {mm w4 : Option W} (h : ShOk a b 6) (h' : ShOk x y 12) (e : d__law_are_great_right [.l 0] [P o s c] = .ok (.d (.bl true)) [P o1 s c1]) :
    evS F10 (.ret (.bop true [(.cmp .Eq (.bi .repr [(.call 7 [(.var 2), (.var 1)])]) (.bi .repr [(.var 5)])), (.call 8 [(.var 0)])])) [some (.l 0), some (.d (Sh a b)), some (.d (Sh x y)), mm, w4, some (.d (Gr a b x y))] [P o s c] = .ok (.rt (.d (.bl true))) [P o1 s c1] := by
  have q : ∀ S, evCall (F10 7) [.d (Sh x y), .d (Sh a b)] S = .ok (.d (Gr a b x y)) S := fun S => call2 (fns2r rfl _ _ _) (greater_ok h h' (by decide) (by decide))
  have q' : evCall (F10 8) [.l 0] [P o s c] = .ok (.d (.bl true)) [P o1 s c1] := callP0 (fns1 rfl _ _) e
  exact evS_ret (ev_and2 (repr_eq (ev_call2 (ev_var rfl) (ev_var rfl) (q _)) (ev_var rfl) (gr_shw h h' (by decide) (by decide))) (ev_call1 (ev_var rfl) q'))
theorem right_ok {k o s c : Int} (p : Pot k o s c) (hk : k < 2 ^ 27) : ∃ o' c', d__law_right [.l 0] [P o s c] = .ok (.d (.bl true)) [P o' s c'] := by
  obtain ⟨a, b, o1, c1, e1, h, p1⟩ := share_ok (m := 6) p (by omega) (by decide) (by decide)
  obtain ⟨x, y, o2, c2, e2, h', p2⟩ := share_ok (m := 12) p1 (by omega) (by decide) (by decide)
  obtain ⟨r, o3, c3, e3, r0, r1, p3⟩ := take_ok (upto := 4) p2 (by omega) (by decide) (by decide)
  obtain ⟨o4, c4, e4, p4⟩ := great_right_ok p3 (by omega)
  obtain ⟨a, rfl⟩ : ∃ x' : Nat, a = x' := ⟨a.toNat, by have := h.h0; omega⟩
  obtain ⟨b, rfl⟩ : ∃ y' : Nat, b = y' := ⟨b.toNat, by have := h.h0; have := h.h1; omega⟩
  obtain ⟨x, rfl⟩ : ∃ x' : Nat, x = x' := ⟨x.toNat, by have := h'.h0; omega⟩
  obtain ⟨y, rfl⟩ : ∃ y' : Nat, y = y' := ⟨y.toNat, by have := h'.h0; have := h'.h1; omega⟩
  obtain ⟨m, hm⟩ : ∃ m : Nat, 1 + r = m := ⟨(1 + r).toNat, by omega⟩
  refine ⟨o4, c4, ?_⟩
  refine evF_rt ?_
  rw [right_shape]
  refine (evSs_nx (ri1 e1 e2 e3 hm)).trans ?_
  refine (evSs_nx (evS_skip (ri2 h (by omega) (by omega)))).trans ?_
  refine (evSs_nx (evS_skip (ri3 h h'))).trans ?_
  refine (evSs_nx (evS_skip (ri4 h h'))).trans ?_
  refine (evSs_nx (ri5 h)).trans ?_
  refine (evSs_nx (evS_skip (ri6 h))).trans ?_
  refine (evSs_nx (ri7 h h')).trans ?_
  exact evSs_rt (ri8 h h' e4)
end K45
namespace K45
open PySem PySem.Spec PyProof.Rows L2 DL
abbrev F11 := fnsOf t__law_pot
def cell (ns : List Int) (i : Nat) : Int := if h : i < ns.length then ns[i] else 529
theorem po1 {ns : List Int} {i : Nat} (hi : i < ns.length ∨ (ns = [] ∧ i = 0)) :
    evS F11 (.asg (.name 2) (.ifx (.cmp .Lt (.var 1) (.bi .len [(.var 0)])) (.ix (.var 0) (.var 1)) (.bin .Add (.bin .Add (.bin .Mod (.bi .sum [(.slice (.var 0) (.const .non) (.const (.int 1)) false true)]) (.const (.int 1000003))) (.bin .Mult (.const (.int 1154)) (.var 1))) (.const (.int 529)))))
      [some (.d (.rol (ns.map .int))), some (.d (.int i)), none, none, none] [] = .ok (.nx [some (.d (.rol (ns.map .int))), some (.d (.int i)), some (.d (.int (cell ns i))), none, none]) [] := by
  refine evS_asg (w := .d (.int (cell ns i))) ?_ (by simp)
  rcases hi with h | ⟨h, h0⟩
  · simp [ev, evs, evB, getE, evBi, evBi1, biLen, seqOf, evCmp, cmpD, h, evIx, at_nat, cell]
  · subst h h0
    have m0 : mulOk 1154 0 = true := by decide +kernel
    simp [ev, evs, evB, getE, evBi, evBi1, biLen, seqOf, evCmp, cmpD, evSlice, boundI, cut_, lseq, intsOf, evOp, opD, m0, cell]
def eN : DL.E := (.bin .Pow (.bin .Pow (.const (.int 10)) (.const (.int 60))) (.const (.int 5)))
def N300 : Int := 10 ^ 300
theorem N_pos : 0 < N300 := by decide +kernel
theorem N_big : N300.natAbs < big := Nat.lt_of_lt_of_le (show N300.natAbs < 2 ^ 1000 by decide +kernel) (Nat.pow_le_pow_right (by decide) (by decide))
theorem N_eq : ((10 : Int) ^ 60) ^ 5 = N300 := by decide +kernel
theorem eN_ok (fns : Nat → Fn) (env : Ev) (S : Store) : ev fns eN env S = .ok (.d (.int N300)) S := by
  have p1 : powOk 10 60 = true := powOk_big (small_big (by decide) (by decide)) (by decide) (by decide)
  have p2 : powOk (10 ^ 60) 5 = true := powOk_big (big_lt (by decide)) (by decide) (by decide)
  have e1 : opD .Pow (.int 10) (.int 60) = some (.int (10 ^ 60)) := by
    unfold opD
    simp only
    rw [if_pos p1]
    rfl
  have e2 : opD .Pow (.int (10 ^ 60)) (.int 5) = some (.int N300) := by
    unfold opD
    simp only
    rw [if_pos p2, ← N_eq]
    rfl
  unfold eN
  have g1 : evOp .Pow (.d (.int 10)) (.d (.int 60)) S = .ok (.d (.int (10 ^ 60))) S := by
    simp only [evOp]
    rw [e1]
    rfl
  simp only [ev, Out.bind_ok]
  rw [g1]
  simp only [Out.bind_ok]
  simp only [evOp]
  rw [e2]
  rfl
end K45
namespace K45
open PySem PySem.Spec PyProof.Rows L2 DL
def own (v : Int) : Int := (if v < 0 then -v else v) % N300 * (if (10 ^ 18 : Int) ≤ (if v < 0 then -v else v) then 1 else 0)
theorem own_ok (v : Int) : 0 ≤ own v ∧ (own v).natAbs < big := by
  have h := N_pos
  have hb := N_big
  unfold own
  obtain ⟨A, hA⟩ : ∃ A, (if v < 0 then -v else v) = A := ⟨_, rfl⟩
  rw [hA]
  have h1 : 0 ≤ A % N300 := Int.emod_nonneg _ (by omega)
  have h2 : A % N300 < N300 := Int.emod_lt_of_pos _ h
  split
  · rw [Int.mul_one]
    exact ⟨h1, by omega⟩
  · rw [Int.mul_zero]
    exact ⟨by decide, by omega⟩
theorem po2 {v : Int} {sc i : Option W} :
    evS F11 (.asg (.name 3) (.bin .Mult (.bin .Mod (.bi .int [(.bi .abs [(.var 2)])]) eN) (.bi .int [(.cmp .GtE (.bi .abs [(.var 2)]) (.bin .Pow (.const (.int 10)) (.const (.int 18))))])))
      [sc, i, some (.d (.int v)), none, none] [] = .ok (.nx [sc, i, some (.d (.int v)), some (.d (.int (own v))), none]) [] := by
  refine evS_asg (w := .d (.int (own v))) ?_ (by simp)
  have h := N_pos
  have hb := N_big
  obtain ⟨A, hA⟩ : ∃ A, (if v < 0 then -v else v) = A := ⟨_, rfl⟩
  have h1 : 0 ≤ A % N300 := Int.emod_nonneg _ (by omega)
  have h2 : A % N300 < N300 := Int.emod_lt_of_pos _ h
  have m1 : mulOk (A % N300) 1 = true := mulOk_big (by omega) (small_big (by decide) (by decide))
  have m0 : mulOk (A % N300) 0 = true := mulOk_big (by omega) (small_big (by decide) (by decide))
  have p1 : powOk 10 18 = true := powOk_big (small_big (by decide) (by decide)) (by decide) (by decide)
  unfold own
  rw [hA]
  by_cases c : (1000000000000000000 : Int) ≤ A
  · simp [ev, evs, getE, evBi, evBi1, biAbs, biInt, hA, eN_ok, evOp, opD, h, p1, evCmp, cmpD, c, m1]
  · simp [ev, evs, getE, evBi, evBi1, biAbs, biInt, hA, eN_ok, evOp, opD, h, p1, evCmp, cmpD, c, m0]
theorem po3 {v : Int} {sc i o : Option W} :
    evS F11 (.asg (.name 4) (.bin .Mod (.bi .int [(.var 2)]) (.const (.int 2305843009213693951))))
      [sc, i, some (.d (.int v)), o, none] [] = .ok (.nx [sc, i, some (.d (.int v)), o, some (.d (.int (v % 2305843009213693951)))]) [] := by
  refine evS_asg (w := .d (.int (v % 2305843009213693951))) ?_ (by simp)
  simp [ev, evs, getE, evBi, evBi1, biInt, evOp, opD]
def mixed (m : Int) (i : Nat) : Int := (m * 73199 + 8093 * i * i + 470) % 2305843009213693921
theorem po4 {m o : Int} {i : Nat} {sc v : Option W} (hi : i ≤ 2) (h0 : 0 ≤ m) (h1 : m < 2 ^ 62) :
    evS F11 (.ret (.lst true [(.var 3), (.bin .Mod (.bi .int [(.bin .Add (.bin .Add (.bin .Mult (.var 4) (.const (.int 73199))) (.bin .Mult (.bin .Mult (.const (.int 8093)) (.var 1)) (.var 1))) (.const (.int 470)))]) (.const (.int 2305843009213693921))), (.const (.int 0))]))
      [sc, some (.d (.int i)), v, some (.d (.int o)), some (.d (.int m))] [] = .ok (.rt (.l 0)) [P o (mixed m i) 0] := by
  have m1 : mulOk m 73199 = true := mulOk_big (small_big (by omega) (by omega)) (small_big (by omega) (by omega))
  have m2 : mulOk 8093 (i : Int) = true := mulOk_big (small_big (by omega) (by omega)) (small_big (by omega) (by omega))
  have m3 : mulOk (8093 * (i : Int)) (i : Int) = true := mulOk_big (small_big (by omega) (by omega)) (small_big (by omega) (by omega))
  refine evS_ret ?_
  simp [ev, evs, getE, evBi, evBi1, biInt, evOp, opD, m1, m2, m3, newL, lineS, P, mixed]
theorem pot_shape : b__law_pot = [(.asg (.name 2) (.ifx (.cmp .Lt (.var 1) (.bi .len [(.var 0)])) (.ix (.var 0) (.var 1)) (.bin .Add (.bin .Add (.bin .Mod (.bi .sum [(.slice (.var 0) (.const .non) (.const (.int 1)) false true)]) (.const (.int 1000003))) (.bin .Mult (.const (.int 1154)) (.var 1))) (.const (.int 529))))),
  (.asg (.name 3) (.bin .Mult (.bin .Mod (.bi .int [(.bi .abs [(.var 2)])]) eN) (.bi .int [(.cmp .GtE (.bi .abs [(.var 2)]) (.bin .Pow (.const (.int 10)) (.const (.int 18))))]))),
  (.asg (.name 4) (.bin .Mod (.bi .int [(.var 2)]) (.const (.int 2305843009213693951)))),
  (.ret (.lst true [(.var 3), (.bin .Mod (.bi .int [(.bin .Add (.bin .Add (.bin .Mult (.var 4) (.const (.int 73199))) (.bin .Mult (.bin .Mult (.const (.int 8093)) (.var 1)) (.var 1))) (.const (.int 470)))]) (.const (.int 2305843009213693921))), (.const (.int 0))]))] := rfl
theorem pot_ok {ns : List Int} {i : Nat} (hi : i < ns.length ∨ (ns = [] ∧ i = 0)) (h2 : i ≤ 2) : ∃ o s, d__law_pot [.d (.rol (ns.map .int)), .d (.int i)] [] = .ok (.l 0) [P o s 0] ∧ Pot 0 o s 0 := by
  obtain ⟨q1, q2⟩ := own_ok (cell ns i)
  have r1 : 0 ≤ cell ns i % 2305843009213693951 := Int.emod_nonneg _ (by decide)
  have r2 : cell ns i % 2305843009213693951 < 2305843009213693951 := Int.emod_lt_of_pos _ (by decide)
  have s1 : 0 ≤ mixed (cell ns i % 2305843009213693951) i := Int.emod_nonneg _ (by decide)
  have s2 : mixed (cell ns i % 2305843009213693951) i < 2305843009213693921 := Int.emod_lt_of_pos _ (by decide)
  refine ⟨own (cell ns i), mixed (cell ns i % 2305843009213693951) i, ?_, ⟨q1, q2, s1, by omega, by decide, by decide⟩⟩
  refine evF_rt ?_
  rw [pot_shape]
  refine (evSs_nx (po1 hi)).trans ?_
  refine (evSs_nx po2).trans ?_
  refine (evSs_nx po3).trans ?_
  exact evSs_rt (po4 h2 r1 (by omega))
end K45
namespace K45
open PySem PySem.Spec PyProof.Rows L2 DL
def cn (l : Nat) : Nat := if l < 3 then (if 1 < l then l else 1) else 3
theorem cn_le (l : Nat) : cn l ≤ 3 := by unfold cn; split; split <;> omega; omega
theorem cn_in {ns : List Int} {i : Nat} (h : i < cn ns.length) : (i < ns.length ∨ (ns = [] ∧ i = 0)) ∧ i ≤ 2 := by
  have := cn_le ns.length
  refine ⟨?_, by omega⟩
  cases ns with
  | nil => right; exact ⟨rfl, by simp [cn] at h; omega⟩
  | cons a r =>
    left
    unfold cn at h
    rw [List.length_cons] at *
    repeat' split at h
    all_goals omega
def numsTo (n : Nat) : List D := (List.range n).map fun (i : Nat) => D.int (i : Int)
theorem newL_range {n : Nat} {S : Store} (hn : n < 1000) : newL false (rangeL 0 (n : Int)) S = .ok (.d (.lst (numsTo n))) S := by
  refine newL_data ?_ ?_
  · rw [rangeL_nat, List.length_map, List.length_range]
    unfold lineS
    omega
  · rw [rangeL_nat]
    have := pures_map (numsTo n)
    unfold numsTo at *
    rw [List.map_map] at this
    exact this
theorem ev_lrange {fns : Nat → Fn} {m : Bool} {es : List DL.E} {env : Ev} {S S' : Store} {ws xs : List W} (h : evs fns es env S = .ok ws S') (h2 : rangeOf ws = some xs) : ev fns (.lrange m es) env S = newL m xs S' := by
  rw [ev, h]
  simp only [Out.bind_ok]
  rw [h2]
  rfl
theorem cells_max (l : Nat) (S : Store) : evBi .max [.d (.int 1), .d (.int (if (l : Int) < 3 then (l : Int) else 3))] S = .ok (.d (.int (cn l : Nat))) S := by
  have e : (if (if (l : Int) < 3 then (l : Int) else 3) > 1 then (if (l : Int) < 3 then (l : Int) else 3) else 1) = (cn l : Nat) := by
    unfold cn
    repeat' split
    all_goals omega
  rw [← e]
  rfl
theorem cells_es (ns : List Int) (S : Store) : evs (fnsOf t__law_cells) [(.bi .max [(.const (.int 1)), (.bi .min [(.var 1), (.bi .len [(.var 0)])])])] [some (.d (.rol (ns.map .int))), some (.d (.int 3))] S = .ok [.d (.int (cn ns.length : Nat))] S := by
  have g := cells_max ns.length S
  have g0 : evBi .min [.d (.int 3), .d (.int (ns.length : Int))] S = .ok (.d (.int (if (ns.length : Int) < 3 then (ns.length : Int) else 3))) S := rfl
  have g1 : evBi .len [.d (.rol (ns.map .int))] S = .ok (.d (.int (ns.length : Int))) S := by simp [evBi, evBi1, biLen, seqOf]
  simp only [evs, ev, getE, List.getElem?_cons_zero, List.getElem?_cons_succ, Option.bind_some, id, Out.of, Out.bind_ok, g0, g1, g]
theorem cells_ok (ns : List Int) : d__law_cells [.d (.rol (ns.map .int)), .d (.int 3)] [] = .ok (.d (.lst (numsTo (cn ns.length)))) [] := by
  have hn := cn_le ns.length
  refine evF_rt (st' := []) ?_
  exact evSs_rt (evS_ret ((ev_lrange (cells_es ns []) (rangeOf_1 (range_ok (by omega)))).trans (newL_range (by omega))))
theorem compL_all {f : W → Store → Out (Option W)} : ∀ (xs : List W) (S : Store), (∀ x ∈ xs, ∀ S, ∃ S', f x S = .ok (some (.d (.bl true))) S') → ∃ S', compL (keeps none xs) f xs S = .ok (List.replicate xs.length (.d (.bl true))) S' := by
  have key : ∀ (ok : Store → Bool) (hk : ∀ S, ok S = true) (xs : List W) (S : Store), (∀ x ∈ xs, ∀ S, ∃ S', f x S = .ok (some (.d (.bl true))) S') → ∃ S', compL ok f xs S = .ok (List.replicate xs.length (.d (.bl true))) S' := by
    intro ok hk xs
    induction xs with
    | nil => intro S _; exact ⟨S, by unfold compL; rw [if_pos (hk S)]; rfl⟩
    | cons x xs ih =>
      intro S h
      obtain ⟨S1, e1⟩ := h x (List.mem_cons_self ..) S
      obtain ⟨S2, e2⟩ := ih S1 fun y hy => h y (List.mem_cons_of_mem _ hy)
      refine ⟨S2, ?_⟩
      unfold compL
      rw [if_pos (hk S), e1]
      simp only [Out.bind_ok]
      rw [e2]
      rfl
  exact fun xs S h => key _ (fun _ => rfl) xs S h
theorem replicate_pure (n : Nat) : pures (List.replicate n (W.d (.bl true))) = some (List.replicate n (.bl true)) := by
  have := pures_map (List.replicate n (.bl true))
  rwa [List.map_replicate] at this
theorem blsOf_rep : ∀ n : Nat, blsOf (List.replicate n (W.d (.bl true))) = some (List.replicate n true)
  | 0 => rfl
  | n + 1 => by rw [List.replicate_succ, List.replicate_succ]; show (blsOf _).map _ = _; rw [blsOf_rep n]; rfl
theorem all_rep (n : Nat) : (List.replicate n true).all id = true := by
  rw [List.all_eq_true]
  intro b hb
  exact (List.mem_replicate.mp hb).2
abbrev F12 := fnsOf t_law
def eT : DL.E := (.call 1 [(.call 2 [(.var 0), (.var 1)])])
theorem law_shape : b_law = [(.ret (.bi .all [(.comp false eT (.name 1) (.seq (.call 0 [(.var 0), (.const (.int 3))])) .yes [1])]))] := rfl
theorem set_end {S : Store} {p q : Ob} : (S ++ [p])[S.length]? = some p := by simp
theorem law_turn {ns : List Int} {i : Nat} (hi : i < cn ns.length) (S : Store) : ∃ S', ev F12 eT [some (.d (.rol (ns.map .int))), some (.d (.int i))] S = .ok (.d (.bl true)) S' := by
  obtain ⟨h1, h2⟩ := cn_in hi
  obtain ⟨o, s, e, p⟩ := pot_ok h1 h2
  obtain ⟨o', c', e'⟩ := right_ok p (by decide)
  have g2 : evCall (F12 2) [.d (.rol (ns.map .int)), .d (.int i)] S = .ok (.l S.length) (S ++ [P o s 0]) := by
    rw [evCall_d2, show F12 2 [.d (.rol (ns.map .int)), .d (.int i)] [] = d__law_pot [.d (.rol (ns.map .int)), .d (.int i)] [] from fns2 rfl _ _ _, e]
    rfl
  have g1 : evCall (F12 1) [.l S.length] (S ++ [P o s 0]) = .ok (.d (.bl true)) ((S ++ [P o s 0]).set S.length (P o' s c')) := by
    rw [evCall_place (n := S.length) (p := P o s 0) rfl (by simp) rfl]
    show outP _ _ (F12 1 [reix [S.length] (.l S.length)] _) = _
    rw [show reix [S.length] (.l S.length) = .l 0 by simp [reix], show F12 1 [.l 0] [P o s 0] = d__law_right [.l 0] [P o s 0] from fns1 rfl _ _, e', outP_ok _ _ _ _ _ rfl]
  exact ⟨_, ev_call1 (ev_call2 (ev_var rfl) (ev_var rfl) g2) g1⟩
theorem evI_seq {fns : Nat → Fn} {e : DL.E} {env : Ev} {S S' : Store} {xs : List D} (h : ev fns e env S = .ok (.d (.lst xs)) S') : evI fns (.seq e) env S = .ok (xs.map .d, none) S' := by
  rw [evI, h]
  rfl
theorem ev_all {fns : Nat → Fn} {e : DL.E} {env : Ev} {S S' : Store} {n : Nat} (h : ev fns e env S = .ok (.d (.lst (List.replicate n (.bl true)))) S') : ev fns (.bi .all [e]) env S = .ok (.d (.bl true)) S' := by
  rw [ev, evs, h]
  simp only [Out.bind_ok]
  rw [evs]
  simp only [Out.bind_ok]
  show Out.of (((some ((List.replicate n (D.bl true)).map W.d)).bind blsOf).map fun bs => W.d (.bl (bs.all id))) S' = _
  rw [List.map_replicate, Option.bind_some, blsOf_rep, Option.map_some, all_rep]
  rfl
theorem law_end (ns : List Int) : ∃ S, d_law [.d (.rol (ns.map .int))] [] = .ok (.d (.bl true)) S := by
  have hn := cn_le ns.length
  have q : evCall (F12 0) [.d (.rol (ns.map .int)), .d (.int 3)] [] = .ok (.d (.lst (numsTo (cn ns.length)))) [] := call2 (fns2 rfl _ _ _) (cells_ok ns)
  obtain ⟨S', e⟩ := compL_all (f := turnC F12 eT (.name 1) .yes [some (.d (.rol (ns.map .int))), none]) ((numsTo (cn ns.length)).map .d) [] (by
    intro x hx S
    obtain ⟨d, hd, rfl⟩ := List.mem_map.mp hx
    obtain ⟨i, hi, rfl⟩ := List.mem_map.mp hd
    obtain ⟨S', e⟩ := law_turn (ns := ns) (List.mem_range.mp hi) S
    refine ⟨S', ?_⟩
    unfold turnC
    refine bind_step (env := [some (.d (.rol (ns.map .int))), some (.d (.int i))]) (by simp [bindT]) ?_
    rw [evB]
    simp only [Out.noErr, Out.bind_ok, if_true]
    rw [e]
    rfl)
  refine ⟨S', evF_rt ?_⟩
  rw [law_shape]
  refine evSs_rt (evS_ret (ev_all (n := cn ns.length) ?_))
  show ev _ _ [some (.d (.rol (ns.map .int))), none] [] = _
  rw [ev_comp, evI_seq (ev_call2 (ev_var rfl) (by rw [ev]) q)]
  simp only [Out.bind_ok]
  have hl : ((numsTo (cn ns.length)).map W.d).length = cn ns.length := by simp [numsTo]
  rw [if_pos (by rw [hl]; unfold lineS; omega)]
  rw [show wipeE [some (.d (.rol (ns.map .int))), none] [1] = [some (.d (.rol (ns.map .int))), (none : Option W)] by simp [wipeE], e]
  simp only [Out.bind_ok]
  rw [hl]
  exact newL_data (by rw [List.length_replicate]; unfold lineS; omega) (replicate_pure _)
theorem plain : ∀ ns : List Int, ns.length ≤ 63 → ∃ S, d_law [.d (.rol (ns.map .int))] [] = .ok (.d (.bl true)) S := fun ns _ => law_end ns
end K45
open PySem PySem.W PySem.Calls PyProof.Rows
theorem PySem.Challenge.cw_fewthrows_k45_whole_shares_of_several_ta_holds : PySem.Challenge.rw_fewthrows_k45_whole_shares_of_several_ta.Holds := by
  w_on; o_law
  refine HandSHeadRun.head_any (r := OpenLaw.row PySem.Challenge.rw_fewthrows_k45_whole_shares_of_several_ta) (q := view (OpenLaw.row PySem.Challenge.rw_fewthrows_k45_whole_shares_of_several_ta).prog [25]) (H := K45.hk) (ob := K45.ob) (M := 20000) (loose := K45.loose) (d := HandSHeadRun.topDef (OpenLaw.row PySem.Challenge.rw_fewthrows_k45_whole_shares_of_several_ta).prog 25) (kwd := []) K45.ob_eq
    (by kernel_rfl) (fun s => by kernel_rfl) K45.run (by kernel_rfl) (by kernel_rfl) (by kernel_rfl) (by rfl) (by first | assumption | decide +kernel) (by decide +kernel) ⟨rfl, rfl, rfl, rfl, rfl, by decide +kernel⟩ ?hw ?hc
  case hw => w_witness2
  case hc =>
    refine DL.walk_ofG (l := PySem.Challenge.rw_fewthrows_k45_whole_shares_of_several_ta) (n := 63) (k := 6) (x := "script") rfl (by decide) (by kernel_rfl) ⟨rfl, by decide, by decide⟩ ?F
    intro w mg fa h Y G hmg0
    obtain ⟨K, KX, c⟩ := Y
    have hmg : mg ("law" : PySem.Str) = some (.ref fa) := by
      have e : (HandSHeadRun.topDef (OpenLaw.row PySem.Challenge.rw_fewthrows_k45_whole_shares_of_several_ta).prog 25).name = ("law" : PySem.Str) := by kernel_rfl
      rw [← e]
      exact hmg0
    obtain ⟨fd, hb, hF⟩ := K45.facts (P := (PySem.Challenge.rw_fewthrows_k45_whole_shares_of_several_ta).prog) (w := w) KX G hmg c
    exact ⟨K, fd, _, KX, hb, fun H a ns hl hS => DL.law_sp K45.plain hl hS, hF⟩
