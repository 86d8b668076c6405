import PyProof.Rows.All
import HandS.ForMost
import KE.DataFind
import KE.DataMinMax
import KE.DataAny
import KE.SortData
import HandS.WideBits
import HandS.Exc
import HandS.Wide
import HandS.Defaults
import HandS.TupAny
import HandS.Deep
import PyProof.Rows.StrOr
import PyProof.ReprRoads
import HandS.Steps
import HandS.Style
import HandS.IsInst
import HandS.Iter
import KE.GoesEnum
import HandS.Zip
import HandS.DictTup
import HandS.Small
import HandS.Flow
import HandS.Walk
import HandS.Star
import HandS.Conv
import HandS.Ends
import HandS.HeadEnd
import HandS.Codes
import HandS.HeadHook1
import HandS.HeadHook2
import HandS.Head0
import HandS.Head1
import HandS.Head2
import PySem.Challenge.RW_fewthrows_k70_whole_tallies_let_just_the
set_option Elab.async false
set_option linter.all false
set_option maxRecDepth 100000
set_option maxHeartbeats 0
/-! DLb: pure data, stores, the small language and what it reckons. -/
namespace DL
open PySem

/-- pure data -/
inductive D where
  | non | bl (b : Bool) | int (i : Int) | str (x : Str)
  | tup (xs : List D) | lst (xs : List D)
  /-- a list that is read alone -/
  | rol (xs : List D)
  /-- a tuple that is read alone -/
  | rtp (xs : List D)
  /-- a dict that is changed no more; t: its keys are tuples -/
  | dct (t : Bool) (ks vs : List D)
  deriving Inhabited
/-- what a name stands for: pure data, or a place of the store -/
inductive W where
  | d (x : D) | l (n : Nat)
  deriving Inhabited
/-- what lies in the store -/
inductive Ob where
  | lst (xs : List W)
  /-- a dict; t: its keys are tuples -/
  | dic (t : Bool) (es : List (D × W))
  | dead
abbrev Store := List Ob
abbrev Ev := List (Option W)

/-- outcomes -/
inductive Out (α : Type) where
  | ok (a : α) (S : Store)
  | err (c : Str) (x : D) (S : Store)
  | bad
def Out.bind {α β : Type} (o : Out α) (f : α → Store → Out β) : Out β := match o with
  | .ok a S => f a S
  | .err c x S => .err c x S
  | .bad => .bad
@[simp] theorem Out.bind_ok {α β : Type} (a : α) (S : Store) (f : α → Store → Out β) : (Out.ok a S).bind f = f a S := rfl
@[simp] theorem Out.bind_err {α β : Type} (c : Str) (x : D) (S : Store) (f : α → Store → Out β) : (Out.err c x S : Out α).bind f = .err c x S := rfl
@[simp] theorem Out.bind_bad {α β : Type} (f : α → Store → Out β) : (Out.bad : Out α).bind f = .bad := rfl
/-- nothing may be raised there -/
def Out.noErr {α : Type} (o : Out α) : Out α := match o with
  | .err _ _ _ => .bad
  | o => o
@[simp] theorem Out.noErr_ok {α : Type} (a : α) (S : Store) : (Out.ok a S).noErr = .ok a S := rfl
/-- a value that may not be there -/
def Out.of {α : Type} (o : Option α) (S : Store) : Out α := match o with
  | some a => .ok a S
  | none => .bad
@[simp] theorem Out.of_some {α : Type} (a : α) (S : Store) : Out.of (some a) S = .ok a S := rfl
@[simp] theorem Out.of_none {α : Type} (S : Store) : (Out.of none S : Out α) = .bad := rfl

abbrev Fn := List W → Store → Out W

/-! ### data -/
mutual
/-- as the library's data -/
def D.py : D → PyData
  | .non => .none
  | .bl b => .bool b
  | .int i => .int i
  | .str x => .str x
  | .tup xs => .tuple (D.pys xs)
  | .lst xs => .list (D.pys xs)
  | .rol xs => .list (D.pys xs)
  | .rtp xs => .tuple (D.pys xs)
  | .dct _ _ _ => .dict []
def D.pys : List D → List PyData
  | [] => []
  | x :: xs => D.py x :: D.pys xs
end
mutual
/-- == of data -/
def deq : D → D → Bool
  | .non, .non => true
  | .bl a, .bl b => a == b
  | .bl a, .int j => decide ((if a then 1 else 0) = j)
  | .int i, .bl b => decide (i = (if b then 1 else 0))
  | .int i, .int j => decide (i = j)
  | .str x, .str y => decide (x = y)
  | .lst xs, .lst ys => deqs xs ys
  | .lst xs, .rol ys => deqs xs ys
  | .rol xs, .lst ys => deqs xs ys
  | .rol xs, .rol ys => deqs xs ys
  | .tup xs, .tup ys => deqs xs ys
  | .tup xs, .rtp ys => deqs xs ys
  | .rtp xs, .tup ys => deqs xs ys
  | .rtp xs, .rtp ys => deqs xs ys
  | _, _ => false
def deqs : List D → List D → Bool
  | [], [] => true
  | x :: xs, y :: ys => deq x y && deqs xs ys
  | _, _ => false
end
def strF (x : Str) : Bool := x.cps.all (· < 0x110000)
mutual
/-- no deeper than so much, with texts as they may be -/
def sh : Nat → D → Bool
  | _, .non | _, .bl _ | _, .int _ => true
  | _, .str x => strF x
  | _, .dct _ _ _ => false
  | 0, .tup _ | 0, .lst _ | 0, .rol _ | 0, .rtp _ => false
  | n + 1, .tup xs => shs n xs
  | n + 1, .lst xs => shs n xs
  | n + 1, .rol xs => shs n xs
  | n + 1, .rtp xs => shs n xs
def shs : Nat → List D → Bool
  | _, [] => true
  | n, x :: xs => sh n x && shs n xs
end

/-- what repr tells has no longer integers -/
def digitL : Nat := 10 ^ 4300
mutual
/-- repr tells it: no dict -/
def tells : PyData → Bool
  | .int i => decide (i.natAbs < digitL)
  | .none => true
  | .bool _ => true
  | .str _ => true
  | .list xs => tellsAll xs
  | .tuple xs => tellsAll xs
  | _ => false
def tellsAll : List PyData → Bool
  | [] => true
  | x :: xs => tells x && tellsAll xs
end

mutual
def sameD : D → D → Bool
  | .non, .non => true
  | .bl a, .bl b => a == b
  | .int a, .int b => decide (a = b)
  | .str a, .str b => decide (a = b)
  | .tup a, .tup b => sameDs a b
  | .lst a, .lst b => sameDs a b
  | .rol a, .rol b => sameDs a b
  | .rtp a, .rtp b => sameDs a b
  | .dct t a b, .dct u c d => (t == u && sameDs a c) && sameDs b d
  | _, _ => false
def sameDs : List D → List D → Bool
  | [], [] => true
  | a :: as, b :: bs => sameD a b && sameDs as bs
  | _, _ => false
end
mutual
theorem sameD_eq : ∀ {a b : D}, sameD a b = true → a = b
  | .non, b, h => by cases b <;> first | rfl | cases h
  | .bl a, b, h => by cases b <;> first | (simp only [sameD, beq_iff_eq] at h; rw [h]) | cases h
  | .int a, b, h => by cases b <;> first | (simp only [sameD, decide_eq_true_eq] at h; rw [h]) | cases h
  | .str a, b, h => by cases b <;> first | (simp only [sameD, decide_eq_true_eq] at h; rw [h]) | cases h
  | .tup a, b, h => by cases b <;> first | (simp only [sameD] at h; rw [sameDs_eq h]) | cases h
  | .lst a, b, h => by cases b <;> first | (simp only [sameD] at h; rw [sameDs_eq h]) | cases h
  | .rol a, b, h => by cases b <;> first | (simp only [sameD] at h; rw [sameDs_eq h]) | cases h
  | .rtp a, b, h => by cases b <;> first | (simp only [sameD] at h; rw [sameDs_eq h]) | cases h
  | .dct t a b, d, h => by
    cases d with
    | dct u c e =>
      simp only [sameD, Bool.and_eq_true, beq_iff_eq] at h
      rw [h.1.1, sameDs_eq h.1.2, sameDs_eq h.2]
    | _ => cases h
theorem sameDs_eq : ∀ {a b : List D}, sameDs a b = true → a = b
  | [], [], _ => rfl
  | [], _ :: _, h => by cases h
  | _ :: _, [], h => by cases h
  | a :: as, b :: bs, h => by
    simp only [sameDs, Bool.and_eq_true] at h
    rw [sameD_eq h.1, sameDs_eq h.2]
end
mutual
theorem sameD_refl : ∀ a : D, sameD a a = true
  | .non => rfl
  | .bl a => by simp [sameD]
  | .int a => by simp [sameD]
  | .str a => by simp [sameD]
  | .tup a => by simp [sameD, sameDs_refl a]
  | .lst a => by simp [sameD, sameDs_refl a]
  | .rol a => by simp [sameD, sameDs_refl a]
  | .rtp a => by simp [sameD, sameDs_refl a]
  | .dct t a b => by simp [sameD, sameDs_refl a, sameDs_refl b]
theorem sameDs_refl : ∀ a : List D, sameDs a a = true
  | [] => rfl
  | a :: as => by simp [sameDs, sameD_refl a, sameDs_refl as]
end
def sameW : W → W → Bool
  | .d a, .d b => sameD a b
  | .l a, .l b => decide (a = b)
  | _, _ => false
def sameWs : List W → List W → Bool
  | [], [] => true
  | a :: as, b :: bs => sameW a b && sameWs as bs
  | _, _ => false
theorem sameW_eq {a b : W} (h : sameW a b = true) : a = b := by
  cases a <;> cases b <;> first | (rw [sameD_eq h]) | (rw [of_decide_eq_true h]) | cases h
theorem sameWs_eq : ∀ {a b : List W}, sameWs a b = true → a = b
  | [], [], _ => rfl
  | [], _ :: _, h => by cases h
  | _ :: _, [], h => by cases h
  | a :: as, b :: bs, h => by
    simp only [sameWs, Bool.and_eq_true] at h
    rw [sameW_eq h.1, sameWs_eq h.2]
theorem sameW_refl (a : W) : sameW a a = true := by
  cases a with
  | d a => exact sameD_refl a
  | l n => exact decide_eq_true rfl
@[simp] theorem sameWs_refl : ∀ a : List W, sameWs a a = true
  | [] => rfl
  | a :: as => by simp [sameWs, sameW_refl a, sameWs_refl as]
/-- the list that is walked stays as it is -/
def keeps (k : Option Nat) (ws : List W) (S : Store) : Bool := match k with
  | none => true
  | some n => match S[n]? with
    | some (.lst ys) => sameWs ys ws
    | _ => false
@[simp] theorem keeps_none (ws : List W) (S : Store) : keeps none ws S = true := rfl

/-! ### sequences -/
def pures : List W → Option (List D)
  | [] => some []
  | .d x :: r => (pures r).map (x :: ·)
  | .l _ :: _ => none
/-- what a list, a tuple, a list of the store holds -/
def seqOf (S : Store) : W → Option (List W)
  | .d (.tup xs) => some (xs.map .d)
  | .d (.lst xs) => some (xs.map .d)
  | .d (.rol xs) => some (xs.map .d)
  | .d (.rtp xs) => some (xs.map .d)
  | .l n => match S[n]? with
    | some (.lst xs) => some xs
    | _ => none
  | _ => none
/-- what a list holds -/
def lseq (S : Store) : W → Option (List W)
  | .d (.tup _) => none
  | .d (.rtp _) => none
  | w => seqOf S w
def at_ {α : Type} (xs : List α) : Int → Option α
  | .ofNat n => xs[n]?
  | .negSucc n => if n < xs.length then xs[xs.length - 1 - n]? else none
/-- the place in a list of so many, of an integer -/
def ixOf (n : Nat) : Int → Option Nat
  | .ofNat i => if i < n then some i else none
  | .negSucc i => if i < n then some (n - 1 - i) else none
def cut_ {α : Type} (xs : List α) (lo hi : Option Int) : List α :=
  (xs.drop (HT.sIx xs.length 0 lo)).take (HT.sIx xs.length xs.length hi - HT.sIx xs.length 0 lo)
def lineS : Nat := 16777216

/-! ### dicts -/
def keyK : D → Option L2.Key
  | .int i => some (.inl i)
  | .str x => some (.inr x)
  | _ => none
def keyKs : List D → Option (List L2.Key)
  | [] => some []
  | x :: xs => (keyK x).bind fun k => (keyKs xs).map (k :: ·)
def keyT : D → Option (List L2.Key)
  | .tup xs => keyKs xs
  | _ => none
def kOk (t : Bool) (k : D) : Bool := if t = true then (keyT k).isSome else (keyK k).isSome
def dget {α : Type} (es : List (D × α)) (k : D) : Option α := (es.find? fun e => sameD e.1 k).map (·.2)
def dput {α : Type} (es : List (D × α)) (k : D) (w : α) : List (D × α) := if es.any (fun e => sameD e.1 k) = true then es.map fun e => if sameD e.1 k = true then (e.1, w) else e else es ++ [(k, w)]
/-- what a dict holds -/
def dicOf (S : Store) : W → Option (Bool × List (D × W))
  | .l n => match S[n]? with
    | some (.dic t es) => some (t, es)
    | _ => none
  | .d (.dct t ks vs) => some (t, ks.zip (vs.map .d))
  | _ => none

/-! ### operators -/
def mulOk (i j : Int) : Bool := decide (Builtin.Int.intBits i + Builtin.Int.intBits j ≤ 134217728)
def powOk (i j : Int) : Bool := decide (0 ≤ j ∧ (Builtin.Int.intBits i : Int) * j ≤ 100000000)
def divOk (j : Int) : Bool := decide (0 < j ∧ j.natAbs.log2 < 9000)
def opD (op : Operator) (x y : D) : Option D :=
  match op, x, y with
  | .Add, .int i, .int j => some (.int (i + j))
  | .Sub, .int i, .int j => some (.int (i - j))
  | .Mult, .int i, .int j => if mulOk i j then some (.int (i * j)) else none
  | .Mod, .int i, .int j => if 0 < j then some (.int (i % j)) else none
  | .FloorDiv, .int i, .int j => if divOk j then some (.int (i / j)) else none
  | .Pow, .int i, .int j => if powOk i j then some (.int (i ^ j.toNat)) else none
  | .Add, .str a, .str b => if a.length + b.length ≤ lineS then some (.str (a ++ b)) else none
  | .Add, .tup a, .tup b => if a.length + b.length ≤ lineS then some (.tup (a ++ b)) else none
  | .Add, .lst a, .lst b => if a.length + b.length ≤ lineS then some (.lst (a ++ b)) else none
  | _, _, _ => none
def evOp (op : Operator) (x y : W) (S : Store) : Out W := match x, y with
  | .d x, .d y => Out.of ((opD op x y).map .d) S
  | _, _ => .bad
def isNon : W → Bool
  | .d .non => true
  | _ => false
def hasD (x : D) : List D → Bool
  | [] => false
  | y :: r => deq y x || hasD x r
def flatD : D → Bool
  | .non | .bl _ | .int _ | .str _ => true
  | _ => false
def inD (x y : D) : Option Bool := match y with
  | .lst ys => if sh 59 x && shs 59 ys then some (hasD x ys) else none
  | .tup ys => if flatD x && ys.all flatD then some (hasD x ys) else none
  | .str z => match x with
    | .str ⟨⟨[c]⟩⟩ => some (decide (c ∈ z.cps.toList))
    | _ => none
  | _ => none
def cmpD (op : CmpOp) (x y : D) : Option Bool :=
  match op with
  | .Eq => if sh 60 x && sh 60 y then some (deq x y) else none
  | .NotEq => if sh 60 x && sh 60 y then some (!deq x y) else none
  | .Lt => match x, y with
    | .int i, .int j => some (decide (i < j))
    | _, _ => none
  | .LtE => match x, y with
    | .int i, .int j => some (decide (i ≤ j))
    | _, _ => none
  | .Gt => match x, y with
    | .int i, .int j => some (decide (j < i))
    | _, _ => none
  | .GtE => match x, y with
    | .int i, .int j => some (decide (j ≤ i))
    | _, _ => none
  | .In => inD x y
  | .NotIn => (inD x y).map (!·)
  | .Is => match x, y with
    | .bl a, .bl b => some (decide (a = b))
    | x, .non => some (match x with | .non => true | _ => false)
    | _, _ => none
  | .IsNot => match x, y with
    | .bl a, .bl b => some (!decide (a = b))
    | x, .non => some (match x with | .non => false | _ => true)
    | _, _ => none
def evCmp (op : CmpOp) (x y : W) (S : Store) : Out Bool := match x, y with
  | .d x, .d y => Out.of (cmpD op x y) S
  | .l _, .d .non => match op with
    | .Is => .ok false S
    | .IsNot => .ok true S
    | _ => .bad
  | _, _ => .bad
/-- truth -/
def tru (S : Store) : W → Option Bool
  | .d .non => some false
  | .d (.bl b) => some b
  | .d (.int i) => some (!decide (i = 0))
  | .d (.str x) => if x.length ≤ lineS then some (!decide (x.length = 0)) else none
  | .d (.tup xs) => some (!xs.isEmpty)
  | .d (.lst xs) => some (!xs.isEmpty)
  | .d (.rol xs) => some (!xs.isEmpty)
  | .d (.rtp xs) => some (!xs.isEmpty)
  | .d (.dct _ _ _) => none
  | .l n => match S[n]? with
    | some (.lst xs) => some (!xs.isEmpty)
    | _ => none
def tyD : D → String
  | .non => "NoneType"
  | .bl _ => "bool"
  | .int _ => "int"
  | .str _ => "str"
  | .tup _ => "tuple"
  | .lst _ => "list"
  | .rol _ => "list"
  | .rtp _ => "tuple"
  | .dct _ _ _ => "dict"
def tyW (S : Store) : W → Option String
  | .d (.dct _ _ _) => none
  | .d x => some (tyD x)
  | .l n => match S[n]? with
    | some (.lst _) => some "list"
    | _ => none
/-- a new list: of the store, or pure -/
def newL (m : Bool) (xs : List W) (S : Store) : Out W :=
  if xs.length ≤ lineS then (if m then .ok (.l S.length) (S ++ [.lst xs]) else Out.of ((pures xs).map fun ds => .d (.lst ds)) S) else .bad

/-! ### the language -/
inductive Bi where
  | len | int | tuple | list (m : Bool) | isinst (t : String) | repr | abs | sum | all | any | min | max | str
inductive Mt where
  | append | extend | popAt | pop | split | join | count | remove | get
inductive T where
  | name (i : Nat)
  | tup (ts : List T)
mutual
inductive E where
  | var (i : Nat)
  | const (x : D)
  | glob (x : Str) (v : D)
  | bin (op : Operator) (a b : E)
  | neg (a : E)
  | cmp (op : CmpOp) (a b : E)
  | chain (op op' : CmpOp) (a b c : E)
  | not (a : E)
  | bop (conj : Bool) (es : List E)
  | ifx (c : B) (a b : E)
  | tup (es : List E)
  | lst (m : Bool) (es : List E)
  /-- with starred parts -/
  | tupS (xs : List A)
  | lstS (m : Bool) (xs : List A)
  | ix (a i : E)
  | slice (a lo hi : E) (l h : Bool)
  | call (f : Nat) (es : List E)
  | bi (b : Bi) (es : List E)
  | mt (m : Mt) (a : E) (es : List E)
  | lrange (m : Bool) (es : List E)
  | comp (m : Bool) (e : E) (t : T) (it : I) (c : B) (own : List Nat)
  /-- [..] * n -/
  | rep (m : Bool) (a n : E)
  /-- a list, a dict of the store that is changed no more -/
  | frz (a : E)
  /-- a new dict with nothing in it -/
  | dict (t : Bool)
inductive A where
  | one (e : E)
  | star (e : E)
inductive B where
  | val (a : E)
  | yes
  | not (a : B)
  | bop (conj : Bool) (bs : List B)
  | cmp (op : CmpOp) (a b : E)
  | chain (op op' : CmpOp) (a b c : E)
inductive I where
  | seq (a : E)
  | range (es : List E)
  | range3 (a b c : E)
  | enum (a : E)
  | zip (a b : E)
  /-- enumerate(zip(a, b)) -/
  | enz (a b : E)
  /-- a.items() -/
  | items (a : E)
end

/-! ### what it reckons -/
def getE (env : Ev) (i : Nat) : Option W := (env[i]?).bind id
/-- several names at once -/
def bindT : T → W → Ev → Option Ev
  | .name i, w, env => if i < env.length then some (env.set i (some w)) else none
  | .tup ts, w, env => match w with
    | .d (.tup xs) => bindTs ts (xs.map .d) env
    | .d (.rtp xs) => bindTs ts (xs.map .d) env
    | _ => none
where
  bindTs : List T → List W → Ev → Option Ev
  | [], [], env => some env
  | t :: ts, w :: ws, env => (bindT t w env).bind (bindTs ts ws)
  | _, _, _ => none
def wipeE (env : Ev) : List Nat → Ev
  | [] => env
  | v :: vs => (wipeE env vs).set v none

def intsOf : List W → Option (List Int)
  | [] => some []
  | .d (.int i) :: r => (intsOf r).map (i :: ·)
  | _ :: _ => none
def blsOf : List W → Option (List Bool)
  | [] => some []
  | .d (.bl i) :: r => (blsOf r).map (i :: ·)
  | _ :: _ => none
def strsOf : List W → Option (List Str)
  | [] => some []
  | .d (.str i) :: r => (strsOf r).map (i :: ·)
  | _ :: _ => none
def least : Int → List Int → Int
  | a, [] => a
  | a, b :: r => least (if b < a then b else a) r
def most : Int → List Int → Int
  | a, [] => a
  | a, b :: r => most (if b > a then b else a) r
def isTy (ty t : String) : Bool := ty == t || (ty == "bool" && t == "int")
/-- what a call of a built-in gives -/
def biLen (x : W) (S : Store) : Out W := match seqOf S x with
  | some ys => .ok (.d (.int ys.length)) S
  | none => match x with
    | .d (.str s) => if s.length ≤ lineS then .ok (.d (.int s.length)) S else .bad
    | _ => .bad
def biInt (x : W) (S : Store) : Out W := match x with
  | .d (.int i) => .ok (.d (.int i)) S
  | .d (.bl k) => .ok (.d (.int (if k then 1 else 0))) S
  | .d (.str a) => match PySem.intText? a with
    | some n => if a.length ≤ 640 then .ok (.d (.int n)) S else .bad
    | none => .bad
  | _ => .bad
def biAbs (x : W) (S : Store) : Out W := match x with
  | .d (.int i) => .ok (.d (.int (if i < 0 then -i else i))) S
  | _ => .bad
def biStr (x : W) (S : Store) : Out W := match x with
  | .d (.int i) => if i.natAbs.log2 < 1920 then .ok (.d (.str (toString i))) S else .bad
  | _ => .bad
def biRepr (x : W) (S : Store) : Out W := match x with
  | .d x => if (sh 60 x && tells x.py && decide (x.py.shown.length ≤ lineS)) = true then .ok (.d (.str x.py.shown)) S else .bad
  | .l _ => .bad
def isNonD : D → Bool
  | .non => true
  | _ => false
mutual
/-- no list within -/
def noL : D → Bool
  | .tup xs => noLs xs
  | .lst _ | .rol _ | .rtp _ | .dct _ _ _ => false
  | _ => true
def noLs : List D → Bool
  | [] => true
  | x :: xs => noL x && noLs xs
end
/-- alike, place by place -/
def likes (xs : List D) : Bool := xs.all fun x => xs.all fun y => PySem.W.alike x.py y.py
def ltD (x y : D) : Bool := PySem.W.dataLt x.py y.py
def minW (a : D) (r : List D) : D := r.foldl (fun m y => if ltD y m then y else m) a
def biMin (x : W) (S : Store) : Out W := match (lseq S x).bind intsOf with
  | some (a :: r) => .ok (.d (.int (least a r))) S
  | _ => match (lseq S x).bind pures with
    | some (a :: r) => if (shs 59 (a :: r) && noLs (a :: r) && likes (a :: r) && (a :: r).all fun x => !isNonD x) = true then .ok (.d (minW a r)) S else .bad
    | _ => .bad
def biMax (x : W) (S : Store) : Out W := match (lseq S x).bind intsOf with
  | some (a :: r) => .ok (.d (.int (most a r))) S
  | _ => .bad
/-- numbers, truth values, None -/
def flatT : D → Bool
  | .non | .bl _ | .int _ => true
  | _ => false
def truD : D → Bool
  | .bl b => b
  | .int i => i != 0
  | _ => false
def evBi1 (b : Bi) (x : W) (S : Store) : Out W := match b with
  | .len => biLen x S
  | .int => biInt x S
  | .tuple => match x with
    | .d (.rtp xs) => .ok (.d (.rtp xs)) S
    | _ => Out.of (((seqOf S x).bind pures).map fun ds => .d (.tup ds)) S
  | .list m => (Out.of (seqOf S x) S).bind fun ys S => newL m ys S
  | .isinst t => Out.of ((tyW S x).map fun ty => .d (.bl (isTy ty t))) S
  | .abs => biAbs x S
  | .sum => Out.of (((lseq S x).bind intsOf).map fun ns => .d (.int ns.sum)) S
  | .all => match (lseq S x).bind blsOf with
    | some bs => .ok (.d (.bl (bs.all id))) S
    | none => match (seqOf S x).bind pures with
      | some ds => if ds.all flatT = true then .ok (.d (.bl (ds.all truD))) S else .bad
      | none => .bad
  | .any => match (lseq S x).bind blsOf with
    | some bs => .ok (.d (.bl (bs.any id))) S
    | none => match (seqOf S x).bind pures with
      | some ds => if ds.all flatT = true then .ok (.d (.bl (ds.any truD))) S else .bad
      | none => .bad
  | .str => biStr x S
  | .repr => biRepr x S
  | .min => biMin x S
  | .max => biMax x S
def evBi2 (b : Bi) (x y : W) (S : Store) : Out W := match b with
  | .min => match x, y with
    | .d (.int i), .d (.int j) => .ok (.d (.int (if j < i then j else i))) S
    | _, _ => .bad
  | .max => match x, y with
    | .d (.int i), .d (.int j) => .ok (.d (.int (if j > i then j else i))) S
    | _, _ => .bad
  | _ => .bad
def evBi (b : Bi) (ws : List W) (S : Store) : Out W := match ws with
  | [x] => evBi1 b x S
  | [x, y] => evBi2 b x y S
  | _ => .bad
/-- what a method of a built-in gives -/
def mtAppend (n : Nat) (y : W) (S : Store) : Out W := match S[n]? with
  | some (.lst xs) => if xs.length < lineS then .ok (.d .non) (S.set n (.lst (xs ++ [y]))) else .bad
  | _ => .bad
def mtExtend (n : Nat) (y : W) (S : Store) : Out W := match S[n]? with
  | some (.lst xs) => match y with
    | .d (.lst ys) => if xs.length + ys.length ≤ lineS then .ok (.d .non) (S.set n (.lst (xs ++ ys.map .d))) else .bad
    | _ => .bad
  | _ => .bad
def mtPop (n : Nat) (S : Store) : Out W := match S[n]? with
  | some (.lst xs) => (Out.of xs[xs.length - 1]? S).bind fun y S => .ok y (S.set n (.lst xs.dropLast))
  | _ => .bad
def mtPopAt (n : Nat) (i : Int) (S : Store) : Out W := match S[n]? with
  | some (.lst xs) => if -(2 ^ 63) ≤ i ∧ i < 2 ^ 63 then
      (Out.of (ixOf xs.length i) S).bind fun k S => (Out.of xs[k]? S).bind fun y S => .ok y (S.set n (.lst (xs.eraseIdx k)))
    else .bad
  | _ => .bad
def mtSplit (a b : Str) (S : Store) : Out W :=
  if (b.length == 0) = false ∧ a.length + 2 ≤ lineS then .ok (.d (.lst ((Txt.split a b).map .str))) S else .bad
def mtJoin (a : Str) (x : W) (S : Store) : Out W := (Out.of ((seqOf S x).bind strsOf) S).bind fun ys S =>
  if (ys.map (·.length)).sum + ys.length * a.length ≤ lineS then .ok (.d (.str (Txt.join a ys))) S else .bad
def mtCount (o x : W) (S : Store) : Out W := match x with
  | .d x => (Out.of ((lseq S o).bind pures) S).bind fun ys S => if (sh 59 x && shs 59 ys) = true then .ok (.d (.int (ys.countP fun y => deq y x : Nat))) S else .bad
  | .l _ => .bad
/-- the first one that is it goes -/
def mtRemove (n : Nat) (y : W) (S : Store) : Out W := match S[n]? with
  | some (.lst xs) => match y, pures xs with
    | .d y, some ds => if (sh 59 y && shs 59 ds) = true then (match ds.findIdx? (fun d => deq d y) with
      | some j => .ok (.d .non) (S.set n (.lst (xs.eraseIdx j)))
      | none => .bad) else .bad
    | _, _ => .bad
  | _ => .bad
/-- the kind that a method is of -/
def mtT : Mt → String
  | .split | .join => "str"
  | .get => "dict"
  | _ => "list"
def mtIs (t : String) (w : W) (S : Store) : Bool := if t = "str" then (match w with | .d (.str _) => true | _ => false) else if t = "dict" then (match w with | .l _ => (dicOf S w).isSome | .d _ => false) else (lseq S w).isSome
def mtGet (o k : W) (df : W) (S : Store) : Out W := match dicOf S o, k with
  | some (t, es), .d k => if kOk t k = true then .ok ((dget es k).getD df) S else .bad
  | _, _ => .bad
def evMt0 (m : Mt) (o : W) (S : Store) : Out W := match m, o with
  | .pop, .l n => mtPop n S
  | _, _ => .bad
def evMt1 (m : Mt) (o x : W) (S : Store) : Out W := match m with
  | .append => match o with
    | .l n => mtAppend n x S
    | .d _ => .bad
  | .extend => match o with
    | .l n => mtExtend n x S
    | .d _ => .bad
  | .popAt => match o, x with
    | .l n, .d (.int i) => mtPopAt n i S
    | _, _ => .bad
  | .split => match o, x with
    | .d (.str a), .d (.str b) => mtSplit a b S
    | _, _ => .bad
  | .join => match o with
    | .d (.str a) => mtJoin a x S
    | _ => .bad
  | .count => mtCount o x S
  | .remove => match o with
    | .l n => mtRemove n x S
    | .d _ => .bad
  | .pop => .bad
  | .get => mtGet o x (.d .non) S
def evMt2 (m : Mt) (o x y : W) (S : Store) : Out W := match m with
  | .get => mtGet o x y S
  | _ => .bad
def evMt (m : Mt) (o : W) (ws : List W) (S : Store) : Out W := match ws with
  | [] => evMt0 m o S
  | [x] => evMt1 m o x S
  | [x, y] => evMt2 m o x y S
  | _ => .bad
def evIx (x i : W) (S : Store) : Out W := match dicOf S x with
  | some (t, es) => (match i with
    | .d k => if kOk t k = true then Out.of (dget es k) S else .bad
    | _ => .bad)
  | none => match i with
  | .d (.int k) => match seqOf S x with
    | some xs => Out.of (at_ xs k) S
    | none => match x with
      | .d (.str z) => if z.length ≤ lineS then Out.of ((at_ z.cps.toList k).map fun c => .d (.str ⟨#[c]⟩)) S else .bad
      | _ => .bad
  | _ => .bad
def boundI (w : W) (S : Store) : Out (Option Int) := match w with
  | .d (.int i) => .ok (some i) S
  | _ => .bad
def evSlice (x : W) (lo hi : Option Int) (S : Store) : Out W := match x with
  | .d (.tup xs) => .ok (.d (.tup (cut_ xs lo hi))) S
  | .d (.lst xs) => .ok (.d (.lst (cut_ xs lo hi))) S
  | .d (.rol xs) => .ok (.d (.lst (cut_ xs lo hi))) S
  | .l n => match S[n]? with
    | some (.lst xs) => Out.of ((pures (cut_ xs lo hi)).map fun ds => .d (.lst ds)) S
    | _ => .bad
  | _ => .bad
def repD (xs : List D) (k : Int) : List D := (List.replicate k.toNat xs).flatten
def evRep (m : Bool) (x y : W) (S : Store) : Out W := match x, y with
  | .d (.lst xs), .d (.int k) => if -(2 ^ 62) ≤ k ∧ k < 2 ^ 62 ∧ xs.length * k.toNat ≤ lineS then newL m ((repD xs k).map .d) S else .bad
  | _, _ => .bad
def evFrz (x : W) (S : Store) : Out W := match x with
  | .l n => match S[n]? with
    | some (.lst xs) => match pures xs with
      | some ds => .ok (.d (.lst ds)) (S.set n .dead)
      | none => .bad
    | some (.dic t es) => match pures (es.map (·.2)) with
      | some ds => .ok (.d (.dct t (es.map (·.1)) ds)) (S.set n .dead)
      | none => .bad
    | _ => .bad
  | .d _ => .bad
def rangeL (lo hi : Int) : List W := (List.range (hi - lo).toNat).map fun (i : Nat) => .d (.int (lo + (i : Int)))
def rangeOk (i : Int) : Bool := decide (-(2 ^ 62) ≤ i ∧ i < 2 ^ 62)
def rangeOf : List W → Option (List W)
  | [.d (.int n)] => if rangeOk n then some (rangeL 0 n) else none
  | [.d (.int a), .d (.int b)] => if rangeOk a && rangeOk b then some (rangeL a b) else none
  | _ => none
def rgOk (a b c : Int) : Bool := decide (c ≠ 0) && decide (c.natAbs < 1073741824) && Builtin.Range.small a b c && decide (0 ≤ Builtin.Range.rangeSize a b c)
def rangeC (a c : Int) (n : Nat) : List W := (List.range n).map fun (i : Nat) => .d (.int (a + (i : Int) * c))
/-- a range with a step -/
def range3L : W → W → W → Option (List W)
  | .d (.int a), .d (.int b), .d (.int c) => if rgOk a b c = true then some (rangeC a c (Builtin.Range.rangeSize a b c).toNat) else none
  | _, _, _ => none
/-- one item behind another, through a comprehension -/
def compL (ok : Store → Bool) (f : W → Store → Out (Option W)) : List W → Store → Out (List W)
  | [], S => if ok S = true then .ok [] S else .bad
  | x :: xs, S => if ok S = true then (f x S).bind fun y S => (compL ok f xs S).bind fun ys S => match y with
    | some y => .ok (y :: ys) S
    | none => .ok ys S else .bad
/-- the pairs of two lists, as tuples -/
def zipW : List D → List D → List W
  | x :: xs, y :: ys => .d (.tup [x, y]) :: zipW xs ys
  | _, _ => []
def enumW : Nat → List D → List W
  | _, [] => []
  | n, x :: xs => .d (.tup [.int n, x]) :: enumW (n + 1) xs
/-- what a pure list holds -/
def dataL : W → Option (List D)
  | .d (.lst xs) => some xs
  | .d (.rol xs) => some xs
  | _ => none
/-- what a pure list, a tuple holds -/
def dataT : W → Option (List D)
  | .d (.tup xs) => some xs
  | .d (.rtp xs) => some xs
  | w => dataL w
def zipD (x y : W) : Option (List W) := (dataT x).bind fun xs => (dataT y).map fun ys => zipW xs ys
/-- the pairs of two lists -/
def zipP : List D → List D → List D
  | x :: xs, y :: ys => .tup [x, y] :: zipP xs ys
  | _, _ => []
def enzD (x y : W) : Option (List W) := (dataT x).bind fun xs => (dataT y).map fun ys => enumW 0 (zipP xs ys)
/-- the pairs of a dict that is changed no more -/
def itemsW : W → Option (List W)
  | .d (.dct _ ks vs) => some (zipW ks vs)
  | _ => none
/-- what a list, a tuple holds, item by item -/
def itemsD (S : Store) : W → Option (List W × Option Nat)
  | .d (.tup xs) => some (xs.map .d, none)
  | .d (.lst xs) => some (xs.map .d, none)
  | .d (.rol xs) => some (xs.map .d, none)
  | .d (.rtp xs) => some (xs.map .d, none)
  | .l n => match S[n]? with
    | some (.lst xs) => some (xs, some n)
    | _ => none
  | _ => none
/-- the places of the store among arguments, each once -/
def locsOf : List W → List Nat
  | [] => []
  | .l n :: r => n :: (locsOf r).filter (· ≠ n)
  | .d _ :: r => locsOf r
def reix (ls : List Nat) : W → W
  | .d x => .d x
  | .l n => .l (ls.idxOf n)
def isD : W → Bool
  | .d _ => true
  | .l _ => false
def flatO : Ob → Bool
  | .lst xs => xs.all isD
  | .dic _ es => (es.map (·.2)).all isD
  | .dead => true
def getAll (S : Store) : List Nat → Option (List Ob)
  | [] => some []
  | n :: r => match S[n]? with
    | some o => if flatO o then (getAll S r).map (o :: ·) else none
    | none => none
def putAll (S : Store) : List Nat → List Ob → Store
  | n :: r, o :: os => putAll (S.set n o) r os
  | _, _ => S
/-- a call: the callee sees the places that are handed to it alone -/
def evCall (f : Fn) (ws : List W) (S : Store) : Out W :=
  match getAll S (locsOf ws) with
  | none => .bad
  | some os => match f (ws.map (reix (locsOf ws))) os with
    | .ok r S' => if ((S'.take os.length).all flatO && decide (os.length ≤ S'.length)) = true then
        match r with
        | .d x => .ok (.d x) (putAll S (locsOf ws) (S'.take os.length))
        | .l j => if j < os.length then Out.of ((locsOf ws)[j]?.map .l) (putAll S (locsOf ws) (S'.take os.length))
          else match S'[j]? with
            | some (.lst xs) => if xs.all isD = true then .ok (.l S.length) (putAll S (locsOf ws) (S'.take os.length) ++ [.lst xs]) else .bad
            | _ => .bad
      else .bad
    | .err c x S' => if ((S'.take os.length).all flatO && decide (os.length ≤ S'.length)) = true then .err c x (putAll S (locsOf ws) (S'.take os.length)) else .bad
    | .bad => .bad
mutual
def ev (fns : Nat → Fn) : E → Ev → Store → Out W
  | .var i, env, S => Out.of (getE env i) S
  | .const x, _, S => .ok (.d x) S
  | .glob _ v, _, S => .ok (.d v) S
  | .bin op a b, env, S => (ev fns a env S).bind fun x S => (ev fns b env S).bind fun y S => evOp op x y S
  | .neg a, env, S => (ev fns a env S).bind fun x S => match x with
    | .d (.int i) => .ok (.d (.int (-i))) S
    | _ => .bad
  | .cmp op a b, env, S => (ev fns a env S).bind fun x S => (ev fns b env S).bind fun y S => (evCmp op x y S).bind fun k S => .ok (.d (.bl k)) S
  | .chain op op' a b c, env, S => (ev fns a env S).bind fun x S => (ev fns b env S).bind fun y S => (evCmp op x y S).bind fun k S =>
    if k = true then (ev fns c env S).bind fun z S => (evCmp op' y z S).bind fun k S => .ok (.d (.bl k)) S else .ok (.d (.bl false)) S
  | .not a, env, S => (ev fns a env S).bind fun x S => Out.of ((tru S x).map fun k => .d (.bl (!k))) S
  | .bop conj es, env, S => evBop fns conj es env S
  | .ifx c a b, env, S => (evB fns c env S).bind fun k S => if k = true then ev fns a env S else ev fns b env S
  | .tup es, env, S => (evs fns es env S).bind fun ws S => if ws.length ≤ lineS then Out.of ((pures ws).map fun ds => .d (.tup ds)) S else .bad
  | .lst m es, env, S => (evs fns es env S).bind fun ws S => newL m ws S
  | .tupS xs, env, S => (evAs fns xs env S).bind fun ws S => if ws.length ≤ lineS then Out.of ((pures ws).map fun ds => .d (.tup ds)) S else .bad
  | .lstS m xs, env, S => (evAs fns xs env S).bind fun ws S => newL m ws S
  | .ix a i, env, S => (ev fns a env S).bind fun x S => (ev fns i env S).bind fun y S => evIx x y S
  | .slice a lo hi l h, env, S => (ev fns a env S).bind fun x S => (if l = true then (ev fns lo env S).bind boundI else .ok none S).bind fun y S => (if h = true then (ev fns hi env S).bind boundI else .ok none S).bind fun z S => evSlice x y z S
  | .call f es, env, S => (evs fns es env S).bind fun ws S => evCall (fns f) ws S
  | .bi b es, env, S => (evs fns es env S).bind fun ws S => evBi b ws S
  | .mt m a es, env, S => (ev fns a env S).bind fun x S => if mtIs (mtT m) x S = true then (evs fns es env S).bind fun ws S => evMt m x ws S else .bad
  | .lrange m es, env, S => (evs fns es env S).bind fun ws S => (Out.of (rangeOf ws) S).bind fun xs S => newL m xs S
  | .comp m e t it c own, env, S => (evI fns it env S).bind fun p S => if p.1.length < lineS then
    (compL (keeps p.2 p.1) (fun x S => (Out.of (bindT t x (wipeE env own)) S).bind fun env1 S => (evB fns c env1 S).noErr.bind fun k S =>
      if k = true then (ev fns e env1 S).noErr.bind fun y S => .ok (some y) S else .ok none S) p.1 S).bind fun ys S => newL m ys S else .bad
  | .rep m a n, env, S => (ev fns a env S).bind fun x S => (ev fns n env S).bind fun y S => evRep m x y S
  | .frz a, env, S => (ev fns a env S).bind fun x S => evFrz x S
  | .dict t, _, S => .ok (.l S.length) (S ++ [.dic t []])
def evs (fns : Nat → Fn) : List E → Ev → Store → Out (List W)
  | [], _, S => .ok [] S
  | e :: es, env, S => (ev fns e env S).bind fun x S => (evs fns es env S).bind fun xs S => .ok (x :: xs) S
def evAs (fns : Nat → Fn) : List A → Ev → Store → Out (List W)
  | [], _, S => .ok [] S
  | .one e :: r, env, S => (ev fns e env S).bind fun x S => (evAs fns r env S).bind fun xs S => .ok (x :: xs) S
  | .star e :: r, env, S => (ev fns e env S).bind fun x S => (Out.of (seqOf S x) S).bind fun ys S => (evAs fns r env S).bind fun xs S => .ok (ys ++ xs) S
def evB (fns : Nat → Fn) : B → Ev → Store → Out Bool
  | .val a, env, S => (ev fns a env S).bind fun x S => Out.of (tru S x) S
  | .yes, _, S => .ok true S
  | .not a, env, S => (evB fns a env S).bind fun k S => .ok (!k) S
  | .bop conj bs, env, S => evBs fns conj bs env S
  | .cmp op a b, env, S => (ev fns a env S).bind fun x S => (ev fns b env S).bind fun y S => evCmp op x y S
  | .chain op op' a b c, env, S => (ev fns a env S).bind fun x S => (ev fns b env S).bind fun y S => (evCmp op x y S).bind fun k S =>
    if k = true then (ev fns c env S).bind fun z S => evCmp op' y z S else .ok false S
/-- values joined by and, or: the last one is the end if none ahead of it decides -/
def evBop (fns : Nat → Fn) (conj : Bool) : List E → Ev → Store → Out W
  | [], _, _ => .bad
  | [e], env, S => ev fns e env S
  | e :: es, env, S => (ev fns e env S).bind fun x S => (Out.of (tru S x) S).bind fun k S => if k = conj then evBop fns conj es env S else .ok x S
def evBs (fns : Nat → Fn) (conj : Bool) : List B → Ev → Store → Out Bool
  | [], _, _ => .bad
  | [b], env, S => evB fns b env S
  | b :: bs, env, S => (evB fns b env S).bind fun k S => if k = conj then evBs fns conj bs env S else .ok k S
def evI (fns : Nat → Fn) : I → Ev → Store → Out (List W × Option Nat)
  | .seq a, env, S => (ev fns a env S).bind fun x S => Out.of (itemsD S x) S
  | .range es, env, S => (evs fns es env S).bind fun ws S => Out.of ((rangeOf ws).map fun xs => (xs, none)) S
  | .range3 a b c, env, S => (ev fns a env S).bind fun x S => (ev fns b env S).bind fun y S => (ev fns c env S).bind fun z S => Out.of ((range3L x y z).map fun xs => (xs, none)) S
  | .enum a, env, S => (ev fns a env S).bind fun x S => Out.of ((dataT x).map fun xs => (enumW 0 xs, none)) S
  | .zip a b, env, S => (ev fns a env S).bind fun x S => (ev fns b env S).bind fun y S => Out.of ((zipD x y).map fun xs => (xs, none)) S
  | .enz a b, env, S => (ev fns a env S).bind fun x S => (ev fns b env S).bind fun y S => Out.of ((enzD x y).map fun xs => (xs, none)) S
  | .items a, env, S => (ev fns a env S).bind fun x S => Out.of ((itemsW x).map fun xs => (xs, none)) S
end
/-! ### statements -/
inductive Tg where
  | name (i : Nat)
  | ix (a i : E)
inductive Sm where
  | asg (t : T) (e : E)
  /-- several targets, as many values, the targets one behind another -/
  | asgs (ts : List Tg) (es : List E)
  /-- o[i] = e -/
  | set (a i e : E)
  /-- two or three plain names at once -/
  | par (is : List Nat) (es : List E)
  | aug (i : Nat) (op : Operator) (e : E)
  | expr (e : E)
  | ret (e : E)
  | retN
  | ife (c : B) (a b : List Sm)
  | for_ (t : T) (it : I) (b : List Sm)
  | while_ (n : Nat) (c : B) (b : List Sm)
  | brk | never | pass
/-- how a statement ends -/
inductive Fl where
  | nx (env : Ev) | rt (w : W) | bk (env : Ev)
def setIx (o i v : W) (st : Store) : Option Store := match o, i with
  | .l n, .d k => match st[n]? with
    | some (.lst xs) => (match k with
      | .int k => (ixOf xs.length k).map fun j => st.set n (.lst (xs.set j v))
      | _ => none)
    | some (.dic t es) => if kOk t k = true ∧ es.length < lineS then some (st.set n (.dic t (dput es k v))) else none
    | _ => none
  | _, _ => none
def setN (i : Nat) (w : W) (env : Ev) : Option Ev := if i < env.length then some (env.set i (some w)) else none
def setNs : List Nat → List W → Ev → Option Ev
  | [], [], env => some env
  | i :: is, w :: ws, env => (setN i w env).bind (setNs is ws)
  | _, _, _ => none
def evTg (fns : Nat → Fn) : Tg → W → Ev → Store → Out Ev
  | .name i, w, env, st => Out.of (setN i w env) st
  | .ix a i, w, env, st => (ev fns a env st).bind fun o st => (ev fns i env st).bind fun k st => match setIx o k w st with
    | some st => .ok env st
    | none => .bad
def evTgs (fns : Nat → Fn) : List Tg → List W → Ev → Store → Out Ev
  | [], [], env, st => .ok env st
  | t :: ts, w :: ws, env, st => (evTg fns t w env st).bind fun env st => evTgs fns ts ws env st
  | _, _, _, _ => .bad
def augD (op : Operator) (x y : W) (st : Store) : Out W := match op, x, y with
  | .Add, .d (.int i), .d (.int j) => .ok (.d (.int (i + j))) st
  | .Sub, .d (.int i), .d (.int j) => .ok (.d (.int (i - j))) st
  | .Add, .d (.str a), .d (.str b) => if a.length + b.length ≤ lineS then .ok (.d (.str (a ++ b))) st else .bad
  | _, _, _ => .bad
/-- the turns of a loop -/
def forL (ok : Store → Bool) (f : W → Ev → Store → Out Fl) : List W → Ev → Store → Out Fl
  | [], env, st => if ok st = true then .ok (.nx env) st else .bad
  | x :: xs, env, st => if ok st = true then (f x env st).bind fun r st => match r with
    | .nx env => forL ok f xs env st
    | .bk env => .ok (.nx env) st
    | .rt w => .ok (.rt w) st else .bad
def whileL (c : Ev → Store → Out Bool) (f : Ev → Store → Out Fl) : Nat → Ev → Store → Out Fl
  | 0, _, _ => .bad
  | n + 1, env, st => (c env st).bind fun k st => if k = true then (f env st).bind fun r st => match r with
      | .nx env => whileL c f n env st
      | .bk env => .ok (.nx env) st
      | .rt w => .ok (.rt w) st
    else .ok (.nx env) st
mutual
def evS (fns : Nat → Fn) : Sm → Ev → Store → Out Fl
  | .asg t e, env, st => (ev fns e env st).bind fun x st => Out.of ((bindT t x env).map .nx) st
  | .asgs ts es, env, st => (evs fns es env st).bind fun ws st => if ws.length ≤ lineS then (evTgs fns ts ws env st).bind fun env st => .ok (.nx env) st else .bad
  | .set a i e, env, st => (ev fns e env st).bind fun w st => ((ev fns a env st).bind fun o st => (ev fns i env st).bind fun k st => match setIx o k w st with
    | some st => .ok env st
    | none => .bad).bind fun env st => .ok (.nx env) st
  | .par is es, env, st => (evs fns es env st).bind fun ws st => Out.of ((setNs is ws env).map .nx) st
  | .aug i op e, env, st => (Out.of (getE env i) st).bind fun x st => (ev fns e env st).bind fun y st => (augD op x y st).bind fun z st => Out.of ((setN i z env).map .nx) st
  | .expr e, env, st => (ev fns e env st).bind fun _ st => .ok (.nx env) st
  | .ret e, env, st => (ev fns e env st).bind fun x st => .ok (.rt x) st
  | .retN, _, st => .ok (.rt (.d .non)) st
  | .ife c a b, env, st => (evB fns c env st).bind fun k st => if k = true then evSs fns a env st else evSs fns b env st
  | .for_ t it b, env, st => (evI fns it env st).bind fun p st => forL (keeps p.2 p.1) (fun x env st => (Out.of (bindT t x env) st).bind fun env st => evSs fns b env st) p.1 env st
  | .while_ n c b, env, st => whileL (evB fns c) (evSs fns b) n env st
  | .brk, env, st => .ok (.bk env) st
  | .never, _, _ => .bad
  | .pass, env, st => .ok (.nx env) st
def evSs (fns : Nat → Fn) : List Sm → Ev → Store → Out Fl
  | [], env, st => .ok (.nx env) st
  | s :: ss, env, st => (evS fns s env st).bind fun r st => match r with
    | .nx env => evSs fns ss env st
    | .bk env => .ok (.bk env) st
    | .rt w => .ok (.rt w) st
end
/-- a def by its body; n: its slots -/
def evF (fns : Nat → Fn) (n : Nat) (b : List Sm) : Fn := fun ws st =>
  (evSs fns b (ws.map some ++ List.replicate (n - ws.length) none) st).bind fun r st => match r with
    | .rt w => .ok w st
    | .nx _ => .ok (.d .non) st
    | .bk _ => .bad
end DL
/-! DLa: defs that are called with no repr under way (FnG), their calls. -/
namespace DL
open PySem PySem.Spec PyProof.Rows L2

/-- a def's promise where no repr is under way -/
structure FnG (P : Program) (w : World) (K : PySem.W.Frag) (mg : Str → Option Value) (base : Heap) (k : Nat) (f : Addr) (fd : FuncData) (ps : List Str) (sp : Sp) : Prop where
  len : ∀ vs H Q E, sp vs H Q E → vs.length = ps.length
  run : ∀ (A : Around) (outer : List Env) (s : Shared) (H : Hp) (args : Args) (us : List Value) (vs : List V) (Q : VK) (E : XK), Room k A → A.guards = some [] →
    Env0 P w K mg base A outer s H → BindsTo s fd args (ps.zip us) → Vals vs us → sp vs H Q E → codeAny (model P w) A (.call (.ref f) args) (CR (L2.CX P w) outer P w H s Q E) s

section
variable {P : Program} {w : World} {K : PySem.W.Frag} {mg : Str → Option Value} {base : Heap} {k : Nat} {f : Addr} {fd : FuncData} {ps : List Str} {sp : Sp}
theorem FnG.mono {j : Nat} (F : FnG P w K mg base j f fd ps sp) (h : j ≤ k) : FnG P w K mg base k f fd ps sp :=
  ⟨F.len, fun A outer s H args us vs Q E hr hg => F.run A outer s H args us vs Q E (hr.mono h) hg⟩
theorem FnG.imp {sp' : Sp} (F : FnG P w K mg base k f fd ps sp) (h : ∀ vs H Q E, sp' vs H Q E → sp vs H Q E) : FnG P w K mg base k f fd ps sp' :=
  ⟨fun vs H Q E q => F.len vs H Q E (h _ _ _ _ q), fun A outer s H args us vs Q E hr hg e0 hb hv hs => F.run A outer s H args us vs Q E hr hg e0 hb hv (h _ _ _ _ hs)⟩
end

/-- how positional and keyword values come to the parameters: ord tells for each parameter which value -/
def BindsK (fd : FuncData) (ps ks : List Str) (n : Nat) (ord : List Nat) : Prop :=
  ∀ (s : Shared) (us ws : List Value), us.length = n → ws.length = ks.length → BindsTo s fd ⟨us, ks.zip ws⟩ (ps.zip (ord.filterMap fun i => (us ++ ws)[i]?))

theorem vals_pick {vs : List V} {us : List Value} (r : Vals vs us) : ∀ (ord : List Nat), Vals (ord.filterMap fun i => vs[i]?) (ord.filterMap fun i => us[i]?)
  | [] => .nil
  | i :: ord => by
    have ih := vals_pick r ord
    rw [List.filterMap_cons, List.filterMap_cons]
    cases e : vs[i]? with
    | none =>
      rw [r.none_of e]
      exact ih
    | some x =>
      obtain ⟨u, hu, rx⟩ := r.get e
      rw [hu]
      exact .cons rx ih

section
variable {X : Cx} {k : Nat} {f : Addr} {fd : FuncData} {ps ks : List Str} {sp : Sp} {E : XK} {n : Nat} {ord : List Nat}
/-- the callee runs -/
theorem runG {pins : List (Addr × Obj)} {σ : L2.St} {H : Hp} {s : Shared} {Q : VK} {us ws : List Value} {vs zs : List V} (F : FnG X.prog X.w X.K X.mg X.base k f fd ps sp) (hr : Room k X.A) (hg : X.A.guards = some [])
    (hb : BindsK fd ps ks n ord) (hx : Passes (L2.CX X.prog X.w) X E) (I : Inv X pins σ H s) (r : Vals vs us) (rz : Vals zs ws) (hn : us.length = n) (hk : ws.length = ks.length)
    (h : sp (ord.filterMap fun i => (vs ++ zs)[i]?) H Q E) : wpAny (model X.prog X.w) X.A (call (.ref f) us (ks.zip ws)) (EP X pins σ Q) X.xe s := by
  refine wpAny_call (codeAny_mono (F.run X.A X.stack s H _ _ _ Q E hr hg I.env0 (hb s us ws hn hk) (vals_pick (r.append rz) ord) h) fun r s' hq => ?_)
  match r, hq with
  | .error e, hq => exact hx pins σ H s e s' I hq
  | .ok (.ret u), hq => exact I.after hq
  | .ok .next, hq => exact hq.elim
  | .ok .brk, hq => exact hq.elim
  | .ok .cont, hq => exact hq.elim

/-- an expression that is not starred -/
def plainE : Expr → Bool
  | .Starred .. => false
  | _ => true
theorem star_plain {e : Expr} (h : plainE e = true) (es : List Expr) (env : Env) : starEach (e :: es) env = (false, eval e env) :: starEach es env := by
  cases e <;> first | rfl | cases h
theorem star_any {pos : Pos} {env : Env} : ∀ {es : List Expr}, es.all plainE = true → (backTo pos (starEach es env)).any (·.1) = false
  | [], _ => rfl
  | e :: es, h => by
    rw [List.all_cons, Bool.and_eq_true] at h
    rw [star_plain h.1]
    show (false || (backTo pos (starEach es env)).any (·.1)) = false
    rw [star_any h.2]
    rfl
/-- keywords that are names, with their values -/
def kwNames : List Keyword → List Str
  | [] => []
  | ⟨some x, _, _⟩ :: r => x :: kwNames r
  | ⟨none, _, _⟩ :: r => kwNames r
def kwPlain : List Keyword → Bool
  | [] => true
  | ⟨some _, _, _⟩ :: r => kwPlain r
  | ⟨none, _, _⟩ :: _ => false
theorem kw_all {pos : Pos} {env : Env} : ∀ {kws : List Keyword}, kwPlain kws = true → (backToKw pos (keywordEach kws env)).all (·.1.isSome) = true
  | [], _ => rfl
  | ⟨some x, v, p⟩ :: r, h => by
    show (true && (backToKw pos (keywordEach r env)).all (·.1.isSome)) = true
    rw [kw_all (kws := r) h]
    rfl
theorem kw_none {pos : Pos} {env : Env} : ∀ {kws : List Keyword}, kwPlain kws = true → (backToKw pos (keywordEach kws env)).any (·.1.isNone) = false
  | [], _ => rfl
  | ⟨some x, v, p⟩ :: r, h => by
    show (false || (backToKw pos (keywordEach r env)).any (·.1.isNone)) = false
    rw [kw_none (kws := r) h]
    rfl
theorem kw_names {pos : Pos} {env : Env} : ∀ {kws : List Keyword}, kwPlain kws = true → (backToKw pos (keywordEach kws env)).filterMap (·.1) = kwNames kws
  | [], _ => rfl
  | ⟨some x, v, p⟩ :: r, h => by
    show x :: (backToKw pos (keywordEach r env)).filterMap (·.1) = _
    rw [kw_names (kws := r) h]
    rfl

def tCallG (n kn : Nat) (ord : List Nat) (sp : Sp) (E : XK) (t tk : TA) : TE := fun σ H Q => t σ H fun vs H1 => tk σ H1 fun zs H2 => vs.length = n ∧ zs.length = kn ∧ sp (ord.filterMap fun i => (vs ++ zs)[i]?) H2 Q E
/-- behind the positional values -/
theorem callG_kw {pos : Pos} {kws : List Keyword} {tk : TA} {pins : List (Addr × Obj)} {σ : L2.St} {H : Hp} {s : Shared} {Q : VK} {us : List Value} {vs : List V}
    (F : FnG X.prog X.w X.K X.mg X.base k f fd ps sp) (hr : Room k X.A) (hgd : X.A.guards = some []) (hb : BindsK fd ps (kwNames kws) n ord) (hx : Passes (L2.CX X.prog X.w) X E) (hkw : PK X kws tk) (hkp : kwPlain kws = true)
    (I : Inv X pins σ H s) (r : Vals vs us) (q : tk σ H fun zs H2 => vs.length = n ∧ zs.length = (kwNames kws).length ∧ sp (ord.filterMap fun i => (vs ++ zs)[i]?) H2 Q E) :
    wpAny (model X.prog X.w) X.A (evalAll ((backToKw pos (keywordEach kws X.env)).map (·.2))) (fun ks s₂ => X.K.In s₂.heap ∧
      wpAny (model X.prog X.w) X.A (call (.ref f) us (((backToKw pos (keywordEach kws X.env)).filterMap (·.1)).zip ks)) (EP X pins σ Q) X.xe s₂) X.xe s := by
  refine thn (hkw.run pos pins s σ H _ I q) fun ws s2 ⟨zs, H2, I2, rz, hn, hkn, q2⟩ => ⟨I2.kIn, ?_⟩
  rw [kw_names hkp]
  exact runG F hr hgd hb hx I2 r rz (by rw [← r.length]; exact hn) (by rw [← rz.length]; exact hkn) q2
/-- f(e, .., k = v, ..) -/
theorem pe_callG {x : Str} {p pos : Pos} {e : Expr} {es : List Expr} {kws : List Keyword} {t tk : TA} (F : FnG X.prog X.w X.K X.mg X.base k f fd ps sp) (hr : Room k X.A) (hgd : X.A.guards = some []) (hg : Gl X x) (hm : X.mg x = some (.ref f))
    (hk : PySem.W.keepIn X.K (.ref f) = true) (hb : BindsK fd ps (kwNames kws) n ord) (hx : Passes (L2.CX X.prog X.w) X E) (ha : PA X (e :: es) t) (hkw : PK X kws tk) (hpl : (e :: es).all plainE = true) (hkp : kwPlain kws = true)
    (hdb : (x == ("__debug__" : Str)) = false) : PE X (.Call (.Name x p) (e :: es) kws pos) (tCallG n (kwNames kws).length ord sp E t tk) := by
  refine ⟨fun pins s σ H Q I h => ?_⟩
  refine wpAny_Call_Name_kw (ld_glob I hg hm ?_ hdb)
  have hp2 := hpl
  rw [List.all_cons, Bool.and_eq_true] at hp2
  refine PySem.W.callWith_KW (h₀ := X.base) I.ok.mod.kin hk (kw_all hkp) (thn (ha.run pos pins s σ H _ I h) fun us s1 ⟨vs, H1, I1, r, q⟩ => callG_kw F hr hgd hb hx hkw hkp I1 r q) ?_ (star_plain hp2.1 es X.env)
  rw [star_any hpl, kw_none hkp]
  rfl
/-- f(k = v, ..) -/
theorem pe_callG0 {x : Str} {p pos : Pos} {kws : List Keyword} {tk : TA} (F : FnG X.prog X.w X.K X.mg X.base k f fd ps sp) (hr : Room k X.A) (hgd : X.A.guards = some []) (hg : Gl X x) (hm : X.mg x = some (.ref f))
    (hk : PySem.W.keepIn X.K (.ref f) = true) (hb : BindsK fd ps (kwNames kws) n ord) (hx : Passes (L2.CX X.prog X.w) X E) (hkw : PK X kws tk) (hkp : kwPlain kws = true)
    (hdb : (x == ("__debug__" : Str)) = false) : PE X (.Call (.Name x p) [] kws pos) (tCallG n (kwNames kws).length ord sp E tNil tk) := by
  refine ⟨fun pins s σ H Q I h => ?_⟩
  refine wpAny_Call_Name_kw (ld_glob I hg hm ?_ hdb)
  refine PySem.W.callWith_KW0 (h₀ := X.base) I.ok.mod.kin hk (kw_all hkp) (callG_kw F hr hgd hb hx hkw hkp I .nil h) ?_
  show (false || (backToKw pos (keywordEach kws X.env)).any (·.1.isNone)) = false
  rw [kw_none hkp]
  rfl
end

/-! ### a def's body keeps its promise -/
theorem okG {P : Program} {w : World} {K : PySem.W.Frag} {mg : Str → Option Value} {base : Heap} {x qual : Str} {params : Arguments} {body : List Stmt} {scope : Scope} {dvs : List V} {kws : List (Str × V)} {f : Addr} {fd : FuncData} {N ps : List Str} {k : Nat} {sp : Sp}
    (F : FunD K x qual params body scope dvs kws f fd) (S : FnScope N ps scope) (len : ∀ vs H Q E, sp vs H Q E → vs.length = ps.length)
    (hbody : ∀ (cdv : Value) (A : Around) (outer : List Env) (s : Shared) (H : Hp) (vs : List V) (Q : VK) (E : XK), Room k (A.deeper (envOfC qual scope s.heap.objs.size f cdv)) → A.guards = some [] → sp vs H Q E →
      ∃ t, PSs (cxOf (L2.CX P w) P w K mg base N qual scope f cdv A outer s H E) body t ∧ t { nx := fun _ H' => Q .non H', rt := Q } (start N vs) H) : FnG P w K mg base (k + 1) f fd ps sp := by
  obtain ⟨oc, od, dV, kV, doc, pm, an, cdv, ct, osl, rfl, lk, hcd, _, _⟩ := F.ex
  refine ⟨len, fun A outer s H args us vs Q E hr hgd e0 hb r hsp => ?_⟩
  have hl := len vs H Q E hsp
  have hin : K.In s.heap := e0.mod.kin.keeps fun b o q => (e0.bs b o q).1
  have hno : s.heap.NoLimit := e0.mod.nolimit.keeps fun b o q => (e0.bs b o q).1
  have hk : ∀ y ∈ ps.zip us, scope.names.lookup y.1 = some .local ∨ (scope.names.lookup y.1 = some .cell ∧ ((cellsFrom (s.heap.objs.size + 1) scope.names []).lookup y.1).isSome = true) := by
    intro y hy
    obtain ⟨n, v⟩ := y
    exact (S.par n (List.of_mem_zip hy).1).imp id fun q => ⟨q, PySem.W.cellsFrom_some _ _ _ (.inl q)⟩
  refine codeAny_call_function hr.depth (hin _ _ lk) rfl S.co S.gen rfl (PySem.W.codeRec_of hin hcd) (hb _ _ _ _ (wpAny_newFunctionEnv_cells S.kind hk ?_))
  intro env he s1 x
  subst he
  obtain ⟨t, ht, hq⟩ := hbody cdv A outer s H vs Q E (hr.deeper _) hgd hsp
  have I0 := inv_start (CX := L2.CX P w) (E := E) (cd := cdv) (f := f) (qual := qual) S hr.hd e0 hl r x
  refine ⟨hno.keeps x.toInCall.keep, codeAny_func (wpAny_mono (ht.run [] s1 _ H _ I0 hq) (fun fl s' hs => ?_) fun e s' z => z)⟩
  match fl, hs with
  | .ret u, hs =>
    obtain ⟨v, σ', H', J, rv, q⟩ := hs
    exact ⟨v, H', J.os, J.bare, J.base, J.hok, rv, q⟩
  | .next, hs =>
    obtain ⟨σ', H', J, q⟩ := hs
    exact ⟨V.non, H', J.os, J.bare, J.base, J.hok, rfl, q⟩
  | .brk, ⟨_, _, _, q⟩ => exact q.elim
  | .cont, ⟨_, _, _, q⟩ => exact q.elim
end DL
/-! DLc: how data and the store lie in the abstract heap. -/
namespace DL
open PySem PySem.Spec PyProof.Rows L2

mutual
/-- a value is such data, by what is frozen -/
inductive RepD (K : PySem.W.Frag) (F : Hp) : D → V → Prop
  | non : RepD K F .non .non
  | bl (b : Bool) : RepD K F (.bl b) (.bl b)
  | int (i : Int) : RepD K F (.int i) (.int i)
  | str (x : Str) : RepD K F (.str x) (.str x)
  | tup {a : Addr} {vs : List V} {xs : List D} : F a = some (.tup vs) → RepDs K F xs vs → RepD K F (.tup xs) (.ref a)
  | lst {a : Addr} {vs : List V} {xs : List D} : F a = some (.lst vs) → RepDs K F xs vs → RepD K F (.lst xs) (.ref a)
  | rol {a : Addr} {vs : List V} {xs : List D} : SqL K F a vs → RepDs K F xs vs → RepD K F (.rol xs) (.ref a)
  | rtp {a : Addr} {vs : List V} {xs : List D} : SqT K F a vs → RepDs K F xs vs → RepD K F (.rtp xs) (.ref a)
  | dctT {a : Addr} {o : Obj} {kvs : List (List L2.Key × V)} {vs : List V} {ks xs : List D} : F a = some (.frz o (.dT kvs)) → ks.map keyT = kvs.map (fun kv => some kv.1) → vs = kvs.map (·.2) → RepDs K F xs vs → RepD K F (.dct true ks xs) (.ref a)
  | dctK {a : Addr} {o : Obj} {kvs : List (L2.Key × V)} {vs : List V} {ks xs : List D} : F a = some (.frz o (.dK kvs)) → ks.map keyK = kvs.map (fun kv => some kv.1) → vs = kvs.map (·.2) → RepDs K F xs vs → RepD K F (.dct false ks xs) (.ref a)
inductive RepDs (K : PySem.W.Frag) (F : Hp) : List D → List V → Prop
  | nil : RepDs K F [] []
  | cons {x : D} {xs : List D} {v : V} {vs : List V} : RepD K F x v → RepDs K F xs vs → RepDs K F (x :: xs) (v :: vs)
end
/-- what a name stands for -/
inductive RepW (K : PySem.W.Frag) (F : Hp) (m : List Addr) : W → V → Prop
  | d {x : D} {v : V} : RepD K F x v → RepW K F m (.d x) v
  | l {n : Nat} {a : Addr} : m[n]? = some a → RepW K F m (.l n) (.ref a)
abbrev RepWs (K : PySem.W.Frag) (F : Hp) (m : List Addr) : List W → List V → Prop := Paired (RepW K F m)
/-- one grows to the other -/
structure Le (F : Hp) (m : List Addr) (F' : Hp) (m' : List Addr) : Prop where
  f : ∀ a o, F a = some o → F' a = some o
  m : ∃ r, m' = m ++ r
theorem Le.refl {F : Hp} {m : List Addr} : Le F m F m := ⟨fun _ _ h => h, [], by simp⟩
theorem Le.trans {F F1 F2 : Hp} {m m1 m2 : List Addr} (a : Le F m F1 m1) (b : Le F1 m1 F2 m2) : Le F m F2 m2 := by
  refine ⟨fun x o h => b.f x o (a.f x o h), ?_⟩
  obtain ⟨r, e⟩ := a.m
  obtain ⟨r2, e2⟩ := b.m
  exact ⟨r ++ r2, by rw [e2, e, List.append_assoc]⟩
theorem Le.get {F F' : Hp} {m m' : List Addr} (h : Le F m F' m') {n : Nat} {a : Addr} (e : m[n]? = some a) : m'[n]? = some a := by
  obtain ⟨r, rfl⟩ := h.m
  rw [List.getElem?_append_left (List.getElem?_eq_some_iff.mp e).1]
  exact e
theorem rd_le {F F' : Hp} {a : Addr} {u : HO} (h : ∀ a o, F a = some o → F' a = some o) (r : Rd F a u) : Rd F' a u := by
  rcases r with r | ⟨o, r⟩
  · exact .inl (h _ _ r)
  · exact .inr ⟨o, h _ _ r⟩
theorem sqT_le {K : PySem.W.Frag} {F F' : Hp} {a : Addr} {vs : List V} (h : ∀ a o, F a = some o → F' a = some o) (r : SqT K F a vs) : SqT K F' a vs := r.imp (rd_le h) id
theorem sqL_le {K : PySem.W.Frag} {F F' : Hp} {a : Addr} {vs : List V} (h : ∀ a o, F a = some o → F' a = some o) (r : SqL K F a vs) : SqL K F' a vs := r.imp (rd_le h) id
mutual
theorem RepD.le {K : PySem.W.Frag} {F F' : Hp} (h : ∀ a o, F a = some o → F' a = some o) : ∀ {x : D} {v : V}, RepD K F x v → RepD K F' x v
  | _, _, .non => .non
  | _, _, .bl b => .bl b
  | _, _, .int i => .int i
  | _, _, .str x => .str x
  | _, _, .tup s r => .tup (h _ _ s) (RepDs.le h r)
  | _, _, .lst s r => .lst (h _ _ s) (RepDs.le h r)
  | _, _, .rol s r => .rol (sqL_le h s) (RepDs.le h r)
  | _, _, .rtp s r => .rtp (sqT_le h s) (RepDs.le h r)
  | _, _, .dctT s k e r => .dctT (h _ _ s) k e (RepDs.le h r)
  | _, _, .dctK s k e r => .dctK (h _ _ s) k e (RepDs.le h r)
theorem RepDs.le {K : PySem.W.Frag} {F F' : Hp} (h : ∀ a o, F a = some o → F' a = some o) : ∀ {x : List D} {v : List V}, RepDs K F x v → RepDs K F' x v
  | _, _, .nil => .nil
  | _, _, .cons a b => .cons (RepD.le h a) (RepDs.le h b)
end
theorem RepW.le {K : PySem.W.Frag} {F F' : Hp} {m m' : List Addr} (h : Le F m F' m') {w : W} {v : V} (r : RepW K F m w v) : RepW K F' m' w v := by
  cases r with
  | d r => exact .d (r.le h.f)
  | l e => exact .l (h.get e)
theorem RepWs.le {K : PySem.W.Frag} {F F' : Hp} {m m' : List Addr} (h : Le F m F' m') {w : List W} {v : List V} (r : RepWs K F m w v) : RepWs K F' m' w v := Paired.mapP r fun _ _ q => q.le h
theorem RepDs.length {K : PySem.W.Frag} {F : Hp} : ∀ {xs : List D} {vs : List V}, RepDs K F xs vs → xs.length = vs.length
  | _, _, .nil => rfl
  | _, _, .cons _ r => by rw [List.length_cons, List.length_cons, RepDs.length r]
theorem RepDs.ws {K : PySem.W.Frag} {F : Hp} {m : List Addr} : ∀ {xs : List D} {vs : List V}, RepDs K F xs vs → RepWs K F m (xs.map .d) vs
  | _, _, .nil => .nil
  | _, _, .cons a r => .cons (.d a) (RepDs.ws r)
theorem RepWs.ds {K : PySem.W.Frag} {F : Hp} {m : List Addr} : ∀ {ws : List W} {vs : List V} {xs : List D}, RepWs K F m ws vs → pures ws = some xs → RepDs K F xs vs
  | _, _, _, .nil, e => by
    cases e
    exact .nil
  | .d x :: ws, v :: vs, _, .cons (.d a) r, e => by
    unfold pures at e
    cases q : pures ws with
    | none => rw [q] at e; cases e
    | some ys =>
      rw [q] at e
      cases e
      exact .cons a (RepWs.ds r q)
  | .l n :: ws, v :: vs, _, .cons _ r, e => by cases e
theorem RepWs.get {K : PySem.W.Frag} {F : Hp} {m : List Addr} : ∀ {ws : List W} {vs : List V} {i : Nat} {w : W}, RepWs K F m ws vs → ws[i]? = some w → ∃ v, vs[i]? = some v ∧ RepW K F m w v
  | _, _, _, _, .nil, e => by simp at e
  | _, _, 0, _, .cons r _, e => by simp at e; subst e; exact ⟨_, rfl, r⟩
  | _, _, i + 1, w, .cons _ t, e => by
    obtain ⟨u, h1, h2⟩ := RepWs.get (i := i) (w := w) t (by simpa using e)
    exact ⟨u, by simpa using h1, h2⟩
theorem pures_map : ∀ xs : List D, pures (xs.map .d) = some xs
  | [] => rfl
  | x :: xs => by
    show (pures (xs.map .d)).map (x :: ·) = _
    rw [pures_map xs]
    rfl
theorem pures_length : ∀ {ws : List W} {xs : List D}, pures ws = some xs → ws = xs.map .d
  | [], xs, e => by cases e; rfl
  | .d x :: ws, xs, e => by
    unfold pures at e
    cases q : pures ws with
    | none => rw [q] at e; cases e
    | some ys =>
      rw [q] at e
      cases e
      rw [pures_length q]
      rfl
  | .l n :: ws, xs, e => by cases e

theorem nodup_get {α : Type} {a : α} : ∀ {m : List α} {i j : Nat}, m.Nodup → m[i]? = some a → m[j]? = some a → i = j
  | [], _, _, _, h, _ => by simp at h
  | _ :: _, 0, 0, _, _, _ => rfl
  | x :: m, 0, j + 1, nd, h1, h2 => by
    simp at h1 h2
    subst h1
    exact absurd (List.mem_of_getElem? h2) (List.nodup_cons.mp nd).1
  | x :: m, i + 1, 0, nd, h1, h2 => by
    simp at h1 h2
    subst h2
    exact absurd (List.mem_of_getElem? h1) (List.nodup_cons.mp nd).1
  | x :: m, i + 1, j + 1, nd, h1, h2 => by
    simp at h1 h2
    rw [nodup_get (List.nodup_cons.mp nd).2 h1 h2]

/-- the store in the heap: F what is frozen, G what is kept, m where the places lie -/
inductive DicB (K : PySem.W.Frag) (F : Hp) (m : List Addr) : HO → Bool → List (D × W) → Prop
  | k {kvs : List (L2.Key × V)} {es : List (D × W)} : es.map (fun e => keyK e.1) = kvs.map (fun kv => some kv.1) → RepWs K F m (es.map (·.2)) (kvs.map (·.2)) → DicB K F m (.dK kvs) false es
  | t {kvs : List (List L2.Key × V)} {es : List (D × W)} : es.map (fun e => keyT e.1) = kvs.map (fun kv => some kv.1) → RepWs K F m (es.map (·.2)) (kvs.map (·.2)) → DicB K F m (.dT kvs) true es
theorem DicB.le {K : PySem.W.Frag} {F F' : Hp} {m m' : List Addr} (l : Le F m F' m') {ho : HO} {t : Bool} {es : List (D × W)} (h : DicB K F m ho t es) : DicB K F' m' ho t es := by
  cases h with
  | k e r => exact .k e (RepWs.le l r)
  | t e r => exact .t e (RepWs.le l r)
def noT (o : HO) : Prop := ∀ vs, o ≠ .tup vs
theorem noT_lst {vs : List V} : noT (.lst vs) := fun _ e => nomatch e
theorem DicB.no {K : PySem.W.Frag} {F : Hp} {m : List Addr} {ho : HO} {t : Bool} {es : List (D × W)} (h : DicB K F m ho t es) : noT ho := by
  cases h <;> exact fun _ e => nomatch e
def ObjR (K : PySem.W.Frag) (F G : Hp) (m : List Addr) (H : Hp) (a : Addr) : Ob → Prop
  | .lst xs => ∃ vs, H a = some (.lst vs) ∧ F a = none ∧ G a = none ∧ RepWs K F m xs vs
  | .dic t es => ∃ ho, H a = some ho ∧ F a = none ∧ G a = none ∧ DicB K F m ho t es
  | .dead => True
structure Sim (K : PySem.W.Frag) (F G H : Hp) (m : List Addr) (S : Store) : Prop where
  fr : ∀ a o, F a = some o → H a = some o
  gr : ∀ a o, G a = some o → H a = some o
  dis : ∀ a o, G a = some o → F a = none
  mh : ∀ a ∈ m, ∃ o, H a = some o
  mg : ∀ a ∈ m, G a = none
  nd : m.Nodup
  len : m.length = S.length
  ob : ∀ (n : Nat) (o : Ob) (a : Addr), S[n]? = some o → m[n]? = some a → ObjR K F G m H a o
  gt : ∀ a o, G a = some o → noT o
  mt : ∀ a ∈ m, ∀ o, H a = some o → noT o
section
variable {K : PySem.W.Frag} {F G H : Hp} {m : List Addr} {S : Store}
theorem Sim.free (s : Sim K F G H m S) {p : Addr} (h : H p = none) : F p = none ∧ G p = none ∧ p ∉ m := by
  refine ⟨?_, ?_, fun hm => ?_⟩
  · cases e : F p with
    | none => rfl
    | some o => rw [s.fr _ _ e] at h; cases h
  · cases e : G p with
    | none => rfl
    | some o => rw [s.gr _ _ e] at h; cases h
  · obtain ⟨o, e⟩ := s.mh p hm
    rw [e] at h; cases h
theorem up_le {H : Hp} {p : Addr} {o : HO} (h : H p = none) : ∀ a u, H a = some u → upd H p o a = some u := fun a u e => by
  rw [upd_ne (ne_of_none e h)]; exact e
theorem ObjR.le {F' H' : Hp} {m' : List Addr} (l : Le F m F' m') {a : Addr} {o : Ob} (h : ObjR K F G m H a o) (hh : ∀ ho, H a = some ho → F a = none → G a = none → H' a = some ho ∧ F' a = none) : ObjR K F' G m' H' a o := by
  cases o with
  | dic t es =>
    obtain ⟨ho, h1, h2, h3, r⟩ := h
    exact ⟨ho, (hh ho h1 h2 h3).1, (hh ho h1 h2 h3).2, h3, r.le l⟩
  | lst xs =>
    obtain ⟨vs, h1, h2, h3, r⟩ := h
    exact ⟨vs, (hh _ h1 h2 h3).1, (hh _ h1 h2 h3).2, h3, RepWs.le l r⟩
  | dead => trivial
/-- a new thing, frozen at once -/
theorem Sim.froze (s : Sim K F G H m S) {p : Addr} (o : HO) (h : H p = none) : Sim K (upd F p o) G (upd H p o) m S ∧ Le F m (upd F p o) m := by
  obtain ⟨f, g, hm⟩ := s.free h
  have l : Le F m (upd F p o) m := ⟨up_le f, [], by simp⟩
  refine ⟨⟨fun a u e => ?_, fun a u e => up_le h _ _ (s.gr a u e), fun a u e => ?_, fun a ha => ?_, s.mg, s.nd, s.len, fun n u a e1 e2 => ?_, s.gt, fun a ha u e => s.mt a ha u (by rwa [upd_ne (by rintro rfl; exact hm ha)] at e)⟩, l⟩
  · by_cases q : a = p
    · subst q; rw [upd_same] at e ⊢; exact e
    · rw [upd_ne q] at e ⊢; exact s.fr a u e
  · have q : a ≠ p := by rintro rfl; rw [g] at e; cases e
    rw [upd_ne q]; exact s.dis a u e
  · obtain ⟨u, e⟩ := s.mh a ha
    exact ⟨u, up_le h _ _ e⟩
  · refine (s.ob n u a e1 e2).le l fun vs e _ _ => ?_
    have q : a ≠ p := by rintro rfl; rw [h] at e; cases e
    rw [upd_ne q, upd_ne q]
    exact ⟨e, by assumption⟩
/-- a new thing of the store -/
theorem Sim.growO (s : Sim K F G H m S) {p : Addr} {ho : HO} {ob : Ob} (h : H p = none) (hn : noT ho) (r : ∀ m', Le F m F m' → F p = none → G p = none → ObjR K F G m' (upd H p ho) p ob) : Sim K F G (upd H p ho) (m ++ [p]) (S ++ [ob]) ∧ Le F m F (m ++ [p]) := by
  obtain ⟨f, g, hm⟩ := s.free h
  have l : Le F m F (m ++ [p]) := ⟨fun _ _ e => e, [p], rfl⟩
  refine ⟨⟨fun a u e => up_le h _ _ (s.fr a u e), fun a u e => up_le h _ _ (s.gr a u e), s.dis, fun a ha => ?_, fun a ha => ?_, ?_, by rw [List.length_append, List.length_append, s.len]; rfl, fun n u a e1 e2 => ?_, s.gt, fun a ha u e => ?_⟩, l⟩
  · rcases List.mem_append.mp ha with ha | ha
    · obtain ⟨u, e⟩ := s.mh a ha
      exact ⟨u, up_le h _ _ e⟩
    · have : a = p := by simpa using ha
      subst this
      exact ⟨_, upd_same⟩
  · rcases List.mem_append.mp ha with ha | ha
    · exact s.mg a ha
    · rw [List.mem_singleton.mp ha]; exact g
  · refine List.nodup_append.mpr ⟨s.nd, by simp, fun a ha b hb => ?_⟩
    have : b = p := by simpa using hb
    subst this
    rintro rfl
    exact hm ha
  · by_cases q : n < S.length
    · rw [List.getElem?_append_left q] at e1
      rw [List.getElem?_append_left (by rw [s.len]; exact q)] at e2
      exact (s.ob n u a e1 e2).le l fun vs e z _ => ⟨up_le h _ _ e, z⟩
    · have q2 : n = S.length := by
        have := (List.getElem?_eq_some_iff.mp e1).1
        rw [List.length_append] at this
        simp at this
        omega
      subst q2
      rw [List.getElem?_append_right (Nat.le_refl _)] at e1
      rw [← s.len, List.getElem?_append_right (Nat.le_refl _)] at e2
      simp at e1 e2
      subst e1 e2
      exact r _ l f g
  · rcases List.mem_append.mp ha with ha1 | ha
    · have ne : a ≠ p := fun z => hm (z ▸ ha1)
      rw [upd_ne ne] at e
      exact s.mt a ha1 u e
    · rw [List.mem_singleton.mp ha, upd_same] at e
      cases e
      exact hn
/-- a new list of the store -/
theorem Sim.grow (s : Sim K F G H m S) {p : Addr} {xs : List W} {vs : List V} (h : H p = none) (r : RepWs K F m xs vs) : Sim K F G (upd H p (.lst vs)) (m ++ [p]) (S ++ [.lst xs]) ∧ Le F m F (m ++ [p]) :=
  s.growO h noT_lst fun _ l f g => ⟨vs, upd_same, f, g, RepWs.le l r⟩
/-- a new dict of the store -/
theorem Sim.growD (s : Sim K F G H m S) {p : Addr} (t : Bool) (h : H p = none) : Sim K F G (upd H p (if t = true then .dT [] else .dK [])) (m ++ [p]) (S ++ [.dic t []]) ∧ Le F m F (m ++ [p]) := by
  refine s.growO h (by cases t <;> exact fun _ e => nomatch e) fun _ l f g => ⟨_, upd_same, f, g, ?_⟩
  cases t with
  | true => exact .t rfl .nil
  | false => exact .k rfl .nil
/-- a thing of the store changed -/
theorem Sim.putO (s : Sim K F G H m S) {n : Nat} {a : Addr} {o ob : Ob} {ho : HO} (e : S[n]? = some o) (hl : o ≠ .dead) (ea : m[n]? = some a) (hn : noT ho) (r : F a = none → G a = none → ObjR K F G m (upd H a ho) a ob) : Sim K F G (upd H a ho) m (S.set n ob) := by
  obtain ⟨h2, h3⟩ : F a = none ∧ G a = none := by
    have q := s.ob n _ a e ea
    cases o with
    | lst xs => obtain ⟨us, h1, h2, h3, _⟩ := q; exact ⟨h2, h3⟩
    | dic t es => obtain ⟨us, h1, h2, h3, _⟩ := q; exact ⟨h2, h3⟩
    | dead => exact absurd rfl hl
  refine ⟨fun b u q => ?_, fun b u q => ?_, s.dis, fun b hb => ?_, s.mg, s.nd, by rw [List.length_set]; exact s.len, fun k u b e1 e2 => ?_, s.gt, fun b hb u q => ?_⟩
  · rw [upd_ne (by rintro rfl; rw [h2] at q; cases q)]; exact s.fr b u q
  · rw [upd_ne (by rintro rfl; rw [h3] at q; cases q)]; exact s.gr b u q
  · by_cases q : b = a
    · subst q; exact ⟨_, upd_same⟩
    · rw [upd_ne q]; exact s.mh b hb
  · by_cases q : k = n
    · subst q
      rw [ea] at e2; cases e2
      rw [List.getElem?_set_self (List.getElem?_eq_some_iff.mp e).1] at e1
      cases e1
      exact r h2 h3
    · rw [List.getElem?_set_ne (by omega)] at e1
      have ne : b ≠ a := by
        rintro rfl
        exact q (nodup_get s.nd e2 ea)
      exact (s.ob k u b e1 e2).le .refl fun vs e z _ => ⟨by rw [upd_ne ne]; exact e, z⟩
  · by_cases z : b = a
    · subst z; rw [upd_same] at q; cases q; exact hn
    · rw [upd_ne z] at q; exact s.mt b hb u q
/-- a list of the store changed -/
theorem Sim.put (s : Sim K F G H m S) {n : Nat} {a : Addr} {xs ys : List W} {vs : List V} (e : S[n]? = some (.lst xs)) (ea : m[n]? = some a) (r : RepWs K F m ys vs) : Sim K F G (upd H a (.lst vs)) m (S.set n (.lst ys)) :=
  s.putO e (fun z => nomatch z) ea noT_lst fun f g => ⟨vs, upd_same, f, g, r⟩
/-- a thing of the store that is changed no more -/
theorem Sim.frzO (s : Sim K F G H m S) {n : Nat} {a : Addr} {o : Ob} {ho ho' : HO} (e : S[n]? = some o) (hl : o ≠ .dead) (ea : m[n]? = some a) (hv : H a = some ho) (hn : noT ho') : Sim K (upd F a ho') G (upd H a ho') m (S.set n .dead) ∧ Le F m (upd F a ho') m := by
  obtain ⟨h2, h3⟩ : F a = none ∧ G a = none := by
    have q := s.ob n _ a e ea
    cases o with
    | lst xs => obtain ⟨us, h1, h2, h3, _⟩ := q; exact ⟨h2, h3⟩
    | dic t es => obtain ⟨us, h1, h2, h3, _⟩ := q; exact ⟨h2, h3⟩
    | dead => exact absurd rfl hl
  have l : Le F m (upd F a ho') m := ⟨up_le h2, [], by simp⟩
  refine ⟨⟨fun b u q => ?_, fun b u q => ?_, fun b u q => ?_, fun b hb => ?_, s.mg, s.nd, by rw [List.length_set]; exact s.len, fun k u b e1 e2 => ?_, s.gt, fun b hb u q => ?_⟩, l⟩
  · by_cases z : b = a
    · subst z; rw [upd_same] at q ⊢; exact q
    · rw [upd_ne z] at q ⊢; exact s.fr b u q
  · rw [upd_ne (by rintro rfl; rw [h3] at q; cases q)]; exact s.gr b u q
  · have z : b ≠ a := by rintro rfl; rw [h3] at q; cases q
    rw [upd_ne z]; exact s.dis b u q
  · by_cases z : b = a
    · subst z; exact ⟨_, upd_same⟩
    · rw [upd_ne z]; exact s.mh b hb
  · by_cases z : k = n
    · subst z
      rw [List.getElem?_set_self (List.getElem?_eq_some_iff.mp e).1] at e1
      cases e1
      trivial
    · rw [List.getElem?_set_ne (by omega)] at e1
      have ne : b ≠ a := by
        rintro rfl
        exact z (nodup_get s.nd e2 ea)
      exact (s.ob k u b e1 e2).le l fun vs e z _ => ⟨by rw [upd_ne ne]; exact e, by rw [upd_ne ne]; exact z⟩
  · by_cases z : b = a
    · subst z; rw [upd_same] at q; cases q; exact hn
    · rw [upd_ne z] at q; exact s.mt b hb u q
theorem upd_self {H : Hp} {a : Addr} {o : HO} (h : H a = some o) : upd H a o = H := by
  funext b
  by_cases z : b = a
  · subst z; rw [upd_same, h]
  · rw [upd_ne z]
theorem Sim.frz (s : Sim K F G H m S) {n : Nat} {a : Addr} {xs : List W} {vs : List V} (e : S[n]? = some (.lst xs)) (ea : m[n]? = some a) (hv : H a = some (.lst vs)) : Sim K (upd F a (.lst vs)) G H m (S.set n .dead) ∧ Le F m (upd F a (.lst vs)) m := by
  have q := s.frzO e (fun z => nomatch z) ea hv noT_lst (ho' := .lst vs)
  rw [upd_self hv] at q
  exact q
/-- a tuple that stands in the heap is as good as frozen -/
theorem Sim.addT (s : Sim K F G H m S) {q : Addr} {vs : List V} (h : H q = some (.tup vs)) : Sim K (upd F q (.tup vs)) G H m S ∧ Le F m (upd F q (.tup vs)) m := by
  have hF : F q = none ∨ F q = some (.tup vs) := by
    cases e : F q with
    | none => exact .inl rfl
    | some o => rw [s.fr _ _ e] at h; cases h; exact .inr rfl
  rcases hF with hF | hF
  · have hG : G q = none := by
      cases e : G q with
      | none => rfl
      | some o => rw [s.gr _ _ e] at h; cases h; exact absurd rfl (s.gt _ _ e vs)
    have hm : q ∉ m := fun hm => s.mt q hm _ h vs rfl
    have l : Le F m (upd F q (.tup vs)) m := ⟨up_le hF, [], by simp⟩
    refine ⟨⟨fun b u e => ?_, s.gr, fun b u e => ?_, s.mh, s.mg, s.nd, s.len, fun k u b e1 e2 => ?_, s.gt, s.mt⟩, l⟩
    · by_cases z : b = q
      · subst z; rw [upd_same] at e; cases e; exact h
      · rw [upd_ne z] at e; exact s.fr b u e
    · have z : b ≠ q := by rintro rfl; rw [hG] at e; cases e
      rw [upd_ne z]; exact s.dis b u e
    · have z : b ≠ q := by rintro rfl; exact hm (List.mem_of_getElem? e2)
      exact (s.ob k u b e1 e2).le l fun ho e f _ => ⟨e, by rw [upd_ne z]; exact f⟩
  · rw [upd_self hF]
    exact ⟨s, .refl⟩
theorem Sim.at_ (s : Sim K F G H m S) {n : Nat} {xs : List W} (e : S[n]? = some (.lst xs)) : ∃ a vs, m[n]? = some a ∧ H a = some (.lst vs) ∧ RepWs K F m xs vs := by
  have h : n < m.length := by rw [s.len]; exact (List.getElem?_eq_some_iff.mp e).1
  obtain ⟨vs, h1, _, _, r⟩ := s.ob n _ _ e (List.getElem?_eq_getElem h)
  exact ⟨_, vs, List.getElem?_eq_getElem h, h1, r⟩
theorem Sim.unG {D : Addr} {o : HO} (s : Sim K F (upd G D o) H m S) (hD : G D = none) : Sim K F G H m S := by
  have le := up_le (p := D) (o := o) hD
  have no : ∀ {a : Addr}, upd G D o a = none → G a = none := fun {a} h => by
    cases e : G a with
    | none => rfl
    | some u => rw [le _ _ e] at h; cases h
  refine ⟨s.fr, fun a u e => s.gr a u (le a u e), fun a u e => s.dis a u (le a u e), s.mh, fun a ha => no (s.mg a ha), s.nd, s.len, fun n u a e1 e2 => ?_, fun a u e => s.gt a u (le a u e), s.mt⟩
  have q := s.ob n u a e1 e2
  cases u with
  | lst xs => obtain ⟨vs, h1, h2, h3, r⟩ := q; exact ⟨vs, h1, h2, no h3, r⟩
  | dic t es => obtain ⟨vs, h1, h2, h3, r⟩ := q; exact ⟨vs, h1, h2, no h3, r⟩
  | dead => trivial
/-- what was kept is frozen -/
theorem Sim.gF {D : Addr} {o : HO} (s : Sim K F (upd G D o) H m S) (hD : G D = none) : Sim K (upd F D o) G H m S ∧ Le F m (upd F D o) m := by
  have t := s.unG hD
  have fD : F D = none := s.dis D o upd_same
  have l : Le F m (upd F D o) m := ⟨up_le fD, [], by simp⟩
  have nD : ∀ a ∈ m, a ≠ D := fun a ha e => by subst e; have := s.mg a ha; rw [upd_same] at this; cases this
  refine ⟨⟨fun a u e => ?_, t.gr, fun a u e => ?_, t.mh, t.mg, t.nd, t.len, fun n u a e1 e2 => ?_, t.gt, t.mt⟩, l⟩
  · by_cases q : a = D
    · subst q; rw [upd_same] at e; cases e; exact s.gr _ _ upd_same
    · rw [upd_ne q] at e; exact s.fr a u e
  · rw [upd_ne (by rintro rfl; rw [hD] at e; cases e)]; exact t.dis a u e
  · have ne := nD a (List.mem_of_getElem? e2)
    exact (t.ob n u a e1 e2).le l fun vs e z _ => ⟨e, by rw [upd_ne ne]; exact z⟩
/-- what was kept comes to the store -/
theorem Sim.gM {D : Addr} {vs : List V} {xs : List W} (s : Sim K F (upd G D (.lst vs)) H m S) (hD : G D = none) (r : RepWs K F m xs vs) : Sim K F G H (m ++ [D]) (S ++ [.lst xs]) ∧ Le F m F (m ++ [D]) := by
  have t := s.unG hD
  have fD : F D = none := s.dis D _ upd_same
  have hH : H D = some (.lst vs) := s.gr _ _ upd_same
  have l : Le F m F (m ++ [D]) := ⟨fun _ _ e => e, [D], rfl⟩
  have nD : ∀ a ∈ m, a ≠ D := fun a ha e => by subst e; have := s.mg a ha; rw [upd_same] at this; cases this
  refine ⟨⟨t.fr, t.gr, t.dis, fun a ha => ?_, fun a ha => ?_, ?_, by rw [List.length_append, List.length_append, t.len]; rfl, fun n u a e1 e2 => ?_, t.gt, fun a ha u e => ?_⟩, l⟩
  · rcases List.mem_append.mp ha with ha | ha
    · exact t.mh a ha
    · rw [List.mem_singleton.mp ha]; exact ⟨_, hH⟩
  · rcases List.mem_append.mp ha with ha | ha
    · exact t.mg a ha
    · rw [List.mem_singleton.mp ha]; exact hD
  · refine List.nodup_append.mpr ⟨t.nd, by simp, fun a ha b hb => ?_⟩
    rw [List.mem_singleton.mp hb]
    exact nD a ha
  · by_cases q : n < S.length
    · rw [List.getElem?_append_left q] at e1
      rw [List.getElem?_append_left (by rw [t.len]; exact q)] at e2
      exact (t.ob n u a e1 e2).le l fun vs e z _ => ⟨e, z⟩
    · have q2 : n = S.length := by
        have := (List.getElem?_eq_some_iff.mp e1).1
        rw [List.length_append] at this
        simp at this
        omega
      subst q2
      rw [List.getElem?_append_right (Nat.le_refl _)] at e1
      rw [← t.len, List.getElem?_append_right (Nat.le_refl _)] at e2
      simp at e1 e2
      subst e1 e2
      exact ⟨vs, hH, fD, hD, RepWs.le l r⟩
  · rcases List.mem_append.mp ha with ha | ha
    · exact t.mt a ha u e
    · rw [List.mem_singleton.mp ha, hH] at e
      cases e
      exact noT_lst
end
end DL
/-! DLd: ends, readings, operators by values. -/
namespace DL
open PySem PySem.Spec PyProof.Rows L2

/-- what is wanted of an outcome -/
def Post (K : PySem.W.Frag) (mg : Str → Option Value) (G : Hp) (E : XK) {α : Type} (F : Hp) (m : List Addr) (o : Out α) (k : α → Store → Hp → List Addr → Hp → Prop) : Prop := match o with
  | .ok a S => ∀ F' m' H', Le F m F' m' → Sim K F' G H' m' S → k a S F' m' H'
  | .err c x S => ∀ F' m' H' C d v, Le F m F' m' → Sim K F' G H' m' S → mg c = some (.ref C) → H' d = some (.xd [("value", v)]) → RepD K F' x v → E (.ref C) (some d) H'
  | .bad => False
section
variable {K : PySem.W.Frag} {mg : Str → Option Value} {G F H : Hp} {E : XK} {m : List Addr} {S : Store} {α β : Type}
theorem Post.mono {o : Out α} {k k' : α → Store → Hp → List Addr → Hp → Prop} (h : Post K mg G E F m o k) (hk : ∀ a S F' m' H', Le F m F' m' → Sim K F' G H' m' S → k a S F' m' H' → k' a S F' m' H') : Post K mg G E F m o k' := by
  cases o with
  | ok a S => exact fun F' m' H' l s => hk a S F' m' H' l s (h F' m' H' l s)
  | err c x S => exact h
  | bad => exact h
theorem Post.le {F1 : Hp} {m1 : List Addr} {o : Out α} {k : α → Store → Hp → List Addr → Hp → Prop} (h : Post K mg G E F m o k) (l : Le F m F1 m1) : Post K mg G E F1 m1 o k := by
  cases o with
  | ok a S => exact fun F' m' H' l2 s => h F' m' H' (l.trans l2) s
  | err c x S => exact fun F' m' H' C d v l2 => h F' m' H' C d v (l.trans l2)
  | bad => exact h
theorem Post.bind {o : Out α} {f : α → Store → Out β} {k : β → Store → Hp → List Addr → Hp → Prop} (h : Post K mg G E F m (o.bind f) k) : Post K mg G E F m o fun a S F' m' H' => Post K mg G E F' m' (f a S) k := by
  cases o with
  | ok a S => exact fun F' m' H' l s => Post.le h l
  | err c x S => exact h
  | bad => exact h
/-- at once -/
theorem Post.now {a : α} {k : α → Store → Hp → List Addr → Hp → Prop} (h : Post K mg G E F m (.ok a S) k) (s : Sim K F G H m S) : k a S F m H := h F m H .refl s
theorem Post.of {o : Option α} {k : α → Store → Hp → List Addr → Hp → Prop} (h : Post K mg G E F m (Out.of o S) k) : ∃ a, o = some a ∧ Post K mg G E F m (.ok a S) k := by
  cases o with
  | none => exact h.elim
  | some a => exact ⟨a, rfl, h⟩
/-- .. a value -/
abbrev kW (K : PySem.W.Frag) (Q : VK) : W → Store → Hp → List Addr → Hp → Prop := fun w _ F' m' H' => ∀ v, RepW K F' m' w v → Q v H'
abbrev kB (Q : Bool → Hp → Prop) : Bool → Store → Hp → List Addr → Hp → Prop := fun b _ _ _ H' => Q b H'
abbrev kWs (K : PySem.W.Frag) (Q : List V → Hp → Prop) : List W → Store → Hp → List Addr → Hp → Prop := fun ws _ F' m' H' => ∀ vs, RepWs K F' m' ws vs → Q vs H'
/-- a new frozen thing as the end -/
theorem Post.frozen {x : D} {o : HO} {Q : VK} (h : Post K mg G E F m (.ok (.d x) S) (kW K Q)) (s : Sim K F G H m S) (r : ∀ p F', (∀ a u, F a = some u → F' a = some u) → F' p = some o → RepD K F' x (.ref p)) : ∀ p, H p = none → Q (.ref p) (upd H p o) := fun p hp => by
  obtain ⟨s1, l1⟩ := s.froze o hp
  exact h _ _ _ l1 s1 _ (.d (r p _ l1.f upd_same))
/-- a new list of the store as the end -/
theorem Post.newL {xs : List W} {vs : List V} {Q : VK} (h : Post K mg G E F m (.ok (.l S.length) (S ++ [.lst xs])) (kW K Q)) (s : Sim K F G H m S) (r : RepWs K F m xs vs) : ∀ p, H p = none → Q (.ref p) (upd H p (.lst vs)) := fun p hp => by
  obtain ⟨s1, l1⟩ := s.grow hp r
  exact h _ _ _ l1 s1 _ (.l (by rw [← s.len, List.getElem?_append_right (Nat.le_refl _)]; simp))
end

/-- two values reckoned with -/
def rW2 (K : PySem.W.Frag) (mg : Str → Option Value) (E : XK) (f : W → W → Store → Out W) : R2 := fun x y H Q => ∃ F G m S wx wy, Sim K F G H m S ∧ RepW K F m wx x ∧ RepW K F m wy y ∧ Post K mg G E F m (f wx wy S) (kW K Q)

theorem intOf {K : PySem.W.Frag} {F : Hp} {i : Int} {v : V} (r : RepD K F (.int i) v) : v = .int i := by cases r; rfl
theorem strOf {K : PySem.W.Frag} {F : Hp} {i : Str} {v : V} (r : RepD K F (.str i) v) : v = .str i := by cases r; rfl
theorem blOf {K : PySem.W.Frag} {F : Hp} {i : Bool} {v : V} (r : RepD K F (.bl i) v) : v = .bl i := by cases r; rfl
theorem tupOf {K : PySem.W.Frag} {F : Hp} {xs : List D} {v : V} (r : RepD K F (.tup xs) v) : ∃ a vs, v = .ref a ∧ SqT K F a vs ∧ RepDs K F xs vs := by cases r with | tup s q => exact ⟨_, _, rfl, .inl (.inl s), q⟩
theorem tupOfF {K : PySem.W.Frag} {F : Hp} {xs : List D} {v : V} (r : RepD K F (.tup xs) v) : ∃ a vs, v = .ref a ∧ F a = some (.tup vs) ∧ RepDs K F xs vs := by cases r with | tup s q => exact ⟨_, _, rfl, s, q⟩
theorem rtpOf {K : PySem.W.Frag} {F : Hp} {xs : List D} {v : V} (r : RepD K F (.rtp xs) v) : ∃ a vs, v = .ref a ∧ SqT K F a vs ∧ RepDs K F xs vs := by cases r with | rtp s q => exact ⟨_, _, rfl, s, q⟩
theorem lstOf {K : PySem.W.Frag} {F : Hp} {xs : List D} {v : V} (r : RepD K F (.lst xs) v) : ∃ a vs, v = .ref a ∧ F a = some (.lst vs) ∧ RepDs K F xs vs := by cases r with | lst s q => exact ⟨_, _, rfl, s, q⟩
theorem rolOf {K : PySem.W.Frag} {F : Hp} {xs : List D} {v : V} (r : RepD K F (.rol xs) v) : ∃ a vs, v = .ref a ∧ SqL K F a vs ∧ RepDs K F xs vs := by cases r with | rol s q => exact ⟨_, _, rfl, s, q⟩
theorem RepDs.append {K : PySem.W.Frag} {F : Hp} : ∀ {xs ys : List D} {us vs : List V}, RepDs K F xs us → RepDs K F ys vs → RepDs K F (xs ++ ys) (us ++ vs)
  | _, _, _, _, .nil, b => b
  | _, _, _, _, .cons a r, b => .cons a (RepDs.append r b)

section
variable {X : Cx} {mg : Str → Option Value} {E : XK}
theorem opr_bin (op : Operator) : OpR X (binaryOp op) (rW2 X.K mg E (evOp op)) := by
  rintro pins s σ H x y v u Q I rx ry ⟨F, G, m, S, wx, wy, hs, hx, hy, hp⟩
  cases hx with
  | l e => exact hp.elim
  | @d dx _ hx =>
  cases hy with
  | l e => exact hp.elim
  | @d dy _ hy =>
  obtain ⟨z, ez, hp⟩ := Post.of hp
  cases e : opD op dx dy with
  | none => rw [e] at ez; cases ez
  | some d =>
    rw [e] at ez
    cases ez
    unfold opD at e
    split at e
    · cases intOf hx; cases intOf hy; cases e
      exact op_add pins s σ H _ _ v u Q I rx ry ⟨_, _, rfl, rfl, hp.now hs _ (.d (.int _))⟩
    · cases intOf hx; cases intOf hy; cases e
      exact op_sub pins s σ H _ _ v u Q I rx ry ⟨_, _, rfl, rfl, hp.now hs _ (.d (.int _))⟩
    · cases intOf hx; cases intOf hy
      split at e
      · rename_i hm
        cases e
        have hm := of_decide_eq_true hm
        exact op_mulX pins s σ H _ _ v u Q I rx ry ⟨_, _, rfl, rfl, by unfold CMulX; omega, hp.now hs _ (.d (.int _))⟩
      · cases e
    · cases intOf hx; cases intOf hy
      split at e
      · rename_i hm
        cases e
        exact op_mod pins s σ H _ _ v u Q I rx ry ⟨_, _, rfl, rfl, hm, hp.now hs _ (.d (.int _))⟩
      · cases e
    · cases intOf hx; cases intOf hy
      split at e
      · rename_i hm
        cases e
        have hm := of_decide_eq_true hm
        exact op_fdivW pins s σ H _ _ v u Q I rx ry ⟨_, _, rfl, rfl, hm, hp.now hs _ (.d (.int _))⟩
      · cases e
    · cases intOf hx; cases intOf hy
      split at e
      · rename_i hm
        cases e
        have hm := of_decide_eq_true hm
        obtain ⟨t, rfl⟩ := rx
        obtain ⟨t', rfl⟩ := ry
        exact pow_int hm.1 (Int.le_trans hm.2 (by decide)) ⟨.int _, H, I.tok _, ⟨_, rfl⟩, hp.now hs _ (.d (.int _))⟩
      · cases e
    · cases strOf hx; cases strOf hy
      split at e
      · rename_i hm
        cases e
        exact op_add_str pins s σ H _ _ v u Q I rx ry ⟨_, _, rfl, rfl, Nat.le_trans hm (by decide), hp.now hs _ (.d (.str _))⟩
      · cases e
    · obtain ⟨a, us, rfl, sa0, ra⟩ := tupOfF hx
      obtain ⟨b, vs, rfl, sb0, rb⟩ := tupOfF hy
      have sa : SqT X.K F a us := .inl (.inl sa0)
      have sb : SqT X.K F b vs := .inl (.inl sb0)
      split at e
      · rename_i hm
        cases e
        rw [ra.length, rb.length] at hm
        refine op_catA pins s σ H _ _ v u Q I rx ry ⟨a, b, us, vs, rfl, rfl, sqT_le hs.fr sa, sqT_le hs.fr sb, Nat.le_trans hm (by decide), fun e => ?_, fun _ e => ?_, fun _ _ => Post.frozen hp hs fun p F' l h => .tup h ((ra.append rb).le l)⟩
        · subst e
          cases ra
          exact hp.now hs _ (.d (.tup sb0 rb))
        · subst e
          cases rb
          refine hp.now hs _ (.d (.tup sa0 ?_))
          rw [List.append_nil]
          exact ra
      · cases e
    · obtain ⟨a, us, rfl, sa, ra⟩ := lstOf hx
      obtain ⟨b, vs, rfl, sb, rb⟩ := lstOf hy
      split at e
      · rename_i hm
        cases e
        rw [ra.length, rb.length] at hm
        exact op_cat pins s σ H _ _ v u Q I rx ry ⟨a, b, us, vs, rfl, rfl, hs.fr _ _ sa, hs.fr _ _ sb, Nat.le_trans hm (by decide), Post.frozen hp hs fun p F' l h => .lst h ((ra.append rb).le l)⟩
      · cases e
    · cases e

/-! ### comparisons -/
mutual
/-- no dict within -/
def noDc : D → Bool
  | .dct _ _ _ => false
  | .tup xs => noDcs xs
  | .lst xs => noDcs xs
  | .rol xs => noDcs xs
  | .rtp xs => noDcs xs
  | _ => true
def noDcs : List D → Bool
  | [] => true
  | x :: xs => noDc x && noDcs xs
end
mutual
theorem sh_noDc : ∀ (n : Nat) (x : D), sh n x = true → noDc x = true
  | n, .non, _ => rfl
  | n, .bl _, _ => rfl
  | n, .int _, _ => rfl
  | n, .str _, _ => rfl
  | n, .dct _ _ _, h => by cases n <;> cases h
  | 0, .tup xs, h => by cases h
  | 0, .lst xs, h => by cases h
  | 0, .rol xs, h => by cases h
  | 0, .rtp xs, h => by cases h
  | n + 1, .tup xs, h => shs_noDc n xs h
  | n + 1, .lst xs, h => shs_noDc n xs h
  | n + 1, .rol xs, h => shs_noDc n xs h
  | n + 1, .rtp xs, h => shs_noDc n xs h
theorem shs_noDc : ∀ (n : Nat) (x : List D), shs n x = true → noDcs x = true
  | n, [], _ => rfl
  | n, x :: xs, h => by
    have h' : (sh n x && shs n xs) = true := by cases n <;> exact h
    rw [Bool.and_eq_true] at h'
    show (noDc x && noDcs xs) = true
    rw [sh_noDc n x h'.1, shs_noDc n xs h'.2]
    rfl
end
mutual
theorem RepD.dp0 {K : PySem.W.Frag} {F H : Hp} (h : ∀ a o, F a = some o → H a = some o) : ∀ {x : D} {v : V}, noDc x = true → RepD K F x v → Dp K H v x.py
  | _, _, _, .non => .non
  | _, _, _, .bl b => .bl b
  | _, _, _, .int i => .int i
  | _, _, _, .str x => .str x
  | _, _, n, .tup s r => .tup (.inl (.inl (h _ _ s))) (RepDs.dp0 h n r)
  | _, _, n, .lst s r => .lst (.inl (.inl (h _ _ s))) (RepDs.dp0 h n r)
  | _, _, n, .rol s r => .lst (sqL_le h s) (RepDs.dp0 h n r)
  | _, _, n, .rtp s r => .tup (sqT_le h s) (RepDs.dp0 h n r)
  | _, _, n, .dctT _ _ _ _ => absurd n Bool.false_ne_true
  | _, _, n, .dctK _ _ _ _ => absurd n Bool.false_ne_true
theorem RepDs.dp0 {K : PySem.W.Frag} {F H : Hp} (h : ∀ a o, F a = some o → H a = some o) : ∀ {x : List D} {v : List V}, noDcs x = true → RepDs K F x v → DpAll K H v (D.pys x)
  | _, _, _, .nil => .nil
  | _, _, n, .cons a b => by
    obtain ⟨n1, n2⟩ := Bool.and_eq_true _ _ |>.mp n
    exact .cons (RepD.dp0 h n1 a) (RepDs.dp0 h n2 b)
end
theorem RepD.dp {K : PySem.W.Frag} {F H : Hp} (h : ∀ a o, F a = some o → H a = some o) {x : D} {v : V} {n : Nat} (hs : sh n x = true) (r : RepD K F x v) : Dp K H v x.py := r.dp0 h (sh_noDc n x hs)
theorem RepDs.dp {K : PySem.W.Frag} {F H : Hp} (h : ∀ a o, F a = some o → H a = some o) {x : List D} {v : List V} {n : Nat} (hs : shs n x = true) (r : RepDs K F x v) : DpAll K H v (D.pys x) := r.dp0 h (shs_noDc n x hs)
mutual
theorem deq_py : ∀ x y : D, deq x y = PyData.eqv x.py y.py
  | .non, y => by cases y <;> rfl
  | .bl a, y => by
    cases y with
    | int j => show decide _ = ((if a = true then 1 else 0 : Int) == j); exact (Bool.beq_eq_decide_eq _ _).symm
    | _ => rfl
  | .int i, y => by
    cases y with
    | int j => exact (Bool.beq_eq_decide_eq i j).symm
    | bl b => show decide _ = (i == (if b = true then 1 else 0 : Int)); exact (Bool.beq_eq_decide_eq _ _).symm
    | _ => rfl
  | .str x, y => by
    cases y with
    | str z => exact (Bool.beq_eq_decide_eq x z).symm
    | _ => rfl
  | .dct t xs zs, y => by cases y <;> rfl
  | .tup xs, y => by
    cases y with
    | tup ys => exact deqs_py xs ys
    | rtp ys => exact deqs_py xs ys
    | _ => rfl
  | .rtp xs, y => by
    cases y with
    | tup ys => exact deqs_py xs ys
    | rtp ys => exact deqs_py xs ys
    | _ => rfl
  | .lst xs, y => by
    cases y with
    | lst ys => exact deqs_py xs ys
    | rol ys => exact deqs_py xs ys
    | _ => rfl
  | .rol xs, y => by
    cases y with
    | lst ys => exact deqs_py xs ys
    | rol ys => exact deqs_py xs ys
    | _ => rfl
theorem deqs_py : ∀ x y : List D, deqs x y = PyData.eqvAll (D.pys x) (D.pys y)
  | [], [] => rfl
  | [], _ :: _ => rfl
  | _ :: _, [] => rfl
  | x :: xs, y :: ys => by
    show (deq x y && deqs xs ys) = (PyData.eqv x.py y.py && PyData.eqvAll (D.pys xs) (D.pys ys))
    rw [deq_py x y, deqs_py xs ys]
end
mutual
theorem sh_can : ∀ (n : Nat) (x : D), sh n x = true → x.py.canLay0 = true ∧ x.py.depth ≤ n + 1
  | n, .non, _ => ⟨rfl, by simp [D.py, PyData.depth]⟩
  | n, .bl b, _ => ⟨rfl, by simp [D.py, PyData.depth]⟩
  | n, .int i, _ => ⟨rfl, by simp [D.py, PyData.depth]⟩
  | n, .str x, h => ⟨by
      have h' : strF x = true := by cases n <;> exact h
      exact h', by simp [D.py, PyData.depth]⟩
  | 0, .tup xs, h => by cases h
  | 0, .lst xs, h => by cases h
  | 0, .rol xs, h => by cases h
  | 0, .rtp xs, h => by cases h
  | n, .dct _ _ _, h => by cases n <;> cases h
  | n + 1, .rtp xs, h => by
    obtain ⟨a, b⟩ := shs_can n xs h
    refine ⟨a, ?_⟩
    simp only [D.py, PyData.depth]
    omega
  | n + 1, .tup xs, h => by
    obtain ⟨a, b⟩ := shs_can n xs h
    refine ⟨a, ?_⟩
    simp only [D.py, PyData.depth]
    omega
  | n + 1, .lst xs, h => by
    obtain ⟨a, b⟩ := shs_can n xs h
    refine ⟨a, ?_⟩
    simp only [D.py, PyData.depth]
    omega
  | n + 1, .rol xs, h => by
    obtain ⟨a, b⟩ := shs_can n xs h
    refine ⟨a, ?_⟩
    simp only [D.py, PyData.depth]
    omega
theorem shs_can : ∀ (n : Nat) (x : List D), shs n x = true → PyData.canLayAll0 (D.pys x) = true ∧ PyData.depthAll (D.pys x) ≤ n + 1
  | n, [], _ => ⟨rfl, by simp [D.pys, PyData.depthAll]⟩
  | n, x :: xs, h => by
    have h' : (sh n x && shs n xs) = true := by cases n <;> exact h
    rw [Bool.and_eq_true] at h'
    obtain ⟨a, b⟩ := sh_can n x h'.1
    obtain ⟨c, d⟩ := shs_can n xs h'.2
    refine ⟨by show (PyData.canLay0 _ && PyData.canLayAll0 _) = true; rw [a, c]; rfl, ?_⟩
    simp only [D.pys, PyData.depthAll]
    omega
end
theorem sh_shaped {n : Nat} {x : D} (hn : n ≤ 60) (h : sh n x = true) : SeqAt.shaped x.py = true := by
  obtain ⟨a, b⟩ := sh_can n x h
  unfold SeqAt.shaped
  rw [a, decide_eq_true (show x.py.depth ≤ 64 by omega)]
  rfl
theorem has_any (x : D) : ∀ ys : List D, hasD x ys = (D.pys ys).any fun z => PyData.eqv z x.py
  | [] => rfl
  | y :: ys => by
    show (deq y x || hasD x ys) = (PyData.eqv y.py x.py || _)
    rw [deq_py y x, has_any x ys]
end
end DL
/-! DLf0: repr of data with long integers. -/
namespace DL
open PySem PySem.Spec PyProof.Rows L2

section
variable {prog : Program} {w : World} {A : Around} {E : Value → Shared → Prop} {s : Shared} {h0 : Heap}
theorem int_text {a : Int} {t : Tok} {Q : Value → Shared → Prop} (hn : s.heap.NoDigits) (ha : a.natAbs < digitL) (h : Q (.str (toString a) s.toks) { s with toks := s.toks + 1 }) :
    wpAny (model prog w) A (call (.builtin "int.__repr__") [.int a t]) Q E s := by
  refine wpAny_call_entry F.slot_int_repr (typeIs_int s a t) F.entry_int_repr ?_ (F.args_int_repr_1 _)
  unfold Builtin.«int.__repr__»
  show wpAny _ _ (do
    let r ← Builtin.overDigitLimit? a
    _) _ _ s
  refine wpAny_bind (overDigitLimit_any hn (fun lt => ?_) fun ge => absurd ha (Nat.not_lt.mpr ge))
  exact wpAny_bind (wpAny_mkStr (wpAny_pure ⟨_, rfl, h⟩) (int_text_fits10 lt))
theorem int_under {a : Int} {t : Tok} {as : List Addr} {d : Nat} (hn : h0.NoDigits) (ha : a.natAbs < digitL) : ReprK prog w as h0 d (.int a t) (toString a) := by
  intro base hb A g E s Q hg hcl hu hk hQ
  rw [pyReprUnder_leaf (v := .int a t) (by omega) (fun _ e => nomatch e)]
  unfold pyRepr
  exact wpAny_bind (wpAny_pyReprObj_slot (by omega) (typeIs_int s a t) F.slot_int_repr.toG (int_text (hn.keeps hk) ha ⟨_, _, rfl, wpAny_pure (hQ s.heap _ fun _ _ e => e)⟩))
mutual
theorem under_of (hn : h0.NoDigits) : ∀ {v : Value} {d : PyData} {as : List Addr}, Reads h0 v d as → tells d = true → d.shown.length ≤ sizeLine →
    ∃ bs, ReadAtMost h0 d.depth bs ∧ ReprK prog w bs h0 d.depth v d.shown
  | _, _, _, .none, _, _ => ⟨[], (fun _ h => nomatch h), by simp only [PyData.shown]; exact .of_is ReprIs.none _ _ _⟩
  | _, _, _, .bool b, _, _ => ⟨[], (fun _ h => nomatch h), by simp only [PyData.shown]; exact .of_is (ReprIs.bool b) _ _ _⟩
  | _, _, _, .int i t, ht, _ => ⟨[], (fun _ h => nomatch h), by simp only [PyData.shown]; exact int_under hn (by simpa [tells] using ht)⟩
  | _, _, _, .str x t, _, hz => ⟨[], (fun _ h => nomatch h), by simp only [PyData.shown]; exact .of_is (ReprIs.str x t (by simpa only [PyData.shown] using hz)) _ _ _⟩
  | _, _, _, .list (a := a) (vs := vs) (xs := xs) g1 g2 g3 g4, ht, hz => by
    simp only [PyData.shown] at hz
    obtain ⟨bs, le, all⟩ := under_all hn g4 (by simpa [tells] using ht) fun t ht => Nat.le_trans (listText_mem_le ht) hz
    have rd : Reads h0 (.ref a) (.list xs) _ := .list g1 g2 g3 g4
    have off : a ∉ bs := not_mem_of_deeper rd (by simp only [PyData.depth]; omega) le
    refine ⟨a :: bs, ReadAtMost.cons rd (by simp only [PyData.depth]; omega) le, ?_⟩
    simp only [PyData.depth, PyData.shown]
    obtain ⟨l⟩ := vs
    cases l with
    | nil =>
      cases (show ReadsAll h0 [] xs _ from g4)
      simp only [PyData.shownAll, listText_nil]
      exact .listEmpty g1 g2 g3
    | cons x l => exact .list g1 g2 g3 off (by simpa using all.length_eq) fun i y e => all.item i y (by simpa using e)
  | _, _, _, .tuple (a := a) (xs := xs) g1 g2 g3 g4, ht, hz => by
    simp only [PyData.shown] at hz
    obtain ⟨bs, le, all⟩ := under_all hn g4 (by simpa [tells] using ht) fun t ht => Nat.le_trans (tupleText_mem_le ht) hz
    have rd : Reads h0 (.ref a) (.tuple xs) _ := .tuple g1 g2 g3 g4
    have off : a ∉ bs := not_mem_of_deeper rd (by simp only [PyData.depth]; omega) le
    refine ⟨a :: bs, ReadAtMost.cons rd (by simp only [PyData.depth]; omega) le, ?_⟩
    simp only [PyData.depth, PyData.shown]
    exact .tuple g1 g2 g3 off all
  | _, _, _, .dict .., ht, _ => by simp [tells] at ht
theorem under_all (hn : h0.NoDigits) : ∀ {vs : List Value} {ds : List PyData} {as : List Addr}, ReadsAll h0 vs ds as → tellsAll ds = true → (∀ t ∈ PyData.shownAll ds, t.length ≤ sizeLine) →
    ∃ bs, ReadAtMost h0 (PyData.depthAll ds) bs ∧ ReprAllK prog w bs h0 (PyData.depthAll ds) vs (PyData.shownAll ds)
  | _, _, _, .nil, _, _ => ⟨[], (fun _ h => nomatch h), by simp only [PyData.shownAll]; exact .nil⟩
  | _, _, _, .cons (d := d) (ds := ds) r rs, ht, hz => by
    simp only [tellsAll, Bool.and_eq_true] at ht
    simp only [PyData.shownAll] at hz ⊢
    obtain ⟨bs, le1, k1⟩ := under_of hn r ht.1 (hz _ (List.mem_cons_self ..))
    obtain ⟨cs, le2, k2⟩ := under_all hn rs ht.2 fun t h => hz t (List.mem_cons_of_mem _ h)
    simp only [PyData.depthAll]
    refine ⟨bs ++ cs, (le1.mono (Nat.le_max_left ..)).append (le2.mono (Nat.le_max_right ..)), .cons ?_ ?_⟩
    · exact (k1.more fun b => List.mem_append_left _).level_le (Nat.le_max_left ..)
    · exact k2.more_le (fun b => List.mem_append_right _) (Nat.le_max_right ..)
end
theorem repr_any {v : Value} {d : PyData} {as : List Addr} {Q : Value → Shared → Prop} (rd : Reads s.heap v d as) (hv : ∃ a, v = .ref a) (ht : tells d = true) (hn : s.heap.NoDigits) (hg : A.guards = some []) (hu : A.units + (d.depth + 1) < cLine) (hz : d.shown.length ≤ sizeLine)
    (hQ : ∀ h' u tk, (∀ b o, s.heap.get? b = some o → h'.get? b = some o) → Q (.str d.shown u) { s with heap := h', toks := tk }) : wpAny (model prog w) A (call (.builtin "repr") [v]) Q E s := by
  obtain ⟨a, rfl⟩ := hv
  have hg1 : A.in1.guards = some [] := hg
  have hu1 : A.in1.units + d.depth < cLine := by show A.units + 1 + d.depth < cLine; omega
  cases rd with
  | list g1 g2 g3 g4 =>
    rename_i o vs n xs bs0
    simp only [PyData.shown] at hz hQ
    obtain ⟨bs, le, all⟩ := under_all (prog := prog) (w := w) hn g4 (by simpa [tells] using ht) fun t ht => Nat.le_trans (listText_mem_le ht) hz
    have off : a ∉ bs := not_mem_of_deeper (.list g1 g2 g3 g4) (by simp only [PyData.depth]; omega) le
    refine call_repr_slot (T := "list") (idr := "list.__repr__") (by omega) ⟨o, g1, g2⟩ F.slot_list_repr.toG ?_
    simp only [PyData.depth] at hu1
    obtain ⟨l⟩ := vs
    cases l with
    | nil =>
      cases (show ReadsAll s.heap [] xs _ from g4)
      simp only [PyData.shownAll, listText_nil] at hQ
      exact call_list_repr_empty ⟨o, g1, g2⟩ g1 g3 ⟨_, _, rfl, hQ s.heap _ _ fun _ _ e => e⟩
    | cons x l => exact call_list_reprK g1 g2 g3 off (by simpa using all.length_eq) (fun i y e => all.item i y (by simpa using e)) hg1 (fun b _ => Clear.nil b) hu1 (fun _ _ e => e) (fun h' u tk k => ⟨_, _, rfl, hQ h' u tk k⟩) hz
  | tuple g1 g2 g3 g4 =>
    rename_i o vs n xs
    simp only [PyData.shown] at hz hQ
    obtain ⟨bs, le, all⟩ := under_all (prog := prog) (w := w) hn g4 (by simpa [tells] using ht) fun t ht => Nat.le_trans (tupleText_mem_le ht) hz
    have off : a ∉ bs := not_mem_of_deeper (.tuple g1 g2 g3 g4) (by simp only [PyData.depth]; omega) le
    refine call_repr_slot (T := "tuple") (idr := "tuple.__repr__") (by omega) ⟨o, g1, g2⟩ F.slot_tuple_repr ?_
    simp only [PyData.depth] at hu1
    exact call_tuple_reprK g1 g2 g3 off all hg1 (fun b _ => Clear.nil b) hu1 (fun _ _ e => e) (fun h' u tk k => ⟨_, _, rfl, hQ h' u tk k⟩) hz
  | dict => simp [tells] at ht
theorem repr_int {a : Int} {t : Tok} {Q : Value → Shared → Prop} (hn : s.heap.NoDigits) (ha : a.natAbs < digitL) (hu : A.units + 1 < cLine) (h : Q (.str (toString a) s.toks) { s with toks := s.toks + 1 }) :
    wpAny (model prog w) A (call (.builtin "repr") [.int a t]) Q E s :=
  call_repr_slot hu (typeIs_int s a t) F.slot_int_repr.toG (int_text hn ha ⟨_, _, rfl, h⟩)
end
end DL
/-! DLe: comparisons, truth, built-ins, methods, subscripts by values. -/
namespace DL
open PySem PySem.Spec PyProof.Rows L2

def rB2 (K : PySem.W.Frag) (mg : Str → Option Value) (E : XK) (f : W → W → Store → Out Bool) : R2 := fun x y H Q => ∃ F G m S wx wy, Sim K F G H m S ∧ RepW K F m wx x ∧ RepW K F m wy y ∧ Post K mg G E F m (f wx wy S) (kB fun b H' => Q (.bl b) H')
theorem flat_rep {K : PySem.W.Frag} {F : Hp} {x : D} {v : V} (r : RepD K F x v) (h : flatD x = true) : flatV v = true := by cases r <;> first | rfl | cases h
theorem flats_rep {K : PySem.W.Frag} {F : Hp} : ∀ {x : List D} {v : List V}, RepDs K F x v → x.all flatD = true → v.all flatV = true
  | _, _, .nil, _ => rfl
  | _, _, .cons a r, h => by
    rw [List.all_cons, Bool.and_eq_true] at h
    rw [List.all_cons, flat_rep a h.1, flats_rep r h.2]
    rfl
theorem eqV_deq {K : PySem.W.Frag} {F : Hp} {x y : D} {u v : V} (rx : RepD K F x u) (ry : RepD K F y v) (hx : flatD x = true) (hy : flatD y = true) : eqV v u = deq y x := by
  cases rx <;> first | (cases hx; done) | skip
  all_goals (cases ry <;> first | (cases hy; done) | rfl | (simp only [eqV, deq]; exact Bool.beq_eq_decide_eq _ _))
theorem inV_has {K : PySem.W.Frag} {F : Hp} {x : D} {u : V} (rx : RepD K F x u) (hx : flatD x = true) : ∀ {ys : List D} {vs : List V}, RepDs K F ys vs → ys.all flatD = true → inV u vs = hasD x ys
  | _, _, .nil, _ => rfl
  | _, _, .cons a r, h => by
    rw [List.all_cons, Bool.and_eq_true] at h
    show (eqV _ u || inV u _) = (deq _ x || hasD x _)
    rw [eqV_deq rx a hx h.1, inV_has rx hx r h.2]
section
variable {X : Cx} {mg : Str → Option Value} {E : XK}
theorem opr_in (neg : Bool) {x y : D} {b : Bool} {pins : List (Addr × Obj)} {σ : L2.St} {H : Hp} {s : Shared} {F : Hp} {u w : V} {v v' : Value} {Q : VK} (hu : X.A.units + 65 < cLine) (I : Inv X pins σ H s) (hf : ∀ a o, F a = some o → H a = some o)
    (rx : RelV u v) (ry : RelV w v') (hx : RepD X.K F x u) (hy : RepD X.K F y w) (e : inD x y = some b) (q : Q (.bl (if neg then !b else b)) H) :
    wpAny (model X.prog X.w) X.A (compareOp (if neg then .NotIn else .In) v v') (EP X pins σ Q) X.xe s := by
  unfold inD at e
  split at e
  · split at e
    · rename_i h
      cases e
      rw [Bool.and_eq_true] at h
      have hd := hx.dp hf h.1
      have he := hy.dp (n := 60) hf (show sh 60 (.lst _) = true from h.2)
      have s1 := sh_shaped (by decide) h.1
      have s2 : SeqAt.shaped (PyData.list (D.pys _)) = true := sh_shaped (n := 60) (x := .lst _) (by decide) h.2
      rw [has_any] at q
      cases neg with
      | false => exact op_inD hu pins s σ H _ _ v v' Q I rx ry ⟨_, _, hd, he, s1, s2, q⟩
      | true => exact op_notInD hu pins s σ H _ _ v v' Q I rx ry ⟨_, _, hd, he, s1, s2, q⟩
    · cases e
  · split at e
    · rename_i h
      cases e
      rw [Bool.and_eq_true] at h
      obtain ⟨a, us, rfl, sa, ra⟩ := tupOf hy
      rw [← inV_has hx h.1 ra h.2] at q
      cases neg with
      | false => exact op_in_seq pins s σ H _ _ v v' Q I rx ry ⟨a, us, rfl, .inr (sqT_le hf sa), flat_rep hx h.1, flats_rep ra h.2, q⟩
      | true => exact op_notIn_seq pins s σ H _ _ v v' Q I rx ry ⟨a, us, rfl, .inr (sqT_le hf sa), flat_rep hx h.1, flats_rep ra h.2, q⟩
    · cases e
  · split at e
    · cases e
      cases strOf hx; cases strOf hy
      cases neg with
      | false => exact op_inS pins s σ H _ _ v v' Q I rx ry ⟨_, _, rfl, rfl, q⟩
      | true => exact op_notInS pins s σ H _ _ v v' Q I rx ry ⟨_, _, rfl, rfl, q⟩
    · cases e
  · cases e
def isN : D → Bool
  | .non => true
  | _ => false
theorem non_iff {K : PySem.W.Frag} {F : Hp} {x : D} {u : V} (r : RepD K F x u) : decide (u = .non) = isN x := by
  cases r <;> first | rfl | exact decide_eq_false (fun e => nomatch e)
theorem opr_cmp (op : CmpOp) (hu : X.A.units + 65 < cLine) : OpR X (compareOp op) (rB2 X.K mg E (evCmp op)) := by
  rintro pins s σ H x y v u Q I rx ry ⟨F, G, m, S, wx, wy, hs, hx, hy, hp⟩
  cases hx with
  | @l n a e =>
    cases hy with
    | l e2 => exact hp.elim
    | @d dy _ hy =>
      cases dy with
      | non =>
        cases hy
        cases op <;> first | exact hp.elim | skip
        · exact op_isN pins s σ H _ _ v u Q I rx ry ⟨rfl, by rw [decide_eq_false (fun e => nomatch e)]; exact hp.now hs⟩
        · exact op_notN pins s σ H _ _ v u Q I rx ry ⟨rfl, by rw [decide_eq_false (fun e => nomatch e)]; exact hp.now hs⟩
      | _ => exact hp.elim
  | @d dx _ hx =>
  cases hy with
  | l e => exact hp.elim
  | @d dy _ hy =>
  obtain ⟨b, e, hp⟩ := Post.of hp
  have q := hp.now hs
  have q : Q (.bl b) H := q
  cases op with
  | Eq =>
    simp only [cmpD] at e
    split at e
    · rename_i h
      cases e
      rw [Bool.and_eq_true] at h
      exact op_eqD (by omega) pins s σ H _ _ v u Q I rx ry ⟨_, _, hx.dp hs.fr h.1, hy.dp hs.fr h.2, sh_shaped (Nat.le_refl _) h.1, sh_shaped (Nat.le_refl _) h.2, by rw [← deq_py]; exact q⟩
    · cases e
  | NotEq =>
    simp only [cmpD] at e
    split at e
    · rename_i h
      cases e
      rw [Bool.and_eq_true] at h
      exact op_neD (by omega) pins s σ H _ _ v u Q I rx ry ⟨_, _, hx.dp hs.fr h.1, hy.dp hs.fr h.2, sh_shaped (Nat.le_refl _) h.1, sh_shaped (Nat.le_refl _) h.2, by rw [← deq_py]; exact q⟩
    · cases e
  | Lt =>
    simp only [cmpD] at e
    split at e
    · cases intOf hx; cases intOf hy; cases e
      exact op_lt pins s σ H _ _ v u Q I rx ry ⟨_, _, rfl, rfl, q⟩
    · cases e
  | LtE =>
    simp only [cmpD] at e
    split at e
    · cases intOf hx; cases intOf hy; cases e
      exact op_le pins s σ H _ _ v u Q I rx ry ⟨_, _, rfl, rfl, q⟩
    · cases e
  | Gt =>
    simp only [cmpD] at e
    split at e
    · cases intOf hx; cases intOf hy; cases e
      exact op_gt pins s σ H _ _ v u Q I rx ry ⟨_, _, rfl, rfl, q⟩
    · cases e
  | GtE =>
    simp only [cmpD] at e
    split at e
    · cases intOf hx; cases intOf hy; cases e
      exact op_ge pins s σ H _ _ v u Q I rx ry ⟨_, _, rfl, rfl, q⟩
    · cases e
  | Is =>
    simp only [cmpD] at e
    split at e
    · cases blOf hx; cases blOf hy; cases e
      exact op_isBl pins s σ H _ _ v u Q I rx ry ⟨_, _, rfl, rfl, q⟩
    · cases e
      cases hy
      refine op_isN pins s σ H _ _ v u Q I rx ry ⟨rfl, ?_⟩
      rw [non_iff hx]
      cases dx <;> exact q
    · cases e
  | IsNot =>
    simp only [cmpD] at e
    split at e
    · cases blOf hx; cases blOf hy; cases e
      exact op_notBl pins s σ H _ _ v u Q I rx ry ⟨_, _, rfl, rfl, q⟩
    · cases e
      cases hy
      refine op_notN pins s σ H _ _ v u Q I rx ry ⟨rfl, ?_⟩
      rw [non_iff hx]
      cases dx <;> exact q
    · cases e
  | In => exact opr_in false hu I hs.fr rx ry hx hy e q
  | NotIn =>
    simp only [cmpD] at e
    cases e2 : inD dx dy with
    | none => rw [e2] at e; cases e
    | some c =>
      rw [e2] at e
      cases e
      exact opr_in true hu I hs.fr rx ry hx hy e2 q
/-- truth -/
theorem map_empty {α β : Type} (f : α → β) (xs : List α) : (xs.map f).isEmpty = xs.isEmpty := by cases xs <;> rfl
theorem ds_empty {K : PySem.W.Frag} {F : Hp} {xs : List D} {vs : List V} (r : RepDs K F xs vs) : xs.isEmpty = vs.isEmpty := by cases r <;> rfl
theorem ws_empty {K : PySem.W.Frag} {F : Hp} {m : List Addr} {xs : List W} {vs : List V} (r : RepWs K F m xs vs) : xs.isEmpty = vs.isEmpty := by cases r <;> rfl
theorem tru_rep {F G H : Hp} {m : List Addr} {S : Store} {w : W} {v : V} {k : Bool} {K : PySem.W.Frag} (hs : Sim K F G H m S) (r : RepW K F m w v) (h : tru S w = some k) : TruV K v H k := by
  cases r with
  | @l n a e =>
    simp only [tru] at h
    split at h
    · rename_i xs he
      cases h
      obtain ⟨a', vs, e', hv, rv⟩ := hs.at_ he
      rw [e] at e'
      cases e'
      exact .inl ⟨vs, .inl (.inl hv), by rw [ws_empty rv]⟩
    · cases h
  | @d x _ r =>
    cases r with
    | non => simp only [tru] at h; cases h; rfl
    | bl b => simp only [tru] at h; cases h; rfl
    | int i =>
      simp only [tru] at h
      cases h
      show (!decide (i = 0)) = (i != 0)
      rw [bne, Bool.beq_eq_decide_eq]
    | str x =>
      simp only [tru] at h
      split at h
      · rename_i hl
        cases h
        refine ⟨Nat.le_trans hl (by decide), ?_⟩
        show (!decide (x.length = 0)) = !((x.length : Int) == 0)
        congr 1
        by_cases hz : x.length = 0
        · rw [decide_eq_true hz, hz]; rfl
        · rw [decide_eq_false hz]
          exact (beq_eq_false_iff_ne.mpr (by omega)).symm
      · cases h
    | @tup a vs xs s r => simp only [tru] at h; cases h; exact .inr (.inl ⟨vs, .inl (.inl (hs.fr _ _ s)), by rw [ds_empty r]⟩)
    | @rtp a vs xs s r => simp only [tru] at h; cases h; exact .inr (.inl ⟨vs, sqT_le hs.fr s, by rw [ds_empty r]⟩)
    | dctT _ _ _ _ => simp only [tru] at h; cases h
    | dctK _ _ _ _ => simp only [tru] at h; cases h
    | @lst a vs xs s r => simp only [tru] at h; cases h; exact .inl ⟨vs, .inl (.inl (hs.fr _ _ s)), by rw [ds_empty r]⟩
    | @rol a vs xs s r => simp only [tru] at h; cases h; exact .inl ⟨vs, sqL_le hs.fr s, by rw [ds_empty r]⟩
/-- a sequence in the heap -/
theorem seq_rep {F G H : Hp} {m : List Addr} {S : Store} {w : W} {v : V} {K : PySem.W.Frag} {xs : List W} (hs : Sim K F G H m S) (r : RepW K F m w v) (h : seqOf S w = some xs) : ∃ a vs, v = .ref a ∧ RepWs K F m xs vs ∧ (SqL K H a vs ∨ SqT K H a vs) := by
  cases r with
  | @l n a e =>
    simp only [seqOf] at h
    split at h
    · rename_i ys he
      cases h
      obtain ⟨a', vs, e', hv, rv⟩ := hs.at_ he
      rw [e] at e'
      cases e'
      exact ⟨_, vs, rfl, rv, .inl (.inl (.inl hv))⟩
    · cases h
  | @d x _ r =>
    cases r with
    | @tup a vs xs s r => simp only [seqOf] at h; cases h; exact ⟨a, vs, rfl, r.ws, .inr (.inl (.inl (hs.fr _ _ s)))⟩
    | @rtp a vs xs s r => simp only [seqOf] at h; cases h; exact ⟨a, vs, rfl, r.ws, .inr (sqT_le hs.fr s)⟩
    | @lst a vs xs s r => simp only [seqOf] at h; cases h; exact ⟨a, vs, rfl, r.ws, .inl (.inl (.inl (hs.fr _ _ s)))⟩
    | @rol a vs xs s r => simp only [seqOf] at h; cases h; exact ⟨a, vs, rfl, r.ws, .inl (sqL_le hs.fr s)⟩
    | _ => simp [seqOf] at h
theorem ws_length {K : PySem.W.Frag} {F : Hp} {m : List Addr} {xs : List W} {vs : List V} (r : RepWs K F m xs vs) : xs.length = vs.length := Paired.length r
theorem ixOf_N : ∀ (n : Nat) (i : Int), ixOf n i = ixN n i
  | n, .ofNat i => by
    show (if i < n then some i else none) = (if (0 : Int) ≤ (i : Int) then (if (i : Int) < (n : Int) then some ((i : Int).toNat) else none) else _)
    rw [if_pos (Int.natCast_nonneg i)]
    by_cases h : i < n
    · rw [if_pos h, if_pos (by omega)]; rfl
    · rw [if_neg h, if_neg (by omega)]
  | n, .negSucc i => by
    show (if i < n then some (n - 1 - i) else none) = (if (0 : Int) ≤ Int.negSucc i then _ else if -(n : Int) ≤ Int.negSucc i then some ((Int.negSucc i + (n : Int)).toNat) else none)
    rw [if_neg (show ¬ (0 : Int) ≤ Int.negSucc i by omega)]
    by_cases h : i < n
    · rw [if_pos h, if_pos (show -(n : Int) ≤ Int.negSucc i by omega)]
      congr 1
      omega
    · rw [if_neg h, if_neg (show ¬ -(n : Int) ≤ Int.negSucc i by omega)]
theorem at_I {α : Type} (xs : List α) (i : Int) : at_ xs i = atI xs i := by
  unfold atI
  rw [← ixOf_N]
  cases i with
  | ofNat n =>
    show xs[n]? = (if n < xs.length then some n else none).bind fun j => xs[j]?
    by_cases h : n < xs.length
    · rw [if_pos h]; rfl
    · rw [if_neg h, List.getElem?_eq_none_iff.mpr (by omega)]; rfl
  | negSucc n =>
    show (if n < xs.length then xs[xs.length - 1 - n]? else none) = (if n < xs.length then some (xs.length - 1 - n) else none).bind fun j => xs[j]?
    by_cases h : n < xs.length
    · rw [if_pos h, if_pos h]; rfl
    · rw [if_neg h, if_neg h]; rfl
theorem ws_at {K : PySem.W.Frag} {F : Hp} {m : List Addr} {ws : List W} {vs : List V} {i : Int} {w : W} (r : RepWs K F m ws vs) (h : at_ ws i = some w) : ∃ v, atI vs i = some v ∧ RepW K F m w v := by
  rw [at_I] at h
  unfold atI at h ⊢
  rw [ws_length r] at h
  cases e : ixN vs.length i with
  | none => rw [e] at h; cases h
  | some j =>
    rw [e] at h
    exact r.get h
/-- .. and which kind it is -/
theorem seq_rep2 {F G H : Hp} {m : List Addr} {S : Store} {w : W} {v : V} {K : PySem.W.Frag} {xs : List W} (hs : Sim K F G H m S) (r : RepW K F m w v) (h : seqOf S w = some xs) : ∃ a vs, v = .ref a ∧ RepWs K F m xs vs ∧ (SqL K H a vs ∨ (SqT K F a vs ∧ ∃ ds, ((w = .d (.tup ds) ∧ F a = some (.tup vs)) ∨ w = .d (.rtp ds)) ∧ RepDs K F ds vs)) := by
  cases r with
  | @l n a e =>
    simp only [seqOf] at h
    split at h
    · rename_i ys he
      cases h
      obtain ⟨a', vs, e', hv, rv⟩ := hs.at_ he
      rw [e] at e'
      cases e'
      exact ⟨_, vs, rfl, rv, .inl (.inl (.inl hv))⟩
    · cases h
  | @d x _ r =>
    cases r with
    | @tup a vs xs s r => simp only [seqOf] at h; cases h; exact ⟨a, vs, rfl, r.ws, .inr ⟨.inl (.inl s), _, .inl ⟨rfl, s⟩, r⟩⟩
    | @rtp a vs xs s r => simp only [seqOf] at h; cases h; exact ⟨a, vs, rfl, r.ws, .inr ⟨s, _, .inr rfl, r⟩⟩
    | @lst a vs xs s r => simp only [seqOf] at h; cases h; exact ⟨a, vs, rfl, r.ws, .inl (.inl (.inl (hs.fr _ _ s)))⟩
    | @rol a vs xs s r => simp only [seqOf] at h; cases h; exact ⟨a, vs, rfl, r.ws, .inl (sqL_le hs.fr s)⟩
    | _ => simp [seqOf] at h
/-! ### dicts -/
theorem keyK_inj : ∀ {a b : D} {k : L2.Key}, keyK a = some k → keyK b = some k → a = b
  | .int i, .int j, k, h, h' => by cases h; cases h'; rfl
  | .str x, .str y, k, h, h' => by cases h; cases h'; rfl
  | .int i, .str y, k, h, h' => by cases h; cases h'
  | .str x, .int j, k, h, h' => by cases h; cases h'
  | .non, _, _, h, _ | .bl _, _, _, h, _ | .tup _, _, _, h, _ | .lst _, _, _, h, _ | .rol _, _, _, h, _ | .rtp _, _, _, h, _ | .dct _ _ _, _, _, h, _ => by cases h
  | .int _, .non, _, _, h | .int _, .bl _, _, _, h | .int _, .tup _, _, _, h | .int _, .lst _, _, _, h | .int _, .rol _, _, _, h | .int _, .rtp _, _, _, h | .int _, .dct _ _ _, _, _, h => by cases h
  | .str _, .non, _, _, h | .str _, .bl _, _, _, h | .str _, .tup _, _, _, h | .str _, .lst _, _, _, h | .str _, .rol _, _, _, h | .str _, .rtp _, _, _, h | .str _, .dct _ _ _, _, _, h => by cases h
theorem keyKs_inj : ∀ {a b : List D} {k : List L2.Key}, keyKs a = some k → keyKs b = some k → a = b
  | [], [], _, _, _ => rfl
  | [], y :: ys, k, h, h' => by
    cases h
    unfold keyKs at h'
    cases e : keyK y with
    | none => rw [e] at h'; cases h'
    | some z => rw [e] at h'; cases e2 : keyKs ys <;> (rw [e2] at h'; cases h')
  | x :: xs, [], k, h, h' => by
    cases h'
    unfold keyKs at h
    cases e : keyK x with
    | none => rw [e] at h; cases h
    | some z => rw [e] at h; cases e2 : keyKs xs <;> (rw [e2] at h; cases h)
  | x :: xs, y :: ys, k, h, h' => by
    unfold keyKs at h h'
    cases e : keyK x with
    | none => rw [e] at h; cases h
    | some z =>
      cases e' : keyK y with
      | none => rw [e'] at h'; cases h'
      | some z' =>
        rw [e] at h
        rw [e'] at h'
        cases e2 : keyKs xs with
        | none => rw [e2] at h; cases h
        | some r =>
          cases e2' : keyKs ys with
          | none => rw [e2'] at h'; cases h'
          | some r' =>
            rw [e2] at h
            rw [e2'] at h'
            have h : some (z :: r) = some k := h
            have h' : some (z' :: r') = some k := h'
            cases h
            cases h'
            rw [keyK_inj e e', keyKs_inj e2 e2']
theorem keyT_inj : ∀ {a b : D} {k : List L2.Key}, keyT a = some k → keyT b = some k → a = b
  | .tup a, .tup b, k, h, h' => by rw [keyKs_inj (show keyKs a = some k from h) (show keyKs b = some k from h')]
  | .non, _, _, h, _ | .bl _, _, _, h, _ | .int _, _, _, h, _ | .str _, _, _, h, _ | .lst _, _, _, h, _ | .rol _, _, _, h, _ | .rtp _, _, _, h, _ | .dct _ _ _, _, _, h, _ => by cases h
  | .tup _, .non, _, _, h | .tup _, .bl _, _, _, h | .tup _, .int _, _, _, h | .tup _, .str _, _, _, h | .tup _, .lst _, _, _, h | .tup _, .rol _, _, _, h | .tup _, .rtp _, _, _, h | .tup _, .dct _ _ _, _, _, h => by cases h
theorem keyK_rep {K : PySem.W.Frag} {F : Hp} : ∀ {d : D} {v : V} {k : L2.Key}, RepD K F d v → keyK d = some k → v = kV k
  | .int _, _, _, r, h => by cases h; rw [intOf r]; rfl
  | .str _, _, _, r, h => by cases h; rw [strOf r]; rfl
  | .non, _, _, _, h | .bl _, _, _, _, h | .tup _, _, _, _, h | .lst _, _, _, _, h | .rol _, _, _, _, h | .rtp _, _, _, _, h | .dct _ _ _, _, _, _, h => by cases h
theorem keyKs_rep {K : PySem.W.Frag} {F : Hp} : ∀ {d : List D} {v : List V} {k : List L2.Key}, RepDs K F d v → keyKs d = some k → v = k.map kV
  | _, _, _, .nil, h => by cases h; rfl
  | x :: xs, _, k, .cons a r, h => by
    unfold keyKs at h
    cases e : keyK x with
    | none => rw [e] at h; cases h
    | some z =>
      rw [e] at h
      cases e2 : keyKs xs with
      | none => rw [e2] at h; cases h
      | some q =>
        rw [e2] at h
        have h : some (z :: q) = some k := h
        cases h
        rw [keyK_rep a e, keyKs_rep r e2]
        rfl
theorem keyT_rep {K : PySem.W.Frag} {F : Hp} : ∀ {d : D} {v : V} {k : List L2.Key}, RepD K F d v → keyT d = some k → ∃ b, v = .ref b ∧ F b = some (.tup (k.map kV))
  | .tup xs, v, k, r, h => by
    obtain ⟨a, vs, rfl, s, q⟩ := tupOfF r
    exact ⟨a, rfl, by rw [← keyKs_rep q h]; exact s⟩
  | .non, _, _, _, h | .bl _, _, _, _, h | .int _, _, _, _, h | .str _, _, _, _, h | .lst _, _, _, _, h | .rol _, _, _, _, h | .rtp _, _, _, _, h | .dct _ _ _, _, _, _, h => by cases h
theorem reps_app {K : PySem.W.Frag} {F : Hp} {m : List Addr} : ∀ {xs ys : List W} {us vs : List V}, RepWs K F m xs us → RepWs K F m ys vs → RepWs K F m (xs ++ ys) (us ++ vs)
  | _, _, _, _, .nil, b => b
  | _, _, _, _, .cons a r, b => .cons a (reps_app r b)
theorem sameD_iff {a b : D} : sameD a b = true ↔ a = b := ⟨sameD_eq, fun e => by rw [e]; exact sameD_refl b⟩
section
variable {κ : Type} [DecidableEq κ] {kf : D → Option κ} {K : PySem.W.Frag} {F : Hp} {m : List Addr}
theorem dic_cons {e : D × W} {es : List (D × W)} {kvs : List (κ × V)} (h : (e :: es).map (fun e => kf e.1) = kvs.map (fun kv => some kv.1)) (r : RepWs K F m ((e :: es).map (·.2)) (kvs.map (·.2))) :
    ∃ p ps, kvs = p :: ps ∧ kf e.1 = some p.1 ∧ RepW K F m e.2 p.2 ∧ es.map (fun e => kf e.1) = ps.map (fun kv => some kv.1) ∧ RepWs K F m (es.map (·.2)) (ps.map (·.2)) := by
  cases kvs with
  | nil => cases h
  | cons p ps =>
    simp only [List.map_cons] at h r
    injection h with h1 h2
    cases r with
    | cons a r => exact ⟨p, ps, rfl, h1, a, h2, r⟩
theorem dic_look (inj : ∀ {a b : D} {k : κ}, kf a = some k → kf b = some k → a = b) {dk : D} {k : κ} (hk : kf dk = some k) : ∀ {es : List (D × W)} {kvs : List (κ × V)}, es.map (fun e => kf e.1) = kvs.map (fun kv => some kv.1) → RepWs K F m (es.map (·.2)) (kvs.map (·.2)) →
    (dget es dk = none ∧ valV kvs k = none) ∨ ∃ w v, dget es dk = some w ∧ valV kvs k = some v ∧ RepW K F m w v
  | [], kvs, h, r => by
    cases kvs with
    | nil => exact .inl ⟨rfl, rfl⟩
    | cons p ps => cases h
  | e :: es, kvs, h, r => by
    obtain ⟨p, ps, rfl, h1, h2, h3, h4⟩ := dic_cons h r
    by_cases q : e.1 = dk
    · refine .inr ⟨e.2, p.2, ?_, ?_, h2⟩
      · unfold dget
        rw [List.find?_cons_of_pos (p := fun e : D × W => sameD e.1 dk) (by rw [q]; exact sameD_refl dk)]
        rfl
      · rw [q, hk] at h1
        cases h1
        exact valV_pos rfl
    · have e1 : dget (e :: es) dk = dget es dk := by
        unfold dget
        rw [List.find?_cons_of_neg (p := fun e : D × W => sameD e.1 dk) (fun z => q (sameD_eq z))]
      have e2 : valV (p :: ps) k = valV ps k := valV_neg fun z => q (inj (by rw [h1, z]) hk)
      rw [e1, e2]
      exact dic_look inj hk h3 h4
theorem dic_put (inj : ∀ {a b : D} {k : κ}, kf a = some k → kf b = some k → a = b) {dk : D} {k : κ} (hk : kf dk = some k) {w : W} {v : V} (rw_ : RepW K F m w v) {es : List (D × W)} {kvs : List (κ × V)} (h : es.map (fun e => kf e.1) = kvs.map (fun kv => some kv.1)) (r : RepWs K F m (es.map (·.2)) (kvs.map (·.2))) :
    (dput es dk w).map (fun e => kf e.1) = (putK kvs k v).map (fun kv => some kv.1) ∧ RepWs K F m ((dput es dk w).map (·.2)) ((putK kvs k v).map (·.2)) := by
  have any : ∀ {es : List (D × W)} {kvs : List (κ × V)}, es.map (fun e => kf e.1) = kvs.map (fun kv => some kv.1) → RepWs K F m (es.map (·.2)) (kvs.map (·.2)) → es.any (fun e => sameD e.1 dk) = kvs.any (fun kv => decide (kv.1 = k)) := by
    intro es
    induction es with
    | nil => intro kvs h r; cases kvs with
      | nil => rfl
      | cons p ps => cases h
    | cons e es ih =>
      intro kvs h r
      obtain ⟨p, ps, rfl, h1, h2, h3, h4⟩ := dic_cons h r
      rw [List.any_cons, List.any_cons, ih h3 h4]
      congr 1
      by_cases q : e.1 = dk
      · rw [q, hk] at h1
        cases h1
        rw [q, sameD_refl, decide_eq_true rfl]
      · have : ¬ p.1 = k := fun z => q (inj (by rw [h1, z]) hk)
        rw [decide_eq_false this]
        cases z : sameD e.1 dk with
        | true => exact absurd (sameD_eq z) q
        | false => rfl
  have rep : ∀ {es : List (D × W)} {kvs : List (κ × V)}, es.map (fun e => kf e.1) = kvs.map (fun kv => some kv.1) → RepWs K F m (es.map (·.2)) (kvs.map (·.2)) →
      (es.map fun e => if sameD e.1 dk = true then (e.1, w) else e).map (fun e => kf e.1) = (kvs.map fun kv => if kv.1 = k then (kv.1, v) else kv).map (fun kv => some kv.1) ∧ RepWs K F m ((es.map fun e => if sameD e.1 dk = true then (e.1, w) else e).map (·.2)) ((kvs.map fun kv => if kv.1 = k then (kv.1, v) else kv).map (·.2)) := by
    intro es
    induction es with
    | nil => intro kvs h r; cases kvs with
      | nil => exact ⟨rfl, .nil⟩
      | cons p ps => cases h
    | cons e es ih =>
      intro kvs h r
      obtain ⟨p, ps, rfl, h1, h2, h3, h4⟩ := dic_cons h r
      obtain ⟨g1, g2⟩ := ih h3 h4
      simp only [List.map_cons]
      by_cases q : e.1 = dk
      · have h5 := h1
        rw [q, hk] at h5
        have h6 : p.1 = k := (Option.some.inj h5).symm
        rw [if_pos (by rw [q]; exact sameD_refl dk), if_pos h6]
        exact ⟨by rw [g1]; exact congrArg (· :: _) h1, .cons rw_ g2⟩
      · have : ¬ p.1 = k := fun z => q (inj (by rw [h1, z]) hk)
        rw [if_neg fun z => q (sameD_eq z), if_neg this]
        exact ⟨by rw [g1]; exact congrArg (· :: _) h1, .cons h2 g2⟩
  unfold dput putK
  rw [any h r]
  split
  · exact rep h r
  · refine ⟨by rw [List.map_append, List.map_append, h]; simp [hk], ?_⟩
    rw [List.map_append, List.map_append]
    exact reps_app r (.cons rw_ .nil)
end
theorem kOk_of {t : Bool} {k : D} (h : kOk t k = true) : (t = false ∧ ∃ q, keyK k = some q) ∨ (t = true ∧ ∃ q, keyT k = some q) := by
  unfold kOk at h
  cases t with
  | false => exact .inl ⟨rfl, Option.isSome_iff_exists.mp h⟩
  | true => exact .inr ⟨rfl, Option.isSome_iff_exists.mp h⟩
theorem zip_maps {α β : Type} : ∀ {a : List α} {b : List β}, a.length = b.length → (a.zip b).map (·.1) = a ∧ (a.zip b).map (·.2) = b
  | [], [], _ => ⟨rfl, rfl⟩
  | [], _ :: _, h => by cases h
  | _ :: _, [], h => by cases h
  | x :: a, y :: b, h => by
    obtain ⟨h1, h2⟩ := zip_maps (a := a) (b := b) (by simpa using h)
    exact ⟨by simp [h1], by simp [h2]⟩
/-- what is found in a dict -/
theorem dget_rep {F G H : Hp} {m : List Addr} {S : Store} {K : PySem.W.Frag} {wx : W} {x y : V} {t : Bool} {es : List (D × W)} {dk : D} (hs : Sim K F G H m S) (hx : RepW K F m wx x) (he : dicOf S wx = some (t, es)) (hy : RepD K F dk y) (hk : kOk t dk = true) :
    ∃ a o, x = .ref a ∧ DGet H a y o ∧ ((dget es dk = none ∧ o = none) ∨ ∃ w v, dget es dk = some w ∧ o = some v ∧ RepW K F m w v) := by
  have key : ∀ {a : Addr} {ho : HO}, Rd H a ho → DicB K F m ho t es → ∃ o, DGet H a y o ∧ ((dget es dk = none ∧ o = none) ∨ ∃ w v, dget es dk = some w ∧ o = some v ∧ RepW K F m w v) := by
    intro a ho rd hb
    cases hb with
    | k e r =>
      rcases kOk_of hk with ⟨_, q, eq⟩ | ⟨z, _⟩
      · exact ⟨_, .inl ⟨_, q, rd, keyK_rep hy eq, rfl⟩, dic_look keyK_inj eq e r⟩
      · cases z
    | t e r =>
      rcases kOk_of hk with ⟨z, _⟩ | ⟨_, q, eq⟩
      · cases z
      · obtain ⟨b, rfl, hb⟩ := keyT_rep hy eq
        exact ⟨_, .inr ⟨_, q, b, rd, rfl, hs.fr _ _ hb, rfl⟩, dic_look keyT_inj eq e r⟩
  cases hx with
  | @l n a e =>
    unfold dicOf at he
    simp only at he
    split at he
    · rename_i t' es' e2
      cases he
      obtain ⟨ho, h1, _, _, hb⟩ := hs.ob n _ a e2 e
      obtain ⟨o, g⟩ := key (.inl h1) hb
      exact ⟨a, o, rfl, g⟩
    · cases he
  | @d dx _ hx =>
    cases hx with
    | @dctT a o kvs vs ks xs s e ev r =>
      have he : some (true, ks.zip (xs.map W.d)) = some (t, es) := he
      cases he
      have hl : ks.length = (xs.map W.d).length := by
        have h1 := congrArg List.length e
        have h2 := r.length
        rw [ev] at h2
        simpa using h1.trans (by simpa using h2.symm)
      obtain ⟨z1, z2⟩ := zip_maps hl
      obtain ⟨o', g⟩ := key (a := a) (.inr ⟨o, hs.fr _ _ s⟩) (.t (by rw [← e, ← z1, List.map_map, z1]; rfl) (by rw [z2, ← ev]; exact r.ws))
      exact ⟨a, o', rfl, g⟩
    | @dctK a o kvs vs ks xs s e ev r =>
      have he : some (false, ks.zip (xs.map W.d)) = some (t, es) := he
      cases he
      have hl : ks.length = (xs.map W.d).length := by
        have h1 := congrArg List.length e
        have h2 := r.length
        rw [ev] at h2
        simpa using h1.trans (by simpa using h2.symm)
      obtain ⟨z1, z2⟩ := zip_maps hl
      obtain ⟨o', g⟩ := key (a := a) (.inr ⟨o, hs.fr _ _ s⟩) (.k (by rw [← e, ← z1, List.map_map, z1]; rfl) (by rw [z2, ← ev]; exact r.ws))
      exact ⟨a, o', rfl, g⟩
    | _ => simp [dicOf] at he
theorem ix_dictD {X : Cx} (hu : X.A.units + 1 < cLine) : IxR X (fun x y H Q => ∃ a v, x = .ref a ∧ DGet H a y (some v) ∧ Q v H) := by
  intro value slice pins s σ H x y v u Q I rx ry h hs
  obtain ⟨a, z, rfl, g, q⟩ := h
  cases rx
  exact tail_any (dict_typeIs I g) PySem.F.slot_dict_getitem.lookup (d_getItem hu I g ry fun w' s' I' r' => ⟨z, H, I', r', q⟩) hs
/-- x[i] -/
theorem ixr (hu : X.A.units + 1 < cLine) : IxR X (rW2 X.K mg E evIx) := by
  rintro value slice pins s σ H x y v u Q I rx ry ⟨F, G, m, S, wx, wy, hs, hx, hy, hp⟩ hsub
  unfold evIx at hp
  split at hp
  · rename_i t es he
    cases hy with
    | l e => exact hp.elim
    | @d dk _ hy =>
    simp only at hp
    split at hp
    · rename_i hk
      obtain ⟨w, ew, hp⟩ := Post.of hp
      obtain ⟨a, o, rfl, g, hg⟩ := dget_rep hs hx he hy hk
      rcases hg with ⟨z, _⟩ | ⟨w', v', e1, rfl, rz⟩
      · rw [z] at ew; cases ew
      · rw [e1] at ew
        cases ew
        exact ix_dictD hu value slice pins s σ H _ _ v u Q I rx ry ⟨a, v', rfl, g, hp.now hs _ rz⟩ hsub
    · exact hp.elim
  · rename_i hnd
    cases hy with
    | l e => exact hp.elim
    | @d dy _ hy =>
    cases hy with
    | int i =>
      simp only at hp
      split at hp
      · rename_i xs he
        obtain ⟨w, ew, hp⟩ := Post.of hp
        obtain ⟨a, vs, rfl, rv, hq⟩ := seq_rep hs hx he
        obtain ⟨z, ez, rz⟩ := ws_at rv ew
        refine ix_seq value slice pins s σ H _ _ v u Q I rx ry ?_ hsub
        rcases hq with hq | hq
        · exact .inl ⟨a, vs, i, z, rfl, rfl, hq, ez, hp.now hs _ rz⟩
        · exact .inr (.inl ⟨a, vs, i, z, rfl, rfl, hq, ez, hp.now hs _ rz⟩)
      · split at hp
        · rename_i z _
          split at hp
          · rename_i hz
            obtain ⟨w, ew, hp⟩ := Post.of hp
            cases ec : at_ z.cps.toList i with
            | none => rw [ec] at ew; cases ew
            | some c =>
              rw [ec] at ew
              cases ew
              cases hx with
              | d hx =>
                cases strOf hx
                exact ix_seq value slice pins s σ H _ _ v u Q I rx ry (.inr (.inr ⟨z, i, c, rfl, rfl, Nat.le_trans hz (by decide), by rw [← at_I]; exact ec, hp.now hs _ (.d (.str _))⟩)) hsub
          · exact hp.elim
        · exact hp.elim
    | _ => exact hp.elim
end
end DL
/-! DLf: slices, built-ins, methods by values. -/
namespace DL
open PySem PySem.Spec PyProof.Rows L2

theorem RepDs.take {K : PySem.W.Frag} {F : Hp} : ∀ {xs : List D} {vs : List V} (n : Nat), RepDs K F xs vs → RepDs K F (xs.take n) (vs.take n)
  | _, _, 0, _ => .nil
  | _, _, _ + 1, .nil => .nil
  | _, _, n + 1, .cons a r => .cons a (RepDs.take n r)
theorem RepDs.drop {K : PySem.W.Frag} {F : Hp} : ∀ {xs : List D} {vs : List V} (n : Nat), RepDs K F xs vs → RepDs K F (xs.drop n) (vs.drop n)
  | _, _, 0, r => r
  | _, _, _ + 1, .nil => .nil
  | _, _, n + 1, .cons a r => RepDs.drop n r
theorem RepDs.cut {K : PySem.W.Frag} {F : Hp} {xs : List D} {vs : List V} (lo hi : Option Int) (r : RepDs K F xs vs) : RepDs K F (cut_ xs lo hi) (cutV vs lo hi) := by
  unfold cut_ cutV
  rw [r.length]
  exact (r.drop _).take _
theorem RepWs.take {K : PySem.W.Frag} {F : Hp} {m : List Addr} : ∀ {xs : List W} {vs : List V} (n : Nat), RepWs K F m xs vs → RepWs K F m (xs.take n) (vs.take n)
  | _, _, 0, _ => .nil
  | _, _, _ + 1, .nil => .nil
  | _, _, n + 1, .cons a r => .cons a (RepWs.take n r)
theorem RepWs.drop {K : PySem.W.Frag} {F : Hp} {m : List Addr} : ∀ {xs : List W} {vs : List V} (n : Nat), RepWs K F m xs vs → RepWs K F m (xs.drop n) (vs.drop n)
  | _, _, 0, r => r
  | _, _, _ + 1, .nil => .nil
  | _, _, n + 1, .cons a r => RepWs.drop n r
theorem RepWs.cut {K : PySem.W.Frag} {F : Hp} {m : List Addr} {xs : List W} {vs : List V} (lo hi : Option Int) (r : RepWs K F m xs vs) : RepWs K F m (cut_ xs lo hi) (cutV vs lo hi) := by
  unfold cut_ cutV
  rw [ws_length r]
  exact RepWs.take _ (RepWs.drop _ r)
theorem RepWs.append {K : PySem.W.Frag} {F : Hp} {m : List Addr} : ∀ {xs ys : List W} {us vs : List V}, RepWs K F m xs us → RepWs K F m ys vs → RepWs K F m (xs ++ ys) (us ++ vs)
  | _, _, _, _, .nil, b => b
  | _, _, _, _, .cons a r, b => .cons a (RepWs.append r b)
theorem RepWs.set {K : PySem.W.Frag} {F : Hp} {m : List Addr} {w : W} {v : V} (q : RepW K F m w v) : ∀ {xs : List W} {vs : List V} (n : Nat), RepWs K F m xs vs → RepWs K F m (xs.set n w) (vs.set n v)
  | _, _, _, .nil => .nil
  | _, _, 0, .cons a r => .cons q r
  | _, _, n + 1, .cons a r => .cons a (RepWs.set q n r)
theorem RepWs.erase {K : PySem.W.Frag} {F : Hp} {m : List Addr} : ∀ {xs : List W} {vs : List V} (n : Nat), RepWs K F m xs vs → RepWs K F m (xs.eraseIdx n) (vs.eraseIdx n)
  | _, _, _, .nil => .nil
  | _, _, 0, .cons a r => r
  | _, _, n + 1, .cons a r => .cons a (RepWs.erase n r)
theorem RepWs.dropLast {K : PySem.W.Frag} {F : Hp} {m : List Addr} : ∀ {xs : List W} {vs : List V}, RepWs K F m xs vs → RepWs K F m xs.dropLast vs.dropLast
  | _, _, .nil => .nil
  | _, _, .cons a .nil => .nil
  | _, _, .cons a (.cons b r) => .cons a (RepWs.dropLast (.cons b r))
theorem RepWs.ints {K : PySem.W.Frag} {F : Hp} {m : List Addr} : ∀ {ws : List W} {vs : List V} {ns : List Int}, RepWs K F m ws vs → intsOf ws = some ns → vs = ns.map V.int
  | _, _, _, .nil, e => by cases e; rfl
  | .d (.int i) :: ws, v :: vs, _, .cons (.d a) r, e => by
    unfold intsOf at e
    cases q : intsOf ws with
    | none => rw [q] at e; cases e
    | some ys =>
      rw [q] at e
      cases e
      cases intOf a
      rw [RepWs.ints r q]
      rfl
  | .d .non :: _, _, _, _, e | .d (.bl _) :: _, _, _, _, e | .d (.str _) :: _, _, _, _, e | .d (.tup _) :: _, _, _, _, e | .d (.lst _) :: _, _, _, _, e | .d (.rol _) :: _, _, _, _, e | .l _ :: _, _, _, _, e => by cases e
theorem RepWs.bls {K : PySem.W.Frag} {F : Hp} {m : List Addr} : ∀ {ws : List W} {vs : List V} {ns : List Bool}, RepWs K F m ws vs → blsOf ws = some ns → vs = ns.map V.bl
  | _, _, _, .nil, e => by cases e; rfl
  | .d (.bl i) :: ws, v :: vs, _, .cons (.d a) r, e => by
    unfold blsOf at e
    cases q : blsOf ws with
    | none => rw [q] at e; cases e
    | some ys =>
      rw [q] at e
      cases e
      cases blOf a
      rw [RepWs.bls r q]
      rfl
  | .d .non :: _, _, _, _, e | .d (.int _) :: _, _, _, _, e | .d (.str _) :: _, _, _, _, e | .d (.tup _) :: _, _, _, _, e | .d (.lst _) :: _, _, _, _, e | .d (.rol _) :: _, _, _, _, e | .l _ :: _, _, _, _, e => by cases e
theorem RepWs.strs {K : PySem.W.Frag} {F : Hp} {m : List Addr} : ∀ {ws : List W} {vs : List V} {ns : List Str}, RepWs K F m ws vs → strsOf ws = some ns → vs = ns.map V.str
  | _, _, _, .nil, e => by cases e; rfl
  | .d (.str i) :: ws, v :: vs, _, .cons (.d a) r, e => by
    unfold strsOf at e
    cases q : strsOf ws with
    | none => rw [q] at e; cases e
    | some ys =>
      rw [q] at e
      cases e
      cases strOf a
      rw [RepWs.strs r q]
      rfl
  | .d .non :: _, _, _, _, e | .d (.int _) :: _, _, _, _, e | .d (.bl _) :: _, _, _, _, e | .d (.tup _) :: _, _, _, _, e | .d (.lst _) :: _, _, _, _, e | .d (.rol _) :: _, _, _, _, e | .l _ :: _, _, _, _, e => by cases e
theorem strs_reps {K : PySem.W.Frag} {F : Hp} : ∀ xs : List Str, RepDs K F (xs.map D.str) (xs.map V.str)
  | [] => .nil
  | x :: xs => .cons (.str x) (strs_reps xs)

/-- x[lo:hi] by values -/
def rSlW (K : PySem.W.Frag) (mg : Str → Option Value) (E : XK) : V → Option Int → Option Int → Hp → VK → Prop := fun x lo hi H Q => ∃ F G m S wx, Sim K F G H m S ∧ RepW K F m wx x ∧ Post K mg G E F m (evSlice wx lo hi S) (kW K Q)
section
variable {X : Cx} {mg : Str → Option Value} {E : XK}
theorem slr : SlR X (rSlW X.K mg E) := by
  rintro pins s σ H x v vl vu lo hi sl Q I rx hsl pl pu ⟨F, G, m, S, wx, hs, hx, hp⟩
  simp only [evSlice] at hp
  cases hx with
  | @l n a e =>
    split at hp
    · rename_i he; cases he
    · rename_i he; cases he
    · rename_i he; cases he
    · rename_i n' he
      cases he
      split at hp
      · rename_i xs he
        obtain ⟨w, ew, hp⟩ := Post.of hp
        obtain ⟨a', vs, e', hv, rv⟩ := hs.at_ he
        rw [e] at e'
        cases e'
        cases ep : pures (cut_ xs lo hi) with
        | none => rw [ep] at ew; cases ew
        | some ds =>
          rw [ep] at ew
          cases ew
          exact sl_list pins s σ H _ v vl vu lo hi sl Q I rx hsl pl pu ⟨a, vs, rfl, .inl (.inl hv), Post.frozen hp hs fun p F' l h => .lst h (((RepWs.cut lo hi rv).ds ep).le l)⟩
      · exact hp.elim
    · rename_i h1 h2 h3 h4
      exact (h4 n rfl).elim
  | @d dx _ hx =>
    cases hx with
    | @tup a vs xs sq r =>
      refine sl_tupA pins s σ H _ v vl vu lo hi sl Q I rx hsl pl pu ⟨a, vs, rfl, .inl (.inl (hs.fr _ _ sq)), fun hw => ?_, fun _ => Post.frozen hp hs fun p F' l h => .tup h ((r.cut lo hi).le l)⟩
      refine hp.now hs _ (.d (.tup sq ?_))
      have e2 : cut_ xs lo hi = xs := by
        unfold cut_
        rw [r.length, hw.1, hw.2]
        rw [← r.length]
        simp
      rw [e2]
      exact r
    | @lst a vs xs sq r => exact sl_list pins s σ H _ v vl vu lo hi sl Q I rx hsl pl pu ⟨a, vs, rfl, .inl (.inl (hs.fr _ _ sq)), Post.frozen hp hs fun p F' l h => .lst h ((r.cut lo hi).le l)⟩
    | @rol a vs xs sq r => exact sl_list pins s σ H _ v vl vu lo hi sl Q I rx hsl pl pu ⟨a, vs, rfl, sqL_le hs.fr sq, Post.frozen hp hs fun p F' l h => .lst h ((r.cut lo hi).le l)⟩
    | _ => exact hp.elim

/-- a new list, as a call's end -/
theorem newL_end {F G H : Hp} {m : List Addr} {S : Store} {K : PySem.W.Frag} {b : Bool} {xs : List W} {vs : List V} {Q : VK} (hs : Sim K F G H m S) (r : RepWs K F m xs vs) (hp : Post K mg G E F m (newL b xs S) (kW K Q)) : vs.length ≤ sizeLine ∧ ∀ p, H p = none → Q (.ref p) (upd H p (.lst vs)) := by
  unfold newL at hp
  split at hp
  · rename_i hl
    refine ⟨by rw [← ws_length r]; exact Nat.le_trans hl (by decide), ?_⟩
    split at hp
    · exact Post.newL hp hs r
    · obtain ⟨w, ew, hp⟩ := Post.of hp
      cases ep : pures xs with
      | none => rw [ep] at ew; cases ew
      | some ds =>
        rw [ep] at ew
        cases ew
        exact Post.frozen hp hs fun p F' l h => .lst h ((RepWs.ds r ep).le l)
  · exact hp.elim

theorem rep_rep {K : PySem.W.Frag} {F : Hp} {xs : List D} {vs : List V} (r : RepDs K F xs vs) : ∀ n : Nat, RepDs K F (List.replicate n xs).flatten (List.replicate n vs).flatten
  | 0 => .nil
  | n + 1 => by
    rw [List.replicate_succ, List.replicate_succ, List.flatten_cons, List.flatten_cons]
    exact r.append (rep_rep r n)
theorem opr_rep {X : Cx} {mg : Str → Option Value} {E : XK} (b : Bool) : OpR X (binaryOp .Mult) (rW2 X.K mg E (evRep b)) := by
  rintro pins s σ H x y v u Q I rx ry ⟨F, G, m, S, wx, wy, hs, hx, hy, hp⟩
  unfold evRep at hp
  split at hp
  · cases hx with
    | d hx =>
    cases hy with
    | d hy =>
    obtain ⟨a, us, rfl, sa, ra⟩ := lstOf hx
    cases intOf hy
    split at hp
    · rename_i hc
      obtain ⟨q1, q2⟩ := newL_end hs (rep_rep ra _).ws hp
      refine op_rep pins s σ H _ _ v u Q I rx ry ⟨a, _, us, rfl, rfl, hs.fr _ _ sa, by omega, by omega, ?_, q2⟩
      rw [← ra.length]
      exact Nat.le_trans hc.2.2 (by decide)
    · exact hp.elim
  · exact hp.elim

/-! ### built-ins -/
def rC (K : PySem.W.Frag) (mg : Str → Option Value) (E : XK) (f : List W → Store → Out W) : List V → Hp → VK → Prop := fun xs H Q => ∃ F G m S ws, Sim K F G H m S ∧ RepWs K F m ws xs ∧ Post K mg G E F m (f ws S) (kW K Q)
theorem one_rep {K : PySem.W.Frag} {F : Hp} {m : List Addr} {w : W} {vs : List V} (r : RepWs K F m [w] vs) : ∃ v, vs = [v] ∧ RepW K F m w v := by
  cases r with
  | cons a r => cases r; exact ⟨_, rfl, a⟩
theorem two_rep {K : PySem.W.Frag} {F : Hp} {m : List Addr} {w w' : W} {vs : List V} (r : RepWs K F m [w, w'] vs) : ∃ v v', vs = [v, v'] ∧ RepW K F m w v ∧ RepW K F m w' v' := by
  cases r with
  | cons a r => cases r with
    | cons b r => cases r; exact ⟨_, _, rfl, a, b⟩
theorem dOf {K : PySem.W.Frag} {F : Hp} {m : List Addr} {x : D} {v : V} (r : RepW K F m (.d x) v) : RepD K F x v := by cases r; assumption
theorem map_of {α β : Type} {o : Option α} {f : α → β} {b : β} (h : o.map f = some b) : ∃ a, o = some a ∧ f a = b := by
  cases o with
  | none => cases h
  | some a => cases h; exact ⟨a, rfl, rfl⟩
theorem bind_of {α β : Type} {o : Option α} {f : α → Option β} {b : β} (h : o.bind f = some b) : ∃ a, o = some a ∧ f a = some b := by
  cases o with
  | none => cases h
  | some a => exact ⟨a, rfl, h⟩
theorem ws_one {K : PySem.W.Frag} {F G : Hp} {m : List Addr} {S : Store} {b : Bi} {ws : List W} {vs : List V} {k : W → Store → Hp → List Addr → Hp → Prop} (h2 : ∀ x y S, evBi2 b x y S = .bad) (r : RepWs K F m ws vs) (hp : Post K mg G E F m (evBi b ws S) k) :
    ∃ w v, ws = [w] ∧ vs = [v] ∧ RepW K F m w v ∧ Post K mg G E F m (evBi1 b w S) k := by
  cases r with
  | nil => exact hp.elim
  | cons a r =>
    cases r with
    | nil => exact ⟨_, _, rfl, rfl, a, hp⟩
    | cons c r =>
      cases r with
      | nil =>
        have hp : Post K mg G E F m (evBi2 b _ _ S) k := hp
        rw [h2] at hp
        exact hp.elim
      | cons => exact hp.elim
theorem cr_len : CallR X (.builtin "len") (rC X.K mg E (evBi .len)) := by
  rintro pins s σ H xs us Q I r ⟨F, G, m, S, ws, hs, hw, hp⟩
  obtain ⟨w, v, rfl, rfl, hv, hp⟩ := ws_one (fun _ _ _ => rfl) hw hp
  simp only [evBi1, biLen] at hp
  split at hp
  · rename_i ys he
    obtain ⟨a, vs, rfl, rv, hq⟩ := seq_rep hs hv he
    refine call_len_seq pins s σ H _ us Q I r ⟨a, vs, rfl, hq, ?_⟩
    rw [← ws_length rv]
    exact hp.now hs _ (.d (.int _))
  · split at hp
    · split at hp
      · rename_i hl
        cases strOf (dOf hv)
        exact call_len_str pins s σ H _ us Q I r ⟨_, rfl, Nat.le_trans hl (by decide), hp.now hs _ (.d (.int _))⟩
      · exact hp.elim
    · exact hp.elim
theorem cr_int : CallR X (.type "int") (rC X.K mg E (evBi .int)) := by
  rintro pins s σ H xs us Q I r ⟨F, G, m, S, ws, hs, hw, hp⟩
  obtain ⟨w, v, rfl, rfl, hv, hp⟩ := ws_one (fun _ _ _ => rfl) hw hp
  simp only [evBi1, biInt] at hp
  split at hp
  · cases intOf (dOf hv)
    exact call_int1 pins s σ H _ us Q I r (.inl ⟨_, rfl, hp.now hs _ (.d (.int _))⟩)
  · cases blOf (dOf hv)
    exact call_int1 pins s σ H _ us Q I r (.inr ⟨_, rfl, hp.now hs _ (.d (.int _))⟩)
  · cases strOf (dOf hv)
    split at hp
    · rename_i n hn
      split at hp
      · rename_i hl
        exact call_int_str pins s σ H _ us Q I r ⟨_, n, rfl, hn, hl, hp.now hs _ (.d (.int _))⟩
      · exact hp.elim
    · exact hp.elim
  · exact hp.elim
theorem cr_tuple : CallR X (.type "tuple") (rC X.K mg E (evBi .tuple)) := by
  rintro pins s σ H xs us Q I r ⟨F, G, m, S, ws, hs, hw, hp⟩
  obtain ⟨w, v, rfl, rfl, hv, hp⟩ := ws_one (fun _ _ _ => rfl) hw hp
  simp only [evBi1] at hp
  split at hp
  · obtain ⟨a, vs, rfl, sq, q⟩ := rtpOf (dOf hv)
    exact call_tuple_of pins s σ H _ us Q I r ⟨a, vs, rfl, .inr ⟨sqT_le hs.fr sq, hp.now hs _ (.d (.rtp sq q))⟩⟩
  · rename_i hno
    obtain ⟨z, ez, hp⟩ := Post.of hp
    obtain ⟨ds, ed, rfl⟩ := map_of ez
    obtain ⟨ys, e1, e2⟩ := bind_of ed
    obtain ⟨a, vs, rfl, rv, hq⟩ := seq_rep2 hs hv e1
    have rd := RepWs.ds rv e2
    rcases hq with hq | ⟨sq, es, (⟨_, sF⟩ | z), _⟩
    · exact call_tuple_of pins s σ H _ us Q I r ⟨a, vs, rfl, .inl ⟨hq, Post.frozen hp hs fun p F' l h => .tup h (rd.le l)⟩⟩
    · exact call_tuple_of pins s σ H _ us Q I r ⟨a, vs, rfl, .inr ⟨sqT_le hs.fr sq, hp.now hs _ (.d (.tup sF rd))⟩⟩
    · exact absurd z (hno es)
theorem cr_list (b : Bool) : CallR X (.type "list") (rC X.K mg E (evBi (.list b))) := by
  rintro pins s σ H xs us Q I r ⟨F, G, m, S, ws, hs, hw, hp⟩
  obtain ⟨w, v, rfl, rfl, hv, hp⟩ := ws_one (fun _ _ _ => rfl) hw hp
  simp only [evBi1] at hp
  cases e : seqOf S w with
  | none => rw [e] at hp; exact hp.elim
  | some ys =>
    rw [e] at hp
    obtain ⟨a, vs, rfl, rv, hq⟩ := seq_rep hs hv e
    exact call_list_of pins s σ H _ us Q I r ⟨a, vs, rfl, hq, (newL_end hs rv hp).2⟩
theorem cr_abs : CallR X (.builtin "abs") (rC X.K mg E (evBi .abs)) := by
  rintro pins s σ H xs us Q I r ⟨F, G, m, S, ws, hs, hw, hp⟩
  obtain ⟨w, v, rfl, rfl, hv, hp⟩ := ws_one (fun _ _ _ => rfl) hw hp
  simp only [evBi1, biAbs] at hp
  split at hp
  · cases intOf (dOf hv)
    exact call_abs pins s σ H _ us Q I r ⟨_, rfl, hp.now hs _ (.d (.int _))⟩
  · exact hp.elim
theorem cr_str : CallR X (.type "str") (rC X.K mg E (evBi .str)) := by
  rintro pins s σ H xs us Q I r ⟨F, G, m, S, ws, hs, hw, hp⟩
  obtain ⟨w, v, rfl, rfl, hv, hp⟩ := ws_one (fun _ _ _ => rfl) hw hp
  simp only [evBi1, biStr] at hp
  split at hp
  · split at hp
    · rename_i hl
      cases intOf (dOf hv)
      exact call_str_int pins s σ H _ us Q I r ⟨_, rfl, hl, hp.now hs _ (.d (.str _))⟩
    · exact hp.elim
  · exact hp.elim
theorem lseq_rep {F G H : Hp} {m : List Addr} {S : Store} {w : W} {v : V} {K : PySem.W.Frag} {xs : List W} (hs : Sim K F G H m S) (r : RepW K F m w v) (h : lseq S w = some xs) : ∃ a vs, v = .ref a ∧ RepWs K F m xs vs ∧ SqL K H a vs := by
  unfold lseq at h
  split at h
  · cases h
  · cases h
  · rename_i ht hu
    obtain ⟨a, vs, rfl, rv, hq⟩ := seq_rep2 hs r h
    rcases hq with hq | ⟨_, ds, (⟨rfl, _⟩ | rfl), _⟩
    · exact ⟨a, vs, rfl, rv, hq⟩
    · exact (ht ds rfl).elim
    · exact (hu ds rfl).elim
theorem flatT_noDc : ∀ {ds : List D}, ds.all flatT = true → noDcs ds = true
  | [], _ => rfl
  | d :: ds, h => by
    rw [List.all_cons, Bool.and_eq_true] at h
    show (noDc d && noDcs ds) = true
    rw [flatT_noDc h.2]
    cases d <;> first | rfl | (have := h.1; cases this)
theorem shs_get : ∀ {n : Nat} {ds : List D} {i : Nat} {d : D}, shs n ds = true → ds[i]? = some d → sh n d = true
  | n, [], i, d, _, e => by simp at e
  | n, x :: xs, 0, d, h, e => by
    cases e
    have h' : (sh n x && shs n xs) = true := by cases n <;> exact h
    exact (Bool.and_eq_true _ _ |>.mp h').1
  | n, x :: xs, i + 1, d, h, e => by
    have h' : (sh n x && shs n xs) = true := by cases n <;> exact h
    exact shs_get (Bool.and_eq_true _ _ |>.mp h').2 (by simpa using e)
theorem crl_sum (hc : X.calm = true) : CallR X (.builtin "sum") (rC X.K mg E (evBi .sum)) := by
  rintro pins s σ H xs us Q I r ⟨F, G, m, S, ws, hs, hw, hp⟩
  obtain ⟨w, v, rfl, rfl, hv, hp⟩ := ws_one (fun _ _ _ => rfl) hw hp
  obtain ⟨z, ez, hp⟩ := Post.of hp
  obtain ⟨ds, ed, rfl⟩ := map_of ez
  obtain ⟨ys, e1, e2⟩ := bind_of ed
  obtain ⟨a, vs, rfl, rv, hq⟩ := lseq_rep hs hv e1
  have ev := RepWs.ints rv e2
  subst ev
  exact cr_sum hc pins s σ H _ us Q I r ⟨a, ds, rfl, hq, hp.now hs _ (.d (.int _))⟩
theorem flatT_plain : ∀ {ds : List D}, ds.all flatT = true → PyData.plainAll (D.pys ds) = true ∧ (∀ x ∈ D.pys ds, x.fits63) ∧ (D.pys ds).any PyData.truthy = ds.any truD ∧ (D.pys ds).all PyData.truthy = ds.all truD
  | [], _ => ⟨rfl, fun _ h => (nomatch h), rfl, rfl⟩
  | d :: ds, h => by
    rw [List.all_cons, Bool.and_eq_true] at h
    obtain ⟨h1, h2, h3, h4⟩ := flatT_plain h.2
    have one : PyData.plain d.py = true ∧ d.py.fits63 ∧ d.py.truthy = truD d := by
      cases d with
      | non => exact ⟨rfl, trivial, rfl⟩
      | bl => exact ⟨rfl, trivial, rfl⟩
      | int => exact ⟨rfl, trivial, rfl⟩
      | _ => cases h.1
    refine ⟨?_, ?_, ?_, ?_⟩
    · show (PyData.plain d.py && PyData.plainAll (D.pys ds)) = true
      rw [one.1, h1]
      rfl
    · intro x hx
      rcases List.mem_cons.mp (show x ∈ d.py :: D.pys ds from hx) with rfl | hx
      · exact one.2.1
      · exact h2 x hx
    · show (d.py :: D.pys ds).any PyData.truthy = _
      rw [List.any_cons, List.any_cons, one.2.2, h3]
    · show (d.py :: D.pys ds).all PyData.truthy = _
      rw [List.all_cons, List.all_cons, one.2.2, h4]
theorem crl_all (hc : X.calm = true) : CallR X (.builtin "all") (rC X.K mg E (evBi .all)) := by
  rintro pins s σ H xs us Q I r ⟨F, G, m, S, ws, hs, hw, hp⟩
  obtain ⟨w, v, rfl, rfl, hv, hp⟩ := ws_one (fun _ _ _ => rfl) hw hp
  simp only [evBi1] at hp
  split at hp
  · rename_i ds ed
    obtain ⟨ys, e1, e2⟩ := bind_of ed
    obtain ⟨a, vs, rfl, rv, hq⟩ := lseq_rep hs hv e1
    have ev := RepWs.bls rv e2
    subst ev
    exact cr_all hc pins s σ H _ us Q I r ⟨a, ds, rfl, hq, hp.now hs _ (.d (.bl _))⟩
  · split at hp
    · rename_i ds ed
      split at hp
      case isFalse => exact hp.elim
      rename_i hf
      obtain ⟨ys, e1, e2⟩ := bind_of ed
      obtain ⟨a, vs, rfl, hr, hq⟩ := seq_rep hs hv e1
      obtain ⟨u, rfl, ru⟩ := vals1 r
      cases ru
      have hd : RepDs X.K F ds vs := RepWs.ds hr e2
      obtain ⟨f1, f2, f3, f4⟩ := flatT_plain hf
      rcases hq with hq | hq
      · obtain ⟨its, rv, hl, _⟩ := I.list hq
        obtain ⟨bs, rall⟩ := Dp.readsAll I (D.pys ds) vs its (RepDs.dp0 hs.fr (flatT_noDc hf) hd) rv
        refine PySem.W.all_list_data (I.ok.hd hc) hl.isList (show ReadsAll s.heap its.toArray.toList (D.pys ds) bs by simpa using rall) f1 f2 fun h' tk hk => ⟨.bl _, H, I.kept (t' := tk) hk, rfl, ?_⟩
        rw [f4]
        exact hp.now hs _ (.d (.bl _))
      · obtain ⟨its, rv, hl, _⟩ := I.tuple hq
        obtain ⟨bs, rall⟩ := Dp.readsAll I (D.pys ds) vs its (RepDs.dp0 hs.fr (flatT_noDc hf) hd) rv
        refine PySem.W.all_tuple_data (I.ok.hd hc) (show s.heap.IsTuple a its.toArray from hl) (show ReadsAll s.heap its.toArray.toList (D.pys ds) bs by simpa using rall) f1 f2 fun h' tk hk => ⟨.bl _, H, I.kept (t' := tk) hk, rfl, ?_⟩
        rw [f4]
        exact hp.now hs _ (.d (.bl _))
    · exact hp.elim
theorem crl_any (hc : X.calm = true) : CallR X (.builtin "any") (rC X.K mg E (evBi .any)) := by
  rintro pins s σ H xs us Q I r ⟨F, G, m, S, ws, hs, hw, hp⟩
  obtain ⟨w, v, rfl, rfl, hv, hp⟩ := ws_one (fun _ _ _ => rfl) hw hp
  simp only [evBi1] at hp
  split at hp
  · rename_i ds ed
    obtain ⟨ys, e1, e2⟩ := bind_of ed
    obtain ⟨a, vs, rfl, rv, hq⟩ := lseq_rep hs hv e1
    have ev := RepWs.bls rv e2
    subst ev
    exact cr_any hc pins s σ H _ us Q I r ⟨a, ds, rfl, hq, hp.now hs _ (.d (.bl _))⟩
  · split at hp
    · rename_i ds ed
      split at hp
      case isFalse => exact hp.elim
      rename_i hf
      obtain ⟨ys, e1, e2⟩ := bind_of ed
      obtain ⟨a, vs, rfl, hr, hq⟩ := seq_rep hs hv e1
      obtain ⟨u, rfl, ru⟩ := vals1 r
      cases ru
      have hd : RepDs X.K F ds vs := RepWs.ds hr e2
      obtain ⟨f1, f2, f3, f4⟩ := flatT_plain hf
      rcases hq with hq | hq
      · obtain ⟨its, rv, hl, _⟩ := I.list hq
        obtain ⟨bs, rall⟩ := Dp.readsAll I (D.pys ds) vs its (RepDs.dp0 hs.fr (flatT_noDc hf) hd) rv
        refine PySem.W.any_list_data (I.ok.hd hc) hl.isList (show ReadsAll s.heap its.toArray.toList (D.pys ds) bs by simpa using rall) f1 f2 fun h' tk hk => ⟨.bl _, H, I.kept (t' := tk) hk, rfl, ?_⟩
        rw [f3]
        exact hp.now hs _ (.d (.bl _))
      · obtain ⟨its, rv, hl, _⟩ := I.tuple hq
        obtain ⟨bs, rall⟩ := Dp.readsAll I (D.pys ds) vs its (RepDs.dp0 hs.fr (flatT_noDc hf) hd) rv
        refine PySem.W.any_tuple_data (I.ok.hd hc) (show s.heap.IsTuple a its.toArray from hl) (show ReadsAll s.heap its.toArray.toList (D.pys ds) bs by simpa using rall) f1 f2 fun h' tk hk => ⟨.bl _, H, I.kept (t' := tk) hk, rfl, ?_⟩
        rw [f3]
        exact hp.now hs _ (.d (.bl _))
    · exact hp.elim
theorem least_spec : ∀ (a : Int) (r : List Int), least a r ∈ a :: r ∧ ∀ y ∈ a :: r, least a r ≤ y
  | a, [] => ⟨by simp [least], fun y hy => by simp at hy; subst hy; exact Int.le_refl _⟩
  | a, b :: r => by
    have ih := least_spec (if b < a then b else a) r
    unfold least
    refine ⟨?_, fun y hy => ?_⟩
    · rcases List.mem_cons.mp ih.1 with e | e
      · rw [e]; split <;> simp
      · exact List.mem_cons_of_mem _ (List.mem_cons_of_mem _ e)
    · have h0 := ih.2 _ (List.mem_cons_self ..)
      rcases List.mem_cons.mp hy with rfl | hy
      · by_cases hc : b < y <;> simp only [hc, if_true, if_false] at h0 ⊢ <;> omega
      · rcases List.mem_cons.mp hy with rfl | hy
        · by_cases hc : y < a <;> simp only [hc, if_true, if_false] at h0 ⊢ <;> omega
        · exact ih.2 y (List.mem_cons_of_mem _ hy)
theorem most_spec : ∀ (a : Int) (r : List Int), most a r ∈ a :: r ∧ ∀ y ∈ a :: r, y ≤ most a r
  | a, [] => ⟨by simp [most], fun y hy => by simp at hy; subst hy; exact Int.le_refl _⟩
  | a, b :: r => by
    have ih := most_spec (if b > a then b else a) r
    unfold most
    refine ⟨?_, fun y hy => ?_⟩
    · rcases List.mem_cons.mp ih.1 with e | e
      · rw [e]; split <;> simp
      · exact List.mem_cons_of_mem _ (List.mem_cons_of_mem _ e)
    · have h0 := ih.2 _ (List.mem_cons_self ..)
      rcases List.mem_cons.mp hy with rfl | hy
      · by_cases hc : b > y <;> simp only [hc, if_true, if_false] at h0 ⊢ <;> omega
      · rcases List.mem_cons.mp hy with rfl | hy
        · by_cases hc : y > a <;> simp only [hc, if_true, if_false] at h0 ⊢ <;> omega
        · exact ih.2 y (List.mem_cons_of_mem _ hy)
theorem ws_two {K : PySem.W.Frag} {F G : Hp} {m : List Addr} {S : Store} {b : Bi} {ws : List W} {vs : List V} {k : W → Store → Hp → List Addr → Hp → Prop} (r : RepWs K F m ws vs) (hp : Post K mg G E F m (evBi b ws S) k) :
    (∃ w v, ws = [w] ∧ vs = [v] ∧ RepW K F m w v ∧ Post K mg G E F m (evBi1 b w S) k) ∨ ∃ w w' v v', ws = [w, w'] ∧ vs = [v, v'] ∧ RepW K F m w v ∧ RepW K F m w' v' ∧ Post K mg G E F m (evBi2 b w w' S) k := by
  cases r with
  | nil => exact hp.elim
  | cons a r =>
    cases r with
    | nil => exact .inl ⟨_, _, rfl, rfl, a, hp⟩
    | cons c r =>
      cases r with
      | nil => exact .inr ⟨_, _, _, _, rfl, rfl, a, c, hp⟩
      | cons => exact hp.elim
mutual
theorem py_inj : ∀ {x y : D}, noL x = true → noL y = true → x.py = y.py → x = y
  | .non, y, _, hy, e => by cases y <;> first | rfl | cases e | cases hy
  | .bl a, y, _, hy, e => by cases y <;> first | (cases e; rfl) | cases e | cases hy
  | .int a, y, _, hy, e => by cases y <;> first | (cases e; rfl) | cases e | cases hy
  | .str a, y, _, hy, e => by cases y <;> first | (cases e; rfl) | cases e | cases hy
  | .tup a, y, hx, hy, e => by
    cases y <;> first | cases hy | skip
    all_goals first | cases e | skip
    rename_i b
    have e : PyData.tuple (D.pys a) = PyData.tuple (D.pys b) := e
    injection e with e
    rw [pys_inj hx hy e]
  | .lst _, _, h, _, _ => nomatch h
  | .rol _, _, h, _, _ => nomatch h
  | .rtp _, _, h, _, _ => nomatch h
  | .dct _ _ _, _, h, _, _ => nomatch h
theorem pys_inj : ∀ {x y : List D}, noLs x = true → noLs y = true → D.pys x = D.pys y → x = y
  | [], [], _, _, _ => rfl
  | [], _ :: _, _, _, e => nomatch e
  | _ :: _, [], _, _, e => nomatch e
  | x :: xs, y :: ys, hx, hy, e => by
    have hx : (noL x && noLs xs) = true := hx
    have hy : (noL y && noLs ys) = true := hy
    rw [Bool.and_eq_true] at hx hy
    have e : x.py :: D.pys xs = y.py :: D.pys ys := e
    injection e with e1 e2
    rw [py_inj hx.1 hy.1 e1, pys_inj hx.2 hy.2 e2]
end
theorem RepDs.at {K : PySem.W.Frag} {F : Hp} : ∀ {xs : List D} {vs : List V} {i : Nat} {x : D} {v : V}, RepDs K F xs vs → xs[i]? = some x → vs[i]? = some v → RepD K F x v
  | _, _, 0, _, _, .cons q _, e, h => by cases e; cases h; exact q
  | _, _, i + 1, _, _, .cons _ r, e, h => RepDs.at (i := i) r (by simpa using e) (by simpa using h)
theorem minW_mem : ∀ (r : List D) (a : D), minW a r ∈ a :: r
  | [], a => List.mem_cons_self ..
  | b :: r, a => by
    have h := minW_mem r (if ltD b a then b else a)
    show minW (if ltD b a then b else a) r ∈ a :: b :: r
    rcases List.mem_cons.mp h with e | h
    · rw [e]; split <;> simp
    · exact List.mem_cons_of_mem _ (List.mem_cons_of_mem _ h)
theorem minW_py : ∀ (r : List D) (a : D), PySem.W.minD a.py (D.pys r) = (minW a r).py
  | [], a => rfl
  | b :: r, a => by
    have h := minW_py r (if ltD b a then b else a)
    show PySem.W.minD (if PySem.W.dataLt b.py a.py then b.py else a.py) (D.pys r) = _
    rw [show (if PySem.W.dataLt b.py a.py then b.py else a.py) = (if ltD b a then b else a).py by unfold ltD; split <;> rfl, h]
    rfl
theorem noLs_mem : ∀ {xs : List D} {x : D}, noLs xs = true → x ∈ xs → noL x = true
  | [], _, _, h => by cases h
  | y :: ys, x, hx, h => by
    have hx : (noL y && noLs ys) = true := hx
    rw [Bool.and_eq_true] at hx
    rcases List.mem_cons.mp h with rfl | h
    · exact hx.1
    · exact noLs_mem hx.2 h
theorem pys_mem : ∀ {xs : List D} {z : PyData}, z ∈ D.pys xs → ∃ x ∈ xs, z = x.py
  | [], _, h => by cases h
  | y :: ys, z, h => by
    rcases List.mem_cons.mp (show z ∈ y.py :: D.pys ys from h) with rfl | h
    · exact ⟨y, List.mem_cons_self .., rfl⟩
    · obtain ⟨x, hx, e⟩ := pys_mem h
      exact ⟨x, List.mem_cons_of_mem _ hx, e⟩
theorem pys_get : ∀ {xs : List D} {i : Nat} {x : D}, xs[i]? = some x → (D.pys xs)[i]? = some x.py
  | [], _, _, h => by cases h
  | y :: ys, 0, x, h => by cases h; rfl
  | y :: ys, i + 1, x, h => pys_get (xs := ys) (i := i) (by simpa using h)
theorem crl_min (hc : X.calm = true) (hu : X.A.units + 70 < cLine) : CallR X (.builtin "min") (rC X.K mg E (evBi .min)) := by
  rintro pins s σ H xs us Q I r ⟨F, G, m, S, ws, hs, hw, hp⟩
  rcases ws_two hw hp with ⟨w, v, rfl, rfl, hv, hp⟩ | ⟨w, w', v, v', rfl, rfl, hv, hv', hp⟩
  · simp only [evBi1, biMin] at hp
    split at hp
    · rename_i a r' he
      obtain ⟨ys, e1, e2⟩ := bind_of he
      obtain ⟨b, vs, rfl, rv, hq⟩ := lseq_rep hs hv e1
      have ev := RepWs.ints rv e2
      subst ev
      refine cr_min hc pins s σ H _ us Q I r ⟨b, _, rfl, hq, by simp, fun z hz hl => ?_⟩
      have h1 := least_spec a r'
      have e3 : z = least a r' := Int.le_antisymm (hl _ h1.1) (h1.2 z hz)
      rw [e3]
      exact hp.now hs _ (.d (.int _))
    · split at hp
      · rename_i a r' he
        split at hp
        case isFalse => exact hp.elim
        rename_i hc4
        simp only [Bool.and_eq_true] at hc4
        obtain ⟨⟨⟨c1, c2⟩, c3⟩, c4⟩ := hc4
        obtain ⟨wl, e1, e2⟩ := bind_of he
        obtain ⟨b, vs, rfl, hr, hq⟩ := lseq_rep hs hv e1
        have hd : RepDs X.K F (a :: r') vs := RepWs.ds hr e2
        obtain ⟨u, rfl, ru⟩ := vals1 r
        cases ru
        obtain ⟨its, rv, hl, hlen⟩ := I.list hq
        obtain ⟨can1, can2⟩ := shs_can 59 (a :: r') c1
        obtain ⟨bs, rall⟩ := Dp.readsAll I (D.pys (a :: r')) vs its (RepDs.dp hs.fr c1 hd) rv
        have al : PySem.W.AlikeAll (a.py :: D.pys r') := by
          refine ⟨fun x hx y hy => ?_, fun x hx => ?_⟩
          · obtain ⟨x', hx', rfl⟩ := pys_mem (xs := a :: r') hx
            obtain ⟨y', hy', rfl⟩ := pys_mem (xs := a :: r') hy
            exact List.all_eq_true.mp (List.all_eq_true.mp c3 x' hx') y' hy'
          · obtain ⟨x', hx', rfl⟩ := pys_mem (xs := a :: r') hx
            have := List.all_eq_true.mp c4 x' hx'
            cases x' with
            | non => cases this
            | _ => intro e; cases e
        refine PySem.W.min_list_data (I.ok.hd hc) hl.isList (x := a.py) (xs := D.pys r') (as := bs) (show ReadsAll s.heap its.toArray.toList (D.pys (a :: r')) bs by simpa using rall) al (by show X.A.units + 1 + PyData.depthAll (D.pys (a :: r')) < cLine; omega) fun i v h' tk cs hv' rd hk => ?_
        have hv' : its[i]? = some v := by simpa using hv'
        have il : i < its.length := (List.getElem?_eq_some_iff.mp hv').1
        have vl := rv.length
        obtain ⟨x, hx⟩ : ∃ x, vs[i]? = some x := ⟨vs[i]'(by omega), List.getElem?_eq_getElem (by omega)⟩
        obtain ⟨u2, hu2, ru2⟩ := rv.get hx
        rw [hv'] at hu2
        cases hu2
        have dl := hd.length
        obtain ⟨di, hdi⟩ : ∃ d, (a :: r')[i]? = some d := ⟨(a :: r')[i]'(by omega), List.getElem?_eq_getElem (by omega)⟩
        have I2 : Inv X pins σ H { s with heap := h', toks := tk } := I.kept (t' := tk) hk
        have rx := RepDs.at hd hdi hx
        obtain ⟨cs2, rd2⟩ := Dp.reads I2 di.py x v (rx.dp hs.fr (shs_get c1 hdi)) ru2
        have m1 : di.py ∈ D.pys (a :: r') := List.mem_of_getElem? (pys_get hdi)
        have mm := minW_mem r' a
        have lay : ∀ {z : D}, z ∈ a :: r' → PyData.canLayAll0 [z.py] = true := by
          intro z hz
          have : ∀ {l : List D}, PyData.canLayAll0 (D.pys l) = true → z ∈ l → PyData.canLayAll0 [z.py] = true := by
            intro l
            induction l with
            | nil => intro _ h; cases h
            | cons y l ih =>
              intro hl h
              have hl : (PyData.canLay0 y.py && PyData.canLayAll0 (D.pys l)) = true := hl
              rw [Bool.and_eq_true] at hl
              rcases List.mem_cons.mp h with rfl | h
              · show (PyData.canLay0 z.py && true) = true
                rw [hl.1]
                rfl
              · exact ih hl.2 h
          exact this can1 hz
        have one : ∀ {z : PyData} {as : List Addr}, Reads h' v z as → PyData.canLayAll0 [z] = true → SeqAt.readOf h' v = z := by
          intro z as hz lz
          have := SeqAt.readsAll_map [z] [v] (as ++ []) lz (.cons hz .nil)
          simpa using this
        rw [minW_py] at rd
        have e3 := (one rd (lay mm)).symm.trans (one rd2 (lay (List.mem_of_getElem? hdi)))
        have e4 := py_inj (noLs_mem c2 mm) (noLs_mem c2 (List.mem_of_getElem? hdi)) e3
        rw [← e4] at rx
        exact ⟨x, H, I2, ru2, hp.now hs _ (.d rx)⟩
      · exact hp.elim
  · simp only [evBi2] at hp
    split at hp
    · cases intOf (dOf hv); cases intOf (dOf hv')
      exact call_min2 hc pins s σ H _ us Q I r ⟨_, _, rfl, hp.now hs _ (.d (.int _))⟩
    · exact hp.elim
theorem crl_max (hc : X.calm = true) : CallR X (.builtin "max") (rC X.K mg E (evBi .max)) := by
  rintro pins s σ H xs us Q I r ⟨F, G, m, S, ws, hs, hw, hp⟩
  rcases ws_two hw hp with ⟨w, v, rfl, rfl, hv, hp⟩ | ⟨w, w', v, v', rfl, rfl, hv, hv', hp⟩
  · simp only [evBi1, biMax] at hp
    split at hp
    · rename_i a r' he
      obtain ⟨ys, e1, e2⟩ := bind_of he
      obtain ⟨b, vs, rfl, rv, hq⟩ := lseq_rep hs hv e1
      have ev := RepWs.ints rv e2
      subst ev
      refine cr_max hc pins s σ H _ us Q I r ⟨b, _, rfl, hq, by simp, fun z hz hl => ?_⟩
      have h1 := most_spec a r'
      have e3 : z = most a r' := Int.le_antisymm (h1.2 z hz) (hl _ h1.1)
      rw [e3]
      exact hp.now hs _ (.d (.int _))
    · exact hp.elim
  · simp only [evBi2] at hp
    split at hp
    · cases intOf (dOf hv); cases intOf (dOf hv')
      exact call_max2 hc pins s σ H _ us Q I r ⟨_, _, rfl, hp.now hs _ (.d (.int _))⟩
    · exact hp.elim
/-- the kind of a value -/
theorem ty_rep {F G H : Hp} {m : List Addr} {S : Store} {w : W} {v : V} {K : PySem.W.Frag} {t : String} (hs : Sim K F G H m S) (r : RepW K F m w v) (h : tyW S w = some t) : TyX K H v (.type t) := by
  cases r with
  | @l n a e =>
    simp only [tyW] at h
    split at h
    · rename_i xs he
      cases h
      obtain ⟨a', vs, e', hv, rv⟩ := hs.at_ he
      rw [e] at e'
      cases e'
      exact .base (.lst hv)
    · cases h
  | @d x _ r =>
    cases r with
    | non => cases h; exact .base .non
    | bl b => cases h; exact .base (.bl b)
    | int b => cases h; exact .base (.int b)
    | str b => cases h; exact .base (.str b)
    | @tup a vs xs s r => cases h; exact .base (.tup (hs.fr _ _ s))
    | dctT _ _ _ _ => cases h
    | dctK _ _ _ _ => cases h
    | @rtp a vs xs s r =>
      cases h
      rcases s with (s | ⟨o, s⟩) | ⟨o, its, n, hk, hc, _⟩
      · exact .base (.tup (hs.fr _ _ s))
      · exact .fTuple (hs.fr _ _ s)
      · exact .kTuple hk hc
    | @lst a vs xs s r => cases h; exact .base (.lst (hs.fr _ _ s))
    | @rol a vs xs s r =>
      cases h
      rcases s with (s | ⟨o, s⟩) | ⟨o, its, n, hk, hc, _⟩
      · exact .base (.lst (hs.fr _ _ s))
      · exact .base (.frz (hs.fr _ _ s))
      · exact .kList hk hc
/-- the kinds that are asked for -/
def tyAsk : List String := ["int", "bool", "str", "tuple", "list", "dict"]
theorem kit_all (K : PySem.W.Frag) (x : D) (t : String) (ht : t ∈ tyAsk) : PySem.W.kitOne K (.type (tyD x)) (.type t) = some (isTy (tyD x) t) := by
  refine kit_ty ?_
  have e : ∀ a ∈ ["NoneType", "bool", "int", "str", "tuple", "list", "dict"], ∀ t ∈ tyAsk, kitB a t = some (isTy a t) := by decide +kernel
  exact e _ (by cases x <;> simp [tyD]) t ht
theorem cr_isi {t : String} (ht : t ∈ tyAsk) : CallR X (.builtin "isinstance") (fun xs H Q => ∃ x, xs = [x, .ty t] ∧ rC X.K mg E (evBi (.isinst t)) [x] H Q) := by
  rintro pins s σ H xs us Q I r ⟨x, rfl, F, G, m, S, ws, hs, hw, hp⟩
  obtain ⟨w, v, rfl, e, hv, hp⟩ := ws_one (fun _ _ _ => rfl) hw hp
  cases e
  obtain ⟨z, ez, hp⟩ := Post.of hp
  obtain ⟨ty, ed, rfl⟩ := map_of ez
  refine call_isi pins s σ H _ us Q I r ⟨_, _, .type ty, .type t, _, rfl, .ty t, ty_rep hs hv ed, ?_, hp.now hs _ (.d (.bl _))⟩
  cases w with
  | d x =>
    have e2 : some (tyD x) = some ty := by
      cases x <;> first | exact ed | cases ed
    cases e2
    exact kit_all X.K x t ht
  | l n =>
    simp only [tyW] at ed
    split at ed
    · cases ed; exact kit_all X.K (.lst []) t ht
    · cases ed
/-- repr -/
theorem cr_repr (hg : X.A.guards = some []) (hu : X.A.units + 70 < cLine) (hn : X.base.NoDigits) : CallR X (.builtin "repr") (rC X.K mg E (evBi .repr)) := by
  rintro pins s σ H xs us Q I r ⟨F, G, m, S, ws, hs, hw, hp⟩
  obtain ⟨w, v, rfl, rfl, hv, hp⟩ := ws_one (fun _ _ _ => rfl) hw hp
  obtain ⟨u, rfl, rv⟩ := vals1 r
  simp only [evBi1, biRepr] at hp
  have hn := hn.keeps I.bk
  cases w with
  | l n => exact hp.elim
  | d x =>
    simp only at hp
    split at hp
    · rename_i hc
      rw [Bool.and_eq_true, Bool.and_eq_true, decide_eq_true_eq] at hc
      obtain ⟨⟨h1, h2⟩, h3⟩ := hc
      have h3 : x.py.shown.length ≤ sizeLine := Nat.le_trans h3 (by decide)
      have q : Q (.str x.py.shown) H := hp.now hs _ (.d (.str _))
      have hd := dOf hv
      have hdp := hd.dp hs.fr h1
      obtain ⟨can, dep⟩ := sh_can 60 x h1
      have big : ∀ a, v = .ref a → wpAny (model X.prog X.w) X.A (call (.builtin "repr") [u]) (EP X pins σ Q) X.xe s := fun a e => by
        subst e
        obtain ⟨as, hr⟩ := Dp.reads I x.py _ u hdp rv
        cases rv
        exact repr_any hr ⟨_, rfl⟩ h2 hn hg (by omega) h3 fun h' u tk hk => ⟨.str _, H, I.kept (t' := tk) hk, ⟨_, rfl⟩, q⟩
      cases hd with
      | non => cases rv; exact PySem.P.repr_of_none ⟨.str _, H, I.tok _, ⟨_, rfl⟩, q⟩
      | bl b => cases rv; exact PySem.P.repr_of_bool ⟨.str _, H, I.tok _, ⟨_, rfl⟩, q⟩
      | int i =>
        obtain ⟨t, rfl⟩ := rv
        exact repr_int hn (by simpa [tells, D.py] using h2) (by omega) ⟨.str _, H, I.tok _, ⟨_, rfl⟩, q⟩
      | str y =>
        obtain ⟨t, rfl⟩ := rv
        exact PySem.P.repr_of_str (h := ⟨.str _, H, I.tok _, ⟨_, rfl⟩, q⟩) (hsz := h3)
      | tup => exact big _ rfl
      | lst => exact big _ rfl
      | rol => exact big _ rfl
      | rtp => exact big _ rfl
      | dctT => cases h1
      | dctK => cases h1
    · exact hp.elim
end
end DL
/-! DLx: enumerate over a tuple. -/
namespace DL
open PySem PySem.Spec PyProof.Rows L2
/-- what iter(v) is: the place it h, in the heap f h, where P stands -/
structure ItOf (v : Value) (P : Heap → Prop) (f : Heap → Heap) (it : Heap → Addr) : Prop where
  iter : ∀ (prog : Program) (w : World) (A : Around) (E : Value → Shared → Prop) (s : Shared) (Q : Value → Shared → Prop), P s.heap → Q (.ref (it s.heap)) { s with heap := f s.heap } → wpAny (model prog w) A (pyIter v) Q E s
def enO (it : Addr) : Obj := { cls := .type "enumerate", data := .fields #[.none, .bool false, .ref it, rawInt 0, .none, .none] }
theorem en_meets {v : Value} {P : Heap → Prop} {f : Heap → Heap} {it : Heap → Addr} (B : ItOf v P f it) :
    Meets (Builtin.«enumerate.__new__» ⟨[.type "enumerate", v], []⟩) (fun _ R s => P s.heap ∧ R (.ok (.ret (.ref (f s.heap).objs.size))) { s with heap := (f s.heap).push (enO (it s.heap)) }) :=
  .of_wp fun prog w A R s h => by
    obtain ⟨hp, g, d, tk, os⟩ := s
    obtain ⟨hP, h⟩ := h
    have sub := sub_enumerate
    have go : ∀ {A' : Around} {E : Value → Shared → Prop} {Q : Value → Shared → Prop}, Q (.ref (it hp)) ⟨f hp, g, d, tk, os⟩ → wpAny (model prog w) A' (pyIter v) Q E ⟨hp, g, d, tk, os⟩ := fun q => B.iter prog w _ _ ⟨hp, g, d, tk, os⟩ _ hP q
    wp_walk using go
    refine wpAny_stack_any fun st => wpAny_pure ?_
    split
    · rename_i c _ _ _ _ _
      cases (c == Value.type "enumerate") <;> (wp_walk using go; exact ⟨_, rfl, h⟩)
    · wp_walk using go
      exact ⟨_, rfl, h⟩
theorem call_en {prog : Program} {w : World} {A : Around} {E : Value → Shared → Prop} {s : Shared} {v : Value} {P : Heap → Prop} {f : Heap → Heap} {it : Heap → Addr} {Q : Value → Shared → Prop} (B : ItOf v P f it) (hP : P s.heap)
    (h : Q (.ref (f s.heap).objs.size) { s with heap := (f s.heap).push (enO (it s.heap)) }) : wpAny (model prog w) A (call (.type "enumerate") [v]) Q E s := by
  refine callType_new F.called_enumerate (by decide) (F.typeCall_enumerate_1 _) (F.newCall_enumerate_1 _) (fun obj => F.args_object_init_2 obj _) F.entry_enumerate_new (en_meets B) ⟨hP, ?_⟩
  exact ⟨⟨_, Heap.get?_push_size _ rfl, rfl⟩, h⟩
/-- the tuple at a, each item in a new pair -/
def IteT (K : PySem.W.Frag) (a : Addr) : It :=
  ⟨fun i H => ∃ (xs : List V) (x : V), SqT K H a xs ∧ xs[i]? = some x, fun i H v H' => ∃ T x, v = .ref T ∧ H T = none ∧ H' = upd H T (.tup [.int (i : Nat), x]) ∧ ∀ xs, SqT K H a xs → xs[i]? = some x, fun i H => ∃ xs : List V, SqT K H a xs ∧ xs.length = i⟩
theorem two_mem {b x y : Addr} (h : b ∈ [x, y]) : b = x ∨ b = y := by simpa using h
theorem turn_enT {P : Program} {w : World} {K : PySem.W.Frag} {elts : List Expr} {kk : Nat} {tpos : Pos} (a e it : Addr) :
    Turn P w K (.Tuple elts kk tpos) (IteT K a) [e, it] e (fun i h => (∃ old, IsEnum h e it ((i : Nat) : Int) old) ∧ h.IsTupleIter it a i ∧ e ≠ it ∧ e ≠ a ∧ a ≠ it) where
  mem := by simp
  obj := fun i h ⟨⟨old, he⟩, ⟨o, ho, hc, hd⟩, _⟩ b hb => by
    rcases two_mem hb with rfl | rfl
    · exact ⟨_, he, fun v q => nomatch q⟩
    · exact ⟨o, ho, fun v q => by rw [hd] at q; cases q⟩
  keep := fun i h h' ⟨⟨old, he⟩, hi, hne⟩ k => ⟨⟨old, k e (by simp) _ he⟩, hi.at fun o q => k it (by simp) o q, hne⟩
  item := by
    intro X hP hw hK hc i pins s σ H E I hf ⟨⟨old, he⟩, hit, hne, hea, hai⟩ ⟨xs, x, hq, hx⟩
    subst hP hw hK
    obtain ⟨its, rv, p, hz⟩ := I.tuple hq
    obtain ⟨u, hu, ru⟩ := rv.get hx
    have hl : i < its.length := (List.getElem?_eq_some_iff.mp hu).1
    have lt1 : e < s.heap.objs.size := Heap.lt_size he
    have lt2 : it < s.heap.objs.size := by obtain ⟨_, q, _⟩ := hit; exact Heap.lt_size q
    have D := Draws.tuple (prog := X.prog) (w := X.w) (A := X.A.in1) (I.ok.hd hc) it a hai its.toArray
    refine wpAny_pyNext_enum_itemC D he ⟨hit, p⟩ (by simpa using hl) hne (by simp [hne, hea]) fun y h' tk hy ho st' hT hsz hk => ?_
    have ey : y = u := by
      have : its.toArray[i]? = some y := hy
      rw [List.getElem?_toArray, hu] at this
      exact (Option.some.inj this).symm
    subst ey
    refine ⟨_, rfl, wpAny_letOwnedTupleGo_enum (s := { s with heap := h', toks := tk + 1 }) ho fun h2 he2 sb => ?_⟩
    have hT2 : h2.get? s.heap.objs.size = some { cls := .type "tuple", data := .seq #[.int i tk, y] } := (sb.2 _ (Nat.ne_of_gt lt1)).trans hT
    have new : ObjOk X.prog X.w (upd H s.heap.objs.size (.tup [.int (i : Nat), x])) h2 s.heap.objs.size (.tup [.int (i : Nat), x]) :=
      ⟨by show 2 ≤ sizeLine; decide, [.int i tk, y], .cons ⟨_, rfl⟩ (.cons ru .nil), ⟨_, hT2, rfl, _, rfl⟩⟩
    have I1 : Inv X pins σ (upd H s.heap.objs.size (.tup [.int (i : Nat), x])) { s with heap := h2, toks := tk + 1 } :=
      I.turnedNew (ch := [e, it]) (fun b ob hb q => (sb.2 b (fun z => hb (by simp [z]))).trans (hk b ob (fun z => hb (by simp [z])) (fun z => hb (by simp [z])) q)) hf (Nat.le_refl _) new
    refine ⟨.ref s.heap.objs.size, _, I1, rfl, ⟨_, x, rfl, I.hok.fresh (Nat.le_refl _), rfl, fun ys hy => by rw [I.tuple_inj hy hq]; exact hx⟩, ⟨⟨y, ?_⟩, st'.1.at fun o q => (sb.2 it (Ne.symm hne)).trans q, hne, hea, hai⟩, fun b hb => ?_⟩
    · rw [show ((i + 1 : Nat) : Int) = (i : Int) + 1 by omega]
      exact he2
    · have hb' : b < s.heap.objs.size := by rcases two_mem hb with rfl | rfl <;> assumption
      rw [upd_ne (Nat.ne_of_lt hb')]
      exact (hf b hb).1
  done := by
    intro X hP hw hK hc i pins s σ H E I hf ⟨⟨old, he⟩, hit, hne, hea, hai⟩ ⟨xs, hq, hx⟩
    subst hP hw hK
    obtain ⟨its, rv, p, hz⟩ := I.tuple hq
    obtain ⟨f0, f1, f2, f3, f4, f5⟩ := hf it (by simp)
    have hl : its.toArray.size = i := by rw [List.size_toArray, ← rv.length]; exact hx
    have D := Draws.tuple (prog := X.prog) (w := X.w) (A := X.A.in1) (I.ok.hd hc) it a hai its.toArray
    refine wpAny_pyNext_enum_endD D he (by rw [hl]; exact ⟨hit, p⟩) fun h' eb => ⟨rfl, I.turned (t' := s.toks) (fun b o hb q => eb b o hb q) f0 f1 f3 f4 f5⟩
  self := fun A i s Q E st h => let ⟨⟨_, he⟩, _⟩ := st; wpAny_pyIter_enum he h
/-- enumerate(x), x a list or a tuple -/
def iEnumA (K : PySem.W.Frag) (ta : TA) : TI := fun σ H R => ta σ H fun vs H1 => ∃ a, vs = [.ref a] ∧ ((∃ xs, SqL K H1 a xs) ∧ R (Ite K a) H1 ∨ (∃ xs, SqT K H1 a xs) ∧ R (IteT K a) H1)
theorem tup_it {a : Addr} {its : Array Value} : ItOf (.ref a) (fun h => h.IsTuple a its) (fun h => h.push { cls := .type "tuple_iterator", data := .fields #[.ref a, .int 0 0] }) fun h => h.objs.size :=
  ⟨fun prog w A E s Q hP q => wpAny_pyIter_tuple hP q⟩
theorem pi_enumA {X : Cx} {e : Expr} {ta : TA} {p pos tpos : Pos} {elts : List Expr} {kk : Nat} (hg : Gl X "enumerate") (hm : X.mg "enumerate" = none) (ha : PA X [e] ta) (hs : starEach [e] X.env = [(false, eval e X.env)] := by rfl) :
    PI X (.Tuple elts kk tpos) (.Call (.Name "enumerate" p) [e] [] pos) (iEnumA X.K ta) := by
  refine ⟨fun pins s σ H R I h => ?_⟩
  refine Call_ (ld_blt I hg hm boot_enumerate (PyProof.Rows.callWith_type1 (thn (ha.run pos pins s σ H _ I h) fun us s1 ⟨vs, H1, I1, r1, q1⟩ => ?_) hs rfl))
  obtain ⟨a, ex, q⟩ := q1
  subst ex
  cases r1 with
  | cons r rr =>
    cases rr
    cases r
    have size2 : s1.heap.objs.size ≤ s1.heap.objs.size + 1 := Nat.le_succ _
    rcases q with ⟨⟨xs, hq⟩, q⟩ | ⟨⟨xs, hq⟩, q⟩
    · obtain ⟨its, rv, p', hz⟩ := I1.list hq
      refine call_enumerate_list p'.isList fun h' he hit hsz hk => wpAny_pyIter_enum he ?_
      refine ⟨s1.heap.objs.size + 1, [s1.heap.objs.size + 1, s1.heap.objs.size], _, _, H1, rfl, I1.kept (t' := s1.toks) hk, turn_enum a (s1.heap.objs.size + 1) s1.heap.objs.size, ⟨⟨.none, he⟩, hit, Nat.succ_ne_self _⟩, fun b hb => ?_, q⟩
      have hle : s1.heap.objs.size ≤ b := by rcases two_mem hb with rfl | rfl <;> omega
      exact I1.fpOk hle (I1.hok.fresh hle)
    · obtain ⟨its, rv, p', hz⟩ := I1.tuple hq
      have p2 : s1.heap.IsTuple a its.toArray := p'
      have hlt : a < s1.heap.objs.size := by obtain ⟨o, ho, _⟩ := p2; exact Heap.lt_size ho
      have hsz1 : (s1.heap.push { cls := .type "tuple_iterator", data := .fields #[.ref a, .int 0 0] }).objs.size = s1.heap.objs.size + 1 := Heap.size_push ..
      refine call_en tup_it p2 ?_
      rw [hsz1]
      have ge : IsEnum ((s1.heap.push { cls := .type "tuple_iterator", data := .fields #[.ref a, .int 0 0] }).push (enO s1.heap.objs.size)) (s1.heap.objs.size + 1) s1.heap.objs.size ((0 : Nat) : Int) .none := by
        have := Heap.get?_push_size (s1.heap.push { cls := .type "tuple_iterator", data := .fields #[.ref a, .int 0 0] }) (o := enO s1.heap.objs.size) rfl
        rw [hsz1] at this
        exact this
      refine wpAny_pyIter_enum ge ?_
      refine ⟨s1.heap.objs.size + 1, [s1.heap.objs.size + 1, s1.heap.objs.size], _, _, H1, rfl, I1.kept (t' := s1.toks) fun b o e => Heap.get?_push_of_some _ (Heap.get?_push_of_some _ e), turn_enT a (s1.heap.objs.size + 1) s1.heap.objs.size,
        ⟨⟨.none, ge⟩, ⟨_, Heap.get?_push_of_some _ (Heap.get?_push_size _ rfl), rfl, rfl⟩, Nat.succ_ne_self _, Nat.ne_of_gt (Nat.lt_succ_of_lt hlt), Nat.ne_of_lt hlt⟩, fun b hb => ?_, q⟩
      have hle : s1.heap.objs.size ≤ b := by rcases two_mem hb with rfl | rfl <;> omega
      exact I1.fpOk hle (I1.hok.fresh hle)
end DL
/-! DLx2: zip of a list or a tuple beside a list or a tuple; enumerate of such. -/
namespace DL
open PySem PySem.Spec PyProof.Rows L2 RZ
/-- a tuple (or a list) with an iterator over it -/
def Sr (b : Bool) (h : Heap) (it l : Addr) (i : Nat) (xs : Array Value) : Prop := if b = true then h.IsTupleIter it l i ∧ h.IsTuple l xs else h.IsListIter it l i ∧ h.IsList l xs
def Sq2 (b : Bool) (h : Heap) (l : Addr) (xs : Array Value) : Prop := if b = true then h.IsTuple l xs else h.IsList l xs
def itO (b : Bool) (l : Addr) : Obj := { cls := .type (if b = true then "tuple_iterator" else "list_iterator"), data := .fields #[.ref l, .int 0 0] }
theorem Heap.IsList.at' {h h' : Heap} {l : Addr} {xs : Array Value} (x : h.IsList l xs) (e : ∀ o, h.get? l = some o → h'.get? l = some o) : h'.IsList l xs := let ⟨o, ho, r⟩ := x; ⟨o, e _ ho, r⟩
theorem Sr.sq {b : Bool} {h : Heap} {it l : Addr} {i : Nat} {xs : Array Value} (r : Sr b h it l i xs) : Sq2 b h l xs := by
  unfold Sr at r
  unfold Sq2
  split at r
  · rw [if_pos (by assumption)]; exact r.2
  · rw [if_neg (by assumption)]; exact r.2
theorem Sr.at {b : Bool} {h h' : Heap} {it l : Addr} {i : Nat} {xs : Array Value} (r : Sr b h it l i xs) (e1 : ∀ o, h.get? it = some o → h'.get? it = some o) (e2 : ∀ o, h.get? l = some o → h'.get? l = some o) : Sr b h' it l i xs := by
  unfold Sr at *
  split
  · rw [if_pos (by assumption)] at r; exact ⟨r.1.at e1, r.2.at e2⟩
  · rw [if_neg (by assumption)] at r; exact ⟨r.1.at e1, Heap.IsList.at' r.2 e2⟩
theorem Sr.obj {b : Bool} {h : Heap} {it l : Addr} {i : Nat} {xs : Array Value} (r : Sr b h it l i xs) : ∃ o, h.get? it = some o ∧ ∃ v, o.data = .fields v := by
  unfold Sr at r
  split at r
  · obtain ⟨⟨o, h1, h2, h3⟩, _⟩ := r; exact ⟨o, h1, _, h3⟩
  · obtain ⟨⟨o, h1, h2, h3⟩, _⟩ := r; exact ⟨o, h1, _, h3⟩
theorem Sr.lt {b : Bool} {h : Heap} {it l : Addr} {i : Nat} {xs : Array Value} (r : Sr b h it l i xs) : it < h.objs.size := by obtain ⟨o, h1, _⟩ := r.obj; exact Heap.lt_size h1
theorem Sq2.lt {b : Bool} {h : Heap} {l : Addr} {xs : Array Value} (r : Sq2 b h l xs) : l < h.objs.size := by
  unfold Sq2 at r
  split at r
  · obtain ⟨o, h1, _⟩ := r; exact Heap.lt_size h1
  · obtain ⟨o, h1, _⟩ := r; exact Heap.lt_size h1
theorem Sq2.start {b : Bool} {h h' : Heap} {it l : Addr} {xs : Array Value} (r : Sq2 b h l xs) (e : ∀ o, h.get? l = some o → h'.get? l = some o) (hi : h'.get? it = some (itO b l)) : Sr b h' it l 0 xs := by
  unfold Sq2 at r
  unfold Sr
  cases b with
  | true => exact ⟨⟨_, hi, rfl, rfl⟩, Heap.IsTuple.at r e⟩
  | false => exact ⟨⟨_, hi, rfl, rfl⟩, Heap.IsList.at' r e⟩
section
variable {prog : Program} {w : World} {A : Around} {E : Value → Shared → Prop} {s : Shared}
theorem sr_item {b : Bool} {it l : Addr} {i : Nat} {xs : Array Value} {x : Value} {Q : Value → Shared → Prop} (r : Sr b s.heap it l i xs) (hne : l ≠ it) (hx : xs[i]? = some x)
    (q : ∀ h', Sr b h' it l (i + 1) xs → Heap.SameBut it s.heap h' → Q x { s with heap := h' }) : wpAny (model prog w) A (Builtin.SmallTypes.nextOf (.ref it)) Q E s := by
  unfold Sr at r
  split at r
  · rename_i hb
    refine nextOf_tuple_item r.1 r.2 hx fun h' h1 h2 => q h' ?_ h2
    unfold Sr
    rw [if_pos hb]
    exact ⟨h1, r.2.at fun o e => (h2.2 _ hne).trans e⟩
  · rename_i hb
    refine wpAny_nextOf_list_item r.1 r.2 hx fun h' h1 h2 => q h' ?_ h2
    unfold Sr
    rw [if_neg hb]
    exact ⟨h1, Heap.IsList.at' r.2 fun o e => (h2.2 _ hne).trans e⟩
theorem sr_end {b : Bool} {it l : Addr} {i : Nat} {xs : Array Value} {Q : Value → Shared → Prop} (hh : A.handled = none) (r : Sr b s.heap it l i xs) (hx : xs[i]? = none)
    (q : ∀ h' e, Heap.ExtBut it s.heap h' → (∃ o, h'.get? e = some o ∧ o.cls = .type "StopIteration") → E (.ref e) { s with heap := h' }) : wpAny (model prog w) A (Builtin.SmallTypes.nextOf (.ref it)) Q E s := by
  unfold Sr at r
  split at r
  · exact nextOf_tuple_end hh r.1 r.2 hx q
  · exact wpAny_nextOf_list_end hh r.1 r.2 hx q
theorem sq_iter {b : Bool} {l : Addr} {xs : Array Value} {Q : Value → Shared → Prop} (r : Sq2 b s.heap l xs) (q : Q (.ref s.heap.objs.size) { s with heap := s.heap.push (itO b l) }) : wpAny (model prog w) A (pyIter (.ref l)) Q E s := by
  unfold Sq2 at r
  cases b with
  | true => exact wpAny_pyIter_tuple r q
  | false => exact wpAny_pyIter_list r q
/-- zip's own record -/
abbrev ZObj (h : Heap) (z TI TO : Addr) (f0 f1 : Value) : Prop := h.get? z = some { cls := .type "zip", dict := none, data := .fields #[f0, f1, .bool false, .ref TI, .ref TO], slots := #[] }
/-- what was handed out: nothing, or some place -/
def Fr0 (f0 : Value) : Prop := f0 = .none ∨ ∃ T : Addr, f0 = rawInt T
theorem wpAny_loadIfAlive {a : Addr} {Q : Option Obj → Shared → Prop} (h : Q (s.heap.get? a) s) : wpAny (model prog w) A (loadIfAlive a) Q E s :=
  fun Γ p _ => by
    show Sem.wp _ Γ (.loadIfAlive a .pure) _ _ p s
    rw [Sem.wp_loadIfAlive]
    exact h
theorem zo_free {z TI TO : Addr} {f0 f1 : Value} {Q : Bool → Shared → Prop} (hz : ZObj s.heap z TI TO f0 f1) (hf : Fr0 f0)
    (q : ∀ b h' f1', ZObj h' z TI TO f0 f1' → Heap.SameBut z s.heap h' → Q b { s with heap := h' }) : wpAny (model prog w) A (Builtin.SmallTypes.ownedTupleIsFree (.ref z)) Q E s := by
  unfold Builtin.SmallTypes.ownedTupleIsFree
  refine wpAny_bind (wpAny_field hz rfl (x := f0) rfl ?_)
  rcases hf with rfl | ⟨T, rfl⟩
  · exact wpAny_pure (q true s.heap f1 hz (.refl ..))
  · show wpAny _ _ (loadIfAlive (T : Int).toNat >>= _) _ _ _
    refine wpAny_bind (wpAny_loadIfAlive ?_)
    cases e : s.heap.get? (T : Int).toNat with
    | none => exact wpAny_pure (q true s.heap f1 hz (.refl ..))
    | some o =>
      show wpAny _ _ (field (.ref z) 1 >>= _) _ _ _
      refine wpAny_bind (wpAny_field hz rfl (x := f1) rfl ?_)
      split
      · refine wpAny_bind (wpAny_setField_rec hz (by simp) fun h' hz' hs' => ?_)
        exact wpAny_pure (q false h' _ hz' hs')
      · exact wpAny_pure (q false s.heap f1 hz (.refl ..))
/-- what stands while it is drawn -/
structure Zst (b c : Bool) (h : Heap) (z TI TO i1 i2 l1 l2 : Addr) (k : Nat) (xs ys : Array Value) : Prop where
  z : ∃ f0 f1, Fr0 f0 ∧ ZObj h z TI TO f0 f1
  ti : IsPair h TI (.ref i1) (.ref i2)
  to : ∃ x y, IsPair h TO x y
  s1 : Sr b h i1 l1 k xs
  s2 : Sr c h i2 l2 k ys
theorem zg_item {b c : Bool} {z TI TO i1 i2 l1 l2 : Addr} {k : Nat} {xs ys : Array Value} {x y : Value} {Q : Value → Shared → Prop} (D : ZipApart z TI TO i1 i2 l1 l2) (st : Zst b c s.heap z TI TO i1 i2 l1 l2 k xs ys) (hx : xs[k]? = some x) (hy : ys[k]? = some y)
    (q : ∀ h', Zst b c h' z TI TO i1 i2 l1 l2 (k + 1) xs ys → IsPair h' s.heap.objs.size x y → h'.objs.size = s.heap.objs.size + 1 → (∀ d o, d ≠ z → d ≠ TO → d ≠ i1 → d ≠ i2 → s.heap.get? d = some o → h'.get? d = some o) → Q (.ref s.heap.objs.size) { s with heap := h' }) :
    wpAny (model prog w) A (Builtin.«zip.__next__» ⟨[.ref z], []⟩) (fun fin s' => ∃ v, fin = .done (.ret v) ∧ Q v s') E s := by
  obtain ⟨⟨f0, f1, hf, hz⟩, hTI, ⟨x0, y0, hTO⟩, r1, r2⟩ := st
  show wpAny _ _ (field (.ref z) 2 >>= _) _ _ _
  refine wpAny_bind (wpAny_field hz rfl (x := .bool false) rfl ?_)
  show wpAny _ _ (field (.ref z) 3 >>= _) _ _ _
  refine wpAny_bind (wpAny_field hz rfl (x := .ref TI) rfl ?_)
  refine wpAny_bind (wpAny_seqItems hTI rfl ?_)
  show wpAny _ _ (Builtin.SmallTypes.ownedTupleIsFree (.ref z) >>= _) _ _ _
  refine wpAny_bind (zo_free hz hf fun bb hA f1' hzA hsA => ?_)
  have hTIA : IsPair hA TI (.ref i1) (.ref i2) := (hsA.2 _ D.TIz).trans hTI
  have hTOA : IsPair hA TO x0 y0 := (hsA.2 _ D.TOz).trans hTO
  have rA1 : Sr b hA i1 l1 k xs := r1.at (fun o e => (hsA.2 _ D.i1z).trans e) fun o e => (hsA.2 _ D.l1z).trans e
  have rA2 : Sr c hA i2 l2 k ys := r2.at (fun o e => (hsA.2 _ D.i2z).trans e) fun o e => (hsA.2 _ D.l2z).trans e
  cases bb with
  | true =>
    rw [if_pos rfl]
    refine wpAny_bind (wpAny_rule ?_)
    refine wpAny_bind (wpAny_field hzA rfl (x := .ref TO) rfl ?_)
    refine wpAny_bind (wpAny_setField_rec hzA (by simp) fun h1 hz1 hs1 => ?_)
    replace hz1 : ZObj h1 z TI TO .ellipsis f1' := hz1
    refine wpAny_bind ?_
    simp only [List.zipIdx_cons, List.zipIdx_nil, List.forIn_cons, List.forIn_nil]
    refine wpAny_bind (wpAny_bind (wpAny_onRaise ?_))
    show wpAny _ _ (Builtin.SmallTypes.nextOf (.ref i1) >>= _) _ _ _
    refine wpAny_bind (sr_item (rA1.at (fun o e => (hs1.2 _ D.i1z).trans e) fun o e => (hs1.2 _ D.l1z).trans e) D.l1i1 hx fun h2 r12 hs2 => wpAny_pure ?_)
    have hTO2 : IsPair h2 TO x0 y0 := (hs2.2 _ D.TOi1).trans ((hs1.2 _ D.TOz).trans hTOA)
    refine wpAny_bind (wpAny_seqItems hTO2 rfl ?_)
    refine wpAny_bind (wpAny_updateSeq_pair hTO2 fun h3 hTO3 hs3 => ?_)
    replace hTO3 : IsPair h3 TO x y0 := hTO3
    refine wpAny_bind (wpAny_letGo (wpAny_pure ?_))
    refine wpAny_bind (wpAny_bind (wpAny_onRaise ?_))
    show wpAny _ _ (Builtin.SmallTypes.nextOf (.ref i2) >>= _) _ _ _
    refine wpAny_bind (sr_item (rA2.at (fun o e => (hs3.2 _ D.TOi2.symm).trans ((hs2.2 _ D.i12.symm).trans ((hs1.2 _ D.i2z).trans e))) fun o e => (hs3.2 _ D.l2TO).trans ((hs2.2 _ D.l2i1).trans ((hs1.2 _ D.l2z).trans e))) D.l2i2 hy fun h4 r24 hs4 => wpAny_pure ?_)
    have hTO4 : IsPair h4 TO x y0 := (hs4.2 _ D.TOi2).trans hTO3
    refine wpAny_bind (wpAny_seqItems hTO4 rfl ?_)
    refine wpAny_bind (wpAny_updateSeq_pair hTO4 fun h5 hTO5 hs5 => ?_)
    replace hTO5 : IsPair h5 TO x y := hTO5
    refine wpAny_bind (wpAny_letGo (wpAny_pure (wpAny_pure ?_)))
    refine wpAny_bind (wpAny_seqItems hTO5 rfl ?_)
    refine wpAny_bind (wpAny_newTuple ?_)
    have hsz : h5.objs.size = s.heap.objs.size := by rw [hs5.1, hs4.1, hs3.1, hs2.1, hs1.1, hsA.1]
    have same : ∀ d o, d ≠ z → d ≠ TO → d ≠ i1 → d ≠ i2 → s.heap.get? d = some o → h5.get? d = some o := fun d o d1 d2 d3 d4 e =>
      (hs5.2 _ d2).trans ((hs4.2 _ d4).trans ((hs3.2 _ d2).trans ((hs2.2 _ d3).trans ((hs1.2 _ d1).trans ((hsA.2 _ d1).trans e)))))
    have hz5 : ZObj h5 z TI TO .ellipsis f1' := (hs5.2 _ D.TOz.symm).trans ((hs4.2 _ D.i2z.symm).trans ((hs3.2 _ D.TOz.symm).trans ((hs2.2 _ D.i1z.symm).trans hz1)))
    have r15 : Sr b h5 i1 l1 (k + 1) xs := r12.at (fun o e => (hs5.2 _ D.TOi1.symm).trans ((hs4.2 _ D.i12).trans ((hs3.2 _ D.TOi1.symm).trans e))) fun o e => (hs5.2 _ D.l1TO).trans ((hs4.2 _ D.l1i2).trans ((hs3.2 _ D.l1TO).trans e))
    have r25 : Sr c h5 i2 l2 (k + 1) ys := r24.at (fun o e => (hs5.2 _ D.TOi2.symm).trans e) fun o e => (hs5.2 _ D.l2TO).trans e
    have hTI5 : IsPair h5 TI (.ref i1) (.ref i2) := same _ _ D.TIz D.TITO D.TIi1 D.TIi2 hTI
    have hzlt : z < h5.objs.size := Heap.lt_size hz5
    show wpAny _ _ (Builtin.SmallTypes.ownedTupleHandOut (.ref z) (.ref h5.objs.size) >>= _) _ _ _
    refine wpAny_bind ?_
    unfold Builtin.SmallTypes.ownedTupleHandOut
    have hz6 : ZObj (h5.push { cls := .type "tuple", data := .seq #[x, y] }) z TI TO .ellipsis f1' := Heap.get?_push_of_some _ hz5
    refine wpAny_bind (wpAny_setField_rec hz6 (by simp) fun h7 hz7 hs7 => ?_)
    replace hz7 : ZObj h7 z TI TO (rawInt h5.objs.size) f1' := hz7
    refine wpAny_setField_rec hz7 (by simp) fun h8 hz8 hs8 => ?_
    replace hz8 : ZObj h8 z TI TO (rawInt h5.objs.size) (.bool false) := hz8
    have up : ∀ d o, d ≠ z → h5.get? d = some o → h8.get? d = some o := fun d o d1 e => (hs8.2 _ d1).trans ((hs7.2 _ d1).trans (Heap.get?_push_of_some _ e))
    have hT8 : IsPair h8 h5.objs.size x y := (hs8.2 _ (Nat.ne_of_gt hzlt)).trans ((hs7.2 _ (Nat.ne_of_gt hzlt)).trans (Heap.get?_push_size _ rfl))
    have hz8s : h8.objs.size = h5.objs.size + 1 := by rw [hs8.1, hs7.1, Heap.size_push]
    rw [hsz] at hz8 hT8 hz8s
    refine wpAny_pure ⟨_, rfl, ?_⟩
    show Q (.ref h5.objs.size) _
    rw [hsz]
    refine q h8 ⟨⟨_, _, .inr ⟨_, rfl⟩, hz8⟩, up _ _ D.TIz hTI5, ⟨x, y, up _ _ D.TOz hTO5⟩, r15.at (fun o e => up _ o D.i1z e) fun o e => up _ o D.l1z e, r25.at (fun o e => up _ o D.i2z e) fun o e => up _ o D.l2z e⟩ hT8 hz8s fun d o d1 d2 d3 d4 e => up d o d1 (same d o d1 d2 d3 d4 e)
  | false =>
    rw [if_neg (by decide)]
    refine wpAny_bind ?_
    simp only [List.forIn_cons, List.forIn_nil, Array.forIn_toList, List.forIn_toArray]
    refine wpAny_bind (wpAny_bind (wpAny_holding ?_))
    show wpAny _ _ (Builtin.SmallTypes.nextOf (.ref i1) >>= _) _ _ _
    refine wpAny_bind (sr_item rA1 D.l1i1 hx fun h2 r12 hs2 => wpAny_pure ?_)
    refine wpAny_pure ?_
    refine wpAny_bind (wpAny_bind (wpAny_holding ?_))
    show wpAny _ _ (Builtin.SmallTypes.nextOf (.ref i2) >>= _) _ _ _
    refine wpAny_bind (sr_item (rA2.at (fun o e => (hs2.2 _ D.i12.symm).trans e) fun o e => (hs2.2 _ D.l2i1).trans e) D.l2i2 hy fun h4 r24 hs4 => wpAny_pure ?_)
    refine wpAny_pure (wpAny_pure ?_)
    show wpAny _ _ (newTuple [x, y] >>= _) _ _ _
    refine wpAny_bind (wpAny_newTuple ?_)
    have hsz : h4.objs.size = s.heap.objs.size := by rw [hs4.1, hs2.1, hsA.1]
    have same : ∀ d o, d ≠ z → d ≠ i1 → d ≠ i2 → s.heap.get? d = some o → h4.get? d = some o := fun d o d1 d3 d4 e =>
      (hs4.2 _ d4).trans ((hs2.2 _ d3).trans ((hsA.2 _ d1).trans e))
    have hz4 : ZObj h4 z TI TO f0 f1' := (hs4.2 _ D.i2z.symm).trans ((hs2.2 _ D.i1z.symm).trans hzA)
    have r14 : Sr b h4 i1 l1 (k + 1) xs := r12.at (fun o e => (hs4.2 _ D.i12).trans e) fun o e => (hs4.2 _ D.l1i2).trans e
    have up : ∀ d o, h4.get? d = some o → (h4.push { cls := .type "tuple", data := .seq #[x, y] }).get? d = some o := fun d o e => Heap.get?_push_of_some _ e
    refine wpAny_pure ⟨_, rfl, ?_⟩
    show Q (.ref h4.objs.size) _
    have q' := q (h4.push { cls := .type "tuple", data := .seq #[x, y] }) ⟨⟨_, _, hf, up _ _ hz4⟩, up _ _ (same _ _ D.TIz D.TIi1 D.TIi2 hTI), ⟨x0, y0, up _ _ (same _ _ D.TOz D.TOi1 D.TOi2 hTO)⟩, r14.at (fun o e => up _ o e) fun o e => up _ o e, r24.at (fun o e => up _ o e) fun o e => up _ o e⟩
      (by rw [← hsz]; exact Heap.get?_push_size _ rfl) (by rw [Heap.size_push, hsz]) fun d o d1 d2 d3 d4 e => up d o (same d o d1 d3 d4 e)
    rw [hsz]
    exact q'
theorem zg_end {b c : Bool} {z TI TO i1 i2 l1 l2 : Addr} {k : Nat} {xs ys : Array Value} {Q : Fin → Shared → Prop} (hh : A.handled = none) (D : ZipApart z TI TO i1 i2 l1 l2) (st : Zst b c s.heap z TI TO i1 i2 l1 l2 k xs ys) (hend : xs[k]? = none ∨ ys[k]? = none)
    (q : ∀ h' e, (∀ d o, d ≠ z → d ≠ TO → d ≠ i1 → d ≠ i2 → s.heap.get? d = some o → h'.get? d = some o) → (∃ o, h'.get? e = some o ∧ o.cls = .type "StopIteration") → E (.ref e) { s with heap := h' }) :
    wpAny (model prog w) A (Builtin.«zip.__next__» ⟨[.ref z], []⟩) Q E s := by
  obtain ⟨⟨f0, f1, hf, hz⟩, hTI, ⟨x0, y0, hTO⟩, r1, r2⟩ := st
  show wpAny _ _ (field (.ref z) 2 >>= _) _ _ _
  refine wpAny_bind (wpAny_field hz rfl (x := .bool false) rfl ?_)
  show wpAny _ _ (field (.ref z) 3 >>= _) _ _ _
  refine wpAny_bind (wpAny_field hz rfl (x := .ref TI) rfl ?_)
  refine wpAny_bind (wpAny_seqItems hTI rfl ?_)
  show wpAny _ _ (Builtin.SmallTypes.ownedTupleIsFree (.ref z) >>= _) _ _ _
  refine wpAny_bind (zo_free hz hf fun bb hA f1' hzA hsA => ?_)
  have hTOA : IsPair hA TO x0 y0 := (hsA.2 _ D.TOz).trans hTO
  have rA1 : Sr b hA i1 l1 k xs := r1.at (fun o e => (hsA.2 _ D.i1z).trans e) fun o e => (hsA.2 _ D.l1z).trans e
  have rA2 : Sr c hA i2 l2 k ys := r2.at (fun o e => (hsA.2 _ D.i2z).trans e) fun o e => (hsA.2 _ D.l2z).trans e
  cases bb with
  | true =>
    rw [if_pos rfl]
    refine wpAny_bind (wpAny_rule ?_)
    refine wpAny_bind (wpAny_field hzA rfl (x := .ref TO) rfl ?_)
    refine wpAny_bind (wpAny_setField_rec hzA (by simp) fun h1 hz1 hs1 => ?_)
    replace hz1 : ZObj h1 z TI TO .ellipsis f1' := hz1
    refine wpAny_bind ?_
    simp only [List.zipIdx_cons, List.zipIdx_nil, List.forIn_cons, List.forIn_nil]
    refine wpAny_bind (wpAny_bind (wpAny_onRaise ?_))
    show wpAny _ _ (Builtin.SmallTypes.nextOf (.ref i1) >>= _) _ _ _
    have rB1 : Sr b h1 i1 l1 k xs := rA1.at (fun o e => (hs1.2 _ D.i1z).trans e) fun o e => (hs1.2 _ D.l1z).trans e
    cases hx : xs[k]? with
    | none =>
      refine wpAny_bind (sr_end hh rB1 hx fun h2 e hs2 he => ?_)
      obtain ⟨oe, hoe, hce⟩ := he
      have hz2 : ZObj h2 z TI TO .ellipsis f1' := hs2 _ _ D.i1z.symm hz1
      have hez : e ≠ z := fun x => by subst x; rw [hz2] at hoe; cases hoe; simp at hce
      refine wpAny_setField_rec hz2 (by simp) fun h3 _ hs3 => q h3 e (fun d o d1 _ d3 _ x => (hs3.2 _ d1).trans (hs2 _ _ d3 ((hs1.2 _ d1).trans ((hsA.2 _ d1).trans x)))) ⟨oe, (hs3.2 _ hez).trans hoe, hce⟩
    | some x =>
      have hy : ys[k]? = none := by rcases hend with h | h; rw [hx] at h; cases h; exact h
      refine wpAny_bind (sr_item rB1 D.l1i1 hx fun h2 r12 hs2 => wpAny_pure ?_)
      have hTO2 : IsPair h2 TO x0 y0 := (hs2.2 _ D.TOi1).trans ((hs1.2 _ D.TOz).trans hTOA)
      refine wpAny_bind (wpAny_seqItems hTO2 rfl ?_)
      refine wpAny_bind (wpAny_updateSeq_pair hTO2 fun h3 hTO3 hs3 => ?_)
      refine wpAny_bind (wpAny_letGo (wpAny_pure ?_))
      refine wpAny_bind (wpAny_bind (wpAny_onRaise ?_))
      show wpAny _ _ (Builtin.SmallTypes.nextOf (.ref i2) >>= _) _ _ _
      refine wpAny_bind (sr_end hh (rA2.at (fun o e => (hs3.2 _ D.TOi2.symm).trans ((hs2.2 _ D.i12.symm).trans ((hs1.2 _ D.i2z).trans e))) fun o e => (hs3.2 _ D.l2TO).trans ((hs2.2 _ D.l2i1).trans ((hs1.2 _ D.l2z).trans e))) hy fun h4 e hs4 he => ?_)
      obtain ⟨oe, hoe, hce⟩ := he
      have hz4 : ZObj h4 z TI TO .ellipsis f1' := hs4 _ _ D.i2z.symm ((hs3.2 _ D.TOz.symm).trans ((hs2.2 _ D.i1z.symm).trans hz1))
      have hez : e ≠ z := fun x => by subst x; rw [hz4] at hoe; cases hoe; simp at hce
      refine wpAny_setField_rec hz4 (by simp) fun h5 _ hs5 => q h5 e (fun d o d1 d2 d3 d4 x => (hs5.2 _ d1).trans (hs4 _ _ d4 ((hs3.2 _ d2).trans ((hs2.2 _ d3).trans ((hs1.2 _ d1).trans ((hsA.2 _ d1).trans x)))))) ⟨oe, (hs5.2 _ hez).trans hoe, hce⟩
  | false =>
    rw [if_neg (by decide)]
    refine wpAny_bind ?_
    simp only [List.forIn_cons, List.forIn_nil, Array.forIn_toList, List.forIn_toArray]
    refine wpAny_bind (wpAny_bind (wpAny_holding ?_))
    show wpAny _ _ (Builtin.SmallTypes.nextOf (.ref i1) >>= _) _ _ _
    cases hx : xs[k]? with
    | none =>
      refine wpAny_bind (sr_end hh rA1 hx fun h2 e hs2 he => ?_)
      exact q h2 e (fun d o d1 _ d3 _ x => hs2 _ _ d3 ((hsA.2 _ d1).trans x)) he
    | some x =>
      have hy : ys[k]? = none := by rcases hend with h | h; rw [hx] at h; cases h; exact h
      refine wpAny_bind (sr_item rA1 D.l1i1 hx fun h2 r12 hs2 => wpAny_pure ?_)
      refine wpAny_pure ?_
      refine wpAny_bind (wpAny_bind (wpAny_holding ?_))
      show wpAny _ _ (Builtin.SmallTypes.nextOf (.ref i2) >>= _) _ _ _
      refine wpAny_bind (sr_end hh (rA2.at (fun o e => (hs2.2 _ D.i12.symm).trans e) fun o e => (hs2.2 _ D.l2i1).trans e) hy fun h4 e hs4 he => ?_)
      exact q h4 e (fun d o d1 _ d3 d4 x => hs4 _ _ d4 ((hs2.2 _ d3).trans ((hsA.2 _ d1).trans x))) he
/-- a call of next, as other iterators make it -/
theorem zn_item {b c : Bool} {z TI TO i1 i2 l1 l2 : Addr} {k : Nat} {xs ys : Array Value} {x y : Value} {Q : Value → Shared → Prop} (D : ZipApart z TI TO i1 i2 l1 l2) (st : Zst b c s.heap z TI TO i1 i2 l1 l2 k xs ys) (hx : xs[k]? = some x) (hy : ys[k]? = some y)
    (q : ∀ h', Zst b c h' z TI TO i1 i2 l1 l2 (k + 1) xs ys → IsPair h' s.heap.objs.size x y → h'.objs.size = s.heap.objs.size + 1 → (∀ d o, d ≠ z → d ≠ TO → d ≠ i1 → d ≠ i2 → s.heap.get? d = some o → h'.get? d = some o) → Q (.ref s.heap.objs.size) { s with heap := h' }) :
    wpAny (model prog w) A (Builtin.SmallTypes.nextOf (.ref z)) Q E s := by
  obtain ⟨f0, f1, hf, hz⟩ := st.z
  have hT : s.TypeIs (.ref z) "zip" := ⟨_, hz, rfl⟩
  unfold Builtin.SmallTypes.nextOf
  refine wpAny_bind (wpAny_callSpecial?_slot (name := Str.ofString "__next__") hT F.slot_zip_next (wpAny_call_entry F.slot_zip_next hT F.entry_zip_next (zg_item D st hx hy fun h' a1 a2 a3 a4 => ?_) (F.args_zip_next_1 _)))
  exact wpAny_pure (q h' a1 a2 a3 a4)
theorem zn_end {b c : Bool} {z TI TO i1 i2 l1 l2 : Addr} {k : Nat} {xs ys : Array Value} {Q : Value → Shared → Prop} (hh : A.handled = none) (D : ZipApart z TI TO i1 i2 l1 l2) (st : Zst b c s.heap z TI TO i1 i2 l1 l2 k xs ys) (hend : xs[k]? = none ∨ ys[k]? = none)
    (q : ∀ h' e, (∀ d o, d ≠ z → d ≠ TO → d ≠ i1 → d ≠ i2 → s.heap.get? d = some o → h'.get? d = some o) → (∃ o, h'.get? e = some o ∧ o.cls = .type "StopIteration") → E (.ref e) { s with heap := h' }) :
    wpAny (model prog w) A (Builtin.SmallTypes.nextOf (.ref z)) Q E s := by
  obtain ⟨f0, f1, hf, hz⟩ := st.z
  have hT : s.TypeIs (.ref z) "zip" := ⟨_, hz, rfl⟩
  unfold Builtin.SmallTypes.nextOf
  exact wpAny_bind (wpAny_callSpecial?_slot (name := Str.ofString "__next__") hT F.slot_zip_next (wpAny_call_entry F.slot_zip_next hT F.entry_zip_next (zg_end hh D st hend q) (F.args_zip_next_1 _)))
/-- the same, as a loop makes it -/
theorem zp_item {b c : Bool} {z TI TO i1 i2 l1 l2 : Addr} {k : Nat} {xs ys : Array Value} {x y : Value} {Q : Option Value → Shared → Prop} (D : ZipApart z TI TO i1 i2 l1 l2) (st : Zst b c s.heap z TI TO i1 i2 l1 l2 k xs ys) (hx : xs[k]? = some x) (hy : ys[k]? = some y)
    (q : ∀ h', Zst b c h' z TI TO i1 i2 l1 l2 (k + 1) xs ys → IsPair h' s.heap.objs.size x y → h'.objs.size = s.heap.objs.size + 1 → (∀ d o, d ≠ z → d ≠ TO → d ≠ i1 → d ≠ i2 → s.heap.get? d = some o → h'.get? d = some o) → Q (some (.ref s.heap.objs.size)) { s with heap := h' }) :
    wpAny (model prog w) A (pyNext (.ref z)) Q E s := by
  obtain ⟨f0, f1, hf, hz⟩ := st.z
  have hT : s.TypeIs (.ref z) "zip" := ⟨_, hz, rfl⟩
  unfold pyNext
  exact wpAny_bind (wpAny_attempt (wpAny_callSpecial?_slot (name := Str.ofString "__next__") hT F.slot_zip_next (wpAny_call_entry F.slot_zip_next hT F.entry_zip_next (zg_item D st hx hy fun h' a1 a2 a3 a4 => wpAny_pure (q h' a1 a2 a3 a4)) (F.args_zip_next_1 _))))
theorem zp_end {b c : Bool} {z TI TO i1 i2 l1 l2 : Addr} {k : Nat} {xs ys : Array Value} {Q : Option Value → Shared → Prop} (hh : A.handled = none) (D : ZipApart z TI TO i1 i2 l1 l2) (st : Zst b c s.heap z TI TO i1 i2 l1 l2 k xs ys) (hend : xs[k]? = none ∨ ys[k]? = none)
    (q : ∀ h', (∀ d o, d ≠ z → d ≠ TO → d ≠ i1 → d ≠ i2 → s.heap.get? d = some o → h'.get? d = some o) → Q none { s with heap := h' }) : wpAny (model prog w) A (pyNext (.ref z)) Q E s := by
  obtain ⟨f0, f1, hf, hz⟩ := st.z
  have hT : s.TypeIs (.ref z) "zip" := ⟨_, hz, rfl⟩
  unfold pyNext
  refine wpAny_bind (wpAny_attempt (wpAny_callSpecial?_slot (name := Str.ofString "__next__") hT F.slot_zip_next (wpAny_call_entry F.slot_zip_next hT F.entry_zip_next (zg_end hh D st hend fun h' e hk he => ?_) (F.args_zip_next_1 _))))
  obtain ⟨o, ho, hc⟩ := he
  refine wpAny_bind (wpAny_isInstance (T := "StopIteration") (b := true) ⟨o, ho, hc⟩ isSubtype_stop ?_)
  exact wpAny_pure (q _ hk)
/-- a loop over it lets the pair go, or not -/
theorem zp_go {b c : Bool} {elts : List Expr} {x1 : Nat} {pos : Pos} {z TI TO i1 i2 l1 l2 T : Addr} {k : Nat} {xs ys : Array Value} {Q : Unit → Shared → Prop} (D : ZipApart z TI TO i1 i2 l1 l2) (st : Zst b c s.heap z TI TO i1 i2 l1 l2 k xs ys)
    (q : ∀ h', Zst b c h' z TI TO i1 i2 l1 l2 k xs ys → Heap.SameBut z s.heap h' → Q () { s with heap := h' }) : wpAny (model prog w) A (letOwnedTupleGo (.Tuple elts x1 pos) (.ref z) (.ref T)) Q E s := by
  obtain ⟨f0, f1, hf, hz⟩ := st.z
  unfold letOwnedTupleGo
  refine wpAny_bind (wpAny_load hz ?_)
  dsimp only
  split
  · refine wpAny_bind (wpAny_rule ?_)
    show wpAny _ _ (setField (.ref z) 0 .none) Q E s
    refine wpAny_setField_rec hz (by simp) fun h' hz' hs' => q h' ⟨⟨_, _, .inl rfl, hz'⟩, (hs'.2 _ D.TIz).trans st.ti, ?_, st.s1.at (fun o e => (hs'.2 _ D.i1z).trans e) fun o e => (hs'.2 _ D.l1z).trans e, st.s2.at (fun o e => (hs'.2 _ D.i2z).trans e) fun o e => (hs'.2 _ D.l2z).trans e⟩ hs'
    obtain ⟨x, y, h⟩ := st.to
    exact ⟨x, y, (hs'.2 _ D.TOz).trans h⟩
  · exact wpAny_pure (q s.heap st (.refl ..))
end
end DL
/-! DLx3: zip of any two, enumerate of it, as walked. -/
namespace DL
open PySem PySem.Spec PyProof.Rows L2 RZ
abbrev zmH1 (b : Bool) (h : Heap) (l1 : Addr) : Heap := h.push (itO b l1)
abbrev zmH2 (b c : Bool) (h : Heap) (l1 l2 : Addr) : Heap := (zmH1 b h l1).push (itO c l2)
abbrev zmH3 (b c : Bool) (h : Heap) (l1 l2 : Addr) : Heap := (zmH2 b c h l1 l2).push { cls := .type "tuple", data := .seq #[.ref h.objs.size, .ref (zmH1 b h l1).objs.size] }
abbrev zmH4 (b c : Bool) (h : Heap) (l1 l2 : Addr) : Heap := (zmH3 b c h l1 l2).push { cls := .type "tuple", data := .seq #[.none, .none] }
abbrev zmH5 (b c : Bool) (h : Heap) (l1 l2 : Addr) : Heap := (zmH4 b c h l1 l2).push { cls := .type "zip", data := .fields #[.none, .bool false, .bool false, .ref (zmH2 b c h l1 l2).objs.size, .ref (zmH3 b c h l1 l2).objs.size] }
theorem Sq2.push {b : Bool} {h : Heap} {l : Addr} {xs : Array Value} (r : Sq2 b h l xs) (o : Obj) : Sq2 b (h.push o) l xs := by
  unfold Sq2 at *
  split
  · rw [if_pos (by assumption)] at r; exact r.push o
  · rw [if_neg (by assumption)] at r; exact r.push o
theorem zm_meets (b c : Bool) (l1 l2 : Addr) (xs ys : Array Value) :
    Meets (Builtin.«zip.__new__» ⟨[.type "zip", .ref l1, .ref l2], []⟩) (fun _ R s => Sq2 b s.heap l1 xs ∧ Sq2 c s.heap l2 ys ∧ R (.ok (.ret (.ref (zmH4 b c s.heap l1 l2).objs.size))) { s with heap := zmH5 b c s.heap l1 l2 }) :=
  .of_wp fun prog w A R s h => by
    obtain ⟨hp, g, d, tk, os⟩ := s
    obtain ⟨h1, h2, h⟩ := h
    have sub := sub_zip
    have q1 : Sq2 b (Shared.heap ⟨hp, g, d, tk, os⟩) l1 xs := h1
    have q2 : Sq2 c (Shared.heap ⟨hp.push (itO b l1), g, d, tk, os⟩) l2 ys := h2.push _
    wp_walk using sq_iter q1, sq_iter q2
    exact ⟨_, rfl, h⟩
section
variable {prog : Program} {w : World} {A : Around} {E : Value → Shared → Prop} {s : Shared}
theorem zm_call {b c : Bool} {l1 l2 : Addr} {xs ys : Array Value} {Q : Value → Shared → Prop} (h1 : Sq2 b s.heap l1 xs) (h2 : Sq2 c s.heap l2 ys)
    (q : ∀ h', Zst b c h' (s.heap.objs.size + 4) (s.heap.objs.size + 2) (s.heap.objs.size + 3) s.heap.objs.size (s.heap.objs.size + 1) l1 l2 0 xs ys → h'.objs.size = s.heap.objs.size + 5 → (∀ d o, s.heap.get? d = some o → h'.get? d = some o) → Q (.ref (s.heap.objs.size + 4)) { s with heap := h' }) :
    wpAny (model prog w) A (call (.type "zip") [.ref l1, .ref l2]) Q E s := by
  refine callType_new F.called_zip (by decide) (F.typeCall_zip_2 _ _) (F.newCall_zip_2 _ _) (fun obj => F.args_object_init_3 obj _ _) F.entry_zip_new (zm_meets b c l1 l2 xs ys) ⟨h1, h2, ?_⟩
  have z1 : (zmH1 b s.heap l1).objs.size = s.heap.objs.size + 1 := Heap.size_push ..
  have z2 : (zmH2 b c s.heap l1 l2).objs.size = s.heap.objs.size + 2 := by rw [Heap.size_push, z1]
  have z3 : (zmH3 b c s.heap l1 l2).objs.size = s.heap.objs.size + 3 := by rw [Heap.size_push, z2]
  have z4 : (zmH4 b c s.heap l1 l2).objs.size = s.heap.objs.size + 4 := by rw [Heap.size_push, z3]
  have z5 : (zmH5 b c s.heap l1 l2).objs.size = s.heap.objs.size + 5 := by rw [Heap.size_push, z4]
  have k4 : ∀ d o, (zmH4 b c s.heap l1 l2).get? d = some o → (zmH5 b c s.heap l1 l2).get? d = some o := fun d o e => Heap.get?_push_of_some _ e
  have k3 : ∀ d o, (zmH3 b c s.heap l1 l2).get? d = some o → (zmH5 b c s.heap l1 l2).get? d = some o := fun d o e => k4 d o (Heap.get?_push_of_some _ e)
  have k2 : ∀ d o, (zmH2 b c s.heap l1 l2).get? d = some o → (zmH5 b c s.heap l1 l2).get? d = some o := fun d o e => k3 d o (Heap.get?_push_of_some _ e)
  have k1 : ∀ d o, (zmH1 b s.heap l1).get? d = some o → (zmH5 b c s.heap l1 l2).get? d = some o := fun d o e => k2 d o (Heap.get?_push_of_some _ e)
  have k0 : ∀ d o, s.heap.get? d = some o → (zmH5 b c s.heap l1 l2).get? d = some o := fun d o e => k1 d o (Heap.get?_push_of_some _ e)
  have g5 : (zmH5 b c s.heap l1 l2).get? (zmH4 b c s.heap l1 l2).objs.size = some _ := Heap.get?_push_size _ rfl
  have g4 : (zmH5 b c s.heap l1 l2).get? (zmH3 b c s.heap l1 l2).objs.size = some _ := k4 _ _ (Heap.get?_push_size _ rfl)
  have g3 : (zmH5 b c s.heap l1 l2).get? (zmH2 b c s.heap l1 l2).objs.size = some _ := k3 _ _ (Heap.get?_push_size _ rfl)
  have g2 : (zmH5 b c s.heap l1 l2).get? (zmH1 b s.heap l1).objs.size = some (itO c l2) := k2 _ _ (Heap.get?_push_size _ (by cases c <;> rfl))
  have g1 : (zmH5 b c s.heap l1 l2).get? s.heap.objs.size = some (itO b l1) := k1 _ _ (Heap.get?_push_size _ (by cases b <;> rfl))
  show _ ∧ _
  rw [z2, z3, z4] at g5
  rw [z1, z2] at g3
  rw [z3] at g4
  rw [z1] at g2
  rw [z4]
  exact ⟨⟨_, g5, rfl⟩, q _ ⟨⟨_, _, .inl rfl, g5⟩, g3, ⟨_, _, g4⟩, h1.start (k0 l1) g1, h2.start (k0 l2) g2⟩ z5 k0⟩
end
/-! ### over the layer -/
def SqK (K : PySem.W.Frag) (b : Bool) (H : Hp) (a : Addr) (xs : List V) : Prop := if b = true then SqT K H a xs else SqL K H a xs
section
variable {X : Cx} {pins : List (Addr × Obj)} {σ : L2.St} {H : Hp} {s : Shared}
theorem sqk_its {b : Bool} {a : Addr} {xs : List V} (I : Inv X pins σ H s) (h : SqK X.K b H a xs) : ∃ its, Vals xs its ∧ Sq2 b s.heap a its.toArray := by
  unfold SqK at h
  cases b with
  | true => obtain ⟨its, rv, p, _⟩ := I.tuple h; exact ⟨its, rv, p⟩
  | false => obtain ⟨its, rv, p, _⟩ := I.list h; exact ⟨its, rv, p.isList⟩
theorem sqk_inj {b : Bool} {a : Addr} {xs ys : List V} (I : Inv X pins σ H s) (h : SqK X.K b H a xs) (h' : SqK X.K b H a ys) : xs = ys := by
  unfold SqK at h h'
  cases b with
  | true => exact I.tuple_inj h h'
  | false => exact I.list_inj h h'
end
theorem sq2_inj {b : Bool} {h : Heap} {a : Addr} {xs ys : Array Value} (p : Sq2 b h a xs) (q : Sq2 b h a ys) : xs = ys := by
  unfold Sq2 at p q
  cases b with
  | true =>
    obtain ⟨o, h1, _, n, h3⟩ := p
    obtain ⟨o2, g1, _, n2, g3⟩ := q
    rw [h1] at g1
    cases g1
    rw [h3] at g3
    cases g3
    rfl
  | false =>
    obtain ⟨o, h1, _, n, h3⟩ := p
    obtain ⟨o2, g1, _, n2, g3⟩ := q
    rw [h1] at g1
    cases g1
    rw [h3] at g3
    cases g3
    rfl
/-- the two as they stand at each turn, the items in new pairs -/
def ItzG (K : PySem.W.Frag) (b c : Bool) (a d : Addr) : It :=
  ⟨fun i H => ∃ (xs ys : List V) (x y : V), SqK K b H a xs ∧ SqK K c H d ys ∧ xs[i]? = some x ∧ ys[i]? = some y,
    fun i H v H' => ∃ T x y, v = .ref T ∧ H T = none ∧ H' = upd H T (.tup [x, y]) ∧ (∀ xs, SqK K b H a xs → xs[i]? = some x) ∧ ∀ ys, SqK K c H d ys → ys[i]? = some y,
    fun i H => ∃ xs ys : List V, SqK K b H a xs ∧ SqK K c H d ys ∧ (xs.length ≤ i ∨ ys.length ≤ i)⟩
def ItB (b : Bool) (h : Heap) (it l : Addr) (i : Nat) : Prop := if b = true then h.IsTupleIter it l i else h.IsListIter it l i
theorem Sr.it {b : Bool} {h : Heap} {it l : Addr} {i : Nat} {xs : Array Value} (r : Sr b h it l i xs) : ItB b h it l i := by
  unfold Sr at r
  unfold ItB
  cases b <;> exact r.1
theorem ItB.sr {b : Bool} {h : Heap} {it l : Addr} {i : Nat} {xs : Array Value} (r : ItB b h it l i) (q : Sq2 b h l xs) : Sr b h it l i xs := by
  unfold ItB at r
  unfold Sq2 at q
  unfold Sr
  cases b <;> exact ⟨r, q⟩
theorem ItB.at {b : Bool} {h h' : Heap} {it l : Addr} {i : Nat} (r : ItB b h it l i) (e1 : ∀ o, h.get? it = some o → h'.get? it = some o) : ItB b h' it l i := by
  unfold ItB at *
  cases b with
  | true => exact Heap.IsTupleIter.at r e1
  | false => exact Heap.IsListIter.at r e1
theorem ItB.obj {b : Bool} {h : Heap} {it l : Addr} {i : Nat} (r : ItB b h it l i) : ∃ o, h.get? it = some o ∧ ∃ v, o.data = .fields v := by
  unfold ItB at r
  cases b with
  | true => obtain ⟨o, h1, h2, h3⟩ := r; exact ⟨o, h1, _, h3⟩
  | false => obtain ⟨o, h1, h2, h3⟩ := r; exact ⟨o, h1, _, h3⟩
/-- what stands of it, the two aside -/
structure Ztn (b c : Bool) (h : Heap) (z TI TO i1 i2 l1 l2 : Addr) (k : Nat) : Prop where
  z : ∃ f0 f1, Fr0 f0 ∧ ZObj h z TI TO f0 f1
  ti : IsPair h TI (.ref i1) (.ref i2)
  to : ∃ x y, IsPair h TO x y
  s1 : ItB b h i1 l1 k
  s2 : ItB c h i2 l2 k
section
variable {b c : Bool} {h h' : Heap} {z TI TO i1 i2 l1 l2 : Addr} {k : Nat} {xs ys : Array Value}
theorem Zst.tn (st : Zst b c h z TI TO i1 i2 l1 l2 k xs ys) : Ztn b c h z TI TO i1 i2 l1 l2 k := ⟨st.z, st.ti, st.to, st.s1.it, st.s2.it⟩
theorem Ztn.st (t : Ztn b c h z TI TO i1 i2 l1 l2 k) (q1 : Sq2 b h l1 xs) (q2 : Sq2 c h l2 ys) : Zst b c h z TI TO i1 i2 l1 l2 k xs ys := ⟨t.z, t.ti, t.to, t.s1.sr q1, t.s2.sr q2⟩
theorem zfive {d : Addr} (h : d ∈ [z, TI, TO, i1, i2]) : d = z ∨ d = TI ∨ d = TO ∨ d = i1 ∨ d = i2 := by simpa using h
theorem Ztn.recs (t : Ztn b c h z TI TO i1 i2 l1 l2 k) : ∀ d ∈ [z, TI, TO, i1, i2], ∃ o, h.get? d = some o ∧ ∀ v, o.data ≠ .cell v := by
  obtain ⟨⟨f0, f1, hf, hz⟩, hTI, ⟨x, y, hTO⟩, r1, r2⟩ := t
  intro d hd
  rcases zfive hd with q | q | q | q | q
  · rw [q]; exact ⟨_, hz, fun v q => nomatch q⟩
  · rw [q]; exact ⟨_, hTI, fun v q => nomatch q⟩
  · rw [q]; exact ⟨_, hTO, fun v q => nomatch q⟩
  · rw [q]; obtain ⟨o, e, v, e2⟩ := r1.obj; exact ⟨o, e, fun v q => by rw [e2] at q; cases q⟩
  · rw [q]; obtain ⟨o, e, v, e2⟩ := r2.obj; exact ⟨o, e, fun v q => by rw [e2] at q; cases q⟩
theorem Ztn.live (t : Ztn b c h z TI TO i1 i2 l1 l2 k) : ∀ d ∈ [z, TI, TO, i1, i2], d < h.objs.size := fun d hd => by
  obtain ⟨o, e, _⟩ := t.recs d hd
  exact Heap.lt_size e
theorem Ztn.keep (t : Ztn b c h z TI TO i1 i2 l1 l2 k) (e : ∀ d ∈ [z, TI, TO, i1, i2], ∀ o, h.get? d = some o → h'.get? d = some o) : Ztn b c h' z TI TO i1 i2 l1 l2 k := by
  obtain ⟨⟨f0, f1, hf, hz⟩, hTI, ⟨x, y, hTO⟩, r1, r2⟩ := t
  exact ⟨⟨f0, f1, hf, e z (by simp) _ hz⟩, e TI (by simp) _ hTI, ⟨x, y, e TO (by simp) _ hTO⟩, r1.at fun o q => e i1 (by simp) o q, r2.at fun o q => e i2 (by simp) o q⟩
end
theorem turn_zipG {P : Program} {w : World} {K : PySem.W.Frag} {elts : List Expr} {kk : Nat} {tpos : Pos} {b c : Bool} {a d z TI TO i1 i2 : Addr} (D : ZipApart z TI TO i1 i2 a d) :
    Turn P w K (.Tuple elts kk tpos) (ItzG K b c a d) [z, TI, TO, i1, i2] z (fun i h => Ztn b c h z TI TO i1 i2 a d i) where
  mem := by simp
  obj := fun i h t => t.recs
  keep := fun i h h' t k => t.keep k
  item := by
    intro X hP hw hK hc i pins s σ H E I hf t hg
    subst hP hw hK
    obtain ⟨xs, ys, x, y, hqx, hqy, hx, hy⟩ := hg
    obtain ⟨its, rv, p⟩ := sqk_its I hqx
    obtain ⟨its2, rv2, p2⟩ := sqk_its I hqy
    obtain ⟨u, hu, ru⟩ := rv.get hx
    obtain ⟨u2, hu2, ru2⟩ := rv2.get hy
    have lv := t.live
    refine zp_item D (t.st p p2) (x := u) (y := u2) (by simpa using hu) (by simpa using hu2) fun h' st' hT hsz hk => ?_
    refine ⟨_, rfl, zp_go (s := { s with heap := h' }) D st' fun h'' st'' sb => ?_⟩
    replace sb : Heap.SameBut z h' h'' := sb
    have hzl : z < s.heap.objs.size := lv z (by simp)
    have hT2 : h''.get? s.heap.objs.size = some { cls := .type "tuple", data := .seq #[u, u2] } := (sb.2 _ (Nat.ne_of_gt hzl)).trans hT
    have new : ObjOk X.prog X.w (upd H s.heap.objs.size (.tup [x, y])) h'' s.heap.objs.size (.tup [x, y]) :=
      ⟨by show 2 ≤ sizeLine; decide, [u, u2], .cons ru (.cons ru2 .nil), ⟨_, hT2, rfl, _, rfl⟩⟩
    have I1 : Inv X pins σ (upd H s.heap.objs.size (.tup [x, y])) { s with heap := h'' } :=
      I.turnedNew (t' := s.toks) (ch := [z, TI, TO, i1, i2]) (fun e o hb q => (sb.2 e (fun q' => hb (by simp [q']))).trans (hk e o (fun q' => hb (by simp [q'])) (fun q' => hb (by simp [q'])) (fun q' => hb (by simp [q'])) (fun q' => hb (by simp [q'])) q)) hf (Nat.le_refl _) new
    refine ⟨.ref s.heap.objs.size, _, I1, rfl, ⟨_, x, y, rfl, I.hok.fresh (Nat.le_refl _), rfl, fun l hl => by rw [sqk_inj I hl hqx]; exact hx, fun l hl => by rw [sqk_inj I hl hqy]; exact hy⟩, st''.tn, fun e he => ?_⟩
    rw [upd_ne (Nat.ne_of_lt (lv e he))]
    exact (hf e he).1
  done := by
    intro X hP hw hK hc i pins s σ H E I hf t hg
    subst hP hw hK
    obtain ⟨xs, ys, hqx, hqy, hend⟩ := hg
    obtain ⟨its, rv, p⟩ := sqk_its I hqx
    obtain ⟨its2, rv2, p2⟩ := sqk_its I hqy
    have l1 := rv.length
    have l2 := rv2.length
    have he : its.toArray[i]? = none ∨ its2.toArray[i]? = none := by
      rcases hend with q | q
      · exact .inl (by simp; omega)
      · exact .inr (by simp; omega)
    exact zp_end (I.ok.hd hc) D (t.st p p2) he fun h' hk => ⟨rfl, I.turnedL (t' := s.toks) (ch := [z, TI, TO, i1, i2]) (fun e o hb q =>
      hk e o (fun q' => hb (by simp [q'])) (fun q' => hb (by simp [q'])) (fun q' => hb (by simp [q'])) (fun q' => hb (by simp [q'])) q) hf⟩
  self := fun A i s Q E t h => by
    obtain ⟨f0, f1, hf, hz⟩ := t.z
    have hT : s.TypeIs (.ref z) "zip" := ⟨_, hz, rfl⟩
    refine wpAny_pyIter_slot hT F.slot_zip_iter (wpAny_call_entry F.slot_zip_iter hT F.entry_zip_iter ?_ (F.args_zip_iter_1 _))
    show wpAny _ _ (ret (.ref z)) _ _ s
    exact wpAny_pure ⟨_, rfl, "zip", _, hT, F.slot_zip_next.lookup, h⟩
theorem zap {n l1 l2 : Addr} (h1 : l1 < n) (h2 : l2 < n) : ZipApart (n + 4) (n + 2) (n + 3) n (n + 1) l1 l2 := PySem.W.ktu_apart n l1 l2 h1 h2
def iZipG (K : PySem.W.Frag) (ta : TA) : TI := fun σ H R => ta σ H fun vs H1 => ∃ a d b c xs ys, vs = [.ref a, .ref d] ∧ SqK K b H1 a xs ∧ SqK K c H1 d ys ∧ R (ItzG K b c a d) H1
theorem pi_zipG {X : Cx} {e e2 : Expr} {ta : TA} {p pos tpos : Pos} {elts : List Expr} {kk : Nat} (hg : Gl X "zip") (hm : X.mg "zip" = none) (ha : PA X [e, e2] ta)
    (hs : starEach [e, e2] X.env = (false, eval e X.env) :: starEach [e2] X.env := by rfl) (hpl : (backTo pos (starEach [e2] X.env)).any (·.1) = false := by rfl) :
    PI X (.Tuple elts kk tpos) (.Call (.Name "zip" p) [e, e2] [] pos) (iZipG X.K ta) := by
  refine ⟨fun pins s σ H R I h => ?_⟩
  refine Call_ (ld_blt I hg hm PyProof.Rows.boot_zip (PyProof.Rows.callWith_type1 (thn (ha.run pos pins s σ H _ I h) fun us s1 ⟨vs, H1, I1, r1, q1⟩ => ?_) hs hpl))
  obtain ⟨a, d, b, c, xs, ys, ex, hqx, hqy, q⟩ := q1
  subst ex
  cases r1 with
  | cons r rr =>
    cases rr with
    | cons r' rr =>
      cases rr
      cases r
      cases r'
      obtain ⟨its, rv, p1⟩ := sqk_its I1 hqx
      obtain ⟨its2, rv2, p2⟩ := sqk_its I1 hqy
      refine zm_call p1 p2 fun h' st hsz hk => ?_
      have I2 : Inv X pins σ H1 { s1 with heap := h' } := I1.kept (t' := s1.toks) hk
      have T := turn_zipG (P := X.prog) (w := X.w) (K := X.K) (elts := elts) (kk := kk) (tpos := tpos) (b := b) (c := c) (zap p1.lt p2.lt)
      refine T.self X.A 0 { s1 with heap := h' } _ _ st.tn ?_
      refine ⟨s1.heap.objs.size + 4, _, _, _, H1, rfl, I2, T, st.tn, fun e he => ?_, q⟩
      have hle : s1.heap.objs.size ≤ e := by
        rcases zfive he with z | z | z | z | z <;> (rw [z]; first | exact Nat.le_add_right _ _ | exact Nat.le_refl _)
      exact I1.fpOk hle (I1.hok.fresh hle)
end DL
/-! DLx4: enumerate over zip. -/
namespace DL
open PySem PySem.Spec PyProof.Rows L2 RZ
section
variable {prog : Program} {w : World} {A : Around} {E : Value → Shared → Prop} {s : Shared}
/-- enumerate's own step, whatever it draws from -/
theorem en_step {e it : Addr} {c : Int} {old : Value} {R : Value → Heap → Prop} {Q : Value → Shared → Prop} (he : IsEnum s.heap e it c old)
    (hn : ∀ Q : Value → Shared → Prop, (∀ x h1, R x h1 → Q x { s with heap := h1 }) → wpAny (model prog w) A (Builtin.SmallTypes.nextOf (.ref it)) Q E s) (hR : ∀ x h1, R x h1 → h1.get? e = s.heap.get? e)
    (q : ∀ x h1 h', R x h1 → IsEnumOut h' e it (c + 1) x h1.objs.size → h'.get? h1.objs.size = some { cls := .type "tuple", data := .seq #[.int c s.toks, x] } → h'.objs.size = h1.objs.size + 1 → (∀ b o, b ≠ e → h1.get? b = some o → h'.get? b = some o) → Q (.ref h1.objs.size) { s with heap := h', toks := s.toks + 1 }) :
    wpAny (model prog w) A (Builtin.«enumerate.__next__» ⟨[.ref e], []⟩) (fun fin s' => ∃ v, fin = .done (.ret v) ∧ Q v s') E s := by
  obtain ⟨hp, g, d, tk, os⟩ := s
  show wpAny _ _ (field (.ref e) 2 >>= _) _ _ _
  refine wpAny_bind (wpAny_field he rfl (x := .ref it) rfl ?_)
  refine wpAny_bind (hn _ fun x h1 r => ?_)
  have e1 : IsEnum h1 e it c old := (hR x h1 r).trans he
  show wpAny _ _ (field (.ref e) 3 >>= _) _ _ ⟨h1, g, d, tk, os⟩
  refine wpAny_bind (wpAny_field e1 rfl (x := rawInt c) rfl ?_)
  show wpAny _ _ (field (.ref e) 4 >>= _) _ _ ⟨h1, g, d, tk, os⟩
  refine wpAny_bind (wpAny_field e1 rfl (x := .none) rfl ?_)
  show wpAny _ _ (mkInt c >>= _) _ _ ⟨h1, g, d, tk, os⟩
  refine wpAny_bind (wpAny_mkInt ?_)
  show wpAny _ _ (setField (.ref e) 3 (rawInt (c + 1)) >>= _) _ _ ⟨h1, g, d, tk + 1, os⟩
  refine wpAny_bind (wpAny_setField_rec e1 (by simp) fun h2 e2 s2 => ?_)
  replace s2 : Heap.SameBut e h1 h2 := s2
  replace e2 : IsEnum h2 e it (c + 1) old := e2
  show wpAny _ _ (setField (.ref e) 4 .none >>= _) _ _ ⟨h2, g, d, tk + 1, os⟩
  refine wpAny_bind (wpAny_setField_rec e2 (by simp) fun h3 e3 s3 => ?_)
  replace s3 : Heap.SameBut e h2 h3 := s3
  replace e3 : IsEnum h3 e it (c + 1) old := e3
  show wpAny _ _ (newTuple [.int c tk, x] >>= _) _ _ ⟨h3, g, d, tk + 1, os⟩
  refine wpAny_bind (wpAny_newTuple ?_)
  have sz : h3.objs.size = h1.objs.size := by rw [s3.1, s2.1]
  have el : e < h3.objs.size := Heap.lt_size e3
  have e4 : IsEnum (h3.push { cls := .type "tuple", data := .seq #[.int c tk, x] }) e it (c + 1) old := Heap.get?_push_of_some _ e3
  have t4 : (h3.push { cls := .type "tuple", data := .seq #[.int c tk, x] }).get? h3.objs.size = some _ := Heap.get?_push_size _ rfl
  have z4 : (h3.push { cls := .type "tuple", data := .seq #[.int c tk, x] }).objs.size = h3.objs.size + 1 := Heap.size_push ..
  have k4 : ∀ b o, b ≠ e → h1.get? b = some o → (h3.push { cls := .type "tuple", data := .seq #[.int c tk, x] }).get? b = some o := fun b o hb y => Heap.get?_push_of_some _ ((s3.2 _ hb).trans ((s2.2 _ hb).trans y))
  generalize h3.push { cls := .type "tuple", data := .seq #[.int c tk, x] } = h4 at e4 t4 z4 k4
  show wpAny _ _ (Builtin.SmallTypes.ownedTupleIsFree (.ref e) >>= _) _ _ ⟨h4, g, d, tk + 1, os⟩
  rw [sz] at t4 z4 el ⊢
  refine wpAny_bind ?_
  unfold Builtin.SmallTypes.ownedTupleIsFree
  refine wpAny_bind (wpAny_field e4 rfl (x := .none) rfl (wpAny_pure ?_))
  simp only [if_true]
  refine wpAny_bind (wpAny_rule ?_)
  refine wpAny_bind (wpAny_field e4 rfl (x := old) rfl ?_)
  refine wpAny_bind (wpAny_setField_rec e4 (by simp) fun h5 e5 s5 => ?_)
  replace s5 : Heap.SameBut e h4 h5 := s5
  replace e5 : IsEnum h5 e it (c + 1) x := e5
  show wpAny _ _ (Builtin.SmallTypes.ownedTupleHandOut (.ref e) (.ref h1.objs.size) >>= _) _ _ ⟨h5, g, d, tk + 1, os⟩
  refine wpAny_bind ?_
  unfold Builtin.SmallTypes.ownedTupleHandOut
  refine wpAny_bind (wpAny_setField_rec e5 (by simp) fun h6 e6 s6 => ?_)
  replace s6 : Heap.SameBut e h5 h6 := s6
  replace e6 : IsEnumOut h6 e it (c + 1) x h1.objs.size := e6
  refine wpAny_setField_rec e6 (by simp) fun h7 e7 s7 => ?_
  replace s7 : Heap.SameBut e h6 h7 := s7
  replace e7 : IsEnumOut h7 e it (c + 1) x h1.objs.size := e7
  have up : ∀ b o, b ≠ e → h4.get? b = some o → h7.get? b = some o := fun b o hb y => (s7.2 _ hb).trans ((s6.2 _ hb).trans ((s5.2 _ hb).trans y))
  refine wpAny_bind (wpAny_letGo (wpAny_pure ⟨_, rfl, q x h1 h7 r e7 (up _ _ (Nat.ne_of_gt el) t4) ?_ fun b o hb y => up b o hb (k4 b o hb y)⟩))
  rw [s7.1, s6.1, s5.1, z4]
/-- over zip -/
theorem ez_item {b c : Bool} {e z TI TO i1 i2 l1 l2 : Addr} {n : Int} {old : Value} {k : Nat} {xs ys : Array Value} {x y : Value} {Q : Option Value → Shared → Prop} (D : ZipApart z TI TO i1 i2 l1 l2) (he : IsEnum s.heap e z n old) (hne : e ∉ [z, TI, TO, i1, i2]) (st : Zst b c s.heap z TI TO i1 i2 l1 l2 k xs ys) (hl1 : l1 ≠ e) (hl2 : l2 ≠ e) (hx : xs[k]? = some x) (hy : ys[k]? = some y)
    (q : ∀ h1 h', Zst b c h1 z TI TO i1 i2 l1 l2 (k + 1) xs ys → IsPair h1 s.heap.objs.size x y → h1.objs.size = s.heap.objs.size + 1 → (∀ d o, d ≠ z → d ≠ TO → d ≠ i1 → d ≠ i2 → s.heap.get? d = some o → h1.get? d = some o) →
      IsEnumOut h' e z (n + 1) (.ref s.heap.objs.size) (s.heap.objs.size + 1) → Zst b c h' z TI TO i1 i2 l1 l2 (k + 1) xs ys → h'.get? (s.heap.objs.size + 1) = some { cls := .type "tuple", data := .seq #[.int n s.toks, .ref s.heap.objs.size] } → (∀ d o, d ≠ e → h1.get? d = some o → h'.get? d = some o) →
      Q (some (.ref (s.heap.objs.size + 1))) { s with heap := h', toks := s.toks + 1 }) :
    wpAny (model prog w) A (pyNext (.ref e)) Q E s := by
  have n1 : e ≠ z := fun h => hne (by simp [h])
  have n2 : e ≠ TI := fun h => hne (by simp [h])
  have n3 : e ≠ TO := fun h => hne (by simp [h])
  have n4 : e ≠ i1 := fun h => hne (by simp [h])
  have n5 : e ≠ i2 := fun h => hne (by simp [h])
  have hT : s.TypeIs (.ref e) "enumerate" := ⟨_, he, rfl⟩
  unfold pyNext
  refine wpAny_bind (wpAny_attempt (wpAny_callSpecial?_slot (name := Str.ofString "__next__") hT F.slot_enumerate_next (wpAny_call_entry F.slot_enumerate_next hT F.entry_enumerate_next ?_ (F.args_enumerate_next_1 _))))
  refine en_step (R := fun v h1 => v = .ref s.heap.objs.size ∧ Zst b c h1 z TI TO i1 i2 l1 l2 (k + 1) xs ys ∧ IsPair h1 s.heap.objs.size x y ∧ h1.objs.size = s.heap.objs.size + 1 ∧ ∀ d o, d ≠ z → d ≠ TO → d ≠ i1 → d ≠ i2 → s.heap.get? d = some o → h1.get? d = some o) he
    (fun Q' hq => zn_item D st hx hy fun h' a1 a2 a3 a4 => hq _ h' ⟨rfl, a1, a2, a3, a4⟩) (fun v h1 ⟨_, _, _, _, hk⟩ => (hk e _ n1 n3 n4 n5 he).trans he.symm) ?_
  rintro v h1 h' ⟨rfl, st1, pr, sz, hk⟩ ho ht hs hk2
  rw [sz] at ho ht ⊢
  have st2 : Zst b c h' z TI TO i1 i2 l1 l2 (k + 1) xs ys := by
    obtain ⟨⟨f0, f1, hf, hz⟩, hTI, ⟨x', y', hTO⟩, r1, r2⟩ := st1
    exact ⟨⟨f0, f1, hf, hk2 _ _ n1.symm hz⟩, hk2 _ _ n2.symm hTI, ⟨x', y', hk2 _ _ n3.symm hTO⟩, r1.at (fun o u => hk2 _ o n4.symm u) fun o u => hk2 _ o hl1 u, r2.at (fun o u => hk2 _ o n5.symm u) fun o u => hk2 _ o hl2 u⟩
  exact wpAny_pure (q h1 h' st1 pr sz hk ho st2 ht hk2)
theorem ez_end {b c : Bool} {e z TI TO i1 i2 l1 l2 : Addr} {n : Int} {old : Value} {k : Nat} {xs ys : Array Value} {Q : Option Value → Shared → Prop} (hh : A.handled = none) (D : ZipApart z TI TO i1 i2 l1 l2) (he : IsEnum s.heap e z n old) (st : Zst b c s.heap z TI TO i1 i2 l1 l2 k xs ys) (hend : xs[k]? = none ∨ ys[k]? = none)
    (q : ∀ h', (∀ d o, d ≠ z → d ≠ TO → d ≠ i1 → d ≠ i2 → s.heap.get? d = some o → h'.get? d = some o) → Q none { s with heap := h' }) : wpAny (model prog w) A (pyNext (.ref e)) Q E s := by
  have hT : s.TypeIs (.ref e) "enumerate" := ⟨_, he, rfl⟩
  unfold pyNext
  refine wpAny_bind (wpAny_attempt (wpAny_callSpecial?_slot (name := Str.ofString "__next__") hT F.slot_enumerate_next (wpAny_call_entry F.slot_enumerate_next hT F.entry_enumerate_next ?_ (F.args_enumerate_next_1 _))))
  show wpAny _ _ (field (.ref e) 2 >>= _) _ _ _
  refine wpAny_bind (wpAny_field he rfl (x := .ref z) rfl ?_)
  refine wpAny_bind (zn_end hh D st hend fun h' x hk hx => ?_)
  obtain ⟨o, ho, hc⟩ := hx
  refine wpAny_bind (wpAny_isInstance (T := "StopIteration") (b := true) ⟨o, ho, hc⟩ isSubtype_stop ?_)
  exact wpAny_pure (q _ hk)
end
/-- the two as they stand at each turn: a new pair in a new pair with the number -/
def ItzE (K : PySem.W.Frag) (b c : Bool) (a d : Addr) : It :=
  ⟨fun i H => ∃ (xs ys : List V) (x y : V), SqK K b H a xs ∧ SqK K c H d ys ∧ xs[i]? = some x ∧ ys[i]? = some y,
    fun i H v H' => ∃ T0 T x y, v = .ref T ∧ H T0 = none ∧ T ≠ T0 ∧ H T = none ∧ H' = upd (upd H T0 (.tup [x, y])) T (.tup [.int (i : Nat), .ref T0]) ∧ (∀ xs, SqK K b H a xs → xs[i]? = some x) ∧ ∀ ys, SqK K c H d ys → ys[i]? = some y,
    fun i H => ∃ xs ys : List V, SqK K b H a xs ∧ SqK K c H d ys ∧ (xs.length ≤ i ∨ ys.length ≤ i)⟩
theorem turn_enZ {P : Program} {w : World} {K : PySem.W.Frag} {elts : List Expr} {kk : Nat} {tpos : Pos} {b c : Bool} {a d e z TI TO i1 i2 : Addr} (D : ZipApart z TI TO i1 i2 a d) (hne : e ∉ [z, TI, TO, i1, i2]) (hae : a ≠ e) (hde : d ≠ e) :
    Turn P w K (.Tuple elts kk tpos) (ItzE K b c a d) [e, z, TI, TO, i1, i2] e (fun i h => (∃ old, IsEnum h e z ((i : Nat) : Int) old) ∧ Ztn b c h z TI TO i1 i2 a d i) where
  mem := by simp
  obj := fun i h ⟨⟨old, he⟩, t⟩ f hf => by
    rcases List.mem_cons.mp hf with q | q
    · rw [q]; exact ⟨_, he, fun v q => nomatch q⟩
    · exact t.recs f q
  keep := fun i h h' ⟨⟨old, he⟩, t⟩ k => ⟨⟨old, k e (by simp) _ he⟩, t.keep fun f hf o q => k f (List.mem_cons_of_mem _ hf) o q⟩
  item := by
    intro X hP hw hK hc i pins s σ H E I hf ⟨⟨old, he⟩, t⟩ hg
    subst hP hw hK
    obtain ⟨xs, ys, x, y, hqx, hqy, hx, hy⟩ := hg
    obtain ⟨its, rv, p⟩ := sqk_its I hqx
    obtain ⟨its2, rv2, p2⟩ := sqk_its I hqy
    obtain ⟨u, hu, ru⟩ := rv.get hx
    obtain ⟨u2, hu2, ru2⟩ := rv2.get hy
    have lv := t.live
    have hel : e < s.heap.objs.size := Heap.lt_size he
    have lva : ∀ f ∈ [e, z, TI, TO, i1, i2], f < s.heap.objs.size := fun f hf' => by
      rcases List.mem_cons.mp hf' with q | q
      · rw [q]; exact hel
      · exact lv f q
    refine ez_item D he hne (t.st p p2) hae hde (x := u) (y := u2) (by simpa using hu) (by simpa using hu2) fun h1 h' st1 pr sz hk ho st2 ht hk2 => ?_
    refine ⟨_, rfl, wpAny_letOwnedTupleGo_enum (s := { s with heap := h', toks := s.toks + 1 }) ho fun h'' he'' sb => ?_⟩
    replace sb : Heap.SameBut e h' h'' := sb
    have fz : ∀ f ∈ [z, TI, TO, i1, i2], FpOk X pins H f := fun f hf' => hf f (List.mem_cons_of_mem _ hf')
    have new1 : ObjOk X.prog X.w (upd H s.heap.objs.size (.tup [x, y])) h1 s.heap.objs.size (.tup [x, y]) :=
      ⟨by show 2 ≤ sizeLine; decide, [u, u2], .cons ru (.cons ru2 .nil), ⟨_, pr, rfl, _, rfl⟩⟩
    have I1 : Inv X pins σ (upd H s.heap.objs.size (.tup [x, y])) { s with heap := h1, toks := s.toks } :=
      I.turnedNew (t' := s.toks) (ch := [z, TI, TO, i1, i2]) (fun f o hb q => hk f o (fun q' => hb (by simp [q'])) (fun q' => hb (by simp [q'])) (fun q' => hb (by simp [q'])) (fun q' => hb (by simp [q'])) q) fz (Nat.le_refl _) new1
    have f1 : ∀ f ∈ [e, z, TI, TO, i1, i2], FpOk X pins (upd H s.heap.objs.size (.tup [x, y])) f := fun f hf' => by
      obtain ⟨g0, g1⟩ := hf f hf'
      exact ⟨by rw [upd_ne (Nat.ne_of_lt (lva f hf'))]; exact g0, g1⟩
    have up : ∀ f o, f ≠ e → h1.get? f = some o → h''.get? f = some o := fun f o hb q => (sb.2 f hb).trans (hk2 f o hb q)
    have hT2 : h''.get? (s.heap.objs.size + 1) = some { cls := .type "tuple", data := .seq #[.int ((i : Nat) : Int) s.toks, .ref s.heap.objs.size] } := (sb.2 _ (Nat.ne_of_gt (Nat.lt_succ_of_lt hel))).trans ht
    have new2 : ObjOk X.prog X.w (upd (upd H s.heap.objs.size (.tup [x, y])) (s.heap.objs.size + 1) (.tup [.int (i : Nat), .ref s.heap.objs.size])) h'' (s.heap.objs.size + 1) (.tup [.int (i : Nat), .ref s.heap.objs.size]) :=
      ⟨by show 2 ≤ sizeLine; decide, [.int ((i : Nat) : Int) s.toks, .ref s.heap.objs.size], .cons ⟨_, rfl⟩ (.cons rfl .nil), ⟨_, hT2, rfl, _, rfl⟩⟩
    have I2 : Inv X pins σ (upd (upd H s.heap.objs.size (.tup [x, y])) (s.heap.objs.size + 1) (.tup [.int (i : Nat), .ref s.heap.objs.size])) { s with heap := h'', toks := s.toks + 1 } :=
      I1.turnedNew (t' := s.toks + 1) (ch := [e, z, TI, TO, i1, i2]) (fun f o hb q => up f o (fun q' => hb (by simp [q'])) q) f1 (by show h1.objs.size ≤ _; rw [sz]; exact Nat.le_refl _) new2
    refine ⟨.ref (s.heap.objs.size + 1), _, I2, rfl, ⟨s.heap.objs.size, _, x, y, rfl, I.hok.fresh (Nat.le_refl _), Nat.succ_ne_self _, I.hok.fresh (Nat.le_succ _), rfl, fun l hl => by rw [sqk_inj I hl hqx]; exact hx, fun l hl => by rw [sqk_inj I hl hqy]; exact hy⟩, ⟨⟨.ref s.heap.objs.size, ?_⟩, st2.tn.keep fun f hf' o q => (sb.2 f (fun q' => hne (by rw [← q']; exact hf'))).trans q⟩, fun f hf' => ?_⟩
    · rw [show ((i + 1 : Nat) : Int) = (i : Int) + 1 by omega]
      exact he''
    · have := lva f hf'
      rw [upd_ne (Nat.ne_of_lt (Nat.lt_succ_of_lt this)), upd_ne (Nat.ne_of_lt this)]
      exact (hf f hf').1
  done := by
    intro X hP hw hK hc i pins s σ H E I hf ⟨⟨old, he⟩, t⟩ hg
    subst hP hw hK
    obtain ⟨xs, ys, hqx, hqy, hend⟩ := hg
    obtain ⟨its, rv, p⟩ := sqk_its I hqx
    obtain ⟨its2, rv2, p2⟩ := sqk_its I hqy
    have l1 := rv.length
    have l2 := rv2.length
    have hed : its.toArray[i]? = none ∨ its2.toArray[i]? = none := by
      rcases hend with q | q
      · exact .inl (by simp; omega)
      · exact .inr (by simp; omega)
    exact ez_end (I.ok.hd hc) D he (t.st p p2) hed fun h' hk => ⟨rfl, I.turnedL (t' := s.toks) (ch := [z, TI, TO, i1, i2]) (fun f o hb q =>
      hk f o (fun q' => hb (by simp [q'])) (fun q' => hb (by simp [q'])) (fun q' => hb (by simp [q'])) (fun q' => hb (by simp [q'])) q) fun f hf' => hf f (List.mem_cons_of_mem _ hf')⟩
  self := fun A i s Q E ⟨⟨_, he⟩, _⟩ h => wpAny_pyIter_enum he h
/-- enumerate(zip(x, y)) -/
def iEnZ (K : PySem.W.Frag) (ta : TA) : TI := fun σ H R => ta σ H fun vs H1 => ∃ a d b c xs ys, vs = [.ref a, .ref d] ∧ SqK K b H1 a xs ∧ SqK K c H1 d ys ∧ R (ItzE K b c a d) H1
theorem zip_it {z TI TO : Addr} : ItOf (.ref z) (fun h => ∃ f0 f1, Fr0 f0 ∧ ZObj h z TI TO f0 f1) (fun h => h) fun _ => z := by
  refine ⟨fun prog w A E s Q ⟨f0, f1, hf, hz⟩ q => ?_⟩
  have hT : s.TypeIs (.ref z) "zip" := ⟨_, hz, rfl⟩
  refine wpAny_pyIter_slot hT F.slot_zip_iter (wpAny_call_entry F.slot_zip_iter hT F.entry_zip_iter ?_ (F.args_zip_iter_1 _))
  show wpAny _ _ (ret (.ref z)) _ _ s
  exact wpAny_pure ⟨_, rfl, "zip", _, hT, F.slot_zip_next.lookup, q⟩
theorem pi_enZ {X : Cx} {e e2 : Expr} {ta : TA} {p p0 pos pos2 tpos : Pos} {elts : List Expr} {kk : Nat} (hg : Gl X "enumerate") (hm : X.mg "enumerate" = none) (hg2 : Gl X "zip") (hm2 : X.mg "zip" = none) (ha : PA X [e, e2] ta)
    (hs : starEach [e, e2] X.env = (false, eval e X.env) :: starEach [e2] X.env := by rfl) (hpl : (backTo pos2 (starEach [e2] X.env)).any (·.1) = false := by rfl) :
    PI X (.Tuple elts kk tpos) (.Call (.Name "enumerate" p0) [.Call (.Name "zip" p) [e, e2] [] pos2] [] pos) (iEnZ X.K ta) := by
  refine ⟨fun pins s σ H R I h => ?_⟩
  refine Call_ (ld_blt I hg hm boot_enumerate (PyProof.Rows.callWith_type1 ?_ rfl rfl))
  show wpAny _ _ (spliced ((false, eval (.Call (.Name "zip" p) [e, e2] [] pos2) X.env) :: backTo pos (starEach [] X.env))) _ _ s
  refine Calls.spliced_cons ?_
  refine Call_ (ld_blt I hg2 hm2 PyProof.Rows.boot_zip (PyProof.Rows.callWith_type1 (thn (ha.run pos2 pins s σ H _ I h) fun us s1 ⟨vs, H1, I1, r1, q1⟩ => ?_) hs hpl))
  obtain ⟨a, d, b, c, xs, ys, ex, hqx, hqy, q⟩ := q1
  subst ex
  cases r1 with
  | cons r rr =>
    cases rr with
    | cons r' rr =>
      cases rr
      cases r
      cases r'
      obtain ⟨its, rv, p1⟩ := sqk_its I1 hqx
      obtain ⟨its2, rv2, p2⟩ := sqk_its I1 hqy
      refine zm_call p1 p2 fun h' st hsz hk => ?_
      refine Calls.spliced_nil ?_
      have hz := st.z
      have st2 : Ztn b c (h'.push (enO (s1.heap.objs.size + 4))) (s1.heap.objs.size + 4) (s1.heap.objs.size + 2) (s1.heap.objs.size + 3) s1.heap.objs.size (s1.heap.objs.size + 1) a d 0 := st.tn.keep fun f hf o u => Heap.get?_push_of_some _ u
      refine call_en (zip_it (z := s1.heap.objs.size + 4) (TI := s1.heap.objs.size + 2) (TO := s1.heap.objs.size + 3)) (s := { s1 with heap := h' }) hz ?_
      show wpAny _ _ (pyIter (.ref h'.objs.size)) _ _ _
      rw [hsz]
      have ge : IsEnum (h'.push (enO (s1.heap.objs.size + 4))) (s1.heap.objs.size + 5) (s1.heap.objs.size + 4) ((0 : Nat) : Int) .none := by
        rw [← hsz]
        exact Heap.get?_push_size _ rfl
      have I2 : Inv X pins σ H1 { s1 with heap := h'.push (enO (s1.heap.objs.size + 4)) } := I1.kept (t' := s1.toks) fun f o u => Heap.get?_push_of_some _ (hk f o u)
      have la := p1.lt
      have ld := p2.lt
      have five : ∀ f ∈ [s1.heap.objs.size + 4, s1.heap.objs.size + 2, s1.heap.objs.size + 3, s1.heap.objs.size, s1.heap.objs.size + 1], s1.heap.objs.size ≤ f ∧ f < s1.heap.objs.size + 5 := fun f hf => by
        rcases zfive hf with z | z | z | z | z
        · rw [z]; exact ⟨Nat.le_add_right _ _, Nat.lt_succ_self _⟩
        · rw [z]; exact ⟨Nat.le_add_right _ _, Nat.add_lt_add_left (by decide : 2 < 5) _⟩
        · rw [z]; exact ⟨Nat.le_add_right _ _, Nat.add_lt_add_left (by decide : 3 < 5) _⟩
        · rw [z]; exact ⟨Nat.le_refl _, Nat.lt_add_of_pos_right (by decide)⟩
        · rw [z]; exact ⟨Nat.le_add_right _ _, Nat.add_lt_add_left (by decide : 1 < 5) _⟩
      have T := turn_enZ (P := X.prog) (w := X.w) (K := X.K) (elts := elts) (kk := kk) (tpos := tpos) (b := b) (c := c) (e := s1.heap.objs.size + 5) (zap p1.lt p2.lt) (fun hm => Nat.lt_irrefl _ (five _ hm).2) (Nat.ne_of_lt (Nat.lt_add_right _ la)) (Nat.ne_of_lt (Nat.lt_add_right _ ld))
      refine T.self X.A 0 { s1 with heap := h'.push (enO (s1.heap.objs.size + 4)) } _ _ ⟨⟨.none, ge⟩, st2⟩ ?_
      refine ⟨s1.heap.objs.size + 5, _, _, _, H1, rfl, I2, T, ⟨⟨.none, ge⟩, st2⟩, fun f hf => ?_, q⟩
      have hle : s1.heap.objs.size ≤ f := by
        rcases List.mem_cons.mp hf with z | z
        · rw [z]; exact Nat.le_add_right _ _
        · exact (five f z).1
      exact I1.fpOk hle (I1.hok.fresh hle)
end DL
/-! DLx5: d.items() of a locked dict, whatever its keys. -/
namespace DL
open PySem PySem.Spec PyProof.Rows L2
section
variable {X : Cx} {pins : List (Addr × Obj)} {σ : L2.St} {H : Hp} {s : Shared} {d : Addr} {o : Obj}
theorem frzT2 {kvs : List (List L2.Key × V)} (I : Inv X pins σ H s) (h : H d = some (.frz o (.dT kvs))) :
    (d == sysModules) = false ∧ s.heap.get? d = some o ∧ o.ExactDict ∧ ∃ (es : Array DictEntry) (ep : Nat), o.data = .dict es ep ∧ es.size = kvs.length ∧
      ∀ (i : Nat) (k : List L2.Key) (v : V), kvs[i]? = some (k, v) → ∃ (en : DictEntry) (q : Addr), es[i]? = some en ∧ en.key = .ref q ∧ H q = some (.tup (k.map kV)) ∧ RelV v en.val := by
  obtain ⟨hs, hgd, hx, es, ep, hdt, hsz, ent⟩ := I.frzT h
  refine ⟨hs, hgd, hx, es, ep, hdt, hsz, fun i k v e => ?_⟩
  obtain ⟨hd, z, hs, xs, pr, o', es', ep', ho, hx, hdt', he, _⟩ := I.hok d _ h
  rw [hd] at ho
  cases ho
  rw [hdt] at hdt'
  cases hdt'
  obtain ⟨b, hb, e1, e2, e3⟩ := paired_get pr e
  have q := entry_at he i
  rw [hb] at q
  exact ⟨_, b.2.1, q, rfl, e2, e3⟩
end
/-- the pairs, each a new tuple, of the key's own tuple and the value -/
def ItiT (d : Addr) (o : Obj) (kvs : List (List L2.Key × V)) : It :=
  ⟨fun i H => H d = some (.frz o (.dT kvs)) ∧ i < kvs.length, fun i H x H' => ∃ T q k v, kvs[i]? = some (k, v) ∧ x = .ref T ∧ H q = some (.tup (k.map kV)) ∧ H T = none ∧ H' = upd H T (.tup [.ref q, v]), fun i H => H d = some (.frz o (.dT kvs)) ∧ kvs.length ≤ i⟩
theorem turn_itemsT {P : Program} {w : World} {K : PySem.W.Frag} {d : Addr} {o : Obj} {es : Array DictEntry} {ep : Nat} {kvs : List (List L2.Key × V)} {elts : List Expr} {kk : Nat} {tpos : Pos} (it : Addr) (hod : o.data = .dict es ep) :
    Turn P w K (.Tuple elts kk tpos) (ItiT d o kvs) [it] it (fun i h => ∃ ok ov, IsItemIter h it d i es.size ep ok ov) where
  mem := by simp
  obj := fun i h st b hb => by
    have e : b = it := by simpa using hb
    subst e
    obtain ⟨ok, ov, e⟩ := st
    exact ⟨_, e, fun v z => nomatch z⟩
  keep := fun i h h' st k => let ⟨ok, ov, e⟩ := st; ⟨ok, ov, k it (by simp) _ e⟩
  item := by
    intro X hP hw hK hc i pins s σ H E I hf st hg
    subst hP hw hK
    obtain ⟨hd, hi⟩ := hg
    obtain ⟨hs, hgd, hx, es', ep', hdt, hsz, ent⟩ := frzT2 I hd
    obtain ⟨rfl, rfl⟩ := dict_ep hod hdt
    obtain ⟨⟨k, v⟩, hkv⟩ : ∃ p, kvs[i]? = some p := ⟨kvs[i], List.getElem?_eq_getElem hi⟩
    obtain ⟨en, q, hen, hkey, hq, rv⟩ := ent i k v hkv
    obtain ⟨ok, ov, he⟩ := st
    have hlt : it < s.heap.objs.size := Heap.lt_size he
    have hi2 : i < es'.size := by rw [hsz]; exact hi
    have een : es'[i] = en := by
      rw [Array.getElem?_eq_getElem hi2] at hen
      exact Option.some.inj hen
    refine DT.nextI he ⟨o, hgd, hx, hod⟩ hi2 fun h' ho hT hz hk => ?_
    rw [een, hkey] at ho hT
    refine ⟨_, rfl, wpAny_letOwnedTupleGo_items (s := { s with heap := h' }) ho fun h'' he' sb => ?_⟩
    have hT2 : h''.get? s.heap.objs.size = some { cls := .type "tuple", data := .seq #[.ref q, en.val] } := (sb.2 _ (Nat.ne_of_gt hlt)).trans hT
    have new : ObjOk X.prog X.w (upd H s.heap.objs.size (.tup [.ref q, v])) h'' s.heap.objs.size (.tup [.ref q, v]) :=
      ⟨by show 2 ≤ sizeLine; decide, [.ref q, en.val], .cons rfl (.cons rv .nil), ⟨_, hT2, rfl, _, rfl⟩⟩
    have I1 : Inv X pins σ (upd H s.heap.objs.size (.tup [.ref q, v])) { s with heap := h'' } :=
      I.turnedNew (t' := s.toks) (ch := [it]) (fun b ob hb e => (sb.2 b (by simpa using hb)).trans (hk b ob (by simpa using hb) e)) hf (Nat.le_refl _) new
    refine ⟨.ref s.heap.objs.size, _, I1, rfl, ⟨_, q, k, v, hkv, rfl, hq, I.hok.fresh (Nat.le_refl _), rfl⟩, ⟨_, _, he'⟩, fun b hb => ?_⟩
    have e : b = it := by simpa using hb
    rw [e, upd_ne (Nat.ne_of_lt hlt)]
    exact (hf it (by simp)).1
  done := by
    intro X hP hw hK hc i pins s σ H E I hf st hg
    subst hP hw hK
    obtain ⟨hd, hi⟩ := hg
    obtain ⟨f0, f1, f2, f3, f4, f5⟩ := hf it (by simp)
    obtain ⟨hs, hgd, hx, es', ep', hdt, hsz, ent⟩ := frzT2 I hd
    obtain ⟨rfl, rfl⟩ := dict_ep hod hdt
    obtain ⟨ok, ov, he⟩ := st
    exact DT.endI (I.ok.hd hc) he ⟨o, hgd, hx, hod⟩ (by rw [hsz]; exact hi) fun h' eb => ⟨rfl, I.turned (t' := s.toks) (fun b ob hb e => eb b ob hb e) f0 f1 f3 f4 f5⟩
  self := fun A i s Q E st h => let ⟨_, _, e⟩ := st; PySem.W.kcp_self e h
/-- d.items(), d locked -/
def iItemsA (td : TE) : TI := fun σ H R => td σ H fun x H1 => ∃ d o, x = .ref d ∧ ((∃ kvs, H1 d = some (.frz o (.dK kvs)) ∧ R (Iti d o kvs) H1) ∨ ∃ kvs, H1 d = some (.frz o (.dT kvs)) ∧ R (ItiT d o kvs) H1)
theorem pi_itemsA {X : Cx} {e : Expr} {td : TE} {apos cpos tpos : Pos} {elts : List Expr} {kk : Nat} (he : PE X e td) (hbase : attributeBase e "items" X.env (eval e X.env) = eval e X.env := by rfl) (hline : (apos.endLine == cpos.line) = true := by rfl) :
    PI X (.Tuple elts kk tpos) (.Call (.Attribute e "items" apos) [] [] cpos) (iItemsA td) := by
  refine ⟨fun pins s σ H R I h => ?_⟩
  refine wpAny_Call_method (T := "dict") (id := "dict.items") hbase rfl hline F.plainAttrs_dict F.slot_dict_items F.type_dict_items (thn (he.run pins s σ H _ I h) fun u s1 ⟨x, H1, I1, rx, d, o, ex, q⟩ => ?_)
  subst ex
  obtain rfl : u = Value.ref d := rx
  rcases q with ⟨kvs, hd, q⟩ | ⟨kvs, hd, q⟩
  · obtain ⟨hs, hgd, hx, es, ep, vs, hdt, hsz, kv, hm⟩ := I1.frzK hd
    have hl : kvs.length = vs.length := Paired.length kv
    refine ⟨hm.dictOf.typeIs, hm.dictOf.mapOf.noDict, ?_⟩
    have I2 : Inv X pins σ H1 { s1 with heap := s1.heap.push { cls := .type "dict_items", data := .fields #[.ref d] } } := I1.kept (t' := s1.toks) fun b ob q => Heap.get?_push_of_some _ q
    have fin : wpAny (model X.prog X.w) X.A (pyIter (.ref s1.heap.objs.size)) (PIE X pins σ (.Tuple elts kk tpos) R) X.xe { s1 with heap := s1.heap.push { cls := .type "dict_items", data := .fields #[.ref d] } } := by
      refine wpAny_pyIter_items (d := d) (knd := mixKind X.prog X.w) ⟨_, Heap.get?_push_size _ rfl, rfl, rfl⟩ (hm.push _) (pi_one (tk := s1.toks) I2 _ (turn_items _ hdt) ⟨.none, .none, ?_⟩ q)
      rw [hl]
      exact Heap.get?_push_size _ rfl
    show wpAny _ _ (callWith cpos (.builtin "dict.items") [.ref d] [] []) _ X.xe s1
    exact method_meetsIn F.slot_dict_items F.entry_dict_items rfl (PySem.evalArgs_none ⟨rfl, hm.dictOf.typeIs, F.args_dict_items_1 _, _, meets_dict_items (mixKind X.prog X.w) d hs, ⟨vs, hm.dictOf⟩, fin⟩)
  · obtain ⟨hs, hgd, hx, es, ep, hdt, hsz, ent⟩ := I1.frzT hd
    have raw : DT.Raw s1.heap d es ep := ⟨o, hgd, hx, hdt⟩
    refine ⟨raw.typeIs, fun b q => by cases q; exact ⟨o, hgd, hx.2.1⟩, ?_⟩
    have I2 : Inv X pins σ H1 { s1 with heap := s1.heap.push { cls := .type "dict_items", data := .fields #[.ref d] } } := I1.kept (t' := s1.toks) fun b ob q => Heap.get?_push_of_some _ q
    have fin : wpAny (model X.prog X.w) X.A (pyIter (.ref s1.heap.objs.size)) (PIE X pins σ (.Tuple elts kk tpos) R) X.xe { s1 with heap := s1.heap.push { cls := .type "dict_items", data := .fields #[.ref d] } } := by
      refine DT.iterI (d := d) (es := es) (ep := ep) ⟨_, Heap.get?_push_size _ rfl, rfl, rfl⟩ (raw.push _) (pi_one (tk := s1.toks) I2 _ (turn_itemsT _ hdt) ⟨.none, .none, ?_⟩ q)
      exact Heap.get?_push_size _ rfl
    show wpAny _ _ (callWith cpos (.builtin "dict.items") [.ref d] [] []) _ X.xe s1
    exact method_meetsIn F.slot_dict_items F.entry_dict_items rfl (PySem.evalArgs_none ⟨rfl, raw.typeIs, F.args_dict_items_1 _, _, DT.meetsItems hs, raw, fin⟩)
end DL
/-! DLg: methods and stores by values; a call's promise. -/
namespace DL
open PySem PySem.Spec PyProof.Rows L2

def rM (K : PySem.W.Frag) (mg : Str → Option Value) (E : XK) (f : W → List W → Store → Out W) : V → List V → Hp → VK → Prop := fun x xs H Q => ∃ F G m S wx ws, Sim K F G H m S ∧ RepW K F m wx x ∧ RepWs K F m ws xs ∧ Post K mg G E F m (f wx ws S) (kW K Q)
theorem seqIx (n : Nat) : ∀ i : Int, seqIndex? i n = ixOf n i
  | .ofNat i => by
    show (if (decide ((0 : Int) ≤ (if (i : Int) < 0 then (i : Int) + n else i)) && decide ((if (i : Int) < 0 then (i : Int) + n else i) < (n : Int))) = true then some ((if (i : Int) < 0 then (i : Int) + n else (i : Int)).toNat) else none) = if i < n then some i else none
    rw [if_neg (show ¬ (i : Int) < 0 by omega), decide_eq_true (show (0 : Int) ≤ (i : Int) by omega), Bool.true_and]
    by_cases h : i < n
    · rw [if_pos h, if_pos (decide_eq_true (by omega))]; rfl
    · rw [if_neg h, if_neg (by simp; omega)]
  | .negSucc i => by
    show (if (decide ((0 : Int) ≤ (if (Int.negSucc i) < 0 then (Int.negSucc i) + n else Int.negSucc i)) && decide ((if (Int.negSucc i) < 0 then (Int.negSucc i) + n else Int.negSucc i) < (n : Int))) = true then some ((if (Int.negSucc i) < 0 then (Int.negSucc i) + n else (Int.negSucc i)).toNat) else none) = if i < n then some (n - 1 - i) else none
    rw [if_pos (show Int.negSucc i < 0 by omega)]
    by_cases h : i < n
    · rw [if_pos h, if_pos (by rw [decide_eq_true (by omega), decide_eq_true (by omega)]; rfl)]
      congr 1
      omega
    · rw [if_neg h, if_neg (by simp; omega)]
section
variable {X : Cx} {mg : Str → Option Value} {E : XK}
theorem mt_split1 {K : PySem.W.Frag} {F G : Hp} {m : List Addr} {S : Store} {b : Mt} {o : W} {ws : List W} {vs : List V} {k : W → Store → Hp → List Addr → Hp → Prop} (h0 : ∀ S, evMt0 b o S = .bad) (h2 : ∀ x y S, evMt2 b o x y S = .bad) (r : RepWs K F m ws vs) (hp : Post K mg G E F m (evMt b o ws S) k) :
    ∃ w v, ws = [w] ∧ vs = [v] ∧ RepW K F m w v ∧ Post K mg G E F m (evMt1 b o w S) k := by
  cases r with
  | nil =>
    have hp : Post K mg G E F m (evMt0 b o S) k := hp
    rw [h0] at hp
    exact hp.elim
  | cons a r =>
    cases r with
    | nil => exact ⟨_, _, rfl, rfl, a, hp⟩
    | cons c r =>
      cases r with
      | nil =>
        have hp : Post K mg G E F m (evMt2 b o _ _ S) k := hp
        rw [h2] at hp
        exact hp.elim
      | cons d r => exact hp.elim
/-- a place of the store that is changed -/
theorem Post.put {F G H : Hp} {m : List Addr} {S : Store} {K : PySem.W.Frag} {n : Nat} {a : Addr} {xs ys : List W} {vs : List V} {w : W} {v : V} {Q : VK} (hp : Post K mg G E F m (.ok w (S.set n (.lst ys))) (kW K Q)) (hs : Sim K F G H m S) (e : S[n]? = some (.lst xs)) (ea : m[n]? = some a) (r : RepWs K F m ys vs) (rv : RepW K F m w v) : Q v (upd H a (.lst vs)) :=
  hp F m _ .refl (hs.put e ea r) v rv
theorem crm_append : MtR X "list.append" (rM X.K mg E (evMt .append)) := by
  rintro pins s σ H x xs v us Q I rx r ⟨F, G, m, S, wx, ws, hs, hx, hw, hp⟩
  obtain ⟨w, z, rfl, rfl, hv, hp⟩ := mt_split1 (fun _ => by cases wx <;> rfl) (fun _ _ _ => rfl) hw hp
  cases hx with
  | d => exact hp.elim
  | @l n a e =>
    simp only [evMt1, mtAppend] at hp
    split at hp
    · rename_i ys he
      split at hp
      · rename_i hl
        obtain ⟨a', vs, e', hh, rv⟩ := hs.at_ he
        rw [e] at e'; cases e'
        exact mt_append pins s σ H _ _ v us Q I rx r ⟨a, vs, z, rfl, rfl, hh, by rw [← ws_length rv]; exact Nat.lt_of_lt_of_le hl (by decide), Post.put hp hs he e (RepWs.append rv (.cons hv .nil)) (.d .non)⟩
      · exact hp.elim
    · exact hp.elim
theorem crm_extend : MtR X "list.extend" (rM X.K mg E (evMt .extend)) := by
  rintro pins s σ H x xs v us Q I rx r ⟨F, G, m, S, wx, ws, hs, hx, hw, hp⟩
  obtain ⟨w, z, rfl, rfl, hv, hp⟩ := mt_split1 (fun _ => by cases wx <;> rfl) (fun _ _ _ => rfl) hw hp
  cases hx with
  | d => exact hp.elim
  | @l n a e =>
    simp only [evMt1, mtExtend] at hp
    split at hp
    · rename_i xs he
      split at hp
      · rename_i ys
        split at hp
        · rename_i hl
          obtain ⟨a', vs, e', hh, rv⟩ := hs.at_ he
          rw [e] at e'; cases e'
          obtain ⟨b, zs, rfl, hb, rz⟩ := lstOf (dOf hv)
          exact mt_extend pins s σ H _ _ v us Q I rx r ⟨a, b, vs, zs, rfl, rfl, hh, hs.fr _ _ hb, by rw [← ws_length rv, ← rz.length]; exact Nat.le_trans hl (by decide), Post.put hp hs he e (RepWs.append rv rz.ws) (.d .non)⟩
        · exact hp.elim
      · exact hp.elim
    · exact hp.elim
theorem crm_pop : MtR X "list.pop" (rM X.K mg E (evMt .pop)) := by
  rintro pins s σ H x xs v us Q I rx r ⟨F, G, m, S, wx, ws, hs, hx, hw, hp⟩
  match ws, xs, hw, hp, r with
  | [_], [_], _, hp, _ => exact hp.elim
  | [_, _], _, _, hp, _ => exact hp.elim
  | _ :: _ :: _ :: _, _, _, hp, _ => exact hp.elim
  | [], [], hw, hp, r =>
    cases hx with
    | d => exact hp.elim
    | @l n a e =>
      simp only [evMt, evMt0, mtPop] at hp
      split at hp
      · rename_i ys he
        obtain ⟨a', vs, e', hh, rv⟩ := hs.at_ he
        rw [e] at e'; cases e'
        cases ey : ys[ys.length - 1]? with
        | none => rw [ey] at hp; exact hp.elim
        | some w =>
          rw [ey] at hp
          obtain ⟨z, ez, rz⟩ := rv.get ey
          rw [ws_length rv] at ez
          exact mt_pop pins s σ H _ _ v us Q I rx r ⟨a, vs, z, rfl, rfl, hh, ez, Post.put hp hs he e (RepWs.dropLast rv) rz⟩
      · exact hp.elim
theorem crm_popAt : MtR X "list.pop" (rM X.K mg E (evMt .popAt)) := by
  rintro pins s σ H x xs v us Q I rx r ⟨F, G, m, S, wx, ws, hs, hx, hw, hp⟩
  obtain ⟨w, z, rfl, rfl, hv, hp⟩ := mt_split1 (fun _ => by cases wx <;> rfl) (fun _ _ _ => rfl) hw hp
  cases hx with
  | d => exact hp.elim
  | @l n a e =>
    cases hv with
    | l => exact hp.elim
    | @d dz _ hz =>
      cases hz with
      | int i =>
        simp only [evMt1, mtPopAt] at hp
        split at hp
        · rename_i ys he
          split at hp
          · rename_i hl
            obtain ⟨a', vs, e', hh, rv⟩ := hs.at_ he
            rw [e] at e'; cases e'
            cases ek : ixOf ys.length i with
            | none => rw [ek] at hp; exact hp.elim
            | some k =>
              rw [ek] at hp
              simp only [Out.of_some, Out.bind_ok] at hp
              cases ey : ys[k]? with
              | none => rw [ey] at hp; exact hp.elim
              | some w =>
                rw [ey] at hp
                obtain ⟨z, ez, rz⟩ := rv.get ey
                rw [ws_length rv] at ek
                refine mt_popAt pins s σ H _ _ v us Q I rx r ⟨a, vs, i, k, z, rfl, rfl, hh, hl.1, hl.2, ?_, ez, Post.put hp hs he e (RepWs.erase k rv) rz⟩
                rw [seqIx]
                exact ek
          · exact hp.elim
        · exact hp.elim
      | _ => exact hp.elim
theorem pys_map : ∀ xs : List D, D.pys xs = xs.map D.py
  | [] => rfl
  | x :: xs => by rw [D.pys, pys_map xs]; rfl
theorem crm_count (hu : X.A.units + 65 < cLine) : MtR X "list.count" (rM X.K mg E (evMt .count)) := by
  rintro pins s σ H x xs v us Q I rx r ⟨F, G, m, S, wx, ws, hs, hx, hw, hp⟩
  obtain ⟨w, z, rfl, rfl, hv, hp⟩ := mt_split1 (fun _ => by cases wx <;> rfl) (fun _ _ _ => rfl) hw hp
  simp only [evMt1, mtCount] at hp
  cases w with
  | l => exact hp.elim
  | d dx =>
    simp only at hp
    cases e : (lseq S wx).bind pures with
    | none => rw [e] at hp; exact hp.elim
    | some ys =>
      rw [e] at hp
      simp only [Out.of_some, Out.bind_ok] at hp
      split at hp
      case isFalse => exact hp.elim
      rename_i hc
      rw [Bool.and_eq_true] at hc
      obtain ⟨wl, e1, e2⟩ := bind_of e
      obtain ⟨a, vs, rfl, hr, hq⟩ := lseq_rep hs hx e1
      cases rx
      obtain ⟨u, rfl, ru⟩ := vals1 r
      obtain ⟨its, rv, ⟨⟨cls, dd, data, sl⟩, n, ho, hcl, hdn, hd⟩, hlen⟩ := I.list hq
      simp only at hcl hd
      subst hcl hd
      have can1 := (sh_can 59 dx hc.1).1
      have can2 := (shs_can 59 ys hc.2).1
      obtain ⟨as, r1⟩ := Dp.reads I dx.py _ u ((dOf hv).dp hs.fr hc.1) ru
      obtain ⟨bs, r2⟩ := Dp.readsAll I (D.pys ys) vs its (RepDs.dp hs.fr hc.2 (RepWs.ds hr e2)) rv
      have room : X.A.units + 1 + min (PyData.depthAll (D.pys ys)) dx.py.depth < cLine := by
        have d1 := (sh_can 59 dx hc.1).2
        omega
      have all := SeqAt.items_eqAt (A := X.A) (vs := its.toArray) (show ReadsAll s.heap its.toArray.toList (D.pys ys) bs by simpa using r2) r1 can2 can1 room
      have em := SeqAt.readsAll_map (D.pys ys) its bs can2 r2
      refine call_meets PySem.F.slot_list_count ⟨_, ho, rfl⟩ PySem.F.entry_list_count (PySem.F.args_list_count_2 _ _)
        (SeqAt.list_countAt a its.toArray n dd sl u (fun y => PyData.eqv (SeqAt.readOf s.heap y) dx.py)) ⟨ho, all, ?_⟩
      have ec : its.toArray.toList.countP (fun y => PyData.eqv (SeqAt.readOf s.heap y) dx.py) = ys.countP fun y => deq y dx := by
        have e3 : its.toArray.toList.countP (fun y => PyData.eqv (SeqAt.readOf s.heap y) dx.py) = (its.map (SeqAt.readOf s.heap)).countP fun y => PyData.eqv y dx.py := by rw [List.countP_map]; rfl
        rw [e3, em, pys_map, List.countP_map]
        congr 1
        funext y
        exact (deq_py y dx).symm
      refine ⟨.int (ys.countP (fun y => deq y dx) : Nat), H, I.tok _, ⟨s.toks, ?_⟩, hp.now hs _ (.d (.int _))⟩
      show Value.int ((its.toArray.toList.countP (fun y => PyData.eqv (SeqAt.readOf s.heap y) dx.py) : Nat) : Int) s.toks = _
      rw [ec]
/-- the first one that is it -/
theorem first_py (y : D) (p : PyData) (hp : y.py = p) : ∀ (ds : List D) (j : Nat), ds.findIdx? (fun d => deq d y) = some j → ∃ h : j < (D.pys ds).length, PyData.eqv (D.pys ds)[j] p = true ∧ ∀ (m : Nat) (hm : m < (D.pys ds).length), m < j → PyData.eqv (D.pys ds)[m] p = false := by
  subst hp
  intro ds j h
  obtain ⟨h1, h2, h3⟩ := List.findIdx?_eq_some_iff_getElem.mp h
  have hl : (D.pys ds).length = ds.length := by rw [pys_map, List.length_map]
  refine ⟨by omega, ?_, fun m hm hj => ?_⟩
  · have e : (D.pys ds)[j]'(by omega) = ds[j].py := by simp [pys_map]
    rw [e, ← deq_py]
    exact h2
  · have e : (D.pys ds)[m] = (ds[m]'(by omega)).py := by simp [pys_map]
    rw [e, ← deq_py]
    have := h3 m hj
    simpa using this
theorem crm_remove (hu : X.A.units + 65 < cLine) : MtR X "list.remove" (rM X.K mg E (evMt .remove)) := by
  rintro pins s σ H x xs v us Q I rx r ⟨F, G, m, S, wx, ws, hs, hx, hw, hp⟩
  obtain ⟨w, z, rfl, rfl, hv, hp⟩ := mt_split1 (fun _ => by cases wx <;> rfl) (fun _ _ _ => rfl) hw hp
  cases hx with
  | d => exact hp.elim
  | @l n a e =>
    simp only [evMt1, mtRemove] at hp
    split at hp
    case h_2 => exact hp.elim
    rename_i xs he
    split at hp
    case h_2 => exact hp.elim
    rename_i dy ds hds _
    split at hp
    case isFalse => exact hp.elim
    rename_i hc
    split at hp
    case h_2 => exact hp.elim
    rename_i j hj
    rw [Bool.and_eq_true] at hc
    obtain ⟨a', vs, e', hh, rv0⟩ := hs.at_ he
    rw [e] at e'; cases e'
    cases rx
    obtain ⟨u, rfl, ru⟩ := vals1 r
    obtain ⟨size, its, n0, rv, hl0, e0⟩ := I.lstM hh
    have rd : RepDs X.K F ds vs := RepWs.ds rv0 hds
    have can1 := (sh_can 59 dy hc.1).1
    have can2 := (shs_can 59 ds hc.2).1
    obtain ⟨as, r1⟩ := Dp.reads I dy.py _ u ((dOf hv).dp hs.fr hc.1) ru
    obtain ⟨bs, r2⟩ := Dp.readsAll I (D.pys ds) vs its (RepDs.dp hs.fr hc.2 rd) rv
    have room : X.A.units + 1 + min (PyData.depthAll (D.pys ds)) dy.py.depth < cLine := by
      have d1 := (sh_can 59 dy hc.1).2
      omega
    have all := SeqAt.items_eqAt (A := X.A) (vs := its.toArray) (show ReadsAll s.heap its.toArray.toList (D.pys ds) bs by simpa using r2) r1 can2 can1 room
    have em := SeqAt.readsAll_map (D.pys ds) its bs can2 r2
    obtain ⟨h1, h2, h3⟩ := first_py dy dy.py rfl ds j hj
    have hlen : (D.pys ds).length = its.length := by rw [← em, List.length_map]
    have at_ : ∀ (m : Nat) (hm : m < its.length), SeqAt.readOf s.heap its[m] = (D.pys ds)[m]'(by omega) := by
      intro m hm
      have : (its.map (SeqAt.readOf s.heap))[m]'(by rw [List.length_map]; exact hm) = (D.pys ds)[m]'(by omega) := by simp only [em]
      rw [← this, List.getElem_map]
    refine call_meets PySem.F.slot_list_remove ⟨_, e0, rfl⟩ PySem.F.entry_list_remove (PySem.F.args_list_remove_2 _ _)
      (SeqAt.list_removeAt a its.toArray n0 none #[] u (fun y => PyData.eqv (SeqAt.readOf s.heap y) dy.py) j (by rw [List.size_toArray]; omega) ?hit (fun m hm hlt => ?hno) ?hsz) ⟨e0, all, ?_⟩
    case hit =>
      show PyData.eqv (SeqAt.readOf s.heap (its[j]'(by omega))) dy.py = true
      rw [at_ j (by omega)]
      exact h2
    case hno =>
      have hm2 : m < its.length := by rw [List.size_toArray] at hm; exact hm
      show PyData.eqv (SeqAt.readOf s.heap its[m]) dy.py = false
      rw [at_ m hm2]
      exact h3 m (by omega) hlt
    case hsz =>
      rw [List.size_toArray, ← rv.length]
      exact size
    have rr : RepWs X.K F m (xs.eraseIdx j) (vs.eraseIdx j) := RepWs.erase j rv0
    refine ⟨.non, _, I.lset (its' := its.eraseIdx j) hh e0 ?_ (rv.eraseIdx j) ?_, rfl, Post.put hp hs he e rr (.d .non)⟩
    · show its.toArray.eraseIdxIfInBounds j = (its.eraseIdx j).toArray
      rw [List.eraseIdxIfInBounds_toArray]
    · have := List.length_eraseIdx_le vs j
      omega
theorem crm_split : MtR X "str.split" (rM X.K mg E (evMt .split)) := by
  rintro pins s σ H x xs v us Q I rx r ⟨F, G, m, S, wx, ws, hs, hx, hw, hp⟩
  obtain ⟨w, z, rfl, rfl, hv, hp⟩ := mt_split1 (fun _ => by cases wx <;> rfl) (fun _ _ _ => rfl) hw hp
  simp only [evMt1] at hp
  split at hp
  · cases strOf (dOf hx); cases strOf (dOf hv)
    simp only [mtSplit] at hp
    split at hp
    · rename_i hl
      exact mt_split pins s σ H _ _ v us Q I rx r ⟨_, _, rfl, rfl, hl.1, Nat.le_trans hl.2 (by decide), Post.frozen hp hs fun p F' l h => .lst h (strs_reps _)⟩
    · exact hp.elim
  · exact hp.elim
theorem crm_join : MtR X "str.join" (rM X.K mg E (evMt .join)) := by
  rintro pins s σ H x xs v us Q I rx r ⟨F, G, m, S, wx, ws, hs, hx, hw, hp⟩
  obtain ⟨w, z, rfl, rfl, hv, hp⟩ := mt_split1 (fun _ => by cases wx <;> rfl) (fun _ _ _ => rfl) hw hp
  simp only [evMt1] at hp
  split at hp
  · cases strOf (dOf hx)
    simp only [mtJoin] at hp
    cases ey : (seqOf S w).bind strsOf with
    | none => rw [ey] at hp; exact hp.elim
    | some ys =>
      rw [ey] at hp
      simp only [Out.of_some, Out.bind_ok] at hp
      split at hp
      · rename_i hl
        obtain ⟨zs, e1, e2⟩ := bind_of ey
        obtain ⟨a, vs, rfl, rv, hq⟩ := seq_rep hs hv e1
        have ev := RepWs.strs rv e2
        subst ev
        exact mt_join pins s σ H _ _ v us Q I rx r ⟨_, a, ys, rfl, rfl, hq, hl, hp.now hs _ (.d (.str _))⟩
      · exact hp.elim
  · exact hp.elim
/-- o[i] = v -/
def rS3 (K : PySem.W.Frag) (mg : Str → Option Value) (E : XK) : TSet := fun o i v H Q => ∃ F G m S wo wi wv, Sim K F G H m S ∧ RepW K F m wo o ∧ RepW K F m wi i ∧ RepW K F m wv v ∧ Post K mg G E F m (Out.of (setIx wo wi wv S) S) fun _ _ _ _ _ => True
def rSetA : TSet := fun o i v H Q => rSetL o i v H Q ∨ rSetD o i v H Q
theorem set_any {X : Cx} (hu : X.A.units + 1 < cLine) : PSet X rSetA := by
  intro pins s σ H o i v ov iv u Q I ro ri rv h
  rcases h with h | h
  · exact set_list pins s σ H o i v ov iv u Q I ro ri rv h
  · exact set_dict hu pins s σ H o i v ov iv u Q I ro ri rv h
theorem set_rule {o i v : V} {H : Hp} {F G : Hp} {m : List Addr} {S S' : Store} {wo wi wv : W} {K : PySem.W.Frag} {Q : Hp → Prop} (hs : Sim K F G H m S) (ho : RepW K F m wo o) (hi : RepW K F m wi i) (hv : RepW K F m wv v) (e : setIx wo wi wv S = some S')
    (q : ∀ H', Sim K F G H' m S' → Q H') : rSetA o i v H Q := by
  unfold setIx at e
  split at e
  · rename_i n k
    split at e
    · rename_i xs he
      split at e
      · rename_i k
        obtain ⟨j, ej, rfl⟩ := map_of e
        cases ho with
        | @l _ a ea =>
          cases intOf (dOf hi)
          obtain ⟨a', vs, e', hh, rv⟩ := hs.at_ he
          rw [ea] at e'; cases e'
          exact .inl ⟨a, vs, k, j, rfl, rfl, hh, by rw [← ixOf_N, ← ws_length rv]; exact ej, q _ (hs.put he ea (RepWs.set hv j rv))⟩
      · cases e
    · rename_i t es he
      by_cases hc : kOk t k = true ∧ es.length < lineS
      · rw [if_pos hc] at e
        cases e
        cases ho with
        | @l _ a ea =>
          obtain ⟨hh, h1, h2, h3, hb⟩ := hs.ob n _ a he ea
          have hkey := dOf hi
          have hle := hc.2
          refine .inr ?_
          cases hb with
          | @k kvs _ e1 r1 =>
            rcases kOk_of hc.1 with ⟨_, z, ez⟩ | ⟨z, _⟩
            · obtain ⟨g1, g2⟩ := dic_put keyK_inj ez hv e1 r1
              have hl : kvs.length < sizeLine := by
                have := congrArg List.length e1
                rw [List.length_map, List.length_map] at this
                rw [← this]
                exact Nat.lt_of_lt_of_le hle (by decide)
              exact ⟨a, _, rfl, .inl ⟨kvs, z, h1, keyK_rep hkey ez, hl, rfl⟩, q _ (hs.putO he (fun z => nomatch z) ea (fun _ e => nomatch e) fun f g => ⟨_, upd_same, f, g, .k g1 g2⟩)⟩
            · cases z
          | @t kvs _ e1 r1 =>
            rcases kOk_of hc.1 with ⟨z, _⟩ | ⟨_, z, ez⟩
            · cases z
            · obtain ⟨g1, g2⟩ := dic_put keyT_inj ez hv e1 r1
              have hl : kvs.length < sizeLine := by
                have := congrArg List.length e1
                rw [List.length_map, List.length_map] at this
                rw [← this]
                exact Nat.lt_of_lt_of_le hle (by decide)
              obtain ⟨b, rfl, hbb⟩ := keyT_rep hkey ez
              exact ⟨a, _, rfl, .inr ⟨kvs, z, b, h1, rfl, hs.fr _ _ hbb, hl, rfl⟩, q _ (hs.putO he (fun z => nomatch z) ea (fun _ e => nomatch e) fun f g => ⟨_, upd_same, f, g, .t g1 g2⟩)⟩
      · rw [if_neg hc] at e
        cases e
    · cases e
  · cases e
/-- d.get(k), d.get(k, x) -/
theorem crm_get (hu : X.A.units + 1 < cLine) : MtR X "dict.get" (rM X.K mg E (evMt .get)) := by
  rintro pins s σ H x xs v us Q I rx r ⟨F, G, m, S, wx, ws, hs, hx, hw, hp⟩
  have main : ∀ {wk : W} {y dv : V} {df : W}, RepW X.K F m wk y → RepW X.K F m df dv → Post X.K mg G E F m (mtGet wx wk df S) (kW X.K Q) → ∃ a o, x = .ref a ∧ DGet H a y o ∧ Q (o.getD dv) H := by
    intro wk y dv df hk hd hp
    unfold mtGet at hp
    split at hp
    · rename_i t es k he
      split at hp
      · rename_i hok
        obtain ⟨a, o, rfl, g, hg⟩ := dget_rep hs hx he (dOf hk) hok
        refine ⟨a, o, rfl, g, ?_⟩
        rcases hg with ⟨z, rfl⟩ | ⟨w', v', e1, rfl, rz⟩
        · rw [z] at hp; exact hp.now hs _ hd
        · rw [e1] at hp; exact hp.now hs _ rz
      · exact hp.elim
    · exact hp.elim
  match ws, xs, hw, hp, r with
  | [], [], _, hp, _ => cases wx <;> exact hp.elim
  | [wk], [y], .cons hk .nil, hp, r =>
    obtain ⟨a, o, rfl, g, q⟩ := main hk (.d .non) hp
    obtain ⟨u, rfl, ru⟩ := vals1 r
    cases rx
    exact d_get1 hu I g ru fun w' s' I' rw' => ⟨_, H, I', rw', q⟩
  | [wk, wd], [y, dv], .cons hk (.cons hd .nil), hp, r =>
    obtain ⟨a, o, rfl, g, q⟩ := main hk hd hp
    obtain ⟨u1, u2, rfl, ru, ru2⟩ : ∃ u1 u2, us = [u1, u2] ∧ RelV y u1 ∧ RelV dv u2 := by
      match us, r with
      | [u1, u2], .cons g1 (.cons g2 .nil) => exact ⟨u1, u2, rfl, g1, g2⟩
    cases rx
    exact d_get2 hu I g ru ru2 fun w' s' I' rw' => ⟨_, H, I', rw', q⟩
  | _ :: _ :: _ :: _, _, _, hp, _ => exact hp.elim
end
end DL
/-! DLh: what stands around a body, readings, iterables. -/
namespace DL
open PySem PySem.Spec PyProof.Rows L2

/-- a def as it is called: by so many values ahead of keywords -/
structure Callee where
  name : Str
  np : Nat
  n : Nat
  ks : List Str
  ord : List Nat
  den : Fn
structure Tab where
  fns : List Callee
  free : List Str
  gl : List (Str × D)
/-- what a def promises: what den reckons -/
def spD (K : PySem.W.Frag) (mg : Str → Option Value) (n : Nat) (den : Fn) : Sp := fun vs H Q E => ∃ F G m S ws, ws.length = n ∧ Sim K F G H m S ∧ RepWs K F m ws vs ∧ Post K mg G E F m (den ws S) (kW K Q)
structure TabOk (P : Program) (w : World) (K : PySem.W.Frag) (mg : Str → Option Value) (base : Heap) (A : Around) (Γ : Tab) : Prop where
  fns : ∀ c ∈ Γ.fns, ∃ f fd ps k, mg c.name = some (.ref f) ∧ FnG P w K mg base k f fd ps (spD K mg c.np c.den) ∧ Room k A ∧ PySem.W.keepIn K (.ref f) = true ∧ BindsK fd ps c.ks c.n c.ord
  free : ∀ x ∈ Γ.free, mg x = none
  gl : ∀ p ∈ Γ.gl, ∃ u v, mg p.1 = some u ∧ RelV v u ∧ RepD K (fun _ => none) p.2 v
  dig : base.NoDigits
def fnsOf (Γ : Tab) (i : Nat) : Fn := match Γ.fns[i]? with
  | some c => fun ws S => c.den (c.ord.filterMap fun i => ws[i]?) S
  | none => fun _ _ => .bad
/-- around a body -/
structure Amb (Γ : Tab) (N : List Str) (sc : Scope) (fb : Str → Bool) (E : XK) (X : Cx) : Prop where
  calm : X.calm = true
  grd : X.A.guards = some []
  hN : X.N = N
  nd : N.Nodup
  hsc : X.env.scope = sc
  kind : sc.kind = .function
  hun : X.A.units + 70 < cLine
  pas : Passes (L2.CX X.prog X.w) X E
  tab : TabOk X.prog X.w X.K X.mg X.base X.A Γ
  fnb : ∀ x, fb x = true → X.fn x = true

/-- names' values -/
structure RepE (K : PySem.W.Frag) (F : Hp) (m : List Addr) (env : Ev) (σ : L2.St) : Prop where
  len : env.length = σ.length
  get : ∀ (i : Nat) (w : W), env[i]? = some (some w) → ∃ v, σ[i]? = some (some v) ∧ RepW K F m w v
section
variable {K : PySem.W.Frag} {F F' : Hp} {m m' : List Addr} {env : Ev} {σ : L2.St}
theorem RepE.le (r : RepE K F m env σ) (l : Le F m F' m') : RepE K F' m' env σ := ⟨r.len, fun i w e => let ⟨v, h, q⟩ := r.get i w e; ⟨v, h, q.le l⟩⟩
theorem RepE.set (r : RepE K F m env σ) {w : W} {v : V} (q : RepW K F m w v) (i : Nat) : RepE K F m (env.set i (some w)) (σ.set i (some v)) := by
  refine ⟨by rw [List.length_set, List.length_set, r.len], fun j u e => ?_⟩
  by_cases h : i = j
  · subst h
    by_cases hi : i < env.length
    · rw [List.getElem?_set_self hi] at e
      cases e
      exact ⟨v, List.getElem?_set_self (by rw [← r.len]; exact hi), q⟩
    · rw [List.getElem?_eq_none_iff.mpr (by rw [List.length_set]; omega)] at e
      cases e
  · rw [List.getElem?_set_ne h] at e
    obtain ⟨z, h1, h2⟩ := r.get j u e
    exact ⟨z, by rw [List.getElem?_set_ne h]; exact h1, h2⟩
theorem RepE.unset (r : RepE K F m env σ) (i : Nat) : RepE K F m (env.set i none) (σ.set i none) := by
  refine ⟨by rw [List.length_set, List.length_set, r.len], fun j u e => ?_⟩
  by_cases h : i = j
  · subst h
    by_cases hi : i < env.length
    · rw [List.getElem?_set_self hi] at e
      cases e
    · rw [List.getElem?_eq_none_iff.mpr (by rw [List.length_set]; omega)] at e
      cases e
  · rw [List.getElem?_set_ne h] at e
    obtain ⟨z, h1, h2⟩ := r.get j u e
    exact ⟨z, by rw [List.getElem?_set_ne h]; exact h1, h2⟩
theorem RepE.wipe (r : RepE K F m env σ) : ∀ vs : List Nat, RepE K F m (wipeE env vs) (L2.wipe σ vs)
  | [] => r
  | v :: vs => RepE.unset (RepE.wipe r vs) v
theorem getE_of {i : Nat} {w : W} (h : getE env i = some w) : env[i]? = some (some w) := by
  unfold getE at h
  cases e : env[i]? with
  | none => rw [e] at h; cases h
  | some o => rw [e] at h; rw [show o = some w from h]
end

/-! ### readings -/
def tE (K : PySem.W.Frag) (mg : Str → Option Value) (E : XK) (d : Ev → Store → Out W) : TE := fun σ H Q => ∃ F G m env S, Sim K F G H m S ∧ RepE K F m env σ ∧ Post K mg G E F m (d env S) (kW K Q)
def tBl (K : PySem.W.Frag) (mg : Str → Option Value) (E : XK) (d : Ev → Store → Out Bool) : TT := fun σ H Q => ∃ F G m env S, Sim K F G H m S ∧ RepE K F m env σ ∧ Post K mg G E F m (d env S) (kB Q)
def tAr (K : PySem.W.Frag) (mg : Str → Option Value) (E : XK) (d : Ev → Store → Out (List W)) : TA := fun σ H Q => ∃ F G m env S, Sim K F G H m S ∧ RepE K F m env σ ∧ Post K mg G E F m (d env S) (kWs K Q)
theorem PE.imp {X : Cx} {e : Expr} {t t' : TE} (h : ∀ σ H Q, t' σ H Q → t σ H Q) (p : PE X e t) : PE X e t' := ⟨fun pins s σ H Q I q => p.run pins s σ H Q I (h σ H Q q)⟩
theorem PT.imp {X : Cx} {e : Expr} {t t' : TT} (h : ∀ σ H Q, t' σ H Q → t σ H Q) (p : PT X e t) : PT X e t' := ⟨fun pins s σ H Q I q => p.run pins s σ H Q I (h σ H Q q)⟩
theorem PW.imp {X : Cx} {e : Expr} {t t' : TT} (h : ∀ σ H Q, t' σ H Q → t σ H Q) (p : PW X e t) : PW X e t' := ⟨fun wh pins s σ H Q I q => p.run wh pins s σ H Q I (h σ H Q q)⟩
theorem PA.imp {X : Cx} {e : List Expr} {t t' : TA} (h : ∀ σ H Q, t' σ H Q → t σ H Q) (p : PA X e t) : PA X e t' := ⟨fun pos pins s σ H Q I q => p.run pos pins s σ H Q I (h σ H Q q)⟩
theorem PK.imp {X : Cx} {e : List Keyword} {t t' : TA} (h : ∀ σ H Q, t' σ H Q → t σ H Q) (p : PK X e t) : PK X e t' := ⟨fun pos pins s σ H Q I q => p.run pos pins s σ H Q I (h σ H Q q)⟩

section
variable {X : Cx} {E : XK} {a b c x : Expr} {pos : Pos} {da db dc : Ev → Store → Out W}
abbrev RdE (X : Cx) (E : XK) (x : Expr) (d : Ev → Store → Out W) : Prop := PE X x (tE X.K X.mg E d)
abbrev RdT (X : Cx) (E : XK) (x : Expr) (d : Ev → Store → Out Bool) : Prop := PT X x (tBl X.K X.mg E d)
abbrev RdA (X : Cx) (E : XK) (x : List Expr) (d : Ev → Store → Out (List W)) : Prop := PA X x (tAr X.K X.mg E d)
/-- two values, one behind the other -/
theorem two_of {F G H : Hp} {m : List Addr} {env : Ev} {S : Store} {σ : L2.St} {K : PySem.W.Frag} {mg : Str → Option Value} {f : W → W → Store → Out W} {Q : VK} (hs : Sim K F G H m S) (he : RepE K F m env σ)
    (hp : Post K mg G E F m ((da env S).bind fun x S => (db env S).bind fun y S => f x y S) (kW K Q)) : tE K mg E da σ H fun x H1 => tE K mg E db σ H1 fun y H2 => rW2 K mg E f x y H2 Q :=
  ⟨F, G, m, env, S, hs, he, hp.bind.mono fun w S1 F1 m1 H1 l s1 hp1 v rv => ⟨F1, G, m1, env, S1, s1, he.le l, hp1.bind.mono fun w2 S2 F2 m2 H2 l2 s2 hp2 v2 rv2 => ⟨F2, G, m2, S2, w, w2, s2, rv.le l2, rv2, hp2⟩⟩⟩
theorem rd_bin {op : Operator} (ha : RdE X E a da) (hb : RdE X E b db) : RdE X E (.BinOp a op b pos) fun env S => (da env S).bind fun x S => (db env S).bind fun y S => evOp op x y S :=
  PE.imp (fun _ _ _ ⟨_, _, _, _, _, hs, he, hp⟩ => two_of hs he hp) (pe_op (opr_bin op) ha hb)
theorem rd_rep {k : Bool} (ha : RdE X E a da) (hb : RdE X E b db) : RdE X E (.BinOp a .Mult b pos) fun env S => (da env S).bind fun x S => (db env S).bind fun y S => evRep k x y S :=
  PE.imp (fun _ _ _ ⟨_, _, _, _, _, hs, he, hp⟩ => two_of hs he hp) (pe_op (opr_rep k) ha hb)
/-- the abstract heap may be told otherwise behind an expression -/
theorem PE.turn {e : Expr} {t t' : TE} (h : ∀ σ H Q, t' σ H Q → t σ H fun v H1 => ∀ pins s, Inv X pins σ H1 s → ∃ H2, Inv X pins σ H2 s ∧ Q v H2) (p : PE X e t) : PE X e t' :=
  ⟨fun pins s σ H Q I q => thn (p.run pins s σ H _ I (h σ H Q q)) fun u s1 ⟨v, H1, I1, r, k⟩ => let ⟨H2, I2, q2⟩ := k pins s1 I1; ⟨v, H2, I2, r, q2⟩⟩
theorem rd_frz (ha : RdE X E a da) : RdE X E a fun env S => (da env S).bind fun x S => evFrz x S := by
  refine PE.turn (fun σ H Q ⟨F, G, m, env, S, hs, he, hp⟩ => ?_) ha
  refine ⟨F, G, m, env, S, hs, he, hp.bind.mono fun w S1 F1 m1 H1 l s1 hp1 v rv pins s I => ?_⟩
  unfold evFrz at hp1
  split at hp1
  · rename_i n
    cases rv with
    | @l _ a ea =>
    split at hp1
    · rename_i xs e
      split at hp1
      · rename_i ds ep
        obtain ⟨us, h1, h2, h3, r⟩ := s1.ob n _ a e ea
        obtain ⟨s2, l2⟩ := s1.frz e ea h1
        exact ⟨H1, I, hp1 _ _ _ l2 s2 _ (.d (.lst upd_same ((RepWs.ds r ep).le l2.f)))⟩
      · exact hp1.elim
    · rename_i t es e
      split at hp1
      · rename_i ds ep
        obtain ⟨ho, h1, h2, h3, hb⟩ := s1.ob n _ a e ea
        cases hb with
        | @k kvs _ e1 r1 =>
          obtain ⟨od, I2⟩ := I.lock h1 trivial
          obtain ⟨s2, l2⟩ := s1.frzO e (fun z => nomatch z) ea h1 (ho' := .frz od (.dK kvs)) (fun _ z => nomatch z)
          exact ⟨_, I2, hp1 _ _ _ l2 s2 _ (.d (.dctK upd_same (by rw [List.map_map]; exact e1) rfl ((RepWs.ds r1 ep).le l2.f)))⟩
        | @t kvs _ e1 r1 =>
          obtain ⟨od, I2⟩ := I.lock h1 trivial
          obtain ⟨s2, l2⟩ := s1.frzO e (fun z => nomatch z) ea h1 (ho' := .frz od (.dT kvs)) (fun _ z => nomatch z)
          exact ⟨_, I2, hp1 _ _ _ l2 s2 _ (.d (.dctT upd_same (by rw [List.map_map]; exact e1) rfl ((RepWs.ds r1 ep).le l2.f)))⟩
      · exact hp1.elim
    · exact hp1.elim
  · exact hp1.elim
/-- a new dict -/
theorem rd_dict (t : Bool) : RdE X E (.Dict [] [] pos) fun _ S => .ok (.l S.length) (S ++ [.dic t []]) := by
  cases t with
  | true =>
    refine PE.imp (fun σ H Q ⟨F, G, m, env, S, hs, he, hp⟩ p hp0 => ?_) pe_dnewT
    obtain ⟨s2, l2⟩ := hs.growD true hp0
    exact hp _ _ _ l2 s2 _ (.l (by rw [← hs.len, List.getElem?_append_right (Nat.le_refl _)]; simp))
  | false =>
    refine PE.imp (fun σ H Q ⟨F, G, m, env, S, hs, he, hp⟩ p hp0 => ?_) pe_dnewK
    obtain ⟨s2, l2⟩ := hs.growD false hp0
    exact hp _ _ _ l2 s2 _ (.l (by rw [← hs.len, List.getElem?_append_right (Nat.le_refl _)]; simp))
theorem rd_ix (hu : X.A.units + 1 < cLine) (ha : RdE X E a da) (hb : RdE X E b db) (hs : PlainIx b) : RdE X E (.Subscript a b pos) fun env S => (da env S).bind fun x S => (db env S).bind fun y S => evIx x y S :=
  PE.imp (fun _ _ _ ⟨_, _, _, _, _, hs, he, hp⟩ => two_of hs he hp) (pe_ix (ixr hu) ha hb hs)
theorem rd_var {i : Nat} {n : Str} {p : Pos} (hN : X.N[i]? = some n) (hv : Vis X.env.scope n) (hd : (n == ("__debug__" : Str)) = false) (hcd : (n == ("__classdict__" : Str)) = false) : RdE X E (.Name n p) fun env S => Out.of (getE env i) S := by
  refine PE.imp (fun σ H Q ⟨F, G, m, env, S, hs, he, hp⟩ => ?_) (pe_var hN hv hd hcd)
  obtain ⟨w, e, hp⟩ := Post.of hp
  obtain ⟨v, h, r⟩ := he.get i w (getE_of e)
  exact ⟨v, h, hp.now hs v r⟩
theorem rd_const {d : D} {v : V} (h : PE X x (tC v)) (r : ∀ F, RepD X.K F d v) : RdE X E x fun _ S => .ok (.d d) S :=
  PE.imp (fun σ H Q ⟨F, G, m, env, S, hs, he, hp⟩ => hp.now hs v (.d (r F))) h
theorem rd_neg (ha : RdE X E a da) : RdE X E (.UnaryOp .USub a pos) fun env S => (da env S).bind fun x S => match x with
    | .d (.int i) => .ok (.d (.int (-i))) S
    | _ => .bad := by
  refine PE.imp (fun σ H Q ⟨F, G, m, env, S, hs, he, hp⟩ => ?_) (pe_un un_neg ha)
  refine ⟨F, G, m, env, S, hs, he, hp.bind.mono fun w S1 F1 m1 H1 l s1 hp1 v rv => ?_⟩
  split at hp1
  · cases intOf (dOf rv)
    exact ⟨_, rfl, hp1.now s1 _ (.d (.int _))⟩
  · exact hp1.elim
theorem two_ofB {F G H : Hp} {m : List Addr} {env : Ev} {S : Store} {σ : L2.St} {K : PySem.W.Frag} {mg : Str → Option Value} {f : W → W → Store → Out Bool} {Q : V → Hp → Prop} {Q' : Bool → Hp → Prop} (hq : ∀ b H, Q' b H → Q (.bl b) H) (hs : Sim K F G H m S) (he : RepE K F m env σ)
    (hp : Post K mg G E F m ((da env S).bind fun x S => (db env S).bind fun y S => f x y S) (kB Q')) : tE K mg E da σ H fun x H1 => tE K mg E db σ H1 fun y H2 => rB2 K mg E f x y H2 Q :=
  ⟨F, G, m, env, S, hs, he, hp.bind.mono fun w S1 F1 m1 H1 l s1 hp1 v rv => ⟨F1, G, m1, env, S1, s1, he.le l, hp1.bind.mono fun w2 S2 F2 m2 H2 l2 s2 hp2 v2 rv2 => ⟨F2, G, m2, S2, w, w2, s2, rv.le l2, rv2, hp2.mono fun b S' F' m' H' _ _ q => hq b H' q⟩⟩⟩
theorem Post.bindK {K : PySem.W.Frag} {mg : Str → Option Value} {G F : Hp} {m : List Addr} {Q : VK} {o : Out Bool} (hp : Post K mg G E F m (o.bind fun k S => .ok (.d (.bl k)) S) (kW K Q)) : Post K mg G E F m o (kB fun b H => Q (.bl b) H) :=
  hp.bind.mono fun b S' F' m' H' l s q => q.now s _ (.d (.bl b))
theorem bind_assoc' {α β γ : Type} (o : Out α) (f : α → Store → Out β) (g : β → Store → Out γ) : (o.bind f).bind g = o.bind fun a S => (f a S).bind g := by cases o <;> rfl
theorem ite_bind {α β : Type} (c : Bool) (o o' : Out α) (f : α → Store → Out β) : (if c = true then o else o').bind f = if c = true then o.bind f else o'.bind f := by cases c <;> rfl
theorem rd_cmp {op : CmpOp} (hu : X.A.units + 65 < cLine) (ha : RdE X E a da) (hb : RdE X E b db) (hm : behindInMarks op b = false) : RdE X E (.Compare a [op] [b] pos) fun env S => (da env S).bind fun x S => (db env S).bind fun y S => (evCmp op x y S).bind fun k S => .ok (.d (.bl k)) S := by
  refine PE.imp (fun σ H Q ⟨F, G, m, env, S, hs, he, hp⟩ => two_ofB (Q' := fun b H => Q (.bl b) H) (fun _ _ q => q) hs he ?_) (pe_cmpR (opr_cmp op hu) ha hb hm)
  refine Post.bindK ?_
  rw [bind_assoc']
  simp only [bind_assoc']
  exact hp
theorem rt_cmp {op : CmpOp} (hu : X.A.units + 65 < cLine) (ha : RdE X E a da) (hb : RdE X E b db) (hm : behindInMarks op b = false) : RdT X E (.Compare a [op] [b] pos) fun env S => (da env S).bind fun x S => (db env S).bind fun y S => evCmp op x y S :=
  PT.imp (fun σ H Q ⟨F, G, m, env, S, hs, he, hp⟩ => two_ofB (Q' := Q) (Q := fun x H' => ∃ k, x = .bl k ∧ Q k H') (fun b H q => ⟨b, rfl, q⟩) hs he hp) (pt_cmpR (opr_cmp op hu) ha hb hm)
theorem chain_of {op op' : CmpOp} {F G H : Hp} {m : List Addr} {env : Ev} {S : Store} {σ : L2.St} {K : PySem.W.Frag} {mg : Str → Option Value} {Q : V → Hp → Prop} {Q' : Bool → Hp → Prop} (hq : ∀ b H, Q' b H → Q (.bl b) H) (hs : Sim K F G H m S) (he : RepE K F m env σ)
    (hp : Post K mg G E F m ((da env S).bind fun x S => (db env S).bind fun y S => (evCmp op x y S).bind fun k S => if k = true then (dc env S).bind fun z S => evCmp op' y z S else .ok false S) (kB Q')) :
    tChain (rB2 K mg E (evCmp op)) (rB2 K mg E (evCmp op')) (tE K mg E da) (tE K mg E db) (tE K mg E dc) σ H Q := by
  refine ⟨F, G, m, env, S, hs, he, hp.bind.mono fun w S1 F1 m1 H1 l s1 hp1 v rv => ⟨F1, G, m1, env, S1, s1, he.le l, hp1.bind.mono fun w2 S2 F2 m2 H2 l2 s2 hp2 v2 rv2 => ⟨F2, G, m2, S2, w, w2, s2, rv.le l2, rv2, ?_⟩⟩⟩
  refine hp2.bind.mono fun k S3 F3 m3 H3 l3 s3 hp3 => ⟨k, rfl, ?_⟩
  cases k with
  | false => exact hq _ _ (hp3.now s3)
  | true =>
    show tE K mg E dc σ H3 _
    exact ⟨F3, G, m3, env, S3, s3, ((he.le l).le l2).le l3, hp3.bind.mono fun w4 S4 F4 m4 H4 l4 s4 hp4 v4 rv4 => ⟨F4, G, m4, S4, w2, w4, s4, (rv2.le l3).le l4, rv4, hp4.mono fun b S' F' m' H' _ _ q => hq b H' q⟩⟩
theorem rt_chain {op op' : CmpOp} (hu : X.A.units + 65 < cLine) (ha : RdE X E a da) (hb : RdE X E b db) (hc : RdE X E c dc) (hm : lastMarks [op, op'] [b, c] = false) : RdT X E (.Compare a [op, op'] [b, c] pos) fun env S => (da env S).bind fun x S => (db env S).bind fun y S => (evCmp op x y S).bind fun k S =>
    if k = true then (dc env S).bind fun z S => evCmp op' y z S else .ok false S :=
  PT.imp (fun σ H Q ⟨F, G, m, env, S, hs, he, hp⟩ => chain_of (Q' := Q) (Q := fun x H' => ∃ k, x = .bl k ∧ Q k H') (fun b H q => ⟨b, rfl, q⟩) hs he hp) (pt_chain (opr_cmp op hu) (opr_cmp op' hu) ha hb hc hm)
theorem rd_chain {op op' : CmpOp} (hu : X.A.units + 65 < cLine) (ha : RdE X E a da) (hb : RdE X E b db) (hc : RdE X E c dc) (hm : lastMarks [op, op'] [b, c] = false) : RdE X E (.Compare a [op, op'] [b, c] pos) fun env S => (da env S).bind fun x S => (db env S).bind fun y S => (evCmp op x y S).bind fun k S =>
    if k = true then (dc env S).bind fun z S => (evCmp op' y z S).bind fun k S => .ok (.d (.bl k)) S else .ok (.d (.bl false)) S := by
  refine PE.imp (fun σ H Q ⟨F, G, m, env, S, hs, he, hp⟩ => chain_of (Q' := fun b H => Q (.bl b) H) (fun b H q => q) hs he (Post.bindK ?_)) (pe_chain (opr_cmp op hu) (opr_cmp op' hu) ha hb hc hm)
  simp only [bind_assoc', ite_bind, Out.bind_ok]
  exact hp

/-! ### arguments, displays -/
variable {es : List Expr} {ds : Ev → Store → Out (List W)}
theorem ra_nil : RdA X E [] fun _ S => .ok [] S := PA.imp (fun σ H Q ⟨F, G, m, env, S, hs, he, hp⟩ => hp.now hs [] .nil) pa_nil
theorem ra_cons (ha : RdE X E a da) (hr : RdA X E es ds) (hs : plainE a = true) : RdA X E (a :: es) fun env S => (da env S).bind fun x S => (ds env S).bind fun xs S => .ok (x :: xs) S := by
  refine PA.imp (fun σ H Q ⟨F, G, m, env, S, hs, he, hp⟩ => ?_) (pa_cons ha hr (star_plain hs es X.env))
  refine ⟨F, G, m, env, S, hs, he, hp.bind.mono fun w S1 F1 m1 H1 l s1 hp1 v rv => ⟨F1, G, m1, env, S1, s1, he.le l, hp1.bind.mono fun ws S2 F2 m2 H2 l2 s2 hp2 vs rvs => ?_⟩⟩
  exact hp2.now s2 _ (.cons (rv.le l2) rvs)
theorem ra_star {p : Pos} (ha : RdE X E a da) (hr : RdA X E es ds) : RdA X E (.Starred a p :: es) fun env S => (da env S).bind fun x S => (Out.of (seqOf S x) S).bind fun ys S => (ds env S).bind fun xs S => .ok (ys ++ xs) S := by
  refine PA.imp (fun σ H Q ⟨F, G, m, env, S, hs, he, hp⟩ => ?_) (StX.pa_star ha hr)
  refine ⟨F, G, m, env, S, hs, he, hp.bind.mono fun w S1 F1 m1 H1 l s1 hp1 v rv => ?_⟩
  cases e : seqOf S1 w with
  | none => rw [e] at hp1; exact hp1.elim
  | some ys =>
    rw [e] at hp1
    simp only [Out.of_some, Out.bind_ok] at hp1
    obtain ⟨b, vs, rfl, r, hq⟩ := seq_rep s1 rv e
    refine ⟨b, vs, rfl, hq.symm, F1, G, m1, env, S1, s1, he.le l, hp1.bind.mono fun ws S2 F2 m2 H2 l2 s2 hp2 us rus => ?_⟩
    exact hp2.now s2 _ (RepWs.append (r.le l2) rus)
theorem rk_nil : PK X [] (tAr X.K X.mg E fun _ S => .ok [] S) := PK.imp (fun σ H Q ⟨F, G, m, env, S, hs, he, hp⟩ => hp.now hs [] .nil) pk_nil
theorem rk_cons {nm : Option Str} {kp : Pos} {kws : List Keyword} (ha : RdE X E a da) (hr : PK X kws (tAr X.K X.mg E ds)) : PK X (⟨nm, a, kp⟩ :: kws) (tAr X.K X.mg E fun env S => (da env S).bind fun x S => (ds env S).bind fun xs S => .ok (x :: xs) S) := by
  refine PK.imp (fun σ H Q ⟨F, G, m, env, S, hs, he, hp⟩ => ?_) (pk_cons ha hr)
  refine ⟨F, G, m, env, S, hs, he, hp.bind.mono fun w S1 F1 m1 H1 l s1 hp1 v rv => ⟨F1, G, m1, env, S1, s1, he.le l, hp1.bind.mono fun ws S2 F2 m2 H2 l2 s2 hp2 vs rvs => ?_⟩⟩
  exact hp2.now s2 _ (.cons (rv.le l2) rvs)
theorem rd_tup {k : Nat} (hr : RdA X E es ds) : RdE X E (.Tuple es k pos) fun env S => (ds env S).bind fun ws S => if ws.length ≤ lineS then Out.of ((pures ws).map fun ds => .d (.tup ds)) S else .bad := by
  refine PE.imp (fun σ H Q ⟨F, G, m, env, S, hs, he, hp⟩ => ?_) (pe_tup hr)
  refine ⟨F, G, m, env, S, hs, he, hp.bind.mono fun ws S1 F1 m1 H1 l s1 hp1 vs rvs => ?_⟩
  split at hp1
  · rename_i hl
    obtain ⟨w, ew, hp1⟩ := Post.of hp1
    obtain ⟨ds, ed, rfl⟩ := map_of ew
    exact ⟨by rw [← ws_length rvs]; exact Nat.le_trans hl (by decide), Post.frozen hp1 s1 fun p F' l h => .tup h ((RepWs.ds rvs ed).le l)⟩
  · exact hp1.elim
theorem rd_lst {k : Bool} (hr : RdA X E es ds) : RdE X E (.List es pos) fun env S => (ds env S).bind fun ws S => newL k ws S := by
  refine PE.imp (fun σ H Q ⟨F, G, m, env, S, hs, he, hp⟩ => ?_) (pe_lst hr)
  refine ⟨F, G, m, env, S, hs, he, hp.bind.mono fun ws S1 F1 m1 H1 l s1 hp1 vs rvs => ?_⟩
  exact newL_end s1 rvs hp1

/-! ### truth, and, or, not, if -/
theorem rd_not (ha : RdE X E a da) : RdE X E (.UnaryOp .Not a pos) fun env S => (da env S).bind fun x S => Out.of ((tru S x).map fun k => .d (.bl (!k))) S := by
  refine PE.imp (fun σ H Q ⟨F, G, m, env, S, hs, he, hp⟩ => ?_) (pe_notT ha)
  refine ⟨F, G, m, env, S, hs, he, hp.bind.mono fun w S1 F1 m1 H1 l s1 hp1 v rv => ?_⟩
  obtain ⟨w2, e, hp1⟩ := Post.of hp1
  obtain ⟨k, ek, rfl⟩ := map_of e
  exact ⟨k, tru_rep s1 rv ek, hp1.now s1 _ (.d (.bl _))⟩
theorem rd_bop1 {op : BoolOp} (ha : RdE X E a da) : RdE X E (.BoolOp op [a] pos) da := pe_one ha
theorem rd_and {rest : List Expr} (ha : RdE X E a da) (hb : RdE X E (.BoolOp .And (b :: rest) pos) db) : RdE X E (.BoolOp .And (a :: b :: rest) pos) fun env S => (da env S).bind fun x S => (Out.of (tru S x) S).bind fun k S => if k = true then db env S else .ok x S := by
  refine PE.imp (fun σ H Q ⟨F, G, m, env, S, hs, he, hp⟩ => ?_) (pe_andT ha hb)
  refine ⟨F, G, m, env, S, hs, he, hp.bind.mono fun w S1 F1 m1 H1 l s1 hp1 v rv => ?_⟩
  cases ek : tru S1 w with
  | none => rw [ek] at hp1; exact hp1.elim
  | some k =>
    rw [ek] at hp1
    refine ⟨k, tru_rep s1 rv ek, ?_⟩
    cases k with
    | true => exact ⟨F1, G, m1, env, S1, s1, he.le l, hp1⟩
    | false => exact hp1.now s1 v rv
theorem rd_or {rest : List Expr} (ha : RdE X E a da) (hb : RdE X E (.BoolOp .Or (b :: rest) pos) db) : RdE X E (.BoolOp .Or (a :: b :: rest) pos) fun env S => (da env S).bind fun x S => (Out.of (tru S x) S).bind fun k S => if k = false then db env S else .ok x S := by
  refine PE.imp (fun σ H Q ⟨F, G, m, env, S, hs, he, hp⟩ => ?_) (pe_orT ha hb)
  refine ⟨F, G, m, env, S, hs, he, hp.bind.mono fun w S1 F1 m1 H1 l s1 hp1 v rv => ?_⟩
  cases ek : tru S1 w with
  | none => rw [ek] at hp1; exact hp1.elim
  | some k =>
    rw [ek] at hp1
    refine ⟨k, tru_rep s1 rv ek, ?_⟩
    cases k with
    | false => exact ⟨F1, G, m1, env, S1, s1, he.le l, hp1⟩
    | true => exact hp1.now s1 v rv
variable {ta tb : Ev → Store → Out Bool}
theorem rt_val (ha : RdE X E a da) (ht : ∀ whole, isTrue a X.env whole = (do let v ← whole; standAt a.pos; holding [v] (truthy v))) : RdT X E a fun env S => (da env S).bind fun x S => Out.of (tru S x) S := by
  refine PT.imp (fun σ H Q ⟨F, G, m, env, S, hs, he, hp⟩ => ?_) (pt_truth ha ht)
  refine ⟨F, G, m, env, S, hs, he, hp.bind.mono fun w S1 F1 m1 H1 l s1 hp1 v rv => ?_⟩
  obtain ⟨k, ek, hp1⟩ := Post.of hp1
  exact ⟨k, tru_rep s1 rv ek, hp1.now s1⟩
theorem rt_not (ha : RdT X E a ta) : RdT X E (.UnaryOp .Not a pos) fun env S => (ta env S).bind fun k S => .ok (!k) S :=
  PT.imp (fun σ H Q ⟨F, G, m, env, S, hs, he, hp⟩ => ⟨F, G, m, env, S, hs, he, hp.bind.mono fun k S1 F1 m1 H1 l s1 hp1 => hp1.now s1⟩) (pt_not ha)
theorem rd_ifx (hc : RdT X E c ta) (ha : RdE X E a da) (hb : RdE X E b db) : RdE X E (.IfExp c a b pos) fun env S => (ta env S).bind fun k S => if k = true then da env S else db env S := by
  refine PE.imp (fun σ H Q ⟨F, G, m, env, S, hs, he, hp⟩ => ?_) (pe_ifExp hc ha hb)
  refine ⟨F, G, m, env, S, hs, he, hp.bind.mono fun k S1 F1 m1 H1 l s1 hp1 => ?_⟩
  cases k with
  | true => exact ⟨F1, G, m1, env, S1, s1, he.le l, hp1⟩
  | false => exact ⟨F1, G, m1, env, S1, s1, he.le l, hp1⟩
abbrev RdW (X : Cx) (E : XK) (x : Expr) (d : Ev → Store → Out Bool) : Prop := PW X x (tBl X.K X.mg E d)
theorem rw_1 (k : Bool) (ha : RdT X E a ta) : RdW X E (.BoolOp (if k then .And else .Or) [a] pos) ta := by
  cases k with
  | true => exact pw_and1 ha
  | false => exact pw_or1 ha
theorem rw_cons (k : Bool) {rest : List Expr} (ha : RdT X E a ta) (hb : RdW X E (.BoolOp (if k then .And else .Or) (b :: rest) pos) tb) : RdW X E (.BoolOp (if k then .And else .Or) (a :: b :: rest) pos) fun env S => (ta env S).bind fun x S => if x = k then tb env S else .ok x S := by
  cases k with
  | true =>
    refine PW.imp (fun σ H Q ⟨F, G, m, env, S, hs, he, hp⟩ => ?_) (pw_and ha hb)
    refine ⟨F, G, m, env, S, hs, he, hp.bind.mono fun k S1 F1 m1 H1 l s1 hp1 => ?_⟩
    cases k with
    | true => exact ⟨F1, G, m1, env, S1, s1, he.le l, hp1⟩
    | false => exact hp1.now s1
  | false =>
    refine PW.imp (fun σ H Q ⟨F, G, m, env, S, hs, he, hp⟩ => ?_) (pw_or ha hb)
    refine ⟨F, G, m, env, S, hs, he, hp.bind.mono fun k S1 F1 m1 H1 l s1 hp1 => ?_⟩
    cases k with
    | false => exact ⟨F1, G, m1, env, S1, s1, he.le l, hp1⟩
    | true => exact hp1.now s1

/-! ### calls of built-ins -/
theorem rd_callB {x : Str} {id : String} {p : Pos} {f : List W → Store → Out W} (hc : CallR X (.builtin id) (rC X.K X.mg E f)) (hg : Gl X x) (hm : X.mg x = none) (hv : bootBuiltins x = some (.builtin id)) (ha : RdA X E (a :: es) ds) (hp : (a :: es).all plainE = true)
    (hn : x ≠ "__name__") (hdb : (x == ("__debug__" : Str)) = false) : RdE X E (.Call (.Name x p) (a :: es) [] pos) fun env S => (ds env S).bind f := by
  have hp2 := hp
  rw [List.all_cons, Bool.and_eq_true] at hp2
  refine PE.imp (fun σ H Q ⟨F, G, m, env, S, hs, he, hp⟩ => ?_) (pe_callB hc hg hm hv ha hn hdb (star_plain hp2.1 es X.env) (star_any hp2.2))
  exact ⟨F, G, m, env, S, hs, he, hp.bind.mono fun ws S1 F1 m1 H1 l s1 hp1 vs rvs => ⟨F1, G, m1, S1, ws, s1, rvs, hp1⟩⟩
theorem rd_callT {x : Str} {T : String} {p : Pos} {f : List W → Store → Out W} (hc : CallR X (.type T) (rC X.K X.mg E f)) (hg : Gl X x) (hm : X.mg x = none) (hv : bootBuiltins x = some (.type T)) (ha : RdA X E (a :: es) ds) (hp : (a :: es).all plainE = true)
    (hn : x ≠ "__name__") (hdb : (x == ("__debug__" : Str)) = false) : RdE X E (.Call (.Name x p) (a :: es) [] pos) fun env S => (ds env S).bind f := by
  have hp2 := hp
  rw [List.all_cons, Bool.and_eq_true] at hp2
  refine PE.imp (fun σ H Q ⟨F, G, m, env, S, hs, he, hp⟩ => ?_) (pe_callTy hc hg hm hv ha hn hdb (star_plain hp2.1 es X.env) (star_any hp2.2))
  exact ⟨F, G, m, env, S, hs, he, hp.bind.mono fun ws S1 F1 m1 H1 l s1 hp1 vs rvs => ⟨F1, G, m1, S1, ws, s1, rvs, hp1⟩⟩
/-- isinstance(a, T) -/
theorem rd_isi {x T : Str} {t : String} {p p2 : Pos} (ht : t ∈ tyAsk) (hg : Gl X x) (hm : X.mg x = none) (hv : bootBuiltins x = some (.builtin "isinstance")) (hgT : Gl X T) (hmT : X.mg T = none) (hvT : bootBuiltins T = some (.type t)) (ha : RdE X E a da) (hp : plainE a = true)
    (hn : x ≠ "__name__") (hdb : (x == ("__debug__" : Str)) = false) (hnT : T ≠ "__name__") (hdT : (T == ("__debug__" : Str)) = false) : RdE X E (.Call (.Name x p) [a, .Name T p2] [] pos) fun env S => (da env S).bind fun w S => evBi (.isinst t) [w] S := by
  refine PE.imp (fun σ H Q ⟨F, G, m, env, S, hs, he, hp⟩ => ?_) (pe_callB (cr_isi (mg := X.mg) (E := E) ht) hg hm hv (pa_cons ha (pa_cons (pe_bltn (v := .ty t) hgT hmT hvT rfl hnT hdT) pa_nil (star_plain rfl [] X.env)) (star_plain hp _ X.env)) hn hdb (star_plain hp _ X.env) (star_any rfl))
  exact ⟨F, G, m, env, S, hs, he, hp.bind.mono fun w S1 F1 m1 H1 l s1 hp1 v rv => ⟨v, rfl, F1, G, m1, S1, [w], s1, .cons rv .nil, hp1⟩⟩
/-! ### methods -/
theorem mt_ty {K : PySem.W.Frag} {T : String} {F G H : Hp} {m : List Addr} {S : Store} {w : W} {v : V} (hT : T = "str" ∨ T = "list" ∨ T = "dict") (hs : Sim K F G H m S) (r : RepW K F m w v) (h : mtIs T w S = true) : tyV K T v H := by
  rcases hT with rfl | rfl | rfl
  · unfold mtIs at h
    rw [if_pos rfl] at h
    split at h
    · cases strOf (dOf r); rfl
    · cases h
  · unfold mtIs at h
    rw [if_neg (by decide), if_neg (by decide)] at h
    cases e : lseq S w with
    | none => rw [e] at h; cases h
    | some xs =>
      obtain ⟨a, vs, rfl, _, hq⟩ := lseq_rep hs r e
      exact .inl ⟨rfl, vs, hq⟩
  · unfold mtIs at h
    rw [if_neg (by decide), if_pos rfl] at h
    split at h
    · rename_i n
      cases r with
      | @l _ a ea =>
      unfold dicOf at h
      simp only at h
      split at h
      · rename_i t es e
        obtain ⟨ho, h1, h2, h3, hb⟩ := hs.ob n _ a e ea
        refine .inr (.inr (.inl ⟨rfl, ?_⟩))
        cases hb with
        | k => exact .inl ⟨_, h1⟩
        | t => exact .inr ⟨_, h1⟩
      · cases h
    · cases h
theorem few_of {es : List Expr} {pos : Pos} {env : Env} (h : es.all plainE = true) (hl : es.length < 20) : ((backTo pos (starEach es env)).all (fun x => !x.1) && (backToKw pos (keywordEach [] env)).all (fun x => x.1.isSome) && decide (es.length + ([] : List Keyword).length + (if ([] : List Keyword).isEmpty then 0 else 1) < 30)) = true := by
  have h1 : ∀ es : List Expr, es.all plainE = true → (backTo pos (starEach es env)).all (fun x => !x.1) = true := by
    intro es
    induction es with
    | nil => intro _; rfl
    | cons e r ih =>
      intro h
      rw [List.all_cons, Bool.and_eq_true] at h
      rw [star_plain h.1]
      show (true && (backTo pos (starEach r env)).all (fun x => !x.1)) = true
      rw [ih h.2]
      rfl
  rw [h1 es h, decide_eq_true (by show es.length + 0 + 0 < 30; omega)]
  rfl
theorem rd_mt {name : Str} {apos cpos : Pos} {T id : String} {f : W → List W → Store → Out W} (pa : PlainAttrs T) (slot : Slot T name id) (hty : typeOf (.builtin id) = pure (.type "method_descriptor")) (hm : MtR X id (rM X.K X.mg E f)) (hT : T = "str" ∨ T = "list" ∨ T = "dict") (ha : RdE X E a da) (hr : RdA X E (b :: es) ds)
    (hpl : (b :: es).all plainE = true) (hfw : (b :: es).length < 20) (hbase : attributeBase a name X.env (eval a X.env) = eval a X.env) (hline : (apos.endLine == cpos.line) = true) :
    RdE X E (.Call (.Attribute a name apos) (b :: es) [] cpos) fun env S => (da env S).bind fun w S => if mtIs T w S = true then (ds env S).bind fun ws S => f w ws S else .bad := by
  have hp2 := hpl
  rw [List.all_cons, Bool.and_eq_true] at hp2
  refine PE.imp (fun σ H Q ⟨F, G, m, env, S, hs, he, hp⟩ => ?_) (pe_bm pa slot hty hm ha hr hbase (few_of hpl hfw) hline (star_plain hp2.1 es X.env) (star_any hp2.2))
  refine ⟨F, G, m, env, S, hs, he, hp.bind.mono fun w S1 F1 m1 H1 l s1 hp1 v rv => ?_⟩
  split at hp1
  · rename_i ht
    exact ⟨mt_ty hT s1 rv ht, F1, G, m1, env, S1, s1, he.le l, hp1.bind.mono fun ws S2 F2 m2 H2 l2 s2 hp2 vs rvs => ⟨F2, G, m2, S2, w, ws, s2, rv.le l2, rvs, hp2⟩⟩
  · exact hp1.elim
theorem rd_mt0 {name : Str} {apos cpos : Pos} {T id : String} {f : W → List W → Store → Out W} (pa : PlainAttrs T) (slot : Slot T name id) (hty : typeOf (.builtin id) = pure (.type "method_descriptor")) (hm : MtR X id (rM X.K X.mg E f)) (hT : T = "str" ∨ T = "list" ∨ T = "dict") (ha : RdE X E a da)
    (hbase : attributeBase a name X.env (eval a X.env) = eval a X.env) (hline : (apos.endLine == cpos.line) = true) :
    RdE X E (.Call (.Attribute a name apos) [] [] cpos) fun env S => (da env S).bind fun w S => if mtIs T w S = true then f w [] S else .bad := by
  refine PE.imp (fun σ H Q ⟨F, G, m, env, S, hs, he, hp⟩ => ?_) (pe_bm0 pa slot hty hm ha hbase hline)
  refine ⟨F, G, m, env, S, hs, he, hp.bind.mono fun w S1 F1 m1 H1 l s1 hp1 v rv => ?_⟩
  split at hp1
  · rename_i ht
    exact ⟨mt_ty hT s1 rv ht, F1, G, m1, S1, w, [], s1, rv, .nil, hp1⟩
  · exact hp1.elim
/-! ### slices -/
theorem PO.imp {o : Option Expr} {t t' : TO} (h : ∀ σ H Q, t' σ H Q → t σ H Q) (p : PO X o t) : PO X o t' := ⟨fun pins s σ H Q I q => p.run pins s σ H Q I (h σ H Q q)⟩
def tPt (K : PySem.W.Frag) (mg : Str → Option Value) (E : XK) (d : Ev → Store → Out (Option Int)) : TO := fun σ H R => ∃ F G m env S, Sim K F G H m S ∧ RepE K F m env σ ∧ Post K mg G E F m (d env S) fun i _ _ _ H' => R i H'
theorem po_no : PO X none (tPt X.K X.mg E fun _ S => .ok none S) := PO.imp (fun σ H R ⟨F, G, m, env, S, hs, he, hp⟩ => hp.now hs) po_none
theorem po_yes {e : Expr} {dl : Ev → Store → Out W} (h : RdE X E e dl) : PO X (some e) (tPt X.K X.mg E fun env S => (dl env S).bind boundI) := by
  refine PO.imp (fun σ H R ⟨F, G, m, env, S, hs, he, hp⟩ => ?_) (po_some h)
  refine ⟨F, G, m, env, S, hs, he, hp.bind.mono fun w S1 F1 m1 H1 l s1 hp1 v rv => ?_⟩
  unfold boundI at hp1
  split at hp1
  · cases intOf (dOf rv)
    exact ⟨_, rfl, hp1.now s1⟩
  · exact hp1.elim
theorem rd_slice {lo hi : Option Expr} {p2 : Pos} {dl dh : Ev → Store → Out (Option Int)} (ha : RdE X E a da) (hl : PO X lo (tPt X.K X.mg E dl)) (hh : PO X hi (tPt X.K X.mg E dh)) :
    RdE X E (.Subscript a (.Slice lo hi none p2) pos) fun env S => (da env S).bind fun x S => (dl env S).bind fun y S => (dh env S).bind fun z S => evSlice x y z S := by
  refine PE.imp (fun σ H Q ⟨F, G, m, env, S, hs, he, hp⟩ => ?_) (pe_slice (slr (mg := X.mg) (E := E)) ha hl hh)
  exact ⟨F, G, m, env, S, hs, he, hp.bind.mono fun w S1 F1 m1 H1 l s1 hp1 v rv => ⟨F1, G, m1, env, S1, s1, he.le l, hp1.bind.mono fun i S2 F2 m2 H2 l2 s2 hp2 => ⟨F2, G, m2, env, S2, s2, (he.le l).le l2, hp2.bind.mono fun j S3 F3 m3 H3 l3 s3 hp3 =>
    ⟨F3, G, m3, S3, w, s3, (rv.le l2).le l3, hp3⟩⟩⟩⟩
/-! ### list(range(..)) -/
theorem ws_ints {K : PySem.W.Frag} {F : Hp} {m : List Addr} {ws : List W} {vs : List V} (r : RepWs K F m ws vs) : (∀ i, ws = [.d (.int i)] → vs = [.int i]) ∧ ∀ i j, ws = [.d (.int i), .d (.int j)] → vs = [.int i, .int j] := by
  refine ⟨fun i e => ?_, fun i j e => ?_⟩
  · subst e
    obtain ⟨v, rfl, rv⟩ := one_rep r
    rw [intOf (dOf rv)]
  · subst e
    obtain ⟨v, v', rfl, rv, rv'⟩ := two_rep r
    rw [intOf (dOf rv), intOf (dOf rv')]
end
/-! ### what is walked -/
/-- J gives these items, one behind another, whatever grows (while the list at the place stays) -/
structure GivesW (K : PySem.W.Frag) (F : Hp) (m : List Addr) (ws : List W) (k : Option Nat) (J : It) : Prop where
  run : ∃ (Gd : Hp → Prop) (Y : Nat → Hp → V → Hp → Prop), Walk J ws.length Gd Y ∧ (∀ (F' G' : Hp) (m' : List Addr) (S : Store) (H : Hp), Le F m F' m' → Sim K F' G' H m' S → keeps k ws S = true → Gd H) ∧
    ∀ (i : Nat) (w : W) (F' G' : Hp) (m' : List Addr) (S : Store) (H : Hp) (x : V) (H' : Hp), ws[i]? = some w → Le F m F' m' → Sim K F' G' H m' S → keeps k ws S = true → Y i H x H' → ∃ F2, Le F' m' F2 m' ∧ Sim K F2 G' H' m' S ∧ RepW K F2 m' w x
def tIt (K : PySem.W.Frag) (mg : Str → Option Value) (E : XK) (d : Ev → Store → Out (List W × Option Nat)) : TI := fun σ H R => ∃ F G m env S, Sim K F G H m S ∧ RepE K F m env σ ∧ Post K mg G E F m (d env S) fun p _ F' m' H' => ∀ J, GivesW K F' m' p.1 p.2 J → R J H'
theorem PI.imp {X : Cx} {tg e : Expr} {t t' : TI} (h : ∀ σ H R, t' σ H R → t σ H R) (p : PI X tg e t) : PI X tg e t' := ⟨fun pins s σ H Q I q => p.run pins s σ H Q I (h σ H Q q)⟩
section
variable {X : Cx} {E : XK} {a b x tg : Expr} {pos : Pos} {da db : Ev → Store → Out W} {es : List Expr} {ds : Ev → Store → Out (List W)}
abbrev RdI (X : Cx) (E : XK) (tg x : Expr) (d : Ev → Store → Out (List W × Option Nat)) : Prop := PI X tg x (tIt X.K X.mg E d)
theorem reps_at {K : PySem.W.Frag} {F : Hp} {m : List Addr} {ws : List W} {vs : List V} {i : Nat} {w : W} {x : V} (r : RepWs K F m ws vs) (e : ws[i]? = some w) (h : vs[i]? = some x) : RepW K F m w x := by
  obtain ⟨v, h1, rv⟩ := r.get e
  rw [h] at h1
  cases h1
  exact rv
theorem reps_any {K : PySem.W.Frag} {F : Hp} {m m' : List Addr} : ∀ {xs : List D} {vs : List V}, RepWs K F m (xs.map .d) vs → RepWs K F m' (xs.map .d) vs
  | [], _, .nil => .nil
  | x :: xs, _, .cons a r => .cons (.d (dOf a)) (reps_any r)
theorem gives_list {K : PySem.W.Frag} {F : Hp} {m : List Addr} {a : Addr} {xs : List D} {vs : List V} (hq : SqL K F a vs) (r : RepDs K F xs vs) : GivesW K F m (xs.map .d) none (Itl K a) := by
  refine ⟨fun H => SqL K H a vs, YAt vs, by rw [List.length_map, r.length]; exact walk_list, fun F' G' m' S H l s _ => sqL_le s.fr (sqL_le l.f hq), ?_⟩
  rintro i w F' G' m S H x H' ew ⟨hf, _⟩ hs _ ⟨rfl, hx⟩
  exact ⟨F', .refl, hs, reps_at (m := m) (r.le hf).ws ew hx⟩
/-- a list of the store -/
theorem gives_place {K : PySem.W.Frag} {F : Hp} {m : List Addr} {n : Nat} {a : Addr} {ws : List W} (hm : m[n]? = some a) : GivesW K F m ws (some n) (Itl K a) := by
  have at_ : ∀ {F' G' : Hp} {m' : List Addr} {S : Store} {H : Hp}, Le F m F' m' → Sim K F' G' H m' S → keeps (some n) ws S = true → ∃ vs, H a = some (.lst vs) ∧ RepWs K F' m' ws vs := by
    intro F' G' m' S H l s hk
    unfold keeps at hk
    simp only at hk
    split at hk
    · rename_i ys e
      rw [← sameWs_eq hk]
      obtain ⟨b, vs, e2, h, r⟩ := s.at_ e
      obtain ⟨q, rfl⟩ := l.m
      rw [List.getElem?_append_left (List.getElem?_eq_some_iff.mp hm).1, hm] at e2
      cases e2
      exact ⟨vs, h, r⟩
    · cases hk
  refine ⟨fun H => ∃ vs, SqL K H a vs ∧ vs.length = ws.length, fun i H x H' => (Itl K a).yld i H x H', ⟨fun i H hi ⟨vs, q, e⟩ => ⟨vs, vs[i], q, by simp [e, hi]⟩, fun H ⟨vs, q, e⟩ => ⟨vs, q, by omega⟩, fun _ _ _ _ _ _ y => y⟩, fun F' G' m' S H l s hk => ?_, ?_⟩
  · obtain ⟨vs, h, r⟩ := at_ l s hk
    exact ⟨vs, .inl (.inl h), (ws_length r).symm⟩
  · rintro i w F' G' m' S H x H' ew l s hk ⟨rfl, hx⟩
    obtain ⟨vs, h, r⟩ := at_ l s hk
    exact ⟨F', .refl, s, reps_at r ew (hx vs (.inl (.inl h)))⟩
theorem gives_tup {K : PySem.W.Frag} {F : Hp} {m : List Addr} {a : Addr} {xs : List D} {vs : List V} (hq : SqT K F a vs) (r : RepDs K F xs vs) : GivesW K F m (xs.map .d) none (Itt K a) := by
  refine ⟨fun H => SqT K H a vs, YAt vs, by rw [List.length_map, r.length]; exact walk_tup, fun F' G' m' S H l s _ => sqT_le s.fr (sqT_le l.f hq), ?_⟩
  rintro i w F' G' m S H x H' ew ⟨hf, _⟩ hs _ ⟨rfl, hx⟩
  exact ⟨F', .refl, hs, reps_at (m := m) (r.le hf).ws ew hx⟩
theorem gives_range {K : PySem.W.Frag} {F : Hp} {m : List Addr} {lo hi : Int} : GivesW K F m (rangeL lo hi) none (Itr lo (hi - lo).toNat) := by
  refine ⟨fun _ => True, YFn fun i => .int (lo + i), by unfold rangeL; rw [List.length_map, List.length_range]; exact walk_range, fun _ _ _ _ _ _ _ _ => trivial, ?_⟩
  rintro i w F' G' m S H x H' ew ⟨hf, _⟩ hs _ ⟨rfl, rfl⟩
  refine ⟨F', .refl, hs, ?_⟩
  unfold rangeL at ew
  rw [List.getElem?_map] at ew
  obtain ⟨j, e1, rfl⟩ := map_of ew
  have e2 := List.getElem?_eq_some_iff.mp e1
  obtain ⟨h, e3⟩ := e2
  rw [List.getElem_range] at e3
  subst e3
  exact .d (.int _)
theorem gives_rangeC {K : PySem.W.Frag} {F : Hp} {m : List Addr} {lo c : Int} {n : Nat} : GivesW K F m (rangeC lo c n) none (Itc lo c n) := by
  refine ⟨fun _ => True, YFn fun i => .int (lo + (i : Nat) * c), by unfold rangeC; rw [List.length_map, List.length_range]; exact walk_rangeC, fun _ _ _ _ _ _ _ _ => trivial, ?_⟩
  rintro i w F' G' m S H x H' ew ⟨hf, _⟩ hs _ ⟨rfl, rfl⟩
  refine ⟨F', .refl, hs, ?_⟩
  unfold rangeC at ew
  rw [List.getElem?_map] at ew
  obtain ⟨j, e1, rfl⟩ := map_of ew
  obtain ⟨h, e3⟩ := List.getElem?_eq_some_iff.mp e1
  rw [List.getElem_range] at e3
  subst e3
  exact .d (.int _)
/-- new pairs -/
theorem pair_new {K : PySem.W.Frag} {F G H : Hp} {m : List Addr} {S : Store} {T : Addr} {x y : V} {dx dy : D} (hs : Sim K F G H m S) (hT : H T = none) (rx : RepD K F dx x) (ry : RepD K F dy y) : ∃ F2, Le F m F2 m ∧ Sim K F2 G (upd H T (.tup [x, y])) m S ∧ RepW K F2 m (.d (.tup [dx, dy])) (.ref T) := by
  obtain ⟨s1, l⟩ := hs.froze (.tup [x, y]) hT
  exact ⟨_, l, s1, .d (.tup upd_same (.cons (rx.le l.f) (.cons (ry.le l.f) .nil)))⟩
theorem enumW_get : ∀ (xs : List D) (n i : Nat), (enumW n xs)[i]? = (xs[i]?).map fun x => .d (.tup [.int ((n + i : Nat) : Int), x])
  | [], _, _ => by simp [enumW]
  | x :: xs, n, 0 => by simp [enumW]
  | x :: xs, n, i + 1 => by
    show (enumW (n + 1) xs)[i]? = _
    rw [enumW_get xs (n + 1) i]
    simp only [List.getElem?_cons_succ, show n + 1 + i = n + (i + 1) by omega]
theorem enumW_length : ∀ (xs : List D) (n : Nat), (enumW n xs).length = xs.length
  | [], _ => rfl
  | _ :: xs, n => by show (enumW (n + 1) xs).length + 1 = _; rw [enumW_length xs]; rfl
theorem RepDs.get {K : PySem.W.Frag} {F : Hp} : ∀ {xs : List D} {vs : List V} {i : Nat} {x : D} {v : V}, RepDs K F xs vs → xs[i]? = some x → vs[i]? = some v → RepD K F x v
  | _, _, _, _, _, .nil, e, _ => by simp at e
  | _, _, 0, _, _, .cons a _, e, h => by simp at e h; subst e; subst h; exact a
  | _, _, i + 1, _, _, .cons _ r, e, h => RepDs.get (i := i) r (by simpa using e) (by simpa using h)
theorem gives_enum {K : PySem.W.Frag} {F : Hp} {m : List Addr} {a : Addr} {xs : List D} {vs : List V} (hq : SqL K F a vs) (r : RepDs K F xs vs) : GivesW K F m (enumW 0 xs) none (Ite K a) := by
  refine ⟨fun H => SqL K H a vs, _, by rw [enumW_length, r.length]; exact walk_enum, fun F' G' m' S H l s _ => sqL_le s.fr (sqL_le l.f hq), ?_⟩
  rintro i w F' G' m S H x H' ew ⟨hf, _⟩ hs _ ⟨T, y, z, rfl, hT, rfl, e1, e2⟩
  rw [enumW_get] at ew
  obtain ⟨d, ed, rfl⟩ := map_of ew
  cases e1
  rw [show (0 + i : Nat) = i by omega]
  exact pair_new hs hT (.int _) ((r.le hf).get ed e2)
theorem walk_enT {K : PySem.W.Frag} {a : Addr} {xs : List V} : Walk (IteT K a) xs.length (fun H => SqT K H a xs) (YPair (fun i => some (.int (i : Nat))) (fun i => xs[i]?)) := by
  refine ⟨fun i _ hi q => ⟨xs, xs[i], q, by simp [hi]⟩, fun _ q => ⟨xs, q, rfl⟩, fun i H v H' _ q ⟨T, x, h1, h2, h3, h4⟩ => ⟨T, .int (i : Nat), x, h1, h2, h3, rfl, h4 xs q⟩⟩
theorem gives_enT {K : PySem.W.Frag} {F : Hp} {m : List Addr} {a : Addr} {xs : List D} {vs : List V} (hq : SqT K F a vs) (r : RepDs K F xs vs) : GivesW K F m (enumW 0 xs) none (IteT K a) := by
  refine ⟨fun H => SqT K H a vs, _, by rw [enumW_length, r.length]; exact walk_enT, fun F' G' m' S H l s _ => sqT_le s.fr (sqT_le l.f hq), ?_⟩
  rintro i w F' G' m S H x H' ew ⟨hf, _⟩ hs _ ⟨T, y, z, rfl, hT, rfl, e1, e2⟩
  rw [enumW_get] at ew
  obtain ⟨d, ed, rfl⟩ := map_of ew
  cases e1
  rw [show (0 + i : Nat) = i by omega]
  exact pair_new hs hT (.int _) ((r.le hf).get ed e2)
theorem zipW_get : ∀ (xs ys : List D) (i : Nat) (w : W), (zipW xs ys)[i]? = some w → ∃ x y, xs[i]? = some x ∧ ys[i]? = some y ∧ w = .d (.tup [x, y])
  | [], _, _, _, h => by simp [zipW] at h
  | _ :: _, [], _, _, h => by simp [zipW] at h
  | x :: xs, y :: ys, 0, w, h => by simp [zipW] at h; exact ⟨x, y, rfl, rfl, h.symm⟩
  | x :: xs, y :: ys, i + 1, w, h => by
    obtain ⟨u, v, h1, h2, h3⟩ := zipW_get xs ys i w (by simpa [zipW] using h)
    exact ⟨u, v, by simpa using h1, by simpa using h2, h3⟩
theorem zipW_length : ∀ (xs ys : List D), (zipW xs ys).length = min xs.length ys.length
  | [], _ => by simp [zipW]
  | _ :: _, [] => by simp [zipW]
  | _ :: xs, _ :: ys => by simp [zipW, zipW_length xs ys]
theorem gives_zip {K : PySem.W.Frag} {F : Hp} {m : List Addr} {a b : Addr} {xs ys : List D} {us vs : List V} (ha : SqL K F a us) (hb : SqL K F b vs) (r : RepDs K F xs us) (q : RepDs K F ys vs) : GivesW K F m (zipW xs ys) none (Itz K a b) := by
  refine ⟨fun H => SqL K H a us ∧ SqL K H b vs, _, by rw [zipW_length, r.length, q.length]; exact walk_zip rfl, fun F' G' m' S H l s _ => ⟨sqL_le s.fr (sqL_le l.f ha), sqL_le s.fr (sqL_le l.f hb)⟩, ?_⟩
  rintro i w F' G' m S H x H' ew ⟨hf, _⟩ hs _ ⟨T, y, z, rfl, hT, rfl, e1, e2⟩
  obtain ⟨d1, d2, e3, e4, rfl⟩ := zipW_get _ _ _ _ ew
  exact pair_new hs hT ((r.le hf).get e3 e1) ((q.le hf).get e4 e2)
theorem walk_zipT {K : PySem.W.Frag} {a b : Addr} {xs ys : List V} {n : Nat} (hn : n = min xs.length ys.length) : Walk (RZ.ItzT K a b) n (fun H => SqT K H a xs ∧ SqT K H b ys) (YPair (fun i => xs[i]?) (fun i => ys[i]?)) := by
  subst hn
  refine ⟨fun i _ hi q => ?_, fun _ q => ⟨xs, ys, q.1, q.2, by omega⟩, fun i H v H' _ q y => ?_⟩
  · have h1 : i < xs.length := by omega
    have h2 : i < ys.length := by omega
    exact ⟨xs, ys, _, _, q.1, q.2, List.getElem?_eq_getElem h1, List.getElem?_eq_getElem h2⟩
  · obtain ⟨T, x, z, h1, h2, h3, h4, h5⟩ := y
    exact ⟨T, x, z, h1, h2, h3, h4 xs q.1, h5 ys q.2⟩
theorem gives_zipT {K : PySem.W.Frag} {F : Hp} {m : List Addr} {a b : Addr} {xs ys : List D} {us vs : List V} (ha : SqT K F a us) (hb : SqT K F b vs) (r : RepDs K F xs us) (q : RepDs K F ys vs) : GivesW K F m (zipW xs ys) none (RZ.ItzT K a b) := by
  refine ⟨fun H => SqT K H a us ∧ SqT K H b vs, _, by rw [zipW_length, r.length, q.length]; exact walk_zipT rfl, fun F' G' m' S H l s _ => ⟨sqT_le s.fr (sqT_le l.f ha), sqT_le s.fr (sqT_le l.f hb)⟩, ?_⟩
  rintro i w F' G' m S H x H' ew ⟨hf, _⟩ hs _ ⟨T, y, z, rfl, hT, rfl, e1, e2⟩
  obtain ⟨d1, d2, e3, e4, rfl⟩ := zipW_get _ _ _ _ ew
  exact pair_new hs hT ((r.le hf).get e3 e1) ((q.le hf).get e4 e2)
theorem data_rep {K : PySem.W.Frag} {F : Hp} {m : List Addr} {w : W} {v : V} {xs : List D} (r : RepW K F m w v) (h : dataL w = some xs) : ∃ a vs, v = .ref a ∧ SqL K F a vs ∧ RepDs K F xs vs := by
  unfold dataL at h
  split at h
  · cases h; obtain ⟨a, vs, rfl, s, q⟩ := lstOf (dOf r); exact ⟨a, vs, rfl, .inl (.inl s), q⟩
  · cases h; obtain ⟨a, vs, rfl, s, q⟩ := rolOf (dOf r); exact ⟨a, vs, rfl, s, q⟩
  · cases h
theorem sqK_le {K : PySem.W.Frag} {F F' : Hp} {b : Bool} {a : Addr} {vs : List V} (h : ∀ a o, F a = some o → F' a = some o) (r : SqK K b F a vs) : SqK K b F' a vs := by
  unfold SqK at *
  cases b with
  | true => exact sqT_le h r
  | false => exact sqL_le h r
theorem data_repT {K : PySem.W.Frag} {F : Hp} {m : List Addr} {w : W} {v : V} {xs : List D} (r : RepW K F m w v) (h : dataT w = some xs) : ∃ b a vs, v = .ref a ∧ SqK K b F a vs ∧ RepDs K F xs vs := by
  unfold dataT at h
  split at h
  · cases h; obtain ⟨a, vs, rfl, s, q⟩ := tupOf (dOf r); exact ⟨true, a, vs, rfl, s, q⟩
  · cases h; obtain ⟨a, vs, rfl, s, q⟩ := rtpOf (dOf r); exact ⟨true, a, vs, rfl, s, q⟩
  · obtain ⟨a, vs, rfl, s, q⟩ := data_rep r h; exact ⟨false, a, vs, rfl, s, q⟩
theorem walk_zG {K : PySem.W.Frag} {b c : Bool} {a d : Addr} {xs ys : List V} : Walk (ItzG K b c a d) (min xs.length ys.length) (fun H => SqK K b H a xs ∧ SqK K c H d ys) (YPair (fun i => xs[i]?) (fun i => ys[i]?)) := by
  refine ⟨fun i _ hi q => ?_, fun _ q => ⟨xs, ys, q.1, q.2, by omega⟩, fun i H v H' _ q y => ?_⟩
  · have h1 : i < xs.length := by omega
    have h2 : i < ys.length := by omega
    exact ⟨xs, ys, xs[i], ys[i], q.1, q.2, by simp [h1], by simp [h2]⟩
  · obtain ⟨T, x, y, rfl, hT, rfl, e1, e2⟩ := y
    exact ⟨T, x, y, rfl, hT, rfl, e1 xs q.1, e2 ys q.2⟩
theorem gives_zG {K : PySem.W.Frag} {F : Hp} {m : List Addr} {p c : Bool} {a b : Addr} {xs ys : List D} {us vs : List V} (ha : SqK K p F a us) (hb : SqK K c F b vs) (r : RepDs K F xs us) (q : RepDs K F ys vs) : GivesW K F m (zipW xs ys) none (ItzG K p c a b) := by
  refine ⟨fun H => SqK K p H a us ∧ SqK K c H b vs, _, by rw [zipW_length, r.length, q.length]; exact walk_zG, fun F' G' m' S H l s _ => ⟨sqK_le s.fr (sqK_le l.f ha), sqK_le s.fr (sqK_le l.f hb)⟩, ?_⟩
  rintro i w F' G' m S H x H' ew ⟨hf, _⟩ hs _ ⟨T, y, z, rfl, hT, rfl, e1, e2⟩
  obtain ⟨d1, d2, e3, e4, rfl⟩ := zipW_get _ _ _ _ ew
  exact pair_new hs hT ((r.le hf).get e3 e1) ((q.le hf).get e4 e2)
/-- a new pair within a new pair with the number -/
def YEnz (f g : Nat → Option V) : Nat → Hp → V → Hp → Prop := fun i H v H' => ∃ T0 T x y, v = .ref T ∧ H T0 = none ∧ T ≠ T0 ∧ H T = none ∧ H' = upd (upd H T0 (.tup [x, y])) T (.tup [.int (i : Nat), .ref T0]) ∧ f i = some x ∧ g i = some y
theorem walk_eZ {K : PySem.W.Frag} {b c : Bool} {a d : Addr} {xs ys : List V} : Walk (ItzE K b c a d) (min xs.length ys.length) (fun H => SqK K b H a xs ∧ SqK K c H d ys) (YEnz (fun i => xs[i]?) (fun i => ys[i]?)) := by
  refine ⟨fun i _ hi q => ?_, fun _ q => ⟨xs, ys, q.1, q.2, by omega⟩, fun i H v H' _ q y => ?_⟩
  · have h1 : i < xs.length := by omega
    have h2 : i < ys.length := by omega
    exact ⟨xs, ys, xs[i], ys[i], q.1, q.2, by simp [h1], by simp [h2]⟩
  · obtain ⟨T0, T, x, y, rfl, h0, hn, hT, rfl, e1, e2⟩ := y
    exact ⟨T0, T, x, y, rfl, h0, hn, hT, rfl, e1 xs q.1, e2 ys q.2⟩
theorem zipP_length : ∀ (xs ys : List D), (zipP xs ys).length = min xs.length ys.length
  | [], _ => by simp [zipP]
  | _ :: _, [] => by simp [zipP]
  | x :: xs, y :: ys => by simp [zipP, zipP_length xs ys]
theorem zipP_get : ∀ (xs ys : List D) (i : Nat) (w : D), (zipP xs ys)[i]? = some w → ∃ x y, xs[i]? = some x ∧ ys[i]? = some y ∧ w = .tup [x, y]
  | [], _, _, _, h => by simp [zipP] at h
  | _ :: _, [], _, _, h => by simp [zipP] at h
  | x :: xs, y :: ys, 0, w, h => by simp [zipP] at h; exact ⟨x, y, rfl, rfl, h.symm⟩
  | x :: xs, y :: ys, i + 1, w, h => by
    obtain ⟨u, v, h1, h2, h3⟩ := zipP_get xs ys i w (by simpa [zipP] using h)
    exact ⟨u, v, by simpa using h1, by simpa using h2, h3⟩
theorem gives_eZ {K : PySem.W.Frag} {F : Hp} {m : List Addr} {p c : Bool} {a b : Addr} {xs ys : List D} {us vs : List V} (ha : SqK K p F a us) (hb : SqK K c F b vs) (r : RepDs K F xs us) (q : RepDs K F ys vs) : GivesW K F m (enumW 0 (zipP xs ys)) none (ItzE K p c a b) := by
  refine ⟨fun H => SqK K p H a us ∧ SqK K c H b vs, _, by rw [enumW_length, zipP_length, r.length, q.length]; exact walk_eZ, fun F' G' m' S H l s _ => ⟨sqK_le s.fr (sqK_le l.f ha), sqK_le s.fr (sqK_le l.f hb)⟩, ?_⟩
  rintro i w F' G' m S H x H' ew ⟨hf, _⟩ hs _ ⟨T0, T, y, z, rfl, h0, hn, hT, rfl, e1, e2⟩
  rw [enumW_get] at ew
  obtain ⟨d, ed, rfl⟩ := map_of ew
  obtain ⟨d1, d2, e3, e4, rfl⟩ := zipP_get _ _ _ _ ed
  rw [show (0 + i : Nat) = i by omega]
  obtain ⟨F2, l2, s2, r2⟩ := pair_new hs h0 ((r.le hf).get e3 e1) ((q.le hf).get e4 e2)
  obtain ⟨F3, l3, s3, r3⟩ := pair_new s2 (show upd H T0 _ T = none by rw [upd_ne hn]; exact hT) (RepD.int (i : Nat)) (dOf r2)
  exact ⟨F3, l2.trans l3, s3, r3⟩
/-- the pairs of a locked dict -/
theorem walk_itT {d : Addr} {o : Obj} {kvs : List (List L2.Key × V)} : Walk (ItiT d o kvs) kvs.length (fun H => H d = some (.frz o (.dT kvs))) (fun i H x H' => ∃ T q k v, kvs[i]? = some (k, v) ∧ x = .ref T ∧ H q = some (.tup (k.map kV)) ∧ H T = none ∧ H' = upd H T (.tup [.ref q, v])) :=
  ⟨fun i _ hi q => ⟨q, hi⟩, fun _ q => ⟨q, Nat.le_refl _⟩, fun _ _ _ _ _ _ y => y⟩
theorem walk_itK {d : Addr} {o : Obj} {kvs : List (L2.Key × V)} : Walk (Iti d o kvs) kvs.length (fun H => H d = some (.frz o (.dK kvs))) (fun i H x H' => ∃ T k v, kvs[i]? = some (k, v) ∧ x = .ref T ∧ H T = none ∧ H' = upd H T (.tup [kV k, v])) :=
  ⟨fun i _ hi q => ⟨q, hi⟩, fun _ q => ⟨q, Nat.le_refl _⟩, fun _ _ _ _ _ _ y => y⟩
theorem keyK_mk {K : PySem.W.Frag} {F : Hp} : ∀ {d : D} {k : L2.Key}, keyK d = some k → RepD K F d (kV k)
  | .int i, _, h => by cases h; exact .int i
  | .str x, _, h => by cases h; exact .str x
  | .non, _, h | .bl _, _, h | .tup _, _, h | .lst _, _, h | .rol _, _, h | .rtp _, _, h | .dct _ _ _, _, h => by cases h
theorem keyKs_mk {K : PySem.W.Frag} {F : Hp} : ∀ {d : List D} {k : List L2.Key}, keyKs d = some k → RepDs K F d (k.map kV)
  | [], _, h => by cases h; exact .nil
  | x :: xs, k, h => by
    unfold keyKs at h
    cases e : keyK x with
    | none => rw [e] at h; cases h
    | some z =>
      rw [e] at h
      cases e2 : keyKs xs with
      | none => rw [e2] at h; cases h
      | some q =>
        rw [e2] at h
        have h : some (z :: q) = some k := h
        cases h
        exact .cons (keyK_mk e) (keyKs_mk e2)
theorem keyT_mk {K : PySem.W.Frag} {F : Hp} {q : Addr} : ∀ {d : D} {k : List L2.Key}, keyT d = some k → F q = some (.tup (k.map kV)) → RepD K F d (.ref q)
  | .tup xs, k, h, e => .tup e (keyKs_mk h)
  | .non, _, h, _ | .bl _, _, h, _ | .int _, _, h, _ | .str _, _, h, _ | .lst _, _, h, _ | .rol _, _, h, _ | .rtp _, _, h, _ | .dct _ _ _, _, h, _ => by cases h
theorem len_keys {α β κ : Type} {f : α → Option κ} {g : β → κ} {ks : List α} {kvs : List β} (e : ks.map f = kvs.map fun kv => some (g kv)) : ks.length = kvs.length := by
  have := congrArg List.length e
  simpa using this
theorem gives_itT {K : PySem.W.Frag} {F : Hp} {m : List Addr} {d : Addr} {o : Obj} {kvs : List (List L2.Key × V)} {ks xs : List D} (hq : F d = some (.frz o (.dT kvs))) (e : ks.map keyT = kvs.map (fun kv => some kv.1)) (r : RepDs K F xs (kvs.map (·.2))) : GivesW K F m (zipW ks xs) none (ItiT d o kvs) := by
  have hl := len_keys e
  have hx := r.length
  rw [List.length_map] at hx
  refine ⟨fun H => H d = some (.frz o (.dT kvs)), _, by rw [zipW_length, hl, hx, Nat.min_self]; exact walk_itT, fun F' G' m' S H l s _ => s.fr _ _ (l.f _ _ hq), ?_⟩
  rintro i w F' G' m S H x H' ew ⟨hf, _⟩ hs _ ⟨T, q, k, v, ekv, rfl, hqk, hT, rfl⟩
  obtain ⟨d1, d2, e3, e4, rfl⟩ := zipW_get _ _ _ _ ew
  have ek : keyT d1 = some k := by
    have := congrArg (fun l => l[i]?) e
    simp only [List.getElem?_map, e3, ekv, Option.map_some] at this
    exact Option.some.inj this
  obtain ⟨s2, l2⟩ := hs.addT hqk
  obtain ⟨F3, l3, s3, r3⟩ := pair_new s2 hT (keyT_mk ek upd_same) (((r.le hf).get e4 (by rw [List.getElem?_map, ekv]; rfl)).le l2.f)
  exact ⟨F3, l2.trans l3, s3, r3⟩
theorem gives_itK {K : PySem.W.Frag} {F : Hp} {m : List Addr} {d : Addr} {o : Obj} {kvs : List (L2.Key × V)} {ks xs : List D} (hq : F d = some (.frz o (.dK kvs))) (e : ks.map keyK = kvs.map (fun kv => some kv.1)) (r : RepDs K F xs (kvs.map (·.2))) : GivesW K F m (zipW ks xs) none (Iti d o kvs) := by
  have hl := len_keys e
  have hx := r.length
  rw [List.length_map] at hx
  refine ⟨fun H => H d = some (.frz o (.dK kvs)), _, by rw [zipW_length, hl, hx, Nat.min_self]; exact walk_itK, fun F' G' m' S H l s _ => s.fr _ _ (l.f _ _ hq), ?_⟩
  rintro i w F' G' m S H x H' ew ⟨hf, _⟩ hs _ ⟨T, k, v, ekv, rfl, hT, rfl⟩
  obtain ⟨d1, d2, e3, e4, rfl⟩ := zipW_get _ _ _ _ ew
  have ek : keyK d1 = some k := by
    have := congrArg (fun l => l[i]?) e
    simp only [List.getElem?_map, e3, ekv, Option.map_some] at this
    exact Option.some.inj this
  exact pair_new hs hT (keyK_mk ek) ((r.le hf).get e4 (by rw [List.getElem?_map, ekv]; rfl))
end
end DL
/-! DLi: iterables, targets, comprehensions, calls of defs. -/
namespace DL
open PySem PySem.Spec PyProof.Rows L2

section
variable {X : Cx} {E : XK} {a b x tg : Expr} {pos : Pos} {da db : Ev → Store → Out W} {es : List Expr} {ds : Ev → Store → Out (List W)}
/-- a list or a tuple: which one the value tells -/
def iSeq (K : PySem.W.Frag) (te : TE) : TI := fun σ H R => te σ H fun x H1 => ∃ a, x = .ref a ∧ ((∃ xs, SqL K H1 a xs) ∧ R (Itl K a) H1 ∨ (∃ xs, SqT K H1 a xs) ∧ R (Itt K a) H1)
theorem pi_seq {te : TE} (h : PE X x te) : PI X tg x (iSeq X.K te) := by
  refine ⟨fun pins s σ H R I hh => ?_⟩
  refine thn (h.run pins s σ H _ I hh) fun v s1 ⟨y, H1, I1, r1, a, e, q⟩ => ?_
  subst e
  have hb : PE X x (fun σ' H' Q' => σ' = σ ∧ H' = H ∧ te σ H Q') := ⟨fun pins s σ' H' Q' I' hq => by obtain ⟨rfl, rfl, hq⟩ := hq; exact h.run pins s _ _ Q' I' hq⟩
  rcases q with ⟨⟨xs, hq⟩, q⟩ | ⟨⟨xs, hq⟩, q⟩
  · cases r1
    obtain ⟨its, rv, p, hz⟩ := I1.list hq
    refine wpAny_pyIter_list p.isList ?_
    refine ⟨s1.heap.objs.size, [s1.heap.objs.size], _, _, H1, rfl, I1.kept (t' := s1.toks) fun b o e => Heap.get?_push_of_some _ e, turn_list a _, ⟨_, Heap.get?_push_size _ rfl, rfl, rfl⟩, fun b hb => ?_, q⟩
    cases List.mem_singleton.mp hb
    exact I1.fpOk (Nat.le_refl _) (I1.hok.fresh (Nat.le_refl _))
  · cases r1
    obtain ⟨its, rv, p, hz⟩ := I1.tuple hq
    refine wpAny_pyIter_tuple (show s1.heap.IsTuple a its.toArray from p) ?_
    refine ⟨s1.heap.objs.size, [s1.heap.objs.size], _, _, H1, rfl, I1.kept (t' := s1.toks) fun b o e => Heap.get?_push_of_some _ e, turn_tuple a _, ⟨_, Heap.get?_push_size _ rfl, rfl, rfl⟩, fun b hb => ?_, q⟩
    cases List.mem_singleton.mp hb
    exact I1.fpOk (Nat.le_refl _) (I1.hok.fresh (Nat.le_refl _))
theorem ri_seq (ha : RdE X E a da) : RdI X E tg a fun env S => (da env S).bind fun x S => Out.of (itemsD S x) S := by
  refine PI.imp (fun σ H R ⟨F, G, m, env, S, hs, he, hp⟩ => ?_) (pi_seq ha)
  refine ⟨F, G, m, env, S, hs, he, hp.bind.mono fun w S1 F1 m1 H1 l s1 hp1 v rv => ?_⟩
  obtain ⟨ws, e, hp1⟩ := Post.of hp1
  unfold itemsD at e
  split at e
  · cases e
    obtain ⟨a, vs, rfl, sq, r⟩ := tupOf (dOf rv)
    exact ⟨a, rfl, .inr ⟨⟨vs, sqT_le s1.fr sq⟩, hp1.now s1 _ (gives_tup sq r)⟩⟩
  · cases e
    obtain ⟨a, vs, rfl, sq, r⟩ := lstOf (dOf rv)
    exact ⟨a, rfl, .inl ⟨⟨vs, .inl (.inl (s1.fr _ _ sq))⟩, hp1.now s1 _ (gives_list (.inl (.inl sq)) r)⟩⟩
  · cases e
    obtain ⟨a, vs, rfl, sq, r⟩ := rolOf (dOf rv)
    exact ⟨a, rfl, .inl ⟨⟨vs, sqL_le s1.fr sq⟩, hp1.now s1 _ (gives_list sq r)⟩⟩
  · cases e
    obtain ⟨a, vs, rfl, sq, r⟩ := rtpOf (dOf rv)
    exact ⟨a, rfl, .inr ⟨⟨vs, sqT_le s1.fr sq⟩, hp1.now s1 _ (gives_tup sq r)⟩⟩
  · split at e
    · rename_i xs hx
      cases e
      obtain ⟨b, vs, e1, e2, r⟩ := s1.at_ hx
      cases rv with
      | @l n' a ea =>
        rw [e1] at ea
        cases ea
        exact ⟨b, rfl, .inl ⟨⟨vs, .inl (.inl e2)⟩, hp1.now s1 _ (gives_place e1)⟩⟩
    · cases e
  · cases e
theorem range_of {ws : List W} {xs : List W} (h : rangeOf ws = some xs) : (∃ n, ws = [.d (.int n)] ∧ rangeOk n = true ∧ xs = rangeL 0 n) ∨ ∃ a b, ws = [.d (.int a), .d (.int b)] ∧ rangeOk a = true ∧ rangeOk b = true ∧ xs = rangeL a b := by
  unfold rangeOf at h
  split at h
  · split at h
    · rename_i hk; cases h; exact .inl ⟨_, rfl, hk, rfl⟩
    · cases h
  · split at h
    · rename_i hk
      cases h
      rw [Bool.and_eq_true] at hk
      exact .inr ⟨_, _, rfl, hk.1, hk.2, rfl⟩
    · cases h
  · cases h
theorem ri_range1 {p : Pos} (hg : Gl X "range") (hm : X.mg "range" = none) (ha : RdE X E a da) (hp : plainE a = true) : RdI X E tg (.Call (.Name "range" p) [a] [] pos) fun env S => (da env S).bind fun x S => Out.of ((rangeOf [x]).map fun xs => (xs, none)) S := by
  refine PI.imp (fun σ H R ⟨F, G, m, env, S, hs, he, hp⟩ => ?_) (pi_range1 hg hm (pa_cons ha pa_nil (star_plain hp [] X.env)) (star_plain hp [] X.env))
  refine ⟨F, G, m, env, S, hs, he, hp.bind.mono fun w S1 F1 m1 H1 l s1 hp1 v rv => ?_⟩
  obtain ⟨_, e0, hq⟩ := Post.of hp1
  obtain ⟨xs, e, rfl⟩ := map_of e0
  rcases range_of e with ⟨n, e2, hk, rfl⟩ | ⟨n, n', e2, hk, hk', rfl⟩
  · cases e2
    cases intOf (dOf rv)
    have hk := of_decide_eq_true hk
    refine ⟨n, rfl, hk.1, hk.2, ?_⟩
    have q := hq.now s1 _ gives_range
    rw [show (n - 0).toNat = n.toNat by congr 1; omega] at q
    exact q
  · cases e2
theorem ri_range2 {p : Pos} (hg : Gl X "range") (hm : X.mg "range" = none) (ha : RdE X E a da) (hb : RdE X E b db) (hp : plainE a = true) (hp2 : plainE b = true) : RdI X E tg (.Call (.Name "range" p) [a, b] [] pos) fun env S => (da env S).bind fun x S => (db env S).bind fun y S => Out.of ((rangeOf [x, y]).map fun xs => (xs, none)) S := by
  refine PI.imp (fun σ H R ⟨F, G, m, env, S, hs, he, hp⟩ => ?_) (pi_range2 hg hm (pa_cons ha (pa_cons hb pa_nil (star_plain hp2 [] X.env)) (star_plain hp [b] X.env)) (by rw [star_plain hp, star_plain hp2]; rfl) (star_plain hp2 [] X.env))
  refine ⟨F, G, m, env, S, hs, he, hp.bind.mono fun w S1 F1 m1 H1 l s1 hp1 v rv => ⟨F1, G, m1, env, S1, s1, he.le l, hp1.bind.mono fun w2 S2 F2 m2 H2 l2 s2 hp2 v2 rv2 => ?_⟩⟩
  obtain ⟨_, e0, hq⟩ := Post.of hp2
  obtain ⟨xs, e, rfl⟩ := map_of e0
  rcases range_of e with ⟨n, e2, hk, rfl⟩ | ⟨n, n', e2, hk, hk', rfl⟩
  · cases e2
  · cases e2
    cases intOf (dOf rv)
    cases intOf (dOf rv2)
    have hk := of_decide_eq_true hk
    have hk' := of_decide_eq_true hk'
    exact ⟨n, n', rfl, ⟨hk.1, hk.2, hk'.1, hk'.2⟩, hq.now s2 _ gives_range⟩
theorem ri_enum {p tpos : Pos} {elts : List Expr} {kk : Nat} (hg : Gl X "enumerate") (hm : X.mg "enumerate" = none) (ha : RdE X E a da) (hp : plainE a = true) : RdI X E (.Tuple elts kk tpos) (.Call (.Name "enumerate" p) [a] [] pos) fun env S => (da env S).bind fun x S => Out.of ((dataT x).map fun xs => (enumW 0 xs, none)) S := by
  refine PI.imp (fun σ H R ⟨F, G, m, env, S, hs, he, hp⟩ => ?_) (pi_enumA hg hm (pa_cons ha pa_nil (star_plain hp [] X.env)) (star_plain hp [] X.env))
  refine ⟨F, G, m, env, S, hs, he, hp.bind.mono fun w S1 F1 m1 H1 l s1 hp1 v rv => ?_⟩
  obtain ⟨ws, e, hp1⟩ := Post.of hp1
  obtain ⟨xs, e1, rfl⟩ := map_of e
  unfold dataT at e1
  split at e1
  · cases e1
    obtain ⟨c, vs, rfl, sq, r⟩ := tupOf (dOf rv)
    exact ⟨c, rfl, .inr ⟨⟨vs, sqT_le s1.fr sq⟩, hp1.now s1 _ (gives_enT sq r)⟩⟩
  · cases e1
    obtain ⟨c, vs, rfl, sq, r⟩ := rtpOf (dOf rv)
    exact ⟨c, rfl, .inr ⟨⟨vs, sqT_le s1.fr sq⟩, hp1.now s1 _ (gives_enT sq r)⟩⟩
  · obtain ⟨c, vs, rfl, sq, r⟩ := data_rep rv e1
    exact ⟨c, rfl, .inl ⟨⟨vs, sqL_le s1.fr sq⟩, hp1.now s1 _ (gives_enum sq r)⟩⟩
theorem ri_range3 {c : Expr} {dc : Ev → Store → Out W} {p : Pos} (hg : Gl X "range") (hm : X.mg "range" = none) (ha : RdE X E a da) (hb : RdE X E b db) (hc : RdE X E c dc) (hp : plainE a = true) (hp2 : plainE b = true) (hp3 : plainE c = true) :
    RdI X E tg (.Call (.Name "range" p) [a, b, c] [] pos) fun env S => (da env S).bind fun x S => (db env S).bind fun y S => (dc env S).bind fun z S => Out.of ((range3L x y z).map fun xs => (xs, none)) S := by
  refine PI.imp (fun σ H R ⟨F, G, m, env, S, hs, he, hp⟩ => ?_) (pi_range3 hg hm (pa_cons ha (pa_cons hb (pa_cons hc pa_nil (star_plain hp3 [] X.env)) (star_plain hp2 [c] X.env)) (star_plain hp [b, c] X.env)) (star_plain hp [b, c] X.env) (star_any (by rw [List.all_cons, List.all_cons, hp2, hp3]; rfl)))
  refine ⟨F, G, m, env, S, hs, he, hp.bind.mono fun w S1 F1 m1 H1 l s1 hp1 v rv => ⟨F1, G, m1, env, S1, s1, he.le l, hp1.bind.mono fun w2 S2 F2 m2 H2 l2 s2 hp2 v2 rv2 => ⟨F2, G, m2, env, S2, s2, (he.le l).le l2, hp2.bind.mono fun w3 S3 F3 m3 H3 l3 s3 hp3 v3 rv3 => ?_⟩⟩⟩
  obtain ⟨_, e0, hq⟩ := Post.of hp3
  obtain ⟨xs, e, rfl⟩ := map_of e0
  unfold range3L at e
  split at e
  · split at e
    · rename_i hk
      cases e
      simp only [rgOk, Bool.and_eq_true, decide_eq_true_eq] at hk
      obtain ⟨⟨⟨k1, k2⟩, k3⟩, k4⟩ := hk
      cases intOf (dOf rv)
      cases intOf (dOf rv2)
      cases intOf (dOf rv3)
      exact ⟨_, _, _, _, rfl, ⟨k1, k2, k3, (Int.toNat_of_nonneg k4).symm⟩, hq.now s3 _ gives_rangeC⟩
    · cases e
  · cases e
theorem ri_zip {p tpos : Pos} {elts : List Expr} {kk : Nat} (hg : Gl X "zip") (hm : X.mg "zip" = none) (ha : RdE X E a da) (hb : RdE X E b db) (hp : plainE a = true) (hp2 : plainE b = true) : RdI X E (.Tuple elts kk tpos) (.Call (.Name "zip" p) [a, b] [] pos) fun env S => (da env S).bind fun x S => (db env S).bind fun y S => Out.of ((zipD x y).map fun xs => (xs, none)) S := by
  refine PI.imp (fun σ H R ⟨F, G, m, env, S, hs, he, hp⟩ => ?_) (pi_zipG hg hm (pa_cons ha (pa_cons hb pa_nil (star_plain hp2 [] X.env)) (star_plain hp [b] X.env)) (star_plain hp [b] X.env) (star_any (by rw [List.all_cons, hp2]; rfl)))
  refine ⟨F, G, m, env, S, hs, he, hp.bind.mono fun w S1 F1 m1 H1 l s1 hp1 v rv => ⟨F1, G, m1, env, S1, s1, he.le l, hp1.bind.mono fun w2 S2 F2 m2 H2 l2 s2 hp2 v2 rv2 => ?_⟩⟩
  obtain ⟨_, e0, hp2⟩ := Post.of hp2
  obtain ⟨ws, e, rfl⟩ := map_of e0
  obtain ⟨xs, e1, e2⟩ := bind_of e
  obtain ⟨ys, e3, rfl⟩ := map_of e2
  obtain ⟨k1, c, us, rfl, sq, r⟩ := data_repT rv e1
  obtain ⟨k2, d, vs, rfl, sq2, r2⟩ := data_repT rv2 e3
  exact ⟨c, d, k1, k2, us, vs, rfl, sqK_le s2.fr (sqK_le l2.f sq), sqK_le s2.fr sq2, hp2.now s2 _ (gives_zG (sqK_le l2.f sq) sq2 (r.le l2.f) r2)⟩
theorem ri_enz {p p0 pos2 tpos : Pos} {elts : List Expr} {kk : Nat} (hg0 : Gl X "enumerate") (hm0 : X.mg "enumerate" = none) (hg : Gl X "zip") (hm : X.mg "zip" = none) (ha : RdE X E a da) (hb : RdE X E b db) (hp : plainE a = true) (hp2 : plainE b = true) :
    RdI X E (.Tuple elts kk tpos) (.Call (.Name "enumerate" p0) [.Call (.Name "zip" p) [a, b] [] pos2] [] pos) fun env S => (da env S).bind fun x S => (db env S).bind fun y S => Out.of ((enzD x y).map fun xs => (xs, none)) S := by
  refine PI.imp (fun σ H R ⟨F, G, m, env, S, hs, he, hp⟩ => ?_) (pi_enZ hg0 hm0 hg hm (pa_cons ha (pa_cons hb pa_nil (star_plain hp2 [] X.env)) (star_plain hp [b] X.env)) (star_plain hp [b] X.env) (star_any (by rw [List.all_cons, hp2]; rfl)))
  refine ⟨F, G, m, env, S, hs, he, hp.bind.mono fun w S1 F1 m1 H1 l s1 hp1 v rv => ⟨F1, G, m1, env, S1, s1, he.le l, hp1.bind.mono fun w2 S2 F2 m2 H2 l2 s2 hp2 v2 rv2 => ?_⟩⟩
  obtain ⟨_, e0, hp2⟩ := Post.of hp2
  obtain ⟨ws, e, rfl⟩ := map_of e0
  obtain ⟨xs, e1, e2⟩ := bind_of e
  obtain ⟨ys, e3, rfl⟩ := map_of e2
  obtain ⟨k1, c, us, rfl, sq, r⟩ := data_repT rv e1
  obtain ⟨k2, d, vs, rfl, sq2, r2⟩ := data_repT rv2 e3
  exact ⟨c, d, k1, k2, us, vs, rfl, sqK_le s2.fr (sqK_le l2.f sq), sqK_le s2.fr sq2, hp2.now s2 _ (gives_eZ (sqK_le l2.f sq) sq2 (r.le l2.f) r2)⟩
theorem ri_items {apos cpos tpos : Pos} {elts : List Expr} {kk : Nat} (ha : RdE X E a da) (hbase : attributeBase a "items" X.env (eval a X.env) = eval a X.env) (hline : (apos.endLine == cpos.line) = true) : RdI X E (.Tuple elts kk tpos) (.Call (.Attribute a "items" apos) [] [] cpos) fun env S => (da env S).bind fun x S => Out.of ((itemsW x).map fun xs => (xs, none)) S := by
  refine PI.imp (fun σ H R ⟨F, G, m, env, S, hs, he, hp⟩ => ?_) (pi_itemsA ha hbase hline)
  refine ⟨F, G, m, env, S, hs, he, hp.bind.mono fun w S1 F1 m1 H1 l s1 hp1 v rv => ?_⟩
  obtain ⟨_, e0, hp1⟩ := Post.of hp1
  obtain ⟨ws, e, rfl⟩ := map_of e0
  unfold itemsW at e
  split at e
  · cases e
    cases rv with
    | d rv =>
    cases rv with
    | dctT s k ev r =>
      subst ev
      exact ⟨_, _, rfl, .inr ⟨_, s1.fr _ _ s, hp1.now s1 _ (gives_itT s k r)⟩⟩
    | dctK s k ev r =>
      subst ev
      exact ⟨_, _, rfl, .inl ⟨_, s1.fr _ _ s, hp1.now s1 _ (gives_itK s k r)⟩⟩
  · cases e
/-- list(range(..)) -/
theorem range_reps {K : PySem.W.Frag} {F : Hp} (a b : Int) : RepDs K F ((List.range (b - a).toNat).map fun (i : Nat) => .int (a + (i : Int))) (rgV a b) := by
  unfold rgV
  generalize List.range (b - a).toNat = l
  induction l with
  | nil => exact .nil
  | cons x r ih => exact .cons (.int _) ih
theorem lrange_end {F G H : Hp} {m : List Addr} {S : Store} {k : Bool} {lo hi : Int} {Q : VK} (h1 : rangeOk lo = true) (h2 : rangeOk hi = true) (hs : Sim X.K F G H m S) (hp : Post X.K X.mg G E F m (newL k (rangeL lo hi) S) (kW X.K Q)) : RgOk lo hi ∧ ∀ q, H q = none → Q (.ref q) (upd H q (.lst (rgV lo hi))) := by
  have h1 := of_decide_eq_true h1
  have h2 := of_decide_eq_true h2
  have r : RepWs X.K F m (rangeL lo hi) (rgV lo hi) := by
    have q := (range_reps (K := X.K) (F := F) lo hi).ws (m := m)
    rw [List.map_map] at q
    exact q
  obtain ⟨q1, q2⟩ := newL_end hs r hp
  rw [rgV_length] at q1
  exact ⟨⟨h1.1, h1.2, h2.1, h2.2, Nat.le_trans q1 (by decide)⟩, q2⟩
theorem rd_lrange1 {k : Bool} {p p2 pos2 : Pos} (hc : X.calm = true) (hg : Gl X "list") (hm : X.mg "list" = none) (hg2 : Gl X "range") (hm2 : X.mg "range" = none) (ha : RdE X E a da) (hp : plainE a = true) : RdE X E (.Call (.Name "list" p) [.Call (.Name "range" p2) [a] [] pos2] [] pos) fun env S => (da env S).bind fun x S => (Out.of (rangeOf [x]) S).bind fun xs S => newL k xs S := by
  refine PE.imp (fun σ H Q ⟨F, G, m, env, S, hs, he, hp⟩ => ?_) (pe_listRg hc hg hm (prg_1 hg2 hm2 ha (star_plain hp [] X.env)) (star_plain rfl [] X.env))
  refine ⟨F, G, m, env, S, hs, he, hp.bind.mono fun w S1 F1 m1 H1 l s1 hp1 v rv => ?_⟩
  cases e : rangeOf [w] with
  | none => rw [e] at hp1; exact hp1.elim
  | some xs =>
    rw [e] at hp1
    rcases range_of e with ⟨n, e2, hk, rfl⟩ | ⟨n, n', e2, hk, hk', rfl⟩
    · cases e2
      cases intOf (dOf rv)
      exact ⟨n, rfl, lrange_end (by decide) hk s1 hp1⟩
    · cases e2
theorem rd_lrange2 {k : Bool} {p p2 pos2 : Pos} (hc : X.calm = true) (hg : Gl X "list") (hm : X.mg "list" = none) (hg2 : Gl X "range") (hm2 : X.mg "range" = none) (ha : RdE X E a da) (hb : RdE X E b db) (hp : plainE a = true) (hp2 : plainE b = true) : RdE X E (.Call (.Name "list" p) [.Call (.Name "range" p2) [a, b] [] pos2] [] pos) fun env S => (da env S).bind fun x S => (db env S).bind fun y S => (Out.of (rangeOf [x, y]) S).bind fun xs S => newL k xs S := by
  refine PE.imp (fun σ H Q ⟨F, G, m, env, S, hs, he, hp⟩ => ?_) (pe_listRg hc hg hm (prg_2 hg2 hm2 ha hb (hp := star_any (by rw [List.all_cons, hp2]; rfl)) (nb := star_plain hp2 [] X.env) (na := star_plain hp [b] X.env)) (star_plain rfl [] X.env))
  refine ⟨F, G, m, env, S, hs, he, hp.bind.mono fun w S1 F1 m1 H1 l s1 hp1 v rv => ⟨F1, G, m1, env, S1, s1, he.le l, hp1.bind.mono fun w2 S2 F2 m2 H2 l2 s2 hp2 v2 rv2 => ?_⟩⟩
  cases e : rangeOf [w, w2] with
  | none => rw [e] at hp2; exact hp2.elim
  | some xs =>
    rw [e] at hp2
    rcases range_of e with ⟨n, e2, hk, rfl⟩ | ⟨n, n', e2, hk, hk', rfl⟩
    · cases e2
    · cases e2
      cases intOf (dOf rv)
      cases intOf (dOf rv2)
      exact ⟨n, n', rfl, rfl, lrange_end hk hk' s2 hp2⟩

/-! ### targets -/
mutual
def tsl : T → List Nat
  | .name i => [i]
  | .tup ts => tsls ts
def tsls : List T → List Nat
  | [] => []
  | t :: ts => tsl t ++ tsls ts
end
/-- the slots are the same but at is -/
def Off (is : List Nat) (σ σ' : L2.St) : Prop := ∀ vs : List Nat, (∀ i ∈ is, i ∈ vs) → L2.wipe σ' vs = L2.wipe σ vs
theorem wipe_set (σ : L2.St) (i : Nat) (o : Option V) : ∀ vs : List Nat, i ∈ vs → L2.wipe (σ.set i o) vs = L2.wipe σ vs
  | [], h => by cases h
  | v :: vs, h => by
    show (L2.wipe (σ.set i o) vs).set v none = (L2.wipe σ vs).set v none
    by_cases hi : i ∈ vs
    · rw [wipe_set σ i o vs hi]
    · rcases List.mem_cons.mp h with rfl | h
      · rw [wipe_comm σ i o vs hi, List.set_set]
      · exact absurd h hi
where
  wipe_comm (σ : L2.St) (i : Nat) (o : Option V) : ∀ vs : List Nat, i ∉ vs → L2.wipe (σ.set i o) vs = (L2.wipe σ vs).set i o
  | [], _ => rfl
  | v :: vs, h => by
    show (L2.wipe (σ.set i o) vs).set v none = ((L2.wipe σ vs).set v none).set i o
    rw [wipe_comm σ i o vs (fun z => h (List.mem_cons_of_mem _ z)), List.set_comm _ _ (fun e => h (by rw [e]; exact List.mem_cons_self ..))]
theorem Off.trans {is js : List Nat} {a b c : L2.St} (h1 : Off is a b) (h2 : Off js b c) : Off (is ++ js) a c := fun vs h => by
  rw [h2 vs fun i hi => h i (List.mem_append_right _ hi), h1 vs fun i hi => h i (List.mem_append_left _ hi)]
def gT (K : PySem.W.Frag) (t : T) : TG := fun v σ H Q => ∃ (F : Hp) (m : List Addr) (env env' : Ev) (w : W), (∀ a o, F a = some o → H a = some o) ∧ RepE K F m env σ ∧ RepW K F m w v ∧ bindT t w env = some env' ∧ ∀ σ', RepE K F m env' σ' → Off (tsl t) σ σ' → Q σ' H
def gTs (K : PySem.W.Frag) (ts : List T) : TGs := fun vs σ H Q => ∃ (F : Hp) (m : List Addr) (env env' : Ev) (ws : List W), (∀ a o, F a = some o → H a = some o) ∧ RepE K F m env σ ∧ RepWs K F m ws vs ∧ bindT.bindTs ts ws env = some env' ∧ ∀ σ', RepE K F m env' σ' → Off (tsls ts) σ σ' → Q σ' H
theorem PG.imp {X : Cx} {e : Expr} {t t' : TG} (h : ∀ v σ H Q, t' v σ H Q → t v σ H Q) (p : PG X e t) : PG X e t' := ⟨fun pins s σ H v u Q I r q => p.run pins s σ H v u Q I r (h v σ H Q q)⟩
theorem PGs.imp {X : Cx} {e : List Expr} {t t' : TGs} (h : ∀ v σ H Q, t' v σ H Q → t v σ H Q) (p : PGs X e t) : PGs X e t' := ⟨fun pins s σ H v u Q I r q => p.run pins s σ H v u Q I r (h v σ H Q q)⟩
theorem rg_name {i : Nat} {n : Str} {p : Pos} (hN : X.N.Nodup) (hi : X.N[i]? = some n) (hx : Loc X.env.scope n) (hf : X.fn n = true ∨ X.env.scope.names.lookup n = some .local) : PG X (.Name n p) (gT X.K (.name i)) := by
  refine PG.imp (fun v σ H Q ⟨F, m, env, env', w, hf, he, hw, hb, q⟩ => ?_) (pg_name hN hi hx hf)
  unfold bindT at hb
  split at hb
  · cases hb
    exact q _ (he.set hw i) fun vs h => wipe_set σ i _ vs (h i (by simp [tsl]))
  · cases hb
theorem assign_star {t : Expr} (h : plainE t = true) (ts : List Expr) (env : Env) : assignEach (t :: ts) env = (false, assign t env) :: assignEach ts env := by
  cases t <;> first | rfl | cases h
theorem rgs_nil : PGs X [] (gTs X.K []) := by
  refine PGs.imp (fun vs σ H Q ⟨F, m, env, env', ws, hf, he, hw, hb, q⟩ => ?_) pgs_nil
  cases ws with
  | nil =>
    cases hw
    cases hb
    exact ⟨rfl, q σ he fun _ _ => rfl⟩
  | cons => cases hb
theorem rgs_cons {t : T} {ts : List T} (h1 : PG X a (gT X.K t)) (h2 : PGs X es (gTs X.K ts)) (hp : plainE a = true) : PGs X (a :: es) (gTs X.K (t :: ts)) := by
  refine PGs.imp (fun vs σ H Q ⟨F, m, env, env', ws, hf, he, hw, hb, q⟩ => ?_) (pgs_cons h1 h2 (by rw [assign_star hp]; rfl))
  cases ws with
  | nil => cases hb
  | cons w ws =>
    cases hw with
    | cons r rr =>
      obtain ⟨env1, e1, e2⟩ := bind_of (show (bindT t w env).bind (bindT.bindTs ts ws) = some env' from hb)
      exact ⟨_, _, rfl, F, m, env, env1, w, hf, he, r, e1, fun σ1 he1 o1 => ⟨F, m, env1, env', ws, hf, he1, rr, e2, fun σ2 he2 o2 => q σ2 he2 (o1.trans o2)⟩⟩
theorem star_none {env : Env} : ∀ {es : List Expr}, es.all plainE = true → (assignEach es env).findIdx? (·.1) = none ∧ (assignEach es env).length = es.length
  | [], _ => ⟨rfl, rfl⟩
  | e :: es, h => by
    rw [List.all_cons, Bool.and_eq_true] at h
    obtain ⟨h1, h2⟩ := star_none (env := env) h.2
    rw [assign_star h.1]
    refine ⟨?_, by rw [List.length_cons, List.length_cons, h2]⟩
    rw [List.findIdx?_cons, h1]
    rfl
theorem bindTs_len : ∀ {ts : List T} {ws : List W} {env env' : Ev}, bindT.bindTs ts ws env = some env' → ts.length = ws.length
  | [], [], _, _, _ => rfl
  | [], _ :: _, _, _, h => by cases h
  | _ :: _, [], _, _, h => by cases h
  | t :: ts, w :: ws, env, env', h => by
    obtain ⟨env1, e1, e2⟩ := bind_of (show (bindT t w env).bind (bindT.bindTs ts ws) = some env' from h)
    rw [List.length_cons, List.length_cons, bindTs_len e2]
theorem rg_tup {ts : List T} {k : Nat} (hc : X.calm = true) (h : PGs X es (gTs X.K ts)) (hp : es.all plainE = true) (hl : ts.length = es.length) : PG X (.Tuple es k pos) (gT X.K (.tup ts)) := by
  obtain ⟨h1, h2⟩ := star_none (env := X.env) hp
  refine PG.imp (fun v σ H Q ⟨F, m, env, env', w, hf, he, hw, hb, q⟩ => ?_) (pg_tup hc h h2 h1)
  unfold bindT at hb
  split at hb
  · rename_i xs
    obtain ⟨c, vs, rfl, sq, r⟩ := tupOf (dOf hw)
    refine ⟨c, vs, rfl, sqT_le hf sq, ?_, F, m, env, env', _, hf, he, r.ws, hb, q⟩
    have e1 := bindTs_len hb
    rw [List.length_map, r.length] at e1
    rw [← hl, e1]
  · rename_i xs
    obtain ⟨c, vs, rfl, sq, r⟩ := rtpOf (dOf hw)
    refine ⟨c, vs, rfl, sqT_le hf sq, ?_, F, m, env, env', _, hf, he, r.ws, hb, q⟩
    have e1 := bindTs_len hb
    rw [List.length_map, r.length] at e1
    rw [← hl, e1]
  · cases hb
end
end DL
/-! DLj: comprehensions. -/
namespace DL
open PySem PySem.Spec PyProof.Rows L2

section
variable {K : PySem.W.Frag} {mg : Str → Option Value} {G F : Hp} {E : XK} {m : List Addr} {α β : Type}
/-- in a block nothing is raised, and more may be kept -/
theorem Post.inner {G' : Hp} {E' : XK} {o : Out α} {k : α → Store → Hp → List Addr → Hp → Prop} (h : Post K mg G E F m o.noErr k) (hg : ∀ F' m' H' S, Sim K F' G' H' m' S → Sim K F' G H' m' S) : Post K mg G' E' F m o fun a S F' m' H' => k a S F' m' H' := by
  cases o with
  | ok a S => exact fun F' m' H' l s => h F' m' H' l (hg _ _ _ _ s)
  | err c x S => exact h.elim
  | bad => exact h
theorem compL_nil (ok : Store → Bool) (f : W → Store → Out (Option W)) (S : Store) : compL ok f [] S = if ok S = true then .ok [] S else .bad := rfl
theorem compL_cons (ok : Store → Bool) (f : W → Store → Out (Option W)) (x : W) (xs : List W) (S : Store) : compL ok f (x :: xs) S = if ok S = true then (f x S).bind fun y S => (compL ok f xs S).bind fun ys S => match y with
    | some y => .ok (y :: ys) S
    | none => .ok ys S else .bad := rfl
theorem compL_ok {K : PySem.W.Frag} {mg : Str → Option Value} {G F : Hp} {E : XK} {m : List Addr} {ok : Store → Bool} {f : W → Store → Out (Option W)} {xs : List W} {S : Store} {g : List W → Store → Out W} {Q : VK} (h : Post K mg G E F m ((compL ok f xs S).bind g) (kW K Q)) : ok S = true := by
  cases e : ok S with
  | true => rfl
  | false =>
    cases xs with
    | nil => rw [compL_nil, e] at h; exact h.elim
    | cons x xs => rw [compL_cons, e] at h; exact h.elim
end
section
variable {X : Cx} {E : XK} {elt tg iter : Expr} {ifs : List Expr} {scope : Scope} {pos : Pos} {di : Ev → Store → Out (List W × Option Nat)} {dc : Ev → Store → Out Bool} {de : Ev → Store → Out W} {t : T} {own : List Nat} {ownP : List (Str × Nat)}
/-- how far a comprehension is -/
def CompAt (K : PySem.W.Frag) (mg : Str → Option Value) (E : XK) (G F0 : Hp) (m0 : List Addr) (b : Bool) (ok : Store → Bool) (f : W → Store → Out (Option W)) (ws : List W) (D : Addr) (Q : VK) (i : Nat) (H : Hp) : Prop :=
  ∃ (F : Hp) (m : List Addr) (S : Store) (acc : List W) (accV : List V), Le F0 m0 F m ∧ Sim K F (upd G D (.lst accV)) H m S ∧ RepWs K F m acc accV ∧ accV.length ≤ i ∧
    Post K mg G E F m ((compL ok f (ws.drop i) S).bind fun ys S => newL b (acc ++ ys) S) (kW K Q)
theorem comp_end {K : PySem.W.Frag} {mg : Str → Option Value} {G F0 : Hp} {m0 : List Addr} {b : Bool} {ok : Store → Bool} {f : W → Store → Out (Option W)} {ws : List W} {D : Addr} {Q : VK} {H : Hp} (hD : G D = none) (h : CompAt K mg E G F0 m0 b ok f ws D Q ws.length H) : Q (.ref D) H := by
  obtain ⟨F, m, S, acc, accV, l, s, r, _, hp⟩ := h
  rw [List.drop_length] at hp
  have hk := compL_ok hp
  rw [compL_nil, hk, if_pos rfl] at hp
  have hp : Post K mg G E F m (newL b (acc ++ []) S) (kW K Q) := hp
  rw [List.append_nil] at hp
  unfold newL at hp
  split at hp
  · split at hp
    · obtain ⟨s1, l1⟩ := s.gM hD r
      exact hp _ _ _ l1 s1 _ (.l (by rw [← s.len, List.getElem?_append_right (Nat.le_refl _)]; simp))
    · obtain ⟨w, ew, hp⟩ := Post.of hp
      obtain ⟨ds, ed, rfl⟩ := map_of ew
      obtain ⟨s1, l1⟩ := s.gF hD
      exact hp _ _ _ l1 s1 _ (.d (.lst upd_same ((RepWs.ds r ed).le l1.f)))
  · exact hp.elim
theorem wipe_wipe (σ : L2.St) (vs : List Nat) : ∀ us : List Nat, (∀ i ∈ us, i ∈ vs) → L2.wipe (L2.wipe σ us) vs = L2.wipe σ vs
  | [], _ => rfl
  | u :: us, h => by
    show L2.wipe ((L2.wipe σ us).set u none) vs = _
    rw [wipe_set _ u none vs (h u (List.mem_cons_self ..)), wipe_wipe σ vs us fun i hi => h i (List.mem_cons_of_mem _ hi)]
theorem lc_imp {b : Bool} (hsl : ∀ i ∈ tsl t, i ∈ own) : ∀ σ H Q, tE X.K X.mg E (fun env S => (di env S).bind fun p S => if p.1.length < lineS then (compL (keeps p.2 p.1) (fun x S => (Out.of (bindT t x (wipeE env own)) S).bind fun env1 S => (dc env1 S).noErr.bind fun k S =>
      if k = true then (de env1 S).noErr.bind fun y S => .ok (some y) S else .ok none S) p.1 S).bind fun ys S => newL b ys S else .bad) σ H Q →
      tLc (tIt X.K X.mg E di) (gT X.K t) (tBl X.K X.mg E0 dc) (tE X.K X.mg E0 de) own σ H Q := by
  intro σ H Q ⟨F, G, m, env, S, hs, hr, hp⟩
  refine ⟨F, G, m, env, S, hs, hr, hp.bind.mono fun pw S1 F1 m1 H1 l s1 hp1 J hJ => ?_⟩
  obtain ⟨ws, kk⟩ := pw
  simp only at hp1 hJ
  intro D hD
  obtain ⟨Gd, Y, hw, hgd, hy⟩ := hJ.run
  obtain ⟨fD, gD, mD⟩ := s1.free hD
  split at hp1
  case isFalse => exact hp1.elim
  rename_i hlen
  have hr1 := hr.le l
  generalize hf : (fun (x : W) (S : Store) => (Out.of (bindT t x (wipeE env own)) S).bind fun env1 S => (dc env1 S).noErr.bind fun k S =>
      if k = true then (de env1 S).noErr.bind fun y S => .ok (some y) S else .ok none S) = f at hp1
  have hfx : ∀ x S, f x S = (Out.of (bindT t x (wipeE env own)) S).bind fun env1 S => (dc env1 S).noErr.bind fun k S =>
      if k = true then (de env1 S).noErr.bind fun y S => .ok (some y) S else .ok none S := fun x S => by rw [← hf]
  have start : Sim X.K F1 (upd G D (.lst [])) (upd H1 D (.lst [])) m1 S1 := by
    refine ⟨fun a u e => up_le hD _ _ (s1.fr a u e), fun a u e => ?_, fun a u e => ?_, fun a ha => ?_, fun a ha => ?_, s1.nd, s1.len, fun n u a e1 e2 => ?_, fun a u e => ?_, fun a ha u e => ?_⟩
    · by_cases q : a = D
      · subst q; rw [upd_same] at e ⊢; exact e
      · rw [upd_ne q] at e ⊢; exact s1.gr a u e
    · by_cases q : a = D
      · subst q; exact fD
      · rw [upd_ne q] at e; exact s1.dis a u e
    · obtain ⟨u, e⟩ := s1.mh a ha; exact ⟨u, up_le hD _ _ e⟩
    · rw [upd_ne (by rintro rfl; exact mD ha)]; exact s1.mg a ha
    · have ne : a ≠ D := by rintro rfl; exact mD (List.mem_of_getElem? e2)
      have q := s1.ob n u a e1 e2
      cases u with
      | lst xs => obtain ⟨vs, h1, h2, h3, r⟩ := q; exact ⟨vs, up_le hD _ _ h1, h2, by rw [upd_ne ne]; exact h3, r⟩
      | dic t es => obtain ⟨vs, h1, h2, h3, r⟩ := q; exact ⟨vs, up_le hD _ _ h1, h2, by rw [upd_ne ne]; exact h3, r⟩
      | dead => trivial
    · by_cases q : a = D
      · subst q; rw [upd_same] at e; cases e; exact noT_lst
      · rw [upd_ne q] at e; exact s1.gt a u e
    · have ne : a ≠ D := fun z => mD (z ▸ ha)
      rw [upd_ne ne] at e
      exact s1.mt a ha u e
  refine lc_it hw (CompAt X.K X.mg E G F1 m1 b (keeps kk ws) f ws D Q) ⟨F1, m1, S1, [], [], .refl, start, .nil, Nat.le_refl _, hp1⟩ (fun i H' hi ⟨F2, m2, S2, acc, accV, l2, s2, _, _, hp2⟩ => hgd F2 _ m2 S2 H' l2 s2 (compL_ok hp2)) (fun i x H2 H3 hi hpv hyv => ?_) (fun H' h => comp_end gD h)
  obtain ⟨F2, m2, S2, acc, accV, l2, s2, ra, hal, hp2⟩ := hpv
  have ew : ws[i]? = some ws[i] := List.getElem?_eq_getElem hi
  have hk := compL_ok hp2
  obtain ⟨F3, l3, s3, rw3⟩ := hy i _ F2 _ m2 S2 H2 x H3 ew l2 s2 hk hyv
  rw [List.drop_eq_getElem_cons hi, compL_cons, hk, if_pos rfl, hfx] at hp2
  simp only [bind_assoc'] at hp2
  cases hb : bindT t ws[i] (wipeE env own) with
  | none =>
    rw [hb] at hp2
    exact hp2.elim
  | some env1 =>
    rw [hb] at hp2
    simp only [Out.of_some, Out.bind_ok] at hp2
    have hle : Le F m F3 m2 := (l.trans l2).trans l3
    refine ⟨F3, m2, wipeE env own, env1, ws[i], s3.fr, (hr.le hle).wipe own, rw3, hb, fun σ2 he2 o2 => ⟨(o2 own hsl).trans (wipe_wipe σ own own fun _ h => h), ?_⟩⟩
    refine ⟨F3, upd G D (.lst accV), m2, env1, S2, s3, he2, Post.mono (Post.inner (G' := upd G D (.lst accV)) (E' := E0) (Post.le hp2 l3).bind fun F' m' H' S s => s.unG gD) fun k S4 F4 m4 H4 l4 s4 hp4 => ?_⟩
    cases k with
    | false =>
      refine ⟨F4, m4, S4, acc, accV, (l2.trans l3).trans l4, s4, RepWs.le (l3.trans l4) ra, by omega, ?_⟩
      have hp4 : Post X.K X.mg G E F4 m4 ((compL (keeps kk ws) f (ws.drop (i + 1)) S4).bind fun ys S => (Out.ok ys S).bind fun ys S => newL b (acc ++ ys) S) (kW X.K Q) := by
        have hp5 := hp4
        simp only [Bool.false_eq_true, if_false, Out.bind_ok] at hp5
        exact hp5
      exact hp4
    | true =>
      show tE X.K X.mg E0 de σ2 H4 _
      have hp5 : Post X.K X.mg G E F4 m4 ((de env1 S4).noErr.bind fun y S => (compL (keeps kk ws) f (ws.drop (i + 1)) S).bind fun ys S => newL b (acc ++ (y :: ys)) S) (kW X.K Q) := by
        have hp5 := hp4
        simp only [if_true, bind_assoc', Out.bind_ok] at hp5
        exact hp5
      refine ⟨F4, upd G D (.lst accV), m4, env1, S4, s4, he2.le l4, Post.mono (Post.inner (G' := upd G D (.lst accV)) (E' := E0) hp5.bind fun F' m' H' S s => s.unG gD) fun y S5 F5 m5 H5 l5 s5 hp6 v rv => ?_⟩
      have ra5 := RepWs.le ((l3.trans l4).trans l5) ra
      have hD5 : H5 D = some (.lst accV) := s5.gr _ _ upd_same
      refine ⟨accV, hD5, Nat.lt_of_lt_of_le (show accV.length < lineS by omega) (by decide), F5, m5, S5, acc ++ [y], accV ++ [v], ((l2.trans l3).trans l4).trans l5, ?_, RepWs.append ra5 (.cons rv .nil), by rw [List.length_append]; simp; omega, ?_⟩
      · have s6 := s5.unG gD
        have fD5 : F5 D = none := s5.dis D _ upd_same
        have nD5 : ∀ a ∈ m5, a ≠ D := fun a ha e => by subst e; have := s5.mg a ha; rw [upd_same] at this; cases this
        refine ⟨fun a u e => ?_, fun a u e => ?_, fun a u e => ?_, fun a ha => ?_, fun a ha => ?_, s6.nd, s6.len, fun n u a e1 e2 => ?_, fun a u e => ?_, fun a ha u e => ?_⟩
        · rw [upd_ne (by rintro rfl; rw [fD5] at e; cases e)]; exact s6.fr a u e
        · by_cases q : a = D
          · subst q; rw [upd_same] at e ⊢; exact e
          · rw [upd_ne q] at e ⊢; exact s6.gr a u e
        · by_cases q : a = D
          · subst q; exact fD5
          · rw [upd_ne q] at e; exact s6.dis a u e
        · rw [upd_ne (nD5 a ha)]; exact s6.mh a ha
        · rw [upd_ne (nD5 a ha)]; exact s6.mg a ha
        · have ne := nD5 a (List.mem_of_getElem? e2)
          have q := s6.ob n u a e1 e2
          cases u with
          | lst xs => obtain ⟨vs, h1, h2, h3, r⟩ := q; exact ⟨vs, by rw [upd_ne ne]; exact h1, h2, by rw [upd_ne ne]; exact h3, r⟩
          | dic t es => obtain ⟨vs, h1, h2, h3, r⟩ := q; exact ⟨vs, by rw [upd_ne ne]; exact h1, h2, by rw [upd_ne ne]; exact h3, r⟩
          | dead => trivial
        · by_cases q : a = D
          · subst q; rw [upd_same] at e; cases e; exact noT_lst
          · rw [upd_ne q] at e; exact s6.gt a u e
        · rw [upd_ne (nD5 a ha)] at e
          exact s6.mt a ha u e
      · simp only [List.append_assoc, List.cons_append, List.nil_append]
        exact hp6
theorem rd_comp {b : Bool} (hc : X.calm = true) (hN : X.N.Nodup) (hi : RdI X E tg iter di) (ok : BlkOk X.N X.env.scope scope ownP) (hown : ownP.map (·.2) = own) (hsl : ∀ i ∈ tsl t, i ∈ own)
    (hg : ∀ (s : Shared) (H : Hp) (C : Addr) (cl : List (Str × Addr)) (fp : List Addr), PG (X.blk s H scope (compEnvC scope cl C X.env) fp) tg (gT X.K t))
    (ht : ∀ (s : Shared) (H : Hp) (C : Addr) (cl : List (Str × Addr)) (fp : List Addr), PTs (X.blk s H scope (compEnvC scope cl C X.env) fp) ifs (tBl X.K X.mg E0 dc))
    (he : ∀ (s : Shared) (H : Hp) (C : Addr) (cl : List (Str × Addr)) (fp : List Addr), PE (X.blk s H scope (compEnvC scope cl C X.env) fp) elt (tE X.K X.mg E0 de)) (hs : ∀ x, foldedSetIterable iter X.env x = pure x) :
    RdE X E (.ListComp elt [⟨tg, iter, ifs, 0⟩] scope pos) fun env S => (di env S).bind fun p S => if p.1.length < lineS then (compL (keeps p.2 p.1) (fun x S => (Out.of (bindT t x (wipeE env own)) S).bind fun env1 S => (dc env1 S).noErr.bind fun k S =>
      if k = true then (de env1 S).noErr.bind fun y S => .ok (some y) S else .ok none S) p.1 S).bind fun ys S => newL b ys S else .bad := by
  subst hown
  exact PE.imp (lc_imp hsl) (pe_lc hc hN hi ok hg ht he hs)
end
end DL
/-! DLk: calls of defs. -/
namespace DL
open PySem PySem.Spec PyProof.Rows L2

theorem mem_locs : ∀ {ws : List W} {n : Nat}, n ∈ locsOf ws ↔ W.l n ∈ ws
  | [], n => by simp [locsOf]
  | .d x :: ws, n => by
    show n ∈ locsOf ws ↔ _
    rw [mem_locs]
    simp
  | .l k :: ws, n => by
    show n ∈ k :: (locsOf ws).filter (· ≠ k) ↔ _
    rw [List.mem_cons, List.mem_filter, mem_locs, List.mem_cons]
    by_cases h : n = k
    · simp [h]
    · simp [h]
theorem nodup_locs : ∀ ws : List W, (locsOf ws).Nodup
  | [] => .nil
  | .d x :: ws => nodup_locs ws
  | .l k :: ws => by
    show (k :: (locsOf ws).filter (· ≠ k)).Nodup
    exact List.nodup_cons.mpr ⟨by simp [List.mem_filter], (nodup_locs ws).filter _⟩
theorem getAll_of : ∀ {S : Store} {ls : List Nat} {os : List Ob}, getAll S ls = some os → os.length = ls.length ∧ ∀ (j : Nat) (n : Nat), ls[j]? = some n → ∃ o, S[n]? = some o ∧ flatO o = true ∧ os[j]? = some o
  | _, [], _, h => by cases h; exact ⟨rfl, fun j n e => by simp at e⟩
  | S, n :: r, os, h => by
    unfold getAll at h
    split at h
    · rename_i o ho
      split at h
      · rename_i hf
        obtain ⟨os', e, rfl⟩ := map_of h
        obtain ⟨h1, h2⟩ := getAll_of e
        refine ⟨by rw [List.length_cons, List.length_cons, h1], fun j k ej => ?_⟩
        cases j with
        | zero => simp at ej; subst ej; exact ⟨o, ho, hf, rfl⟩
        | succ j => simpa using h2 j k (by simpa using ej)
      · cases h
    · cases h
theorem putAll_nil1 (os : List Ob) (S : Store) : putAll S [] os = S := by unfold putAll; rfl
theorem putAll_nil2 (ls : List Nat) (S : Store) : putAll S ls [] = S := by unfold putAll; cases ls <;> rfl
theorem putAll_cons (n : Nat) (r : List Nat) (o : Ob) (os : List Ob) (S : Store) : putAll S (n :: r) (o :: os) = putAll (S.set n o) r os := by rw [putAll]
theorem putAll_len : ∀ (ls : List Nat) (os : List Ob) (S : Store), (putAll S ls os).length = S.length
  | [], _, _ => by rw [putAll_nil1]
  | _ :: _, [], _ => by rw [putAll_nil2]
  | n :: r, o :: os, S => by
    rw [putAll_cons, putAll_len r os, List.length_set]
theorem putAll_off : ∀ (ls : List Nat) (os : List Ob) (S : Store) (k : Nat), k ∉ ls → (putAll S ls os)[k]? = S[k]?
  | [], _, _, _, _ => by rw [putAll_nil1]
  | _ :: _, [], _, _, _ => by rw [putAll_nil2]
  | n :: r, o :: os, S, k, h => by
    rw [putAll_cons, putAll_off r os _ k (fun z => h (List.mem_cons_of_mem _ z)), List.getElem?_set_ne (fun e => h (by rw [e]; exact List.mem_cons_self ..))]
theorem putAll_at : ∀ (ls : List Nat) (os : List Ob) (S : Store) (j k : Nat) (o : Ob), ls.Nodup → ls[j]? = some k → os[j]? = some o → k < S.length → (putAll S ls os)[k]? = some o
  | [], _, _, _, _, _, _, h, _, _ => by simp at h
  | _ :: _, [], _, _, _, _, _, _, h, _ => by simp at h
  | n :: r, o' :: os, S, 0, k, o, nd, h1, h2, hk => by
    simp at h1 h2
    subst h1 h2
    rw [putAll_cons, putAll_off r os _ n (List.nodup_cons.mp nd).1, List.getElem?_set_self hk]
  | n :: r, o' :: os, S, j + 1, k, o, nd, h1, h2, hk => by
    rw [putAll_cons]
    exact putAll_at r os _ j k o (List.nodup_cons.mp nd).2 (by simpa using h1) (by simpa using h2) (by rw [List.length_set]; exact hk)

section
variable {K : PySem.W.Frag} {mg : Str → Option Value} {F G H : Hp} {m : List Addr} {S : Store} {E : XK}
/-- where the handed places lie -/
def subM (m : List Addr) (ls : List Nat) : List Addr := ls.filterMap fun n => m[n]?
theorem subM_get {m : List Addr} : ∀ {ls : List Nat} {j n : Nat} {a : Addr}, (∀ n ∈ ls, n < m.length) → ls[j]? = some n → m[n]? = some a → (subM m ls)[j]? = some a
  | [], _, _, _, _, h, _ => by simp at h
  | k :: r, j, n, a, hb, h, e => by
    obtain ⟨z, hk⟩ : ∃ z, m[k]? = some z := ⟨_, List.getElem?_eq_getElem (hb k (List.mem_cons_self ..))⟩
    unfold subM
    rw [List.filterMap_cons, hk]
    cases j with
    | zero => simp at h; subst h; rw [hk] at e; simpa using e
    | succ j =>
      show (subM m r)[j]? = some a
      exact subM_get (ls := r) (fun n hn => hb n (List.mem_cons_of_mem _ hn)) (by simpa using h) e
theorem subM_len {m : List Addr} : ∀ {ls : List Nat}, (∀ n ∈ ls, n < m.length) → (subM m ls).length = ls.length
  | [], _ => rfl
  | k :: r, hb => by
    obtain ⟨z, hk⟩ : ∃ z, m[k]? = some z := ⟨_, List.getElem?_eq_getElem (hb k (List.mem_cons_self ..))⟩
    unfold subM
    rw [List.filterMap_cons, hk]
    show ((subM m r).length + 1) = _
    rw [subM_len fun n hn => hb n (List.mem_cons_of_mem _ hn)]
    rfl
theorem subM_mem {m : List Addr} {ls : List Nat} {a : Addr} (h : a ∈ subM m ls) : ∃ n ∈ ls, m[n]? = some a := by
  obtain ⟨n, hn, e⟩ := List.mem_filterMap.mp h
  exact ⟨n, hn, e⟩
theorem subM_nodup {m : List Addr} : ∀ {ls : List Nat}, m.Nodup → ls.Nodup → (∀ n ∈ ls, n < m.length) → (subM m ls).Nodup
  | [], _, _, _ => .nil
  | k :: r, nd, nl, hb => by
    obtain ⟨z, hk⟩ : ∃ z, m[k]? = some z := ⟨_, List.getElem?_eq_getElem (hb k (List.mem_cons_self ..))⟩
    unfold subM
    rw [List.filterMap_cons, hk]
    refine List.nodup_cons.mpr ⟨fun hm => ?_, subM_nodup nd (List.nodup_cons.mp nl).2 fun n hn => hb n (List.mem_cons_of_mem _ hn)⟩
    obtain ⟨n, hn, e⟩ := subM_mem hm
    have := nodup_get nd hk e
    subst this
    exact (List.nodup_cons.mp nl).1 hn
theorem flat_reps {F : Hp} {m m' : List Addr} : ∀ {xs : List W} {vs : List V}, xs.all isD = true → RepWs K F m xs vs → RepWs K F m' xs vs
  | [], _, _, .nil => .nil
  | x :: xs, _, h, .cons a r => by
    rw [List.all_cons, Bool.and_eq_true] at h
    cases a with
    | d a => exact .cons (.d a) (flat_reps h.2 r)
    | l e => exact absurd h.1 Bool.false_ne_true
theorem flat_dic {F : Hp} {m m' : List Addr} {ho : HO} {t : Bool} {es : List (D × W)} (h : flatO (.dic t es) = true) (r : DicB K F m ho t es) : DicB K F m' ho t es := by
  cases r with
  | k e r => exact .k e (flat_reps h r)
  | t e r => exact .t e (flat_reps h r)
/-- the callee's view -/
def subG (F G H : Hp) (m : List Addr) (ls : List Nat) : Hp := fun a => if (decide (a ∈ m) && !decide (a ∈ subM m ls) && (F a).isNone) = true then H a else G a
theorem subG_yes {ls : List Nat} {a : Addr} (h1 : a ∈ m) (h2 : a ∉ subM m ls) (h3 : F a = none) : subG F G H m ls a = H a := by
  unfold subG
  rw [if_pos (by simp [h1, h2, h3])]
theorem subG_no {ls : List Nat} {a : Addr} (h : a ∉ m ∨ a ∈ subM m ls ∨ F a ≠ none) : subG F G H m ls a = G a := by
  unfold subG
  rw [if_neg]
  intro z
  rw [Bool.and_eq_true, Bool.and_eq_true] at z
  obtain ⟨⟨z1, z2⟩, z3⟩ := z
  rcases h with h | h | h
  · exact h (of_decide_eq_true z1)
  · rw [decide_eq_true h] at z2; cases z2
  · exact h (by simpa using z3)
theorem subG_cases (ls : List Nat) (a : Addr) : (a ∈ m ∧ a ∉ subM m ls ∧ F a = none ∧ subG F G H m ls a = H a) ∨ subG F G H m ls a = G a := by
  by_cases h1 : a ∈ m
  · by_cases h2 : a ∈ subM m ls
    · exact .inr (subG_no (.inr (.inl h2)))
    · by_cases h3 : F a = none
      · exact .inl ⟨h1, h2, h3, subG_yes h1 h2 h3⟩
      · exact .inr (subG_no (.inr (.inr h3)))
  · exact .inr (subG_no (.inl h1))
theorem Sim.sub (s : Sim K F G H m S) {ls : List Nat} {os : List Ob} (nl : ls.Nodup) (e : getAll S ls = some os) : Sim K F (subG F G H m ls) H (subM m ls) os := by
  obtain ⟨h1, h2⟩ := getAll_of e
  have hb : ∀ n ∈ ls, n < m.length := fun n hn => by
    obtain ⟨j, hj, ej⟩ := List.mem_iff_getElem.mp hn
    obtain ⟨o, eo, _⟩ := h2 j n (by rw [List.getElem?_eq_getElem hj, ej])
    rw [s.len]
    exact (List.getElem?_eq_some_iff.mp eo).1
  have sm : ∀ a ∈ subM m ls, a ∈ m := fun a ha => by
    obtain ⟨n, _, q⟩ := subM_mem ha
    exact List.mem_of_getElem? q
  refine ⟨s.fr, fun a u q => ?_, fun a u q => ?_, fun a ha => s.mh a (sm a ha), fun a ha => ?_, subM_nodup s.nd nl hb, by rw [subM_len hb, h1], fun j o a e1 e2 => ?_, fun a u q => ?_, fun a ha u q => s.mt a (sm a ha) u q⟩
  · rcases subG_cases (F := F) (G := G) (H := H) (m := m) ls a with ⟨_, _, _, z⟩ | z
    · rw [z] at q; exact q
    · rw [z] at q; exact s.gr a u q
  · rcases subG_cases (F := F) (G := G) (H := H) (m := m) ls a with ⟨_, _, z, _⟩ | z
    · exact z
    · rw [z] at q; exact s.dis a u q
  · rw [subG_no (.inr (.inl ha))]
    exact s.mg a (sm a ha)
  · have hj : j < ls.length := by rw [← h1]; exact (List.getElem?_eq_some_iff.mp e1).1
    obtain ⟨o', eo, fo, eo2⟩ := h2 j ls[j] (List.getElem?_eq_getElem hj)
    rw [e1] at eo2
    cases eo2
    have hn : ls[j] < m.length := hb _ (List.getElem_mem hj)
    have ea := subM_get hb (List.getElem?_eq_getElem hj) (List.getElem?_eq_getElem hn)
    rw [e2] at ea
    have ha : a = m[ls[j]] := Option.some.inj ea
    have q := s.ob _ _ a eo (by rw [ha]; exact List.getElem?_eq_getElem hn)
    cases o with
    | dead => trivial
    | lst xs =>
      obtain ⟨vs, q1, q2, q3, r⟩ := q
      exact ⟨vs, q1, q2, by rw [subG_no (.inr (.inl (List.mem_of_getElem? e2)))]; exact q3, flat_reps fo r⟩
    | dic t es =>
      obtain ⟨vs, q1, q2, q3, r⟩ := q
      exact ⟨vs, q1, q2, by rw [subG_no (.inr (.inl (List.mem_of_getElem? e2)))]; exact q3, flat_dic fo r⟩
  · rcases subG_cases (F := F) (G := G) (H := H) (m := m) ls a with ⟨z1, _, _, z⟩ | z
    · rw [z] at q; exact s.mt a z1 u q
    · rw [z] at q; exact s.gt a u q
theorem reix_rep {ls : List Nat} (hb : ∀ n ∈ ls, n < m.length) {w : W} {v : V} (r : RepW K F m w v) (h : ∀ n, w = .l n → n ∈ ls) : RepW K F (subM m ls) (reix ls w) v := by
  cases r with
  | d r => exact .d r
  | @l n a e =>
    have hn := h n rfl
    refine .l (subM_get hb (j := ls.idxOf n) (n := n) ?_ e)
    rw [List.getElem?_eq_getElem (List.idxOf_lt_length_of_mem hn), List.getElem_idxOf]
theorem reix_reps {ls : List Nat} (hb : ∀ n ∈ ls, n < m.length) : ∀ {ws : List W} {vs : List V}, RepWs K F m ws vs → (∀ n, W.l n ∈ ws → n ∈ ls) → RepWs K F (subM m ls) (ws.map (reix ls)) vs
  | _, _, .nil, _ => .nil
  | _, _, .cons a r, h => .cons (reix_rep hb a fun n e => h n (by rw [e]; exact List.mem_cons_self ..)) (reix_reps hb r fun n hn => h n (List.mem_cons_of_mem _ hn))
/-- back from the callee -/
theorem Sim.back {F2 H2 : Hp} {m2 : List Addr} {S2 : Store} (s : Sim K F G H m S) {ls : List Nat} {os : List Ob} (nl : ls.Nodup) (e : getAll S ls = some os) (l : Le F (subM m ls) F2 m2) (s2 : Sim K F2 (subG F G H m ls) H2 m2 S2)
    (hf : (S2.take os.length).all flatO = true) (hl : os.length ≤ S2.length) : Sim K F2 G H2 m (putAll S ls (S2.take os.length)) ∧ Le F m F2 m := by
  obtain ⟨h1, h2⟩ := getAll_of e
  have hb : ∀ n ∈ ls, n < m.length := fun n hn => by
    obtain ⟨j, hj, ej⟩ := List.mem_iff_getElem.mp hn
    obtain ⟨o, eo, _⟩ := h2 j n (by rw [List.getElem?_eq_getElem hj, ej])
    rw [s.len]
    exact (List.getElem?_eq_some_iff.mp eo).1
  have sm : ∀ a ∈ subM m ls, a ∈ m := fun a ha => by
    obtain ⟨n, _, q⟩ := subM_mem ha
    exact List.mem_of_getElem? q
  have gle : ∀ a u, G a = some u → subG F G H m ls a = some u := fun a u q => by
    by_cases h : a ∈ m
    · rw [s.mg a h] at q; cases q
    · rw [subG_no (.inl h)]; exact q
  have keep : ∀ a ∈ m, a ∉ subM m ls → F a = none → H2 a = H a ∧ F2 a = none := fun a h h' hF => by
    obtain ⟨u, hu⟩ := s.mh a h
    have q := subG_yes (G := G) (H := H) h h' hF
    rw [hu] at q
    exact ⟨by rw [s2.gr a u q, hu], s2.dis a u q⟩
  have l1 : Le F m F2 m := ⟨l.f, [], by simp⟩
  refine ⟨⟨s2.fr, fun a u q => s2.gr a u (gle a u q), fun a u q => s2.dis a u (gle a u q), fun a ha => ?_, s.mg, s.nd, by rw [putAll_len]; exact s.len, fun k o a e1 e2 => ?_, s.gt, fun a ha u q => ?_⟩, l1⟩
  · by_cases h : a ∈ subM m ls
    · obtain ⟨r, hr⟩ := l.m
      exact s2.mh a (by rw [hr]; exact List.mem_append_left _ h)
    · cases hF : F a with
      | some u => exact ⟨u, s2.fr a u (l.f a u hF)⟩
      | none => rw [(keep a ha h hF).1]; exact s.mh a ha
  · by_cases hk : k ∈ ls
    · obtain ⟨j, hj, ej⟩ := List.mem_iff_getElem.mp hk
      have ej' : ls[j]? = some k := by rw [List.getElem?_eq_getElem hj, ej]
      have hj2 : j < os.length := by rw [h1]; exact hj
      have hj3 : j < S2.length := Nat.lt_of_lt_of_le hj2 hl
      have ho : (S2.take os.length)[j]? = some S2[j] := by rw [List.getElem?_take_of_lt hj2, List.getElem?_eq_getElem hj3]
      rw [putAll_at ls _ S j k _ nl ej' ho (by rw [← s.len]; exact hb k hk)] at e1
      cases e1
      have ea := l.get (subM_get hb ej' e2)
      have q := s2.ob j _ a (List.getElem?_eq_getElem hj3) ea
      have fo : flatO S2[j] = true := List.all_eq_true.mp hf _ (List.mem_of_getElem? ho)
      generalize S2[j] = o at q fo
      cases o with
      | dead => trivial
      | lst xs =>
        obtain ⟨vs, q1, q2, q3, r⟩ := q
        exact ⟨vs, q1, q2, s.mg a (List.mem_of_getElem? e2), flat_reps fo r⟩
      | dic t es =>
        obtain ⟨vs, q1, q2, q3, r⟩ := q
        exact ⟨vs, q1, q2, s.mg a (List.mem_of_getElem? e2), flat_dic fo r⟩
    · rw [putAll_off ls _ S k hk] at e1
      have q := s.ob k o a e1 e2
      cases o with
      | dead => trivial
      | lst xs =>
        obtain ⟨vs, q1, q2, q3, r⟩ := q
        have hns : a ∉ subM m ls := fun z => by
          obtain ⟨n, hn, en⟩ := subM_mem z
          have := nodup_get s.nd e2 en
          subst this
          exact hk hn
        obtain ⟨k1, k2⟩ := keep a (List.mem_of_getElem? e2) hns q2
        exact ⟨vs, by rw [k1]; exact q1, k2, q3, RepWs.le l1 r⟩
      | dic t es =>
        obtain ⟨vs, q1, q2, q3, r⟩ := q
        have hns : a ∉ subM m ls := fun z => by
          obtain ⟨n, hn, en⟩ := subM_mem z
          have := nodup_get s.nd e2 en
          subst this
          exact hk hn
        obtain ⟨k1, k2⟩ := keep a (List.mem_of_getElem? e2) hns q2
        exact ⟨vs, by rw [k1]; exact q1, k2, q3, r.le l1⟩
  · by_cases h : a ∈ subM m ls
    · obtain ⟨r, hr⟩ := l.m
      exact s2.mt a (by rw [hr]; exact List.mem_append_left _ h) u q
    · cases hF : F a with
      | some w =>
        have e2 := s2.fr a w (l.f a w hF)
        rw [q] at e2
        cases e2
        exact s.mt a ha u (s.fr a u hF)
      | none => rw [(keep a ha h hF).1] at q; exact s.mt a ha u q
/-- THE CALL -/
theorem call_rep {f : Fn} {ws : List W} {vs : List V} {Q : VK} (s : Sim K F G H m S) (r : RepWs K F m ws vs) (hp : Post K mg G E F m (evCall f ws S) (kW K Q)) :
    ∃ F' G' m' S' ws', Sim K F' G' H m' S' ∧ RepWs K F' m' ws' vs ∧ ws'.length = ws.length ∧ Post K mg G' E F' m' (f ws' S') (kW K Q) := by
  unfold evCall at hp
  split at hp
  · exact hp.elim
  · rename_i os eo
    have nl := nodup_locs ws
    have s1 := s.sub nl eo
    obtain ⟨h1, h2⟩ := getAll_of eo
    have hb : ∀ n ∈ locsOf ws, n < m.length := fun n hn => by
      obtain ⟨j, hj, ej⟩ := List.mem_iff_getElem.mp hn
      obtain ⟨o, eo, _⟩ := h2 j n (by rw [List.getElem?_eq_getElem hj, ej])
      rw [s.len]
      exact (List.getElem?_eq_some_iff.mp eo).1
    refine ⟨F, _, _, os, _, s1, reix_reps hb r (fun n hn => mem_locs.mpr hn), by rw [List.length_map], ?_⟩
    split at hp
    · rename_i w S2 ew
      rw [ew]
      split at hp
      · rename_i hc
        rw [Bool.and_eq_true, decide_eq_true_eq] at hc
        intro F2 m2 H2 l2 s2 v rv
        obtain ⟨s3, l3⟩ := s.back nl eo l2 s2 hc.1 hc.2
        split at hp
        · exact hp F2 m H2 l3 s3 v (.d (dOf rv))
        · rename_i j
          split at hp
          · rename_i hj
            obtain ⟨w, e3, hp⟩ := Post.of hp
            obtain ⟨n, en, rfl⟩ := map_of e3
            refine hp F2 m H2 l3 s3 v ?_
            cases rv with
            | @l _ a ea =>
              have hn : n < m.length := hb n (List.mem_of_getElem? en)
              have q := l2.get (subM_get hb en (List.getElem?_eq_getElem hn))
              rw [ea] at q
              cases q
              exact .l (List.getElem?_eq_getElem hn)
          · rename_i hj
            split at hp
            · rename_i xs ex
              split at hp
              · rename_i hfl
                cases rv with
                | @l _ a ea =>
                  obtain ⟨vs', q1, q2, q3, rx⟩ := s2.ob j _ a ex ea
                  have ham2 := List.mem_of_getElem? ea
                  have nam : a ∉ m := fun ham => by
                    have g0 := s2.mg a ham2
                    by_cases hs : a ∈ subM m (locsOf ws)
                    · obtain ⟨i, hi, ei⟩ := List.mem_iff_getElem.mp hs
                      have q4 := l2.get (show (subM m (locsOf ws))[i]? = some a by rw [List.getElem?_eq_getElem hi, ei])
                      have q5 := nodup_get s2.nd ea q4
                      rw [subM_len hb] at hi
                      rw [h1] at hj
                      omega
                    · have hF : F a = none := by
                        cases z : F a with
                        | none => rfl
                        | some u => rw [l2.f a u z] at q2; cases q2
                      rw [subG_yes ham hs hF] at g0
                      obtain ⟨u, hu⟩ := s.mh a ham
                      rw [hu] at g0
                      cases g0
                  have hS : (putAll S (locsOf ws) (S2.take os.length)).length = m.length := by rw [putAll_len, s.len]
                  have gG : G a = none := by
                    cases z : G a with
                    | none => rfl
                    | some u =>
                      have g0 := s2.mg a ham2
                      rw [subG_no (.inl nam), z] at g0
                      cases g0
                  have l4 : Le F2 m F2 (m ++ [a]) := ⟨fun _ _ q => q, [a], rfl⟩
                  refine hp F2 (m ++ [a]) H2 (l3.trans l4) ⟨s3.fr, s3.gr, s3.dis, fun b hb' => ?_, fun b hb' => ?_, ?_, by rw [List.length_append, List.length_append, hS]; rfl, fun k o b e1 e2 => ?_, s3.gt, fun b hb' u qq => ?_⟩ _ (.l ?_)
                  · rcases List.mem_append.mp hb' with z | z
                    · exact s3.mh b z
                    · rw [List.mem_singleton.mp z]; exact ⟨_, q1⟩
                  · rcases List.mem_append.mp hb' with z | z
                    · exact s3.mg b z
                    · rw [List.mem_singleton.mp z]; exact gG
                  · refine List.nodup_append.mpr ⟨s3.nd, by simp, fun b hb' c hc' => ?_⟩
                    rw [List.mem_singleton.mp hc']
                    rintro rfl
                    exact nam hb'
                  · by_cases hk : k < (putAll S (locsOf ws) (S2.take os.length)).length
                    · rw [List.getElem?_append_left hk] at e1
                      rw [List.getElem?_append_left (by rw [← hS]; exact hk)] at e2
                      exact (s3.ob k o b e1 e2).le l4 fun vs e z _ => ⟨e, z⟩
                    · have hk2 : k = m.length := by
                        have := (List.getElem?_eq_some_iff.mp e1).1
                        rw [List.length_append] at this
                        simp at this
                        omega
                      subst hk2
                      rw [← hS, List.getElem?_append_right (Nat.le_refl _)] at e1
                      rw [List.getElem?_append_right (Nat.le_refl _)] at e2
                      simp at e1 e2
                      subst e1 e2
                      exact ⟨vs', q1, q2, gG, flat_reps hfl rx⟩
                  · rcases List.mem_append.mp hb' with z | z
                    · exact s3.mt b z u qq
                    · rw [List.mem_singleton.mp z, q1] at qq
                      cases qq
                      exact noT_lst
                  · rw [← s.len, List.getElem?_append_right (Nat.le_refl _)]
                    simp
              · exact hp.elim
            · exact hp.elim
      · exact hp.elim
    · rename_i c x S2 ew
      rw [ew]
      split at hp
      · rename_i hc
        rw [Bool.and_eq_true, decide_eq_true_eq] at hc
        intro F2 m2 H2 C d v l2 s2
        obtain ⟨s3, l3⟩ := s.back nl eo l2 s2 hc.1 hc.2
        exact hp F2 m H2 C d v l3 s3
      · exact hp.elim
    · exact hp.elim
end
end DL
/-! DLl: statements. -/
namespace DL
open PySem PySem.Spec PyProof.Rows L2

abbrev kS (K : PySem.W.Frag) (D : Ends) : Fl → Store → Hp → List Addr → Hp → Prop := fun r _ F' m' H' => match r with
  | .nx env => ∀ σ', RepE K F' m' env σ' → D.nx σ' H'
  | .rt w => ∀ v, RepW K F' m' w v → D.rt v H'
  | .bk env => ∀ σ', RepE K F' m' env σ' → D.bk σ' H'
def tS (K : PySem.W.Frag) (mg : Str → Option Value) (E : XK) (d : Ev → Store → Out Fl) : TS := fun D σ H => ∃ F G m env S, Sim K F G H m S ∧ RepE K F m env σ ∧ Post K mg G E F m (d env S) (kS K D)
theorem PS.imp {X : Cx} {e : Stmt} {t t' : TS} (h : ∀ D σ H, t' D σ H → t D σ H) (p : PS X e t) : PS X e t' := ⟨fun pins s σ H D I q => p.run pins s σ H D I (h D σ H q)⟩
theorem PSs.imp {X : Cx} {e : List Stmt} {t t' : TS} (h : ∀ D σ H, t' D σ H → t D σ H) (p : PSs X e t) : PSs X e t' := ⟨fun pins s σ H D I q => p.run pins s σ H D I (h D σ H q)⟩
abbrev RdS (X : Cx) (E : XK) (x : Stmt) (d : Ev → Store → Out Fl) : Prop := PS X x (tS X.K X.mg E d)
abbrev RdSs (X : Cx) (E : XK) (x : List Stmt) (d : Ev → Store → Out Fl) : Prop := PSs X x (tS X.K X.mg E d)

section
variable {X : Cx} {E : XK} {a b c tg iter : Expr} {pos : Pos} {da db : Ev → Store → Out W} {dt : Ev → Store → Out Bool} {ds : Ev → Store → Out (List W)} {di : Ev → Store → Out (List W × Option Nat)} {s : Stmt} {ss st1 st2 : List Stmt} {dx dy : Ev → Store → Out Fl} {t : T}
theorem rss_nil : RdSs X E [] fun env st => .ok (.nx env) st := PSs.imp (fun D σ H ⟨F, G, m, env, S, hs, he, hp⟩ => hp.now hs σ he) pss_nil
theorem rss_cons (h1 : RdS X E s dx) (h2 : RdSs X E ss dy) : RdSs X E (s :: ss) fun env st => (dx env st).bind fun r st => match r with
    | .nx env => dy env st
    | .bk env => .ok (.bk env) st
    | .rt w => .ok (.rt w) st := by
  refine PSs.imp (fun D σ H ⟨F, G, m, env, S, hs, he, hp⟩ => ?_) (pss_cons h1 h2)
  refine ⟨F, G, m, env, S, hs, he, hp.bind.mono fun r S1 F1 m1 H1 l s1 hp1 => ?_⟩
  cases r with
  | nx env1 => exact fun σ1 he1 => ⟨F1, G, m1, env1, S1, s1, he1, hp1⟩
  | rt w => exact hp1.now s1
  | bk env1 => exact hp1.now s1
theorem rs_asg (ha : RdE X E a da) (hg : PG X tg (gT X.K t)) (hs : swapsWithSole [tg] a pos.line X.env = pure false) (hw : swappedStores [tg] a X.env = pure none) (h1 : (assignEach [tg] X.env).map (·.2) = [assign tg X.env]) :
    RdS X E (.Assign [tg] a pos) fun env st => (da env st).bind fun x st => Out.of ((bindT t x env).map .nx) st := by
  refine PS.imp (fun D σ H ⟨F, G, m, env, S, hs, he, hp⟩ => ?_) (ps_asg ha hg hs hw h1)
  refine ⟨F, G, m, env, S, hs, he, hp.bind.mono fun w S1 F1 m1 H1 l s1 hp1 v rv => ?_⟩
  obtain ⟨r, e, hp1⟩ := Post.of hp1
  obtain ⟨env1, e1, rfl⟩ := map_of e
  exact ⟨F1, m1, env, env1, w, s1.fr, he.le l, rv, e1, fun σ1 he1 _ => hp1.now s1 σ1 he1⟩
theorem rs_lc {elt : Expr} {ifs : List Expr} {scope : Scope} {i : Nat} {y : Str} {py lpos : Pos} {b : Bool} {dc : Ev → Store → Out Bool} {de : Ev → Store → Out W} {own : List Nat} {ownP : List (Str × Nat)} (hc : X.calm = true) (hN : X.N.Nodup) (hy : X.N[i]? = some y) (hyl : X.env.scope.names.lookup y = some .local)
    (hsw : swapsWith (.ListComp elt [⟨tg, iter, ifs, 0⟩] scope lpos) (some (.Name y py)) pos.line X.env = pure true) (hi : RdI X E tg iter di) (ok : BlkOk X.N X.env.scope scope ownP) (hown : ownP.map (·.2) = own) (hsl : ∀ i ∈ tsl t, i ∈ own)
    (hg : ∀ (s : Shared) (H : Hp) (C : Addr) (cl : List (Str × Addr)) (fp : List Addr), PG (X.blk s H scope (compEnvC scope cl C X.env) fp) tg (gT X.K t))
    (ht : ∀ (s : Shared) (H : Hp) (C : Addr) (cl : List (Str × Addr)) (fp : List Addr), PTs (X.blk s H scope (compEnvC scope cl C X.env) fp) ifs (tBl X.K X.mg E0 dc))
    (he : ∀ (s : Shared) (H : Hp) (C : Addr) (cl : List (Str × Addr)) (fp : List Addr), PE (X.blk s H scope (compEnvC scope cl C X.env) fp) elt (tE X.K X.mg E0 de)) (hs : ∀ x, foldedSetIterable iter X.env x = pure x) :
    RdS X E (.Assign [.Name y py] (.ListComp elt [⟨tg, iter, ifs, 0⟩] scope lpos) pos) fun env st => ((di env st).bind fun p S => if p.1.length < lineS then (compL (keeps p.2 p.1) (fun x S => (Out.of (bindT t x (wipeE env own)) S).bind fun env1 S => (dc env1 S).noErr.bind fun k S =>
      if k = true then (de env1 S).noErr.bind fun y S => .ok (some y) S else .ok none S) p.1 S).bind fun ys S => newL b ys S else .bad).bind fun x st => Out.of ((bindT (.name i) x env).map .nx) st := by
  subst hown
  refine PS.imp (fun D σ H ⟨F, G, m, env, S, hs, hr, hp⟩ => ?_) (ps_setLc hc hN hy hyl hsw hi ok hg ht he hs)
  refine lc_imp (b := b) hsl σ H _ ⟨F, G, m, env, S, hs, hr, hp.bind.mono fun w S1 F1 m1 H1 l s1 hp1 v rv => ?_⟩
  obtain ⟨r, e, hp1⟩ := Post.of hp1
  obtain ⟨env1, e1, rfl⟩ := map_of e
  unfold bindT at e1
  split at e1
  · cases e1
    exact hp1.now s1 _ ((hr.le l).set rv i)
  · cases e1
theorem rs_expr (ha : RdE X E a da) (hs : swapsWith a none pos.line X.env = pure false) : RdS X E (.Expr a pos) fun env st => (da env st).bind fun _ st => .ok (.nx env) st := by
  refine PS.imp (fun D σ H ⟨F, G, m, env, S, hs, he, hp⟩ => ?_) (ps_expr ha hs)
  exact ⟨F, G, m, env, S, hs, he, hp.bind.mono fun w S1 F1 m1 H1 l s1 hp1 v rv => hp1.now s1 σ (he.le l)⟩
theorem rs_doc {x : Str} {j : Nat} {p2 : Pos} : RdS X E (.Expr (.Constant (.str x) j p2) pos) fun env st => .ok (.nx env) st := PS.imp (fun D σ H ⟨F, G, m, env, S, hs, he, hp⟩ => hp.now hs σ he) ps_doc
theorem rs_ret (ha : RdE X E a da) : RdS X E (.Return (some a) pos) fun env st => (da env st).bind fun x st => .ok (.rt x) st := by
  refine PS.imp (fun D σ H ⟨F, G, m, env, S, hs, he, hp⟩ => ?_) (ps_ret ha)
  exact ⟨F, G, m, env, S, hs, he, hp.bind.mono fun w S1 F1 m1 H1 l s1 hp1 v rv => hp1.now s1 v rv⟩
theorem rs_retN : RdS X E (.Return none pos) fun _ st => .ok (.rt (.d .non)) st := PS.imp (fun D σ H ⟨F, G, m, env, S, hs, he, hp⟩ => hp.now hs _ (.d .non)) ps_retN
theorem rs_pass : RdS X E (.Pass pos) fun env st => .ok (.nx env) st := PS.imp (fun D σ H ⟨F, G, m, env, S, hs, he, hp⟩ => hp.now hs σ he) ps_pass
theorem rs_brk : RdS X E (.Break pos) fun env st => .ok (.bk env) st := PS.imp (fun D σ H ⟨F, G, m, env, S, hs, he, hp⟩ => hp.now hs σ he) ps_break
theorem rs_never : RdS X E s fun _ _ => .bad := PS.imp (fun D σ H ⟨F, G, m, env, S, hs, he, hp⟩ => hp.elim) ps_never
theorem rs_if (hc : RdT X E c dt) (ha : RdSs X E st1 dx) (hb : RdSs X E st2 dy) : RdS X E (.If c st1 st2 pos) fun env st => (dt env st).bind fun k st => if k = true then dx env st else dy env st := by
  refine PS.imp (fun D σ H ⟨F, G, m, env, S, hs, he, hp⟩ => ?_) (ps_if hc ha hb)
  refine ⟨F, G, m, env, S, hs, he, hp.bind.mono fun k S1 F1 m1 H1 l s1 hp1 => ?_⟩
  cases k with
  | true => exact ⟨F1, G, m1, env, S1, s1, he.le l, hp1⟩
  | false => exact ⟨F1, G, m1, env, S1, s1, he.le l, hp1⟩
theorem forL_ok {K : PySem.W.Frag} {mg : Str → Option Value} {G F : Hp} {m : List Addr} {ok : Store → Bool} {f : W → Ev → Store → Out Fl} {xs : List W} {env : Ev} {S : Store} {k : Fl → Store → Hp → List Addr → Hp → Prop} (h : Post K mg G E F m (forL ok f xs env S) k) : ok S = true := by
  cases e : ok S with
  | true => rfl
  | false => cases xs <;> (unfold forL at h; rw [e] at h; exact h.elim)
theorem rs_for (ho : PassesOwn (model X.prog X.w) X.A X.env X.xe) (hc : X.calm = true) (hi : RdI X E tg iter di) (hg : PG X tg (gT X.K t)) (hb : RdSs X E ss dx) (hf : ∀ x, foldedSetIterable iter X.env x = pure x) :
    RdS X E (.For tg iter ss [] pos) fun env st => (di env st).bind fun p st => forL (keeps p.2 p.1) (fun x env st => (Out.of (bindT t x env) st).bind fun env st => dx env st) p.1 env st := by
  refine PS.imp (fun D σ H ⟨F, G, m, env, S, hs, he, hp⟩ => ?_) (ps_for ho hc hi hg hb hf)
  refine ⟨F, G, m, env, S, hs, he, hp.bind.mono fun pw S1 F1 m1 H1 l s1 hp1 J hJ => ?_⟩
  obtain ⟨ws, kk⟩ := pw
  simp only at hp1 hJ
  obtain ⟨Gd, Y, hw, hgd, hy⟩ := hJ.run
  refine for_it hw (fun i σ' H' => ∃ F2 m2 env2 S2, Le F1 m1 F2 m2 ∧ Sim X.K F2 G H' m2 S2 ∧ RepE X.K F2 m2 env2 σ' ∧ Post X.K X.mg G E F2 m2 (forL (keeps kk ws) (fun x env st => (Out.of (bindT t x env) st).bind fun env st => dx env st) (ws.drop i) env2 S2) (kS X.K D))
    ⟨F1, m1, env, S1, .refl, s1, he.le l, hp1⟩ (fun i σ' H' hi ⟨F2, m2, env2, S2, l2, s2, _, hp2⟩ => hgd F2 _ m2 S2 H' l2 s2 (forL_ok hp2)) (fun i x σ2 H2 H3 hi hpv hyv => ?_) (fun σ' H' ⟨F2, m2, env2, S2, l2, s2, he2, hp2⟩ => ?_)
  · obtain ⟨F2, m2, env2, S2, l2, s2, he2, hp2⟩ := hpv
    have ew : ws[i]? = some ws[i] := List.getElem?_eq_getElem hi
    have hk := forL_ok hp2
    obtain ⟨F3, l3, s3, rw3⟩ := hy i _ F2 _ m2 S2 H2 x H3 ew l2 s2 hk hyv
    rw [List.drop_eq_getElem_cons hi] at hp2
    unfold forL at hp2
    rw [hk, if_pos rfl] at hp2
    cases hb : bindT t ws[i] env2 with
    | none => rw [hb] at hp2; exact hp2.elim
    | some env3 =>
      rw [hb] at hp2
      simp only [Out.of_some, Out.bind_ok] at hp2
      refine ⟨F3, m2, env2, env3, ws[i], s3.fr, he2.le l3, rw3, hb, fun σ3 he3 _ => ?_⟩
      refine ⟨F3, G, m2, env3, S2, s3, he3, (Post.le hp2 l3).bind.mono fun r S4 F4 m4 H4 l4 s4 hp4 => ?_⟩
      cases r with
      | nx env4 => exact fun σ4 he4 => ⟨F4, m4, env4, S4, (l2.trans l3).trans l4, s4, he4, hp4⟩
      | rt w => exact hp4.now s4
      | bk env4 => exact hp4.now s4
  · have hk := forL_ok hp2
    rw [List.drop_length] at hp2
    unfold forL at hp2
    rw [hk, if_pos rfl] at hp2
    exact hp2.now s2 σ' he2
theorem rs_while {n : Nat} (ho : PassesOwn (model X.prog X.w) X.A X.env X.xe) (hc : RdT X E c dt) (hb : RdSs X E ss dx) : RdS X E (.While c ss [] pos) fun env st => whileL dt dx n env st := by
  refine PS.imp (fun D σ H ⟨F, G, m, env, S, hs, he, hp⟩ => ?_) (ps_while ho hc hb)
  refine ⟨fun k σ' H' => ∃ F2 m2 env2 S2, Sim X.K F2 G H' m2 S2 ∧ RepE X.K F2 m2 env2 σ' ∧ Post X.K X.mg G E F2 m2 (whileL dt dx k env2 S2) (kS X.K D), ⟨n, F, m, env, S, hs, he, hp⟩, fun k σ' H' ⟨F2, m2, env2, S2, s2, he2, hp2⟩ => ?_⟩
  cases k with
  | zero => exact hp2.elim
  | succ k =>
    unfold whileL at hp2
    refine ⟨F2, G, m2, env2, S2, s2, he2, hp2.bind.mono fun q S3 F3 m3 H3 l3 s3 hp3 => ?_⟩
    cases q with
    | false => exact hp3.now s3 σ' (he2.le l3)
    | true =>
      refine ⟨fun σ4 H4 => ∃ F4 m4 env4 S4, Sim X.K F4 G H4 m4 S4 ∧ RepE X.K F4 m4 env4 σ4 ∧ Post X.K X.mg G E F4 m4 (whileL dt dx k env4 S4) (kS X.K D), fun σ4 H4 h => ⟨k, Nat.lt_succ_self k, h⟩, ?_⟩
      refine ⟨F3, G, m3, env2, S3, s3, he2.le l3, hp3.bind.mono fun r S4 F4 m4 H4 l4 s4 hp4 => ?_⟩
      cases r with
      | nx env4 => exact fun σ4 he4 => ⟨F4, m4, env4, S4, s4, he4, hp4⟩
      | rt w => exact hp4.now s4
      | bk env4 => exact hp4.now s4

/-! ### stores -/
theorem setN_of {i : Nat} {w : W} {env env' : Ev} (h : setN i w env = some env') : env' = env.set i (some w) := by
  unfold setN at h
  split at h
  · cases h; rfl
  · cases h
theorem pip_add (mg : Str → Option Value) (E : XK) : PIp X .Add (fun x y H Q => rW2 X.K mg E (augD .Add) x y H Q) := by
  rintro pins s σ H x y v u Q I rx ry ⟨F, G, m, S, wx, wy, hs, hx, hy, hp⟩
  unfold augD at hp
  split at hp
  · cases intOf (dOf hx); cases intOf (dOf hy)
    exact iop_add pins s σ H _ _ v u Q I rx ry ⟨_, _, rfl, rfl, hp.now hs _ (.d (.int _))⟩
  · rename_i h; cases h
  · cases strOf (dOf hx); cases strOf (dOf hy)
    split at hp
    · rename_i hl
      exact iop_add_str pins s σ H _ _ v u Q I rx ry ⟨_, _, rfl, rfl, Nat.le_trans hl (by decide), hp.now hs _ (.d (.str _))⟩
    · exact hp.elim
  · exact hp.elim
theorem pip_sub (mg : Str → Option Value) (E : XK) : PIp X .Sub (fun x y H Q => rW2 X.K mg E (augD .Sub) x y H Q) := by
  rintro pins s σ H x y v u Q I rx ry ⟨F, G, m, S, wx, wy, hs, hx, hy, hp⟩
  unfold augD at hp
  split at hp
  · rename_i h; cases h
  · cases intOf (dOf hx); cases intOf (dOf hy)
    exact iop_sub pins s σ H _ _ v u Q I rx ry ⟨_, _, rfl, rfl, hp.now hs _ (.d (.int _))⟩
  · rename_i h; cases h
  · exact hp.elim
theorem rs_aug {i : Nat} {n : Str} {p : Pos} {op : Operator} (hop : op = .Add ∨ op = .Sub) (hN : X.N.Nodup) (hi : X.N[i]? = some n) (hx : Loc X.env.scope n) (hf : X.fn n = true ∨ X.env.scope.names.lookup n = some .local) (ha : RdE X E a da) :
    RdS X E (.AugAssign (.Name n p) op a pos) fun env st => (Out.of (getE env i) st).bind fun x st => (da env st).bind fun y st => (augD op x y st).bind fun z st => Out.of ((setN i z env).map .nx) st := by
  have core : ∀ {op : Operator} (ho : PIp X op (fun x y H Q => rW2 X.K X.mg E (augD op) x y H Q)), RdS X E (.AugAssign (.Name n p) op a pos) fun env st => (Out.of (getE env i) st).bind fun x st => (da env st).bind fun y st => (augD op x y st).bind fun z st => Out.of ((setN i z env).map .nx) st := fun {op} ho => by
    refine PS.imp (fun D σ H ⟨F, G, m, env, S, hs, he, hp⟩ => ?_) (ps_aug hN hi hx ha ho hf)
    dsimp only at hp
    cases e : getE env i with
    | none => rw [e] at hp; exact hp.elim
    | some w =>
      rw [e] at hp
      simp only [Out.of_some, Out.bind_ok] at hp
      obtain ⟨v, h, rv⟩ := he.get i w (getE_of e)
      refine ⟨v, h, F, G, m, env, S, hs, he, hp.bind.mono fun w2 S1 F1 m1 H1 l s1 hp1 v2 rv2 => ?_⟩
      refine ⟨F1, G, m1, S1, w, w2, s1, rv.le l, rv2, hp1.bind.mono fun w3 S2 F2 m2 H2 l2 s2 hp2 v3 rv3 => ?_⟩
      obtain ⟨r, e2, hp2⟩ := Post.of hp2
      obtain ⟨env1, e1, rfl⟩ := map_of e2
      rw [setN_of e1] at hp2
      exact hp2.now s2 _ (((he.le l).le l2).set rv3 i)
  rcases hop with rfl | rfl
  · exact core (pip_add _ _)
  · exact core (pip_sub _ _)
/-- two plain names at once -/
theorem rs_par2 {i j : Nat} {x y : Str} {px py pt : Pos} {kt k2 : Nat} {pt2 : Pos} (hc : X.calm = true) (hN : X.N.Nodup) (hi : X.N[i]? = some x) (hj : X.N[j]? = some y) (hij : i ≠ j) (hx : X.env.scope.names.lookup x = some .local) (hy : X.env.scope.names.lookup y = some .local) (ha : RdA X E [a, b] ds)
    (hw : swappedStores [.Tuple [.Name x px, .Name y py] kt pt] (.Tuple [a, b] k2 pt2) X.env = pure (some [x, y])) :
    RdS X E (.Assign [.Tuple [.Name x px, .Name y py] kt pt] (.Tuple [a, b] k2 pt2) pos) fun env st => (ds env st).bind fun ws st => Out.of ((setNs [i, j] ws env).map .nx) st := by
  refine PS.imp (fun D σ H ⟨F, G, m, env, S, hs, he, hp⟩ => ?_) (ps_par hc hN hi hj hij hx hy ha hw)
  refine ⟨F, G, m, env, S, hs, he, hp.bind.mono fun ws S1 F1 m1 H1 l s1 hp1 vs rvs => ?_⟩
  obtain ⟨r, e, hq⟩ := Post.of hp1
  obtain ⟨env1, e1, rfl⟩ := map_of e
  match ws, rvs, e1 with
  | [], _, e1 => cases e1
  | [w1, w2], rvs, e1 =>
    obtain ⟨v, v', rfl, r1, r2⟩ := two_rep rvs
    obtain ⟨enva, ea, e2⟩ := bind_of (show (setN i w1 env).bind (setNs [j] [w2]) = some env1 from e1)
    obtain ⟨envb, eb, e3⟩ := bind_of (show (setN j w2 enva).bind (setNs [] []) = some env1 from e2)
    cases e3
    rw [setN_of eb, setN_of ea] at hq
    exact ⟨v, v', rfl, hq.now s1 _ (((he.le l).set r1 i).set r2 j)⟩
  | [w1], _, e1 =>
    obtain ⟨enva, ea, e2⟩ := bind_of (show (setN i w1 env).bind (setNs [j] []) = some env1 from e1)
    cases e2
  | w1 :: w2 :: w3 :: r, _, e1 =>
    obtain ⟨enva, ea, e2⟩ := bind_of (show (setN i w1 env).bind (setNs [j] (w2 :: w3 :: r)) = some env1 from e1)
    obtain ⟨envb, eb, e3⟩ := bind_of (show (setN j w2 enva).bind (setNs [] (w3 :: r)) = some env1 from e2)
    cases e3
theorem rs_par3 {i j k : Nat} {x y z : Str} {px py pz pt : Pos} {kt k2 : Nat} {pt2 : Pos} (hc : X.calm = true) (hN : X.N.Nodup) (hi : X.N[i]? = some x) (hj : X.N[j]? = some y) (hk : X.N[k]? = some z) (hij : i ≠ j) (hik : i ≠ k) (hjk : j ≠ k)
    (hx : X.env.scope.names.lookup x = some .local) (hy : X.env.scope.names.lookup y = some .local) (hz : X.env.scope.names.lookup z = some .local) (ha : RdA X E [a, b, c] ds)
    (hw : swappedStores [.Tuple [.Name x px, .Name y py, .Name z pz] kt pt] (.Tuple [a, b, c] k2 pt2) X.env = pure (some [x, y, z])) :
    RdS X E (.Assign [.Tuple [.Name x px, .Name y py, .Name z pz] kt pt] (.Tuple [a, b, c] k2 pt2) pos) fun env st => (ds env st).bind fun ws st => Out.of ((setNs [i, j, k] ws env).map .nx) st := by
  refine PS.imp (fun D σ H ⟨F, G, m, env, S, hs, he, hp⟩ => ?_) (ps_par3 hc hN hi hj hk hij hik hjk hx hy hz ha hw)
  refine ⟨F, G, m, env, S, hs, he, hp.bind.mono fun ws S1 F1 m1 H1 l s1 hp1 vs rvs => ?_⟩
  obtain ⟨r, e, hq⟩ := Post.of hp1
  obtain ⟨env1, e1, rfl⟩ := map_of e
  match ws, rvs, e1 with
  | [], _, e1 => cases e1
  | [w1], _, e1 =>
    obtain ⟨enva, ea, e2⟩ := bind_of (show (setN i w1 env).bind (setNs [j, k] []) = some env1 from e1)
    cases e2
  | [w1, w2], _, e1 =>
    obtain ⟨enva, ea, e2⟩ := bind_of (show (setN i w1 env).bind (setNs [j, k] [w2]) = some env1 from e1)
    obtain ⟨envb, eb, e3⟩ := bind_of (show (setN j w2 enva).bind (setNs [k] []) = some env1 from e2)
    cases e3
  | [w1, w2, w3], .cons r1 (.cons r2 (.cons r3 .nil)), e1 =>
    obtain ⟨enva, ea, e2⟩ := bind_of (show (setN i w1 env).bind (setNs [j, k] [w2, w3]) = some env1 from e1)
    obtain ⟨envb, eb, e3⟩ := bind_of (show (setN j w2 enva).bind (setNs [k] [w3]) = some env1 from e2)
    obtain ⟨envc, ec, e4⟩ := bind_of (show (setN k w3 envb).bind (setNs [] []) = some env1 from e3)
    cases e4
    rw [setN_of ec, setN_of eb, setN_of ea] at hq
    exact ⟨_, _, _, rfl, hq.now s1 _ ((((he.le l).set r1 i).set r2 j).set r3 k)⟩
  | w1 :: w2 :: w3 :: w4 :: r, _, e1 =>
    obtain ⟨enva, ea, e2⟩ := bind_of (show (setN i w1 env).bind (setNs [j, k] (w2 :: w3 :: w4 :: r)) = some env1 from e1)
    obtain ⟨envb, eb, e3⟩ := bind_of (show (setN j w2 enva).bind (setNs [k] (w3 :: w4 :: r)) = some env1 from e2)
    obtain ⟨envc, ec, e4⟩ := bind_of (show (setN k w3 envb).bind (setNs [] (w4 :: r)) = some env1 from e3)
    cases e4
/-- a target that is stored to -/
def gW (K : PySem.W.Frag) (mg : Str → Option Value) (E : XK) (d : W → Ev → Store → Out Ev) : TG := fun v σ H Q => ∃ F G m env S w, Sim K F G H m S ∧ RepE K F m env σ ∧ RepW K F m w v ∧ Post K mg G E F m (d w env S) fun env' _ F' m' H' => ∀ σ', RepE K F' m' env' σ' → Q σ' H'
def gWs (K : PySem.W.Frag) (mg : Str → Option Value) (E : XK) (d : List W → Ev → Store → Out Ev) : TGs := fun vs σ H Q => ∃ F G m env S ws, Sim K F G H m S ∧ RepE K F m env σ ∧ RepWs K F m ws vs ∧ Post K mg G E F m (d ws env S) fun env' _ F' m' H' => ∀ σ', RepE K F' m' env' σ' → Q σ' H'
theorem rw_name {i : Nat} {n : Str} {p : Pos} (hN : X.N.Nodup) (hi : X.N[i]? = some n) (hx : Loc X.env.scope n) (hf : X.fn n = true ∨ X.env.scope.names.lookup n = some .local) : PG X (.Name n p) (gW X.K X.mg E fun w env st => Out.of (setN i w env) st) := by
  refine PG.imp (fun v σ H Q ⟨F, G, m, env, S, w, hs, he, hw, hp⟩ => ?_) (pg_name hN hi hx hf)
  obtain ⟨env1, e, hp⟩ := Post.of hp
  rw [setN_of e] at hp
  exact hp.now hs _ (he.set hw i)
def plainIxB : Expr → Bool
  | .Slice .. => false
  | _ => true
theorem plainIx_of {b : Expr} (h : plainIxB b = true) : PlainIx b := by
  intro o i
  cases b <;> first | rfl | cases h
theorem rw_ix {p : Pos} (hu : X.A.units + 1 < cLine) (ha : RdE X E a da) (hb : RdE X E b db) (hpl : plainIxB b = true) : PG X (.Subscript a b p) (gW X.K X.mg E fun w env st => (da env st).bind fun o st => (db env st).bind fun k st => match setIx o k w st with
    | some st => .ok env st
    | none => .bad) := by
  refine PG.imp (fun v σ H Q ⟨F, G, m, env, S, w, hs, he, hw, hp⟩ => ?_) (pg_sub ha hb (set_any hu) (by intro v; cases b <;> first | rfl | cases hpl))
  refine ⟨F, G, m, env, S, hs, he, hp.bind.mono fun wo S1 F1 m1 H1 l s1 hp1 vo ro => ⟨F1, G, m1, env, S1, s1, he.le l, hp1.bind.mono fun wi S2 F2 m2 H2 l2 s2 hp2 vi ri => ?_⟩⟩
  cases e : setIx wo wi w S2 with
  | none => rw [e] at hp2; exact hp2.elim
  | some S3 =>
    rw [e] at hp2
    exact set_rule s2 (ro.le l2) ri ((hw.le l).le l2) e fun H' s3 => hp2 F2 m2 H' .refl s3 σ ((he.le l).le l2)
theorem rws_nil : PGs X [] (gWs X.K X.mg E fun ws env st => match ws with
    | [] => .ok env st
    | _ => .bad) := by
  refine PGs.imp (fun vs σ H Q ⟨F, G, m, env, S, ws, hs, he, hw, hp⟩ => ?_) pgs_nil
  cases ws with
  | nil => cases hw; exact ⟨rfl, hp.now hs σ he⟩
  | cons => exact hp.elim
theorem rws_cons {d1 : W → Ev → Store → Out Ev} {d2 : List W → Ev → Store → Out Ev} {es : List Expr} (h1 : PG X a (gW X.K X.mg E d1)) (h2 : PGs X es (gWs X.K X.mg E d2)) (hp : plainE a = true) : PGs X (a :: es) (gWs X.K X.mg E fun ws env st => match ws with
    | w :: ws => (d1 w env st).bind fun env st => d2 ws env st
    | [] => .bad) := by
  refine PGs.imp (fun vs σ H Q ⟨F, G, m, env, S, ws, hs, he, hw, hp⟩ => ?_) (pgs_cons h1 h2 (by rw [assign_star hp]; rfl))
  cases ws with
  | nil => exact hp.elim
  | cons w ws =>
    cases hw with
    | cons r rr =>
      exact ⟨_, _, rfl, F, G, m, env, S, w, hs, he, r, hp.bind.mono fun env1 S1 F1 m1 H1 l s1 hp1 σ1 he1 => ⟨F1, G, m1, env1, S1, ws, s1, he1, RepWs.le l rr, hp1⟩⟩
/-- several targets from a tuple that is made on the way -/
theorem rs_asgs {es : List Expr} {tgs : List Expr} {k k2 : Nat} {pt pt2 : Pos} {d2 : List W → Ev → Store → Out Ev} (hc : X.calm = true) (ha : RdA X E es ds) (hg : PGs X tgs (gWs X.K X.mg E d2)) (hp : tgs.all plainE = true) (hl : ∀ ws env st, d2 ws env st ≠ .bad → ws.length = tgs.length) (hw : swappedStores [.Tuple tgs k pt] (.Tuple es k2 pt2) X.env = pure none) :
    RdS X E (.Assign [.Tuple tgs k pt] (.Tuple es k2 pt2) pos) fun env st => (ds env st).bind fun ws st => if ws.length ≤ lineS then (d2 ws env st).bind fun env st => .ok (.nx env) st else .bad := by
  obtain ⟨h1, h2⟩ := star_none (env := X.env) hp
  refine PS.imp (fun D σ H ⟨F, G, m, env, S, hs, he, hp⟩ => ?_) (ps_asg (pe_tup ha) (pg_tup hc hg h2 h1) rfl hw rfl)
  refine ⟨F, G, m, env, S, hs, he, hp.bind.mono fun ws S1 F1 m1 H1 l s1 hp1 vs rvs => ?_⟩
  split at hp1
  · rename_i hll
    refine ⟨by rw [← ws_length rvs]; exact Nat.le_trans hll (by decide), fun p hpn => ?_⟩
    obtain ⟨s2, l2⟩ := s1.froze (.tup vs) hpn
    have hlen : vs.length = tgs.length := by
      rw [← ws_length rvs]
      refine hl ws env S1 fun e => ?_
      rw [e] at hp1
      exact hp1.elim
    exact ⟨p, vs, rfl, .inl (.inl upd_same), hlen, _, G, m1, env, S1, ws, s2, (he.le l).le l2, RepWs.le l2 rvs, (Post.le hp1 l2).bind.mono fun env1 S3 F3 m3 H3 l3 s3 hp3 σ' he' => hp3.now s3 σ' he'⟩
  · exact hp1.elim
/-- o[i] = e -/
theorem rs_set {p : Pos} {dv : Ev → Store → Out W} {v : Expr} (hu : X.A.units + 1 < cLine) (hv : RdE X E v dv) (ha : RdE X E a da) (hb : RdE X E b db) (hpl : plainIxB b = true) (hs : swapsWithSole [.Subscript a b p] v pos.line X.env = pure false) (hw : swappedStores [.Subscript a b p] v X.env = pure none) :
    RdS X E (.Assign [.Subscript a b p] v pos) fun env st => (dv env st).bind fun w st => ((da env st).bind fun o st => (db env st).bind fun k st => match setIx o k w st with
    | some st => .ok env st
    | none => .bad).bind fun env st => .ok (.nx env) st := by
  refine PS.imp (fun D σ H ⟨F, G, m, env, S, hs, he, hp⟩ => ?_) (ps_asg hv (rw_ix (E := E) hu ha hb hpl) hs hw rfl)
  refine ⟨F, G, m, env, S, hs, he, hp.bind.mono fun w S1 F1 m1 H1 l s1 hp1 v rv => ?_⟩
  exact ⟨F1, G, m1, env, S1, w, s1, he.le l, rv, hp1.bind.mono fun env1 S2 F2 m2 H2 l2 s2 hp2 σ' he' => hp2.now s2 σ' he'⟩
end
end DL
/-! DLm: which text a term stands for; what it reckons is what the text does. -/
namespace DL
open PySem PySem.Spec PyProof.Rows L2

def visB (sc : Scope) (x : Str) : Bool := decide (sc.names.lookup x = some .local) || decide (sc.names.lookup x = some .cell) || decide (sc.names.lookup x = some .free)
def locB (sc : Scope) (x : Str) : Bool := decide (sc.names.lookup x = some .local) || decide (sc.names.lookup x = some .cell)
def glB (sc : Scope) (x : Str) : Bool := decide (sc.names.lookup x = some .globalImplicit)
def okN (x : Str) : Bool := !(x == ("__debug__" : Str)) && !(x == ("__classdict__" : Str)) && !decide (x = ("__name__" : Str))
def biNm : Bi → Str
  | .len => "len" | .int => "int" | .tuple => "tuple" | .list _ => "list" | .isinst _ => "isinstance" | .repr => "repr" | .abs => "abs" | .sum => "sum" | .all => "all" | .any => "any" | .min => "min" | .max => "max" | .str => "str"
def biVal : Bi → Value
  | .len => .builtin "len" | .int => .type "int" | .tuple => .type "tuple" | .list _ => .type "list" | .isinst _ => .builtin "isinstance" | .repr => .builtin "repr" | .abs => .builtin "abs" | .sum => .builtin "sum" | .all => .builtin "all" | .any => .builtin "any" | .min => .builtin "min" | .max => .builtin "max" | .str => .type "str"
def mtNm : Mt → Str
  | .append => "append" | .extend => "extend" | .popAt => "pop" | .pop => "pop" | .split => "split" | .join => "join" | .count => "count" | .remove => "remove" | .get => "get"
def notSuper : Expr → Bool
  | .Call .. => false
  | _ => true
def notTest : Expr → Bool
  | .UnaryOp .Not .. | .BoolOp .. | .IfExp .. | .Compare .. => false
  | _ => true
def notComp : Expr → Bool
  | .ListComp .. | .SetComp .. | .DictComp .. => false
  | _ => true
def ownP (N : List Str) (own : List Nat) : List (Str × Nat) := own.map fun i => (N.getD i "", i)
def isPop : Mt → Bool
  | .pop => true
  | _ => false
def isYes : B → Bool
  | .yes => true
  | _ => false
def isAnd : BoolOp → Bool
  | .And => true
  | .Or => false
mutual
def chkT (N : List Str) (sc : Scope) (fb : Str → Bool) : T → Expr → Bool
  | .name i, .Name x _ => decide (N[i]? = some x) && locB sc x && (fb x || decide (sc.names.lookup x = some .local))
  | .tup ts, .Tuple xs _ _ => chkTs N sc fb ts xs
  | _, _ => false
def chkTs (N : List Str) (sc : Scope) (fb : Str → Bool) : List T → List Expr → Bool
  | [], [] => true
  | t :: ts, x :: xs => chkT N sc fb t x && chkTs N sc fb ts xs
  | _, _ => false
end
mutual
def chkE (Γ : Tab) (N : List Str) : Scope → E → Expr → Bool
  | sc, .var i, .Name x _ => decide (N[i]? = some x) && visB sc x && okN x
  | _, .const (.int i), .Constant (.int j) _ _ => decide (i = j)
  | _, .const (.str i), .Constant (.str j) _ _ => decide (i = j)
  | _, .const (.bl i), .Constant (.bool j) _ _ => i == j
  | _, .const .non, .Constant .none _ _ => true
  | sc, .glob x v, .Name y _ => decide (x = y) && glB sc y && okN y && Γ.gl.any fun p => decide (p.1 = y) && sameD p.2 v
  | sc, .bin op a b, .BinOp x o y _ => decide (op = o) && chkE Γ N sc a x && chkE Γ N sc b y
  | sc, .neg a, .UnaryOp .USub x _ => chkE Γ N sc a x
  | sc, .cmp op a b, .Compare x [o] [y] _ => decide (op = o) && chkE Γ N sc a x && chkE Γ N sc b y && !behindInMarks o y
  | sc, .chain op op' a b c, .Compare x [o, o'] [y, z] _ => decide (op = o) && decide (op' = o') && chkE Γ N sc a x && chkE Γ N sc b y && chkE Γ N sc c z && !lastMarks [o, o'] [y, z]
  | sc, .not a, .UnaryOp .Not x _ => chkE Γ N sc a x
  | sc, .bop k es, .BoolOp op xs _ => decide (isAnd op = k) && !xs.isEmpty && chkEs Γ N sc es xs
  | sc, .ifx c a b, .IfExp x y z _ => chkB Γ N sc c x && chkE Γ N sc a y && chkE Γ N sc b z
  | sc, .tup es, .Tuple xs _ _ => chkEs Γ N sc es xs
  | sc, .lst _ es, .List xs _ => chkEs Γ N sc es xs
  | sc, .tupS es, .Tuple xs _ _ => chkAs Γ N sc es xs
  | sc, .lstS _ es, .List xs _ => chkAs Γ N sc es xs
  | sc, .ix a i, .Subscript x y _ => chkE Γ N sc a x && chkE Γ N sc i y && plainIxB y
  | sc, .slice a lo hi l h, .Subscript x (.Slice lo' hi' none _) _ => chkE Γ N sc a x && (match lo' with
      | none => !l
      | some y => l && chkE Γ N sc lo y) && (match hi' with
      | none => !h
      | some y => h && chkE Γ N sc hi y)
  | sc, .call f es, .Call (.Name x _) xs kws _ => (match Γ.fns[f]? with
      | some c => decide (c.name = x) && decide (c.n = xs.length) && decide (c.ks = kwNames kws) && decide (c.ord.length = c.np) && c.ord.all fun i => decide (i < c.n + c.ks.length)
      | none => false) && glB sc x && okN x && kwPlain kws && chkEs Γ N sc es (xs ++ kws.map (·.value))
  | sc, .bi b es, .Call (.Name x _) xs [] _ => decide (biNm b = x) && glB sc x && decide (x ∈ Γ.free) && (match b with
      | .isinst t => (match xs with
        | [y, .Name T _] => chkEs Γ N sc es [y] && glB sc T && decide (T ∈ Γ.free) && decide (T = Str.ofString t) && decide (t ∈ tyAsk)
        | _ => false)
      | _ => !xs.isEmpty && chkEs Γ N sc es xs)
  | sc, .lrange _ es, .Call (.Name f _) [.Call (.Name g _) xs [] _] [] _ => decide (f = "list") && decide (g = "range") && glB sc f && glB sc g && decide (f ∈ Γ.free) && decide (g ∈ Γ.free) && chkEs Γ N sc es xs && (xs.length == 1 || xs.length == 2)
  | sc, .mt m a es, .Call (.Attribute x name apos) xs [] cpos => decide (mtNm m = name) && (isPop m == xs.isEmpty) && notSuper x && (apos.endLine == cpos.line) && chkE Γ N sc a x && chkEs Γ N sc es xs && decide (xs.length < 20)
  | sc, .comp _ e t it c own, .ListComp elt [⟨tg, iter, ifs, 0⟩] scope _ => chkI Γ N sc it iter tg && blkC N sc scope (ownP N own) && (tsl t).all (fun i => decide (i ∈ own)) && chkT N (relS scope sc) (fun x => scope.names.lookup x == some .cell) t tg &&
      (match ifs with
      | [] => isYes c
      | [z] => chkB Γ N (relS scope sc) c z
      | _ => false) && chkE Γ N (relS scope sc) e elt
  | sc, .rep _ a n, .BinOp x .Mult y _ => chkE Γ N sc a x && chkE Γ N sc n y
  | sc, .frz a, .Name x p => chkE Γ N sc a (.Name x p)
  | _, .dict _, .Dict [] [] _ => true
  | _, _, _ => false
def chkEs (Γ : Tab) (N : List Str) : Scope → List E → List Expr → Bool
  | _, [], [] => true
  | sc, e :: es, x :: xs => chkE Γ N sc e x && chkEs Γ N sc es xs
  | _, _, _ => false
def chkAs (Γ : Tab) (N : List Str) : Scope → List A → List Expr → Bool
  | _, [], [] => true
  | sc, .one e :: es, x :: xs => chkE Γ N sc e x && chkAs Γ N sc es xs
  | sc, .star e :: es, .Starred x _ :: xs => chkE Γ N sc e x && chkAs Γ N sc es xs
  | _, _, _ => false
def chkB (Γ : Tab) (N : List Str) : Scope → B → Expr → Bool
  | sc, .val a, x => notTest x && chkE Γ N sc a x
  | sc, .not a, .UnaryOp .Not x _ => chkB Γ N sc a x
  | sc, .bop k bs, .BoolOp op xs _ => decide (isAnd op = k) && !xs.isEmpty && chkBs Γ N sc bs xs
  | sc, .cmp op a b, .Compare x [o] [y] _ => decide (op = o) && chkE Γ N sc a x && chkE Γ N sc b y && !behindInMarks o y
  | sc, .chain op op' a b c, .Compare x [o, o'] [y, z] _ => decide (op = o) && decide (op' = o') && chkE Γ N sc a x && chkE Γ N sc b y && chkE Γ N sc c z && !lastMarks [o, o'] [y, z]
  | _, _, _ => false
def chkBs (Γ : Tab) (N : List Str) : Scope → List B → List Expr → Bool
  | _, [], [] => true
  | sc, b :: bs, x :: xs => chkB Γ N sc b x && chkBs Γ N sc bs xs
  | _, _, _ => false
def chkI (Γ : Tab) (N : List Str) : Scope → I → Expr → Expr → Bool
  | sc, .seq a, x, _ => chkE Γ N sc a x
  | sc, .range es, .Call (.Name f _) xs [] _, _ => decide (f = "range") && glB sc f && decide (f ∈ Γ.free) && chkEs Γ N sc es xs && (xs.length == 1 || xs.length == 2)
  | sc, .range3 a b c, .Call (.Name f _) [x, y, z] [] _, _ => decide (f = "range") && glB sc f && decide (f ∈ Γ.free) && chkE Γ N sc a x && chkE Γ N sc b y && chkE Γ N sc c z
  | sc, .enum a, .Call (.Name f _) [x] [] _, .Tuple .. => decide (f = "enumerate") && glB sc f && decide (f ∈ Γ.free) && chkE Γ N sc a x
  | sc, .zip a b, .Call (.Name f _) [x, y] [] _, .Tuple .. => decide (f = "zip") && glB sc f && decide (f ∈ Γ.free) && chkE Γ N sc a x && chkE Γ N sc b y
  | sc, .enz a b, .Call (.Name g _) [.Call (.Name f _) [x, y] [] _] [] _, .Tuple .. => decide (g = "enumerate") && glB sc g && decide (g ∈ Γ.free) && decide (f = "zip") && glB sc f && decide (f ∈ Γ.free) && chkE Γ N sc a x && chkE Γ N sc b y
  | sc, .items a, .Call (.Attribute x name apos) [] [] cpos, .Tuple .. => decide (name = "items") && notSuper x && (apos.endLine == cpos.line) && chkE Γ N sc a x
  | _, _, _, _ => false
end
end DL
/-! DLn: what a checked term reckons is what its text does: expressions. -/
namespace DL
open PySem PySem.Spec PyProof.Rows L2

section
variable {Γ : Tab} {N : List Str} {sc : Scope} {fb : Str → Bool} {E : XK} {X : Cx}
theorem Amb.blk (h : Amb Γ N sc fb E X) {scope : Scope} (hk : scope.kind = .function) (s : Shared) (H : Hp) (C : Addr) (cl : List (Str × Addr)) (fp : List Addr) :
    Amb Γ N (relS scope sc) (fun x => scope.names.lookup x == some .cell) E0 (X.blk s H scope (compEnvC scope cl C X.env) fp) where
  calm := h.calm
  grd := h.grd
  hN := h.hN
  nd := h.nd
  hsc := by rw [← h.hsc]; rfl
  kind := hk
  hun := h.hun
  pas := by
    rintro pins σ H s e s' I ⟨a, B, H', cls, d, _, _, _, _, _, _, _, hE⟩
    exact hE.elim
  tab := h.tab
  fnb := fun x e => e
theorem Amb.gl (h : Amb Γ N sc fb E X) {x : Str} (e : glB sc x = true) : Gl X x := by
  show X.env.scope.names.lookup x = _
  rw [h.hsc]
  exact of_decide_eq_true e
theorem Amb.vis (h : Amb Γ N sc fb E X) {x : Str} (e : visB sc x = true) : Vis X.env.scope x := by
  rw [h.hsc]
  unfold visB at e
  simp only [Bool.or_eq_true, decide_eq_true_eq, or_assoc] at e
  exact e
theorem Amb.loc (h : Amb Γ N sc fb E X) {x : Str} (e : locB sc x = true) : Loc X.env.scope x := by
  rw [h.hsc]
  unfold locB at e
  simp only [Bool.or_eq_true, decide_eq_true_eq] at e
  exact e
theorem Amb.nix (h : Amb Γ N sc fb E X) {i : Nat} {x : Str} (e : N[i]? = some x) : X.N[i]? = some x := by rw [h.hN]; exact e
theorem Amb.ndX (h : Amb Γ N sc fb E X) : X.N.Nodup := by rw [h.hN]; exact h.nd
theorem Amb.mfree (h : Amb Γ N sc fb E X) {x : Str} (e : x ∈ Γ.free) : X.mg x = none := h.tab.free x e
theorem congrE {x : Expr} {d d' : Ev → Store → Out W} (h : RdE X E x d) (e : ∀ env S, d env S = d' env S) : RdE X E x d' := by
  rw [show d' = d from funext fun env => funext fun S => (e env S).symm]
  exact h
theorem okN_of {x : Str} (h : okN x = true) : (x == ("__debug__" : Str)) = false ∧ (x == ("__classdict__" : Str)) = false ∧ x ≠ "__name__" := by
  unfold okN at h
  simp only [Bool.and_eq_true, Bool.not_eq_true', decide_eq_false_iff_not] at h
  exact ⟨h.1.1, h.1.2, h.2⟩

/-! ### texts that are plain -/
theorem chkE_plain {e : DL.E} {x : Expr} (h : chkE Γ N sc e x = true) : plainE x = true := by
  cases x <;> first | rfl | (cases e <;> first | cases h | (rename_i d _ _; cases d <;> cases h) | (rename_i d; cases d <;> cases h))
theorem attr_base {o : Expr} {attr : Str} {env : Env} {whole : Sem Value} (h : notSuper o = true) : attributeBase o attr env whole = whole := by
  cases o <;> first | rfl | cases h
theorem test_base {a : Expr} {env : Env} (h : notTest a = true) (whole : Sem Value) : isTrue a env whole = (do let v ← whole; standAt a.pos; holding [v] (truthy v)) := by
  cases a with
  | UnaryOp op x p => cases op <;> first | rfl | cases h
  | BoolOp => cases h
  | IfExp => cases h
  | Compare => cases h
  | _ => rfl
theorem fold_base {Γ : Tab} {N : List Str} {sc : Scope} {it : I} {x tg : Expr} {env : Env} (h : chkI Γ N sc it x tg = true) (v : Value) : foldedSetIterable x env v = pure v := by
  cases x with
  | Set => cases it with
    | seq a => 
      cases a <;> (simp only [chkI, chkE, Bool.and_false, Bool.false_eq_true] at h)
    | _ => cases h
  | _ => rfl

/-! ### one by one -/
inductive Rds (X : Cx) (E : XK) (fns : Nat → Fn) : List DL.E → List Expr → Prop
  | nil : Rds X E fns [] []
  | cons {e : DL.E} {x : Expr} {es : List DL.E} {xs : List Expr} : RdE X E x (ev fns e) → plainE x = true → Rds X E fns es xs → Rds X E fns (e :: es) (x :: xs)
inductive Rts (X : Cx) (E : XK) (fns : Nat → Fn) : List DL.B → List Expr → Prop
  | nil : Rts X E fns [] []
  | cons {e : DL.B} {x : Expr} {es : List DL.B} {xs : List Expr} : RdT X E x (evB fns e) → Rts X E fns es xs → Rts X E fns (e :: es) (x :: xs)
variable {fns : Nat → Fn} {es : List DL.E} {xs : List Expr} {pos : Pos}
theorem Rds.ra (h : Rds X E fns es xs) : RdA X E xs (evs fns es) := by
  induction h with
  | nil => exact ra_nil
  | cons h hp _ ih => exact ra_cons h ih hp
theorem Rds.plain (h : Rds X E fns es xs) : xs.all plainE = true := by
  induction h with
  | nil => rfl
  | cons h hp _ ih => rw [List.all_cons, hp, ih]; rfl
theorem Rds.len (h : Rds X E fns es xs) : es.length = xs.length := by
  induction h with
  | nil => rfl
  | cons h hp _ ih => rw [List.length_cons, List.length_cons, ih]
theorem Rds.split {ys : List Expr} : ∀ {xs : List Expr} {es : List DL.E}, Rds X E fns es (xs ++ ys) → ∃ e1 e2, es = e1 ++ e2 ∧ Rds X E fns e1 xs ∧ Rds X E fns e2 ys
  | [], es, h => ⟨[], es, rfl, .nil, h⟩
  | x :: xs, _, .cons h hp r => by
    obtain ⟨e1, e2, rfl, h1, h2⟩ := Rds.split r
    exact ⟨_ :: e1, e2, rfl, .cons h hp h1, h2⟩
theorem Rds.rk : ∀ {kws : List Keyword} {es : List DL.E}, Rds X E fns es (kws.map (·.value)) → PK X kws (tAr X.K X.mg E (evs fns es))
  | [], _, .nil => rk_nil
  | ⟨nm, x, kp⟩ :: kws, _, .cons h hp r => rk_cons h (Rds.rk r)
theorem evs_append (fns : Nat → Fn) : ∀ (a b : List DL.E) (env : Ev) (S : Store), evs fns (a ++ b) env S = (evs fns a env S).bind fun xs S => (evs fns b env S).bind fun ys S => .ok (xs ++ ys) S
  | [], b, env, S => by
    show evs fns b env S = (evs fns b env S).bind fun ys S => .ok ([] ++ ys) S
    cases evs fns b env S <;> rfl
  | e :: a, b, env, S => by
    show (ev fns e env S).bind (fun x S => (evs fns (a ++ b) env S).bind fun xs S => .ok (x :: xs) S) = ((ev fns e env S).bind fun x S => (evs fns a env S).bind fun xs S => .ok (x :: xs) S).bind _
    cases ev fns e env S with
    | ok x S1 =>
      show (evs fns (a ++ b) env S1).bind _ = ((evs fns a env S1).bind _).bind _
      rw [evs_append fns a b env S1]
      cases evs fns a env S1 with
      | ok xs S2 =>
        show ((evs fns b env S2).bind _).bind _ = (evs fns b env S2).bind _
        cases evs fns b env S2 <;> rfl
      | _ => rfl
    | _ => rfl
theorem Rds.bop {k : Bool} {op : BoolOp} (hk : isAnd op = k) : ∀ {es : List DL.E} {xs : List Expr}, xs ≠ [] → Rds X E fns es xs → RdE X E (.BoolOp op xs pos) (evBop fns k es)
  | _, _, hn, .nil => absurd rfl hn
  | _, _, _, .cons h hp .nil => rd_bop1 h
  | _, _, _, .cons h hp (.cons h2 hp2 r) => by
    have ih := Rds.bop (op := op) hk (List.cons_ne_nil _ _) (Rds.cons h2 hp2 r)
    cases op with
    | And => cases hk; exact rd_and h ih
    | Or => cases hk; exact rd_or h ih
theorem Rts.bop {k : Bool} : ∀ {bs : List DL.B} {xs : List Expr}, xs ≠ [] → Rts X E fns bs xs → RdW X E (.BoolOp (if k then .And else .Or) xs pos) (evBs fns k bs)
  | _, _, hn, .nil => absurd rfl hn
  | _, _, _, .cons h .nil => rw_1 k h
  | _, _, _, .cons h (.cons h2 r) => by
    have ih := Rts.bop (k := k) (List.cons_ne_nil _ _) (Rts.cons h2 r)
    exact rw_cons k h ih
/-! ### calls -/
theorem fold_free {K : PySem.W.Frag} {F : Hp} {m : List Addr} : ∀ {ws : List W} {vs : List V}, RepWs K F m ws vs → ∀ ord : List Nat, RepWs K F m (ord.filterMap fun i => ws[i]?) (ord.filterMap fun i => vs[i]?) := by
  intro ws vs r ord
  have get : ∀ {ws : List W} {vs : List V}, RepWs K F m ws vs → ∀ i : Nat, (ws[i]? = none ∧ vs[i]? = none) ∨ ∃ w v, ws[i]? = some w ∧ vs[i]? = some v ∧ RepW K F m w v := by
    intro ws vs r
    induction r with
    | nil => exact fun i => .inl ⟨rfl, rfl⟩
    | cons a r ih =>
      intro i
      cases i with
      | zero => exact .inr ⟨_, _, rfl, rfl, a⟩
      | succ i => simpa using ih i
  induction ord with
  | nil => exact .nil
  | cons i ord ih =>
    rw [List.filterMap_cons, List.filterMap_cons]
    rcases get r i with ⟨e1, e2⟩ | ⟨w, v, e1, e2, q⟩
    · rw [e1, e2]; exact ih
    · rw [e1, e2]; exact .cons q ih
theorem evs_len {fns : Nat → Fn} : ∀ {es : List DL.E} {env : Ev} {S S' : Store} {ws : List W}, evs fns es env S = .ok ws S' → ws.length = es.length
  | [], env, S, S', ws, h => by cases h; rfl
  | e :: es, env, S, S', ws, h => by
    have h : ((ev fns e env S).bind fun x S => (evs fns es env S).bind fun xs S => .ok (x :: xs) S) = .ok ws S' := h
    cases e1 : ev fns e env S with
    | ok x S1 =>
      rw [e1] at h
      have h : ((evs fns es env S1).bind fun xs S => .ok (x :: xs) S) = .ok ws S' := h
      cases e2 : evs fns es env S1 with
      | ok xs S2 =>
        rw [e2] at h
        cases h
        rw [List.length_cons, List.length_cons, evs_len e2]
      | err => rw [e2] at h; cases h
      | bad => rw [e2] at h; cases h
    | err => rw [e1] at h; cases h
    | bad => rw [e1] at h; cases h
theorem Post.evs {α : Type} {K : PySem.W.Frag} {mg : Str → Option Value} {G F : Hp} {m : List Addr} {E : XK} {fns : Nat → Fn} {es : List DL.E} {env : Ev} {S : Store} {f : List W → Store → Out α} {k : α → Store → Hp → List Addr → Hp → Prop} (hp : Post K mg G E F m ((DL.evs fns es env S).bind f) k) :
    Post K mg G E F m (DL.evs fns es env S) fun ws S' F' m' _ => ws.length = es.length ∧ Post K mg G E F' m' (f ws S') k := by
  cases e : DL.evs fns es env S with
  | ok ws S1 =>
    rw [e] at hp
    exact fun F' m' H' l s => ⟨evs_len e, Post.le hp l⟩
  | err c x S1 => rw [e] at hp; exact hp
  | bad => rw [e] at hp; exact hp
theorem kw_len : ∀ {kws : List Keyword}, kwPlain kws = true → kws.length = (kwNames kws).length
  | [], _ => rfl
  | ⟨some x, v, p⟩ :: r, h => by
    show r.length + 1 = (kwNames r).length + 1
    rw [kw_len (kws := r) h]
theorem pick_len {α : Type} {xs : List α} : ∀ ord : List Nat, (∀ i ∈ ord, i < xs.length) → (ord.filterMap fun i => xs[i]?).length = ord.length
  | [], _ => rfl
  | i :: ord, h => by
    rw [List.filterMap_cons, List.getElem?_eq_getElem (h i (List.mem_cons_self ..))]
    show (ord.filterMap fun i => xs[i]?).length + 1 = _
    rw [pick_len ord fun j hj => h j (List.mem_cons_of_mem _ hj)]
    rfl
theorem rd_call (h : Amb Γ N sc fb E X) {f : Nat} {c : Callee} {x : Str} {p : Pos} {kws : List Keyword} {es : List DL.E} {xs : List Expr} (ef : Γ.fns[f]? = some c) (ex : c.name = x) (en : c.n = xs.length) (ek : c.ks = kwNames kws) (hg : glB sc x = true) (hx : okN x = true) (hkp : kwPlain kws = true)
    (r : Rds X E (fnsOf Γ) es (xs ++ kws.map (·.value))) (hlen : c.ord.length = c.np) (hord : ∀ i ∈ c.ord, i < c.n + c.ks.length) : RdE X E (.Call (.Name x p) xs kws pos) (ev (fnsOf Γ) (.call f es)) := by
  obtain ⟨e1, e2, rfl, r1, r2⟩ := r.split
  obtain ⟨g, fd, ps, k, hm, fn, room, keep, hb⟩ := h.tab.fns c (List.mem_of_getElem? ef)
  obtain ⟨hdb, _, _⟩ := okN_of hx
  subst ex
  rw [ek] at hb
  have main : PE X (.Call (.Name c.name p) xs kws pos) (tCallG c.n (kwNames kws).length c.ord (spD X.K X.mg c.np c.den) E (tAr X.K X.mg E (evs (fnsOf Γ) e1)) (tAr X.K X.mg E (evs (fnsOf Γ) e2))) := by
    cases xs with
    | nil =>
      cases r1
      refine PE.imp (fun σ H Q ⟨F, G, m, env, S, hs, he, hp⟩ => ?_) (pe_callG0 fn room h.grd (h.gl hg) hm keep hb h.pas r2.rk hkp hdb)
      exact hp.now hs [] .nil
    | cons y ys => exact pe_callG fn room h.grd (h.gl hg) hm keep hb h.pas r1.ra r2.rk r1.plain hkp hdb
  refine PE.imp (fun σ H Q ⟨F, G, m, env, S, hs, he, hp⟩ => ?_) main
  have hp : Post X.K X.mg G E F m ((evs (fnsOf Γ) (e1 ++ e2) env S).bind fun ws S => evCall (fnsOf Γ f) ws S) (kW X.K Q) := hp
  rw [evs_append] at hp
  simp only [bind_assoc', Out.bind_ok] at hp
  have hfn : fnsOf Γ f = fun ws S => c.den (c.ord.filterMap fun i => ws[i]?) S := by
    unfold fnsOf
    rw [ef]
  refine ⟨F, G, m, env, S, hs, he, (Post.evs hp).mono fun ws S1 F1 m1 H1 l s1 ⟨lw, hp1⟩ vs rvs => ⟨F1, G, m1, env, S1, s1, he.le l, (Post.evs hp1).mono fun zs S2 F2 m2 H2 l2 s2 ⟨lz, hp2⟩ us rus => ?_⟩⟩
  rw [hfn] at hp2
  have rr : RepWs X.K F2 m2 (ws ++ zs) (vs ++ us) := RepWs.append (RepWs.le l2 rvs) rus
  obtain ⟨F3, G3, m3, S3, ws3, s3, r3, l3, hp3⟩ := call_rep s2 rr hp2
  have l4 : zs.length = (kwNames kws).length := by rw [lz, r2.len, List.length_map, kw_len hkp]
  have l5 : ws.length = c.n := by rw [lw, r1.len, en]
  refine ⟨by rw [← ws_length rvs]; exact l5, by rw [← ws_length rus]; exact l4, F3, G3, m3, S3, _, ?_, s3, fold_free r3 c.ord, hp3⟩
  rw [← hlen]
  refine pick_len c.ord fun i hi => ?_
  have := hord i hi
  rw [l3, List.length_append, l5, l4, ← ek]
  exact this
/-! ### methods, built-ins -/
theorem nil_of {xs : List Expr} (h : (!xs.isEmpty) = true) : xs ≠ [] := by
  intro e
  subst e
  cases h
theorem rd_bi1 (h : Amb Γ N sc fb E X) {b : Bi} {x : Str} {p : Pos} {y : Expr} {ys : List Expr} {es : List DL.E} (hb : biNm b = x) (hne : ∀ t, b ≠ .isinst t) (hg : glB sc x = true) (hf : x ∈ Γ.free) (r : Rds X E fns es (y :: ys)) : RdE X E (.Call (.Name x p) (y :: ys) [] pos) (ev fns (.bi b es)) := by
  subst hb
  have hm := h.mfree hf
  have hgl := h.gl hg
  cases b with
  | len => exact rd_callB cr_len hgl hm (by decide +kernel) r.ra r.plain (by decide) (by decide)
  | int => exact rd_callT cr_int hgl hm (by decide +kernel) r.ra r.plain (by decide) (by decide)
  | tuple => exact rd_callT cr_tuple hgl hm (by decide +kernel) r.ra r.plain (by decide) (by decide)
  | list b => exact rd_callT (x := "list") (cr_list b) hgl hm (by decide +kernel) r.ra r.plain (by decide) (by decide)
  | isinst t => exact absurd rfl (hne t)
  | repr => exact rd_callB (cr_repr h.grd h.hun h.tab.dig) hgl hm (by decide +kernel) r.ra r.plain (by decide) (by decide)
  | abs => exact rd_callB cr_abs hgl hm (by decide +kernel) r.ra r.plain (by decide) (by decide)
  | sum => exact rd_callB (crl_sum h.calm) hgl hm (by decide +kernel) r.ra r.plain (by decide) (by decide)
  | all => exact rd_callB (crl_all h.calm) hgl hm (by decide +kernel) r.ra r.plain (by decide) (by decide)
  | any => exact rd_callB (crl_any h.calm) hgl hm (by decide +kernel) r.ra r.plain (by decide) (by decide)
  | min => exact rd_callB (crl_min h.calm (by have := h.hun; omega)) hgl hm (by decide +kernel) r.ra r.plain (by decide) (by decide)
  | max => exact rd_callB (crl_max h.calm) hgl hm (by decide +kernel) r.ra r.plain (by decide) (by decide)
  | str => exact rd_callT cr_str hgl hm (by decide +kernel) r.ra r.plain (by decide) (by decide)
theorem rd_isi1 (h : Amb Γ N sc fb E X) {t : String} {x T : Str} {p p2 : Pos} {y : Expr} {es : List DL.E} (hb : ("isinstance" : Str) = x) (hT : T = Str.ofString t) (ht : t ∈ tyAsk) (hg : glB sc x = true) (hf : x ∈ Γ.free) (hg2 : glB sc T = true) (hf2 : T ∈ Γ.free) (r : Rds X E fns es [y]) :
    RdE X E (.Call (.Name x p) [y, .Name T p2] [] pos) (ev fns (.bi (.isinst t) es)) := by
  subst hb hT
  cases r with
  | cons r1 hp r2 =>
    cases r2
    have q := rd_isi (p := p) (p2 := p2) (pos := pos) ht (h.gl hg) (h.mfree hf) (by decide +kernel) (h.gl hg2) (h.mfree hf2) (by simp only [tyAsk, List.mem_cons, List.not_mem_nil, or_false] at ht; rcases ht with rfl | rfl | rfl | rfl | rfl | rfl <;> decide +kernel) r1 hp (by decide) (by decide)
      (by simp only [tyAsk, List.mem_cons, List.not_mem_nil, or_false] at ht; rcases ht with rfl | rfl | rfl | rfl | rfl | rfl <;> decide) (by simp only [tyAsk, List.mem_cons, List.not_mem_nil, or_false] at ht; rcases ht with rfl | rfl | rfl | rfl | rfl | rfl <;> decide)
    refine congrE q fun env S => ?_
    show _ = ((ev fns _ env S).bind fun x S => (Out.ok [] S).bind fun xs S => .ok (x :: xs) S).bind fun ws S => evBi (.isinst t) ws S
    cases ev fns _ env S <;> rfl
theorem rd_mt1 (h : Amb Γ N sc fb E X) {m : Mt} {name : Str} {o : Expr} {a : DL.E} {apos cpos : Pos} {xs : List Expr} {es : List DL.E} (hm : mtNm m = name) (hpop : (isPop m == xs.isEmpty) = true) (hs : notSuper o = true) (hl : (apos.endLine == cpos.line) = true) (ha : RdE X E o (ev fns a)) (r : Rds X E fns es xs) (hlen : xs.length < 20) :
    RdE X E (.Call (.Attribute o name apos) xs [] cpos) (ev fns (.mt m a es)) := by
  subst hm
  have hbase : attributeBase o (mtNm m) X.env (eval o X.env) = eval o X.env := attr_base hs
  cases xs with
  | nil =>
    cases r
    cases m <;> first | cases hpop | skip
    exact rd_mt0 F.plainAttrs_list F.slot_list_pop F.type_list_pop crm_pop (.inr (.inl rfl)) ha hbase hl
  | cons y ys =>
    cases m with
    | append => exact rd_mt F.plainAttrs_list F.slot_list_append F.type_list_append crm_append (.inr (.inl rfl)) ha r.ra r.plain hlen hbase hl
    | extend => exact rd_mt F.plainAttrs_list F.slot_list_extend F.type_list_extend crm_extend (.inr (.inl rfl)) ha r.ra r.plain hlen hbase hl
    | popAt => exact rd_mt F.plainAttrs_list F.slot_list_pop F.type_list_pop crm_popAt (.inr (.inl rfl)) ha r.ra r.plain hlen hbase hl
    | pop => cases hpop
    | count => exact rd_mt F.plainAttrs_list F.slot_list_count F.type_list_count (crm_count (by have := h.hun; omega)) (.inr (.inl rfl)) ha r.ra r.plain hlen hbase hl
    | remove => exact rd_mt F.plainAttrs_list F.slot_list_remove F.type_list_remove (crm_remove (by have := h.hun; omega)) (.inr (.inl rfl)) ha r.ra r.plain hlen hbase hl
    | get => exact rd_mt F.plainAttrs_dict F.slot_dict_get F.type_dict_get (crm_get (by have := h.hun; omega)) (.inr (.inr rfl)) ha r.ra r.plain hlen hbase hl
    | split => exact rd_mt F.plainAttrs_str F.slot_str_split F.type_str_split crm_split (.inl rfl) ha r.ra r.plain hlen hbase hl
    | join => exact rd_mt F.plainAttrs_str F.slot_str_join F.type_str_join crm_join (.inl rfl) ha r.ra r.plain hlen hbase hl
end
end DL
/-! DLo: a checked expression reckons what its text does. -/
namespace DL
open PySem PySem.Spec PyProof.Rows L2

section
variable {Γ : Tab} {N : List Str}
theorem and2 {a b : Bool} (h : (a && b) = true) : a = true ∧ b = true := by rw [Bool.and_eq_true] at h; exact h
theorem beq_marks {b : Bool} (h : (!b) = true) : b = false := by cases b <;> first | rfl | cases h
theorem ownP_snd (N : List Str) (own : List Nat) : (ownP N own).map (·.2) = own := by
  unfold ownP
  rw [List.map_map]
  exact List.map_id' own
theorem congrI {X : Cx} {E : XK} {tg x : Expr} {d d' : Ev → Store → Out (List W × Option Nat)} (h : RdI X E tg x d) (e : ∀ env S, d env S = d' env S) : RdI X E tg x d' := by
  rw [show d' = d from funext fun env => funext fun S => (e env S).symm]
  exact h
theorem rts_yes {X : Cx} {E : XK} : PTs X [] (tBl X.K X.mg E (evB (fnsOf Γ) .yes)) :=
  ⟨fun pins s σ H Q I ⟨F, G, m, env, S, hs, he, hp⟩ => pts_nil.run pins s σ H Q I (Post.now (a := true) hp hs)⟩
mutual
theorem sndT : ∀ {t : T} {sc : Scope} {fb : Str → Bool} {E : XK} {X : Cx} {x : Expr}, chkT N sc fb t x = true → Amb Γ N sc fb E X → PG X x (gT X.K t)
  | .name i, sc, fb, E, X, x, h, am => by
    cases x with
    | Name y p =>
      simp only [chkT, Bool.and_eq_true, Bool.or_eq_true, decide_eq_true_eq] at h
      obtain ⟨⟨h1, h2⟩, h3⟩ := h
      exact rg_name am.ndX (am.nix h1) (am.loc h2) (h3.imp (am.fnb y) fun e => by rw [am.hsc]; exact e)
    | _ => cases h
  | .tup ts, sc, fb, E, X, x, h, am => by
    cases x with
    | Tuple xs k p =>
      obtain ⟨q, h1, h2⟩ := sndTs (ts := ts) h am
      exact rg_tup am.calm q h1 h2
    | _ => cases h
theorem sndTs : ∀ {ts : List T} {sc : Scope} {fb : Str → Bool} {E : XK} {X : Cx} {xs : List Expr}, chkTs N sc fb ts xs = true → Amb Γ N sc fb E X → PGs X xs (gTs X.K ts) ∧ xs.all plainE = true ∧ ts.length = xs.length
  | [], sc, fb, E, X, [], h, am => ⟨rgs_nil, rfl, rfl⟩
  | [], sc, fb, E, X, _ :: _, h, am => by cases h
  | _ :: _, sc, fb, E, X, [], h, am => by cases h
  | t :: ts, sc, fb, E, X, x :: xs, h, am => by
    obtain ⟨h1, h2⟩ := and2 (show (chkT N sc fb t x && chkTs N sc fb ts xs) = true from h)
    have q1 := sndT h1 am
    obtain ⟨q2, h3, h4⟩ := sndTs h2 am
    have hp : plainE x = true := by
      cases x <;> first | rfl | (cases t <;> cases h1)
    exact ⟨rgs_cons q1 q2 hp, by rw [List.all_cons, hp, h3]; rfl, by rw [List.length_cons, List.length_cons, h4]⟩
end
mutual
theorem sndE : ∀ {e : E} {sc : Scope} {fb : Str → Bool} {E : XK} {X : Cx} {x : Expr}, chkE Γ N sc e x = true → Amb Γ N sc fb E X → RdE X E x (ev (fnsOf Γ) e)
  | .var i, sc, fb, E, X, x, h, am => by
    cases x with
    | Name y p =>
      obtain ⟨h, h3⟩ := and2 (show (decide (N[i]? = some y) && visB sc y && okN y) = true from h)
      obtain ⟨h1, h2⟩ := and2 h
      obtain ⟨d1, d2, d3⟩ := okN_of h3
      exact rd_var (am.nix (of_decide_eq_true h1)) (am.vis h2) d1 d2
    | _ => cases h
  | .const d, sc, fb, E, X, x, h, am => by
    cases x with
    | Constant c k p =>
      cases d with
      | int i => cases c with
        | int j => cases of_decide_eq_true h; exact rd_const pe_int fun F => .int _
        | _ => cases h
      | str i => cases c with
        | str j => cases of_decide_eq_true h; exact rd_const pe_str fun F => .str _
        | _ => cases h
      | bl i => cases c with
        | bool j => cases eq_of_beq (show (i == j) = true from h); exact rd_const pe_bl fun F => .bl _
        | _ => cases h
      | non => cases c with
        | none => exact rd_const pe_non fun F => .non
        | _ => cases h
      | _ => cases c <;> cases h
    | _ => cases d <;> cases h
  | .glob y v, sc, fb, E, X, x, h, am => by
    cases x with
    | Name z p =>
      obtain ⟨h, h4⟩ := and2 (show (decide (y = z) && glB sc z && okN z && Γ.gl.any fun p => decide (p.1 = z) && sameD p.2 v) = true from h)
      obtain ⟨h, h3⟩ := and2 h
      obtain ⟨h1, h2⟩ := and2 h
      obtain ⟨d1, d2, d3⟩ := okN_of h3
      obtain ⟨q, hq, hh⟩ := List.any_eq_true.mp h4
      obtain ⟨g1, g2⟩ := and2 hh
      obtain ⟨u, w, hm, r1, r2⟩ := am.tab.gl q hq
      rw [of_decide_eq_true g1] at hm
      rw [sameD_eq g2] at r2
      exact rd_const (pe_glob (am.gl h2) hm r1 d1) fun F => r2.le fun a o e => by cases e
    | _ => cases h
  | .bin op a b, sc, fb, E, X, x, h, am => by
    cases x with
    | BinOp y o z p =>
      obtain ⟨h, h3⟩ := and2 (show (decide (op = o) && chkE Γ N sc a y && chkE Γ N sc b z) = true from h)
      obtain ⟨h1, h2⟩ := and2 h
      cases of_decide_eq_true h1
      exact rd_bin (sndE h2 am) (sndE h3 am)
    | _ => cases h
  | .neg a, sc, fb, E, X, x, h, am => by
    cases x with
    | UnaryOp o y p => cases o with
      | USub => exact rd_neg (sndE (show chkE Γ N sc a y = true from h) am)
      | _ => cases h
    | _ => cases h
  | .cmp op a b, sc, fb, E, X, x, h, am => by
    cases x with
    | Compare y os zs p =>
      match os, zs, h with
      | [o], [z], h =>
        obtain ⟨h, h4⟩ := and2 (show (decide (op = o) && chkE Γ N sc a y && chkE Γ N sc b z && !behindInMarks o z) = true from h)
        obtain ⟨h, h3⟩ := and2 h
        obtain ⟨h1, h2⟩ := and2 h
        cases of_decide_eq_true h1
        exact rd_cmp (by have := am.hun; omega) (sndE h2 am) (sndE h3 am) (beq_marks h4)
      | [], _, h => cases h
      | [_], [], h => cases h
      | [_], _ :: _ :: _, h => cases h
      | _ :: _ :: _, _, h => cases h
    | _ => cases h
  | .chain op op' a b c, sc, fb, E, X, x, h, am => by
    cases x with
    | Compare y os zs p =>
      match os, zs, h with
      | [o, o'], [z, z'], h =>
        obtain ⟨h, h6⟩ := and2 (show (decide (op = o) && decide (op' = o') && chkE Γ N sc a y && chkE Γ N sc b z && chkE Γ N sc c z' && !lastMarks [o, o'] [z, z']) = true from h)
        obtain ⟨h, h5⟩ := and2 h
        obtain ⟨h, h4⟩ := and2 h
        obtain ⟨h, h3⟩ := and2 h
        obtain ⟨h1, h2⟩ := and2 h
        cases of_decide_eq_true h1
        cases of_decide_eq_true h2
        exact rd_chain (by have := am.hun; omega) (sndE h3 am) (sndE h4 am) (sndE h5 am) (beq_marks h6)
      | [], _, h => cases h
      | [_], _, h => cases h
      | [_, _], [], h => cases h
      | [_, _], [_], h => cases h
      | [_, _], _ :: _ :: _ :: _, h => cases h
      | _ :: _ :: _ :: _, _, h => cases h
    | _ => cases h
  | .not a, sc, fb, E, X, x, h, am => by
    cases x with
    | UnaryOp o y p => cases o with
      | Not => exact rd_not (sndE (show chkE Γ N sc a y = true from h) am)
      | _ => cases h
    | _ => cases h
  | .bop k es, sc, fb, E, X, x, h, am => by
    cases x with
    | BoolOp o xs p =>
      obtain ⟨h, h3⟩ := and2 (show (decide (isAnd o = k) && !xs.isEmpty && chkEs Γ N sc es xs) = true from h)
      obtain ⟨h1, h2⟩ := and2 h
      exact Rds.bop (of_decide_eq_true h1) (nil_of h2) (sndEs h3 am)
    | _ => cases h
  | .ifx c a b, sc, fb, E, X, x, h, am => by
    cases x with
    | IfExp y z w p =>
      obtain ⟨h, h3⟩ := and2 (show (chkB Γ N sc c y && chkE Γ N sc a z && chkE Γ N sc b w) = true from h)
      obtain ⟨h1, h2⟩ := and2 h
      exact rd_ifx (sndB h1 am) (sndE h2 am) (sndE h3 am)
    | _ => cases h
  | .tup es, sc, fb, E, X, x, h, am => by
    cases x with
    | Tuple xs k p => exact rd_tup (sndEs (show chkEs Γ N sc es xs = true from h) am).ra
    | _ => cases h
  | .lst m es, sc, fb, E, X, x, h, am => by
    cases x with
    | List xs p => exact rd_lst (k := m) (sndEs (show chkEs Γ N sc es xs = true from h) am).ra
    | _ => cases h
  | .tupS es, sc, fb, E, X, x, h, am => by
    cases x with
    | Tuple xs k p => exact rd_tup (sndAs (show chkAs Γ N sc es xs = true from h) am)
    | _ => cases h
  | .lstS m es, sc, fb, E, X, x, h, am => by
    cases x with
    | List xs p => exact rd_lst (k := m) (sndAs (show chkAs Γ N sc es xs = true from h) am)
    | _ => cases h
  | .ix a i, sc, fb, E, X, x, h, am => by
    cases x with
    | Subscript y z p =>
      obtain ⟨h, h3⟩ := and2 (show (chkE Γ N sc a y && chkE Γ N sc i z && plainIxB z) = true from (by cases z <;> first | exact h | (cases i <;> first | cases h | (rename_i d _ _ _ _; cases d <;> cases h))))
      obtain ⟨h1, h2⟩ := and2 h
      exact rd_ix (by have := am.hun; omega) (sndE h1 am) (sndE h2 am) (plainIx_of h3)
    | _ => cases h
  | .slice a lo hi l hh, sc, fb, E, X, x, h, am => by
    cases x with
    | Subscript y z p => 
      cases z with
      | Slice lo' hi' st p2 =>
        cases st with
        | none =>
          obtain ⟨h, h3⟩ := and2 (show (chkE Γ N sc a y && (match (generalizing := false) lo' with | none => !l | some y => l && chkE Γ N sc lo y) && (match (generalizing := false) hi' with | none => !hh | some y => hh && chkE Γ N sc hi y)) = true from h)
          obtain ⟨h1, h2⟩ := and2 h
          refine rd_slice (sndE h1 am) (dl := fun env S => if l = true then (ev (fnsOf Γ) lo env S).bind boundI else .ok none S) (dh := fun env S => if hh = true then (ev (fnsOf Γ) hi env S).bind boundI else .ok none S) ?_ ?_
          · cases lo' with
            | none => cases beq_marks h2; exact po_no
            | some w =>
              obtain ⟨e1, e2⟩ := and2 h2
              cases e1
              exact po_yes (sndE e2 am)
          · cases hi' with
            | none => cases beq_marks h3; exact po_no
            | some w =>
              obtain ⟨e1, e2⟩ := and2 h3
              cases e1
              exact po_yes (sndE e2 am)
        | some => cases h
      | _ => cases h
    | _ => cases h
  | .call f es, sc, fb, E, X, x, h, am => by
    cases x with
    | Call fx xs kws p =>
      cases fx with
      | Name y p2 =>
        obtain ⟨h, h5⟩ := and2 (show ((match (generalizing := false) Γ.fns[f]? with
      | some c => decide (c.name = y) && decide (c.n = xs.length) && decide (c.ks = kwNames kws) && decide (c.ord.length = c.np) && c.ord.all fun i => decide (i < c.n + c.ks.length)
      | none => false) && glB sc y && okN y && kwPlain kws && chkEs Γ N sc es (xs ++ kws.map (·.value))) = true from h)
        obtain ⟨h, h4⟩ := and2 h
        obtain ⟨h, h3⟩ := and2 h
        obtain ⟨h1, h2⟩ := and2 h
        cases ef : Γ.fns[f]? with
        | none => rw [ef] at h1; cases h1
        | some c =>
          rw [ef] at h1
          obtain ⟨h, g5⟩ := and2 h1
          obtain ⟨h, g4⟩ := and2 h
          obtain ⟨h, g3⟩ := and2 h
          obtain ⟨g1, g2⟩ := and2 h
          exact rd_call am ef (of_decide_eq_true g1) (of_decide_eq_true g2) (of_decide_eq_true g3) h2 h3 h4 (sndEs h5 am) (of_decide_eq_true g4) fun i hi => of_decide_eq_true (List.all_eq_true.mp g5 i hi)
      | _ => cases h
    | _ => cases h
  | .bi b es, sc, fb, E, X, x, h, am => by
    cases x with
    | Call fx xs kws p =>
      cases fx with
      | Name y p2 =>
        cases kws with
        | nil =>
          obtain ⟨h, h4⟩ := and2 (show (decide (biNm b = y) && glB sc y && decide (y ∈ Γ.free) && (match (generalizing := false) b with
      | .isinst t => (match (generalizing := false) xs with
        | [y, .Name T _] => chkEs Γ N sc es [y] && glB sc T && decide (T ∈ Γ.free) && decide (T = Str.ofString t) && decide (t ∈ tyAsk)
        | _ => false)
      | _ => !xs.isEmpty && chkEs Γ N sc es xs)) = true from h)
          obtain ⟨h, h3⟩ := and2 h
          obtain ⟨h1, h2⟩ := and2 h
          have other : ∀ {b : Bi}, (∀ t, b ≠ .isinst t) → biNm b = y → (!xs.isEmpty && chkEs Γ N sc es xs) = true → RdE X E (.Call (.Name y p2) xs [] p) (ev (fnsOf Γ) (.bi b es)) := by
            intro b hb hn hc
            obtain ⟨g1, g2⟩ := and2 hc
            cases xs with
            | nil => cases g1
            | cons z zs => exact rd_bi1 am hn hb h2 (of_decide_eq_true h3) (sndEs g2 am)
          cases b with
          | isinst t =>
            match xs, h4 with
            | [z, .Name T p3], h4 =>
              obtain ⟨h, g5⟩ := and2 (show (chkEs Γ N sc es [z] && glB sc T && decide (T ∈ Γ.free) && decide (T = Str.ofString t) && decide (t ∈ tyAsk)) = true from h4)
              obtain ⟨h, g4⟩ := and2 h
              obtain ⟨h, g3⟩ := and2 h
              obtain ⟨g1, g2⟩ := and2 h
              exact rd_isi1 am (of_decide_eq_true h1) (of_decide_eq_true g4) (of_decide_eq_true g5) h2 (of_decide_eq_true h3) g2 (of_decide_eq_true g3) (sndEs g1 am)
          | _ => exact other (fun t e => by cases e) (of_decide_eq_true h1) h4
        | cons => cases h
      | _ => cases h
    | _ => cases h
  | .lrange m es, sc, fb, E, X, x, h, am => by
    cases x with
    | Call fx xs kws p =>
      match fx, xs, kws, h with
      | .Name f p1, [.Call (.Name g p2) zs [] p3], [], h =>
        obtain ⟨h, h8⟩ := and2 (show (decide (f = "list") && decide (g = "range") && glB sc f && glB sc g && decide (f ∈ Γ.free) && decide (g ∈ Γ.free) && chkEs Γ N sc es zs && (zs.length == 1 || zs.length == 2)) = true from h)
        obtain ⟨h, h7⟩ := and2 h
        obtain ⟨h, h6⟩ := and2 h
        obtain ⟨h, h5⟩ := and2 h
        obtain ⟨h, h4⟩ := and2 h
        obtain ⟨h, h3⟩ := and2 h
        obtain ⟨h1, h2⟩ := and2 h
        cases of_decide_eq_true h1
        cases of_decide_eq_true h2
        have q := sndEs h7 am
        match zs, q, h8 with
        | [_], .cons r1 hp1 .nil, _ =>
          refine congrE (rd_lrange1 (k := m) am.calm (am.gl h3) (am.mfree (of_decide_eq_true h5)) (am.gl h4) (am.mfree (of_decide_eq_true h6)) r1 hp1) fun env S => ?_
          show _ = ((ev (fnsOf Γ) _ env S).bind fun x S => (Out.ok [] S).bind fun xs S => .ok (x :: xs) S).bind fun ws S => (Out.of (rangeOf ws) S).bind fun xs S => newL m xs S
          cases ev (fnsOf Γ) _ env S <;> rfl
        | [_, _], .cons r1 hp1 (.cons r2 hp2 .nil), _ =>
          refine congrE (rd_lrange2 (k := m) am.calm (am.gl h3) (am.mfree (of_decide_eq_true h5)) (am.gl h4) (am.mfree (of_decide_eq_true h6)) r1 r2 hp1 hp2) fun env S => ?_
          show _ = ((ev (fnsOf Γ) _ env S).bind fun x S => ((ev (fnsOf Γ) _ env S).bind fun x S => (Out.ok [] S).bind fun xs S => .ok (x :: xs) S).bind fun xs S => .ok (x :: xs) S).bind fun ws S => (Out.of (rangeOf ws) S).bind fun xs S => newL m xs S
          simp only [bind_assoc', Out.bind_ok]
    | _ => cases h
  | .mt m a es, sc, fb, E, X, x, h, am => by
    cases x with
    | Call fx xs kws p =>
      cases fx with
      | Attribute o name apos =>
        cases kws with
        | nil =>
          obtain ⟨h, h7⟩ := and2 (show (decide (mtNm m = name) && (isPop m == xs.isEmpty) && notSuper o && (apos.endLine == p.line) && chkE Γ N sc a o && chkEs Γ N sc es xs && decide (xs.length < 20)) = true from h)
          obtain ⟨h, h6⟩ := and2 h
          obtain ⟨h, h5⟩ := and2 h
          obtain ⟨h, h4⟩ := and2 h
          obtain ⟨h, h3⟩ := and2 h
          obtain ⟨h1, h2⟩ := and2 h
          exact rd_mt1 am (of_decide_eq_true h1) h2 h3 h4 (sndE h5 am) (sndEs h6 am) (of_decide_eq_true h7)
        | cons => cases h
      | _ => cases h
    | _ => cases h
  | .comp m e t it c own, sc, fb, E, X, x, h, am => by
    cases x with
    | ListComp elt gs scope p =>
      match gs, h with
      | [⟨tg, iter, ifs, 0⟩], h =>
        obtain ⟨h, h6⟩ := and2 (show (chkI Γ N sc it iter tg && blkC N sc scope (ownP N own) && (tsl t).all (fun i => decide (i ∈ own)) && chkT N (relS scope sc) (fun x => scope.names.lookup x == some .cell) t tg &&
      (match (generalizing := false) ifs with
      | [] => isYes c
      | [z] => chkB Γ N (relS scope sc) c z
      | _ => false) && chkE Γ N (relS scope sc) e elt) = true from h)
        obtain ⟨h, h5⟩ := and2 h
        obtain ⟨h, h4⟩ := and2 h
        obtain ⟨h, h3⟩ := and2 h
        obtain ⟨h1, h2⟩ := and2 h
        have ok := blkOk_by h2
        have bl := fun s H C cl fp => am.blk ok.kind s H C cl fp
        refine rd_comp (b := m) am.calm am.ndX (sndI h1 am) (ownP := ownP N own) (by rw [am.hN, am.hsc]; exact ok) (ownP_snd N own) (fun i hi => of_decide_eq_true (List.all_eq_true.mp h3 i hi)) (fun s H C cl fp => sndT h4 (bl s H C cl fp)) (fun s H C cl fp => ?_) (fun s H C cl fp => sndE h6 (bl s H C cl fp)) (fold_base h1)
        match ifs, h5 with
        | [], h5 => cases c <;> first | exact rts_yes | cases h5
        | [z], h5 => exact pts_one (sndB h5 (bl s H C cl fp))
        | _ :: _ :: _, h5 => cases h5
    | _ => cases h
  | .rep m a n, sc, fb, E, X, x, h, am => by
    cases x with
    | BinOp y o z p =>
      cases o with
      | Mult =>
        obtain ⟨h1, h2⟩ := and2 (show (chkE Γ N sc a y && chkE Γ N sc n z) = true from h)
        exact rd_rep (k := m) (sndE h1 am) (sndE h2 am)
      | _ => cases h
    | _ => cases h
  | .frz a, sc, fb, E, X, x, h, am => by
    cases x with
    | Name y p => exact rd_frz (sndE (show chkE Γ N sc a (.Name y p) = true from h) am)
    | _ => cases h
  | .dict t, sc, fb, E, X, x, h, am => by
    cases x with
    | Dict ks vs p =>
      cases ks with
      | nil =>
        cases vs with
        | nil => exact rd_dict t
        | cons => cases h
      | cons => cases h
    | _ => cases h
theorem sndEs : ∀ {es : List DL.E} {sc : Scope} {fb : Str → Bool} {E : XK} {X : Cx} {xs : List Expr}, chkEs Γ N sc es xs = true → Amb Γ N sc fb E X → Rds X E (fnsOf Γ) es xs
  | [], sc, fb, E, X, [], h, am => .nil
  | [], sc, fb, E, X, _ :: _, h, am => by cases h
  | _ :: _, sc, fb, E, X, [], h, am => by cases h
  | e :: es, sc, fb, E, X, x :: xs, h, am => by
    obtain ⟨h1, h2⟩ := and2 (show (chkE Γ N sc e x && chkEs Γ N sc es xs) = true from h)
    exact .cons (sndE h1 am) (chkE_plain h1) (sndEs h2 am)
theorem sndAs : ∀ {es : List A} {sc : Scope} {fb : Str → Bool} {E : XK} {X : Cx} {xs : List Expr}, chkAs Γ N sc es xs = true → Amb Γ N sc fb E X → RdA X E xs (evAs (fnsOf Γ) es)
  | [], sc, fb, E, X, [], h, am => ra_nil
  | [], sc, fb, E, X, _ :: _, h, am => by cases h
  | .one _ :: _, sc, fb, E, X, [], h, am => by cases h
  | .star _ :: _, sc, fb, E, X, [], h, am => by cases h
  | .one e :: es, sc, fb, E, X, x :: xs, h, am => by
    obtain ⟨h1, h2⟩ := and2 (show (chkE Γ N sc e x && chkAs Γ N sc es xs) = true from h)
    exact ra_cons (sndE h1 am) (sndAs h2 am) (chkE_plain h1)
  | .star e :: es, sc, fb, E, X, x :: xs, h, am => by
    cases x with
    | Starred y p =>
      obtain ⟨h1, h2⟩ := and2 (show (chkE Γ N sc e y && chkAs Γ N sc es xs) = true from h)
      exact ra_star (sndE h1 am) (sndAs h2 am)
    | _ => cases h
theorem sndB : ∀ {b : B} {sc : Scope} {fb : Str → Bool} {E : XK} {X : Cx} {x : Expr}, chkB Γ N sc b x = true → Amb Γ N sc fb E X → RdT X E x (evB (fnsOf Γ) b)
  | .val a, sc, fb, E, X, x, h, am => by
    obtain ⟨h1, h2⟩ := and2 (show (notTest x && chkE Γ N sc a x) = true from h)
    exact rt_val (sndE h2 am) (test_base h1)
  | .yes, sc, fb, E, X, x, h, am => by cases x <;> cases h
  | .not a, sc, fb, E, X, x, h, am => by
    cases x with
    | UnaryOp o y p => cases o with
      | Not => exact rt_not (sndB (show chkB Γ N sc a y = true from h) am)
      | _ => cases h
    | _ => cases h
  | .bop k bs, sc, fb, E, X, x, h, am => by
    cases x with
    | BoolOp o xs p =>
      obtain ⟨h, h3⟩ := and2 (show (decide (isAnd o = k) && !xs.isEmpty && chkBs Γ N sc bs xs) = true from h)
      obtain ⟨h1, h2⟩ := and2 h
      have q := (Rts.bop (pos := p) (k := k) (nil_of h2) (sndBs h3 am)).pt
      rw [show (if k then BoolOp.And else .Or) = o from by cases of_decide_eq_true h1; cases o <;> rfl] at q
      exact q
    | _ => cases h
  | .cmp op a b, sc, fb, E, X, x, h, am => by
    cases x with
    | Compare y os zs p =>
      match os, zs, h with
      | [o], [z], h =>
        obtain ⟨h, h4⟩ := and2 (show (decide (op = o) && chkE Γ N sc a y && chkE Γ N sc b z && !behindInMarks o z) = true from h)
        obtain ⟨h, h3⟩ := and2 h
        obtain ⟨h1, h2⟩ := and2 h
        cases of_decide_eq_true h1
        exact rt_cmp (by have := am.hun; omega) (sndE h2 am) (sndE h3 am) (beq_marks h4)
      | [], _, h => cases h
      | [_], [], h => cases h
      | [_], _ :: _ :: _, h => cases h
      | _ :: _ :: _, _, h => cases h
    | _ => cases h
  | .chain op op' a b c, sc, fb, E, X, x, h, am => by
    cases x with
    | Compare y os zs p =>
      match os, zs, h with
      | [o, o'], [z, z'], h =>
        obtain ⟨h, h6⟩ := and2 (show (decide (op = o) && decide (op' = o') && chkE Γ N sc a y && chkE Γ N sc b z && chkE Γ N sc c z' && !lastMarks [o, o'] [z, z']) = true from h)
        obtain ⟨h, h5⟩ := and2 h
        obtain ⟨h, h4⟩ := and2 h
        obtain ⟨h, h3⟩ := and2 h
        obtain ⟨h1, h2⟩ := and2 h
        cases of_decide_eq_true h1
        cases of_decide_eq_true h2
        exact rt_chain (by have := am.hun; omega) (sndE h3 am) (sndE h4 am) (sndE h5 am) (beq_marks h6)
      | [], _, h => cases h
      | [_], _, h => cases h
      | [_, _], [], h => cases h
      | [_, _], [_], h => cases h
      | [_, _], _ :: _ :: _ :: _, h => cases h
      | _ :: _ :: _ :: _, _, h => cases h
    | _ => cases h
theorem sndBs : ∀ {bs : List B} {sc : Scope} {fb : Str → Bool} {E : XK} {X : Cx} {xs : List Expr}, chkBs Γ N sc bs xs = true → Amb Γ N sc fb E X → Rts X E (fnsOf Γ) bs xs
  | [], sc, fb, E, X, [], h, am => .nil
  | [], sc, fb, E, X, _ :: _, h, am => by cases h
  | _ :: _, sc, fb, E, X, [], h, am => by cases h
  | e :: es, sc, fb, E, X, x :: xs, h, am => by
    obtain ⟨h1, h2⟩ := and2 (show (chkB Γ N sc e x && chkBs Γ N sc es xs) = true from h)
    exact .cons (sndB h1 am) (sndBs h2 am)
theorem sndI : ∀ {it : I} {sc : Scope} {fb : Str → Bool} {E : XK} {X : Cx} {x tg : Expr}, chkI Γ N sc it x tg = true → Amb Γ N sc fb E X → RdI X E tg x (evI (fnsOf Γ) it)
  | .seq a, sc, fb, E, X, x, tg, h, am => by
    exact ri_seq (sndE (show chkE Γ N sc a x = true from h) am)
  | .range es, sc, fb, E, X, x, tg, h, am => by
    cases x with
    | Call fx xs kws p =>
      match fx, kws, h with
      | .Name f p1, [], h =>
        obtain ⟨h, h5⟩ := and2 (show (decide (f = "range") && glB sc f && decide (f ∈ Γ.free) && chkEs Γ N sc es xs && (xs.length == 1 || xs.length == 2)) = true from h)
        obtain ⟨h, h4⟩ := and2 h
        obtain ⟨h, h3⟩ := and2 h
        obtain ⟨h1, h2⟩ := and2 h
        cases of_decide_eq_true h1
        have q := sndEs h4 am
        match xs, q, h5 with
        | [_], .cons r1 hp1 .nil, _ =>
          refine congrI (ri_range1 (am.gl h2) (am.mfree (of_decide_eq_true h3)) r1 hp1) fun env S => ?_
          show _ = ((ev (fnsOf Γ) _ env S).bind fun x S => (Out.ok [] S).bind fun xs S => .ok (x :: xs) S).bind fun ws S => Out.of ((rangeOf ws).map fun xs => (xs, none)) S
          cases ev (fnsOf Γ) _ env S <;> rfl
        | [_, _], .cons r1 hp1 (.cons r2 hp2 .nil), _ =>
          refine congrI (ri_range2 (am.gl h2) (am.mfree (of_decide_eq_true h3)) r1 r2 hp1 hp2) fun env S => ?_
          show _ = ((ev (fnsOf Γ) _ env S).bind fun x S => ((ev (fnsOf Γ) _ env S).bind fun x S => (Out.ok [] S).bind fun xs S => .ok (x :: xs) S).bind fun xs S => .ok (x :: xs) S).bind fun ws S => Out.of ((rangeOf ws).map fun xs => (xs, none)) S
          simp only [bind_assoc', Out.bind_ok]
    | _ => cases h
  | .range3 a b c, sc, fb, E, X, x, tg, h, am => by
    cases x with
    | Call fx xs kws p =>
      match fx, xs, kws, h with
      | .Name f p1, [y, z, w], [], h =>
        obtain ⟨h, h6⟩ := and2 (show (decide (f = "range") && glB sc f && decide (f ∈ Γ.free) && chkE Γ N sc a y && chkE Γ N sc b z && chkE Γ N sc c w) = true from (by cases tg <;> exact h))
        obtain ⟨h, h5⟩ := and2 h
        obtain ⟨h, h4⟩ := and2 h
        obtain ⟨h, h3⟩ := and2 h
        obtain ⟨h1, h2⟩ := and2 h
        cases of_decide_eq_true h1
        exact ri_range3 (am.gl h2) (am.mfree (of_decide_eq_true h3)) (sndE h4 am) (sndE h5 am) (sndE h6 am) (chkE_plain h4) (chkE_plain h5) (chkE_plain h6)
    | _ => cases h
  | .enum a, sc, fb, E, X, x, tg, h, am => by
    cases x with
    | Call fx xs kws p =>
      match fx, xs, kws, tg, h with
      | .Name f p1, [y], [], .Tuple es k tp, h =>
        obtain ⟨h, h4⟩ := and2 (show (decide (f = "enumerate") && glB sc f && decide (f ∈ Γ.free) && chkE Γ N sc a y) = true from h)
        obtain ⟨h, h3⟩ := and2 h
        obtain ⟨h1, h2⟩ := and2 h
        cases of_decide_eq_true h1
        exact ri_enum (am.gl h2) (am.mfree (of_decide_eq_true h3)) (sndE h4 am) (chkE_plain h4)
    | _ => cases h
  | .zip a b, sc, fb, E, X, x, tg, h, am => by
    cases x with
    | Call fx xs kws p =>
      match fx, xs, kws, tg, h with
      | .Name f p1, [y, z], [], .Tuple es k tp, h =>
        obtain ⟨h, h5⟩ := and2 (show (decide (f = "zip") && glB sc f && decide (f ∈ Γ.free) && chkE Γ N sc a y && chkE Γ N sc b z) = true from h)
        obtain ⟨h, h4⟩ := and2 h
        obtain ⟨h, h3⟩ := and2 h
        obtain ⟨h1, h2⟩ := and2 h
        cases of_decide_eq_true h1
        exact ri_zip (am.gl h2) (am.mfree (of_decide_eq_true h3)) (sndE h4 am) (sndE h5 am) (chkE_plain h4) (chkE_plain h5)
    | _ => cases h
  | .enz a b, sc, fb, E, X, x, tg, h, am => by
    cases x with
    | Call fx xs kws p =>
      match fx, xs, kws, tg, h with
      | .Name g p1, [.Call (.Name f p2) [y, z] [] p3], [], .Tuple es k tp, h =>
        obtain ⟨h, h8⟩ := and2 (show (decide (g = "enumerate") && glB sc g && decide (g ∈ Γ.free) && decide (f = "zip") && glB sc f && decide (f ∈ Γ.free) && chkE Γ N sc a y && chkE Γ N sc b z) = true from h)
        obtain ⟨h, h7⟩ := and2 h
        obtain ⟨h, h6⟩ := and2 h
        obtain ⟨h, h5⟩ := and2 h
        obtain ⟨h, h4⟩ := and2 h
        obtain ⟨h, h3⟩ := and2 h
        obtain ⟨h1, h2⟩ := and2 h
        cases of_decide_eq_true h1
        cases of_decide_eq_true h4
        exact ri_enz (am.gl h2) (am.mfree (of_decide_eq_true h3)) (am.gl h5) (am.mfree (of_decide_eq_true h6)) (sndE h7 am) (sndE h8 am) (chkE_plain h7) (chkE_plain h8)
    | _ => cases h
  | .items a, sc, fb, E, X, x, tg, h, am => by
    cases x with
    | Call fx xs kws cpos =>
      match fx, xs, kws, tg, h with
      | .Attribute y name apos, [], [], .Tuple es k tp, h =>
        obtain ⟨h, h4⟩ := and2 (show (decide (name = "items") && notSuper y && (apos.endLine == cpos.line) && chkE Γ N sc a y) = true from h)
        obtain ⟨h, h3⟩ := and2 h
        obtain ⟨h1, h2⟩ := and2 h
        cases of_decide_eq_true h1
        exact ri_items (sndE h4 am) (attr_base h2) h3
    | _ => cases h
end
theorem comp_parts {m : Bool} {e : DL.E} {t : T} {it : I} {c : B} {own : List Nat} {sc : Scope} {fb : Str → Bool} {E : XK} {X : Cx} {elt tg iter : Expr} {ifs : List Expr} {scope : Scope} {p : Pos} (h : chkE Γ N sc (.comp m e t it c own) (.ListComp elt [⟨tg, iter, ifs, 0⟩] scope p) = true) (am : Amb Γ N sc fb E X) :
    BlkOk X.N X.env.scope scope (ownP N own) ∧ (ownP N own).map (·.2) = own ∧ (∀ i ∈ tsl t, i ∈ own) ∧ RdI X E tg iter (evI (fnsOf Γ) it) ∧
    (∀ (s : Shared) (H : Hp) (C : Addr) (cl : List (Str × Addr)) (fp : List Addr), PG (X.blk s H scope (compEnvC scope cl C X.env) fp) tg (gT X.K t)) ∧
    (∀ (s : Shared) (H : Hp) (C : Addr) (cl : List (Str × Addr)) (fp : List Addr), PTs (X.blk s H scope (compEnvC scope cl C X.env) fp) ifs (tBl X.K X.mg E0 (evB (fnsOf Γ) c))) ∧
    (∀ (s : Shared) (H : Hp) (C : Addr) (cl : List (Str × Addr)) (fp : List Addr), PE (X.blk s H scope (compEnvC scope cl C X.env) fp) elt (tE X.K X.mg E0 (ev (fnsOf Γ) e))) ∧ ∀ x, foldedSetIterable iter X.env x = pure x := by
  obtain ⟨h, h6⟩ := and2 (show (chkI Γ N sc it iter tg && blkC N sc scope (ownP N own) && (tsl t).all (fun i => decide (i ∈ own)) && chkT N (relS scope sc) (fun x => scope.names.lookup x == some .cell) t tg &&
      (match (generalizing := false) ifs with
      | [] => isYes c
      | [z] => chkB Γ N (relS scope sc) c z
      | _ => false) && chkE Γ N (relS scope sc) e elt) = true from h)
  obtain ⟨h, h5⟩ := and2 h
  obtain ⟨h, h4⟩ := and2 h
  obtain ⟨h, h3⟩ := and2 h
  obtain ⟨h1, h2⟩ := and2 h
  have ok := blkOk_by h2
  have bl := fun s H C cl fp => am.blk ok.kind s H C cl fp
  refine ⟨by rw [am.hN, am.hsc]; exact ok, ownP_snd N own, fun i hi => of_decide_eq_true (List.all_eq_true.mp h3 i hi), sndI h1 am, fun s H C cl fp => sndT h4 (bl s H C cl fp), fun s H C cl fp => ?_, fun s H C cl fp => sndE h6 (bl s H C cl fp), fold_base h1⟩
  match ifs, h5 with
  | [], h5 => cases c <;> first | exact rts_yes | cases h5
  | [z], h5 => exact pts_one (sndB h5 (bl s H C cl fp))
  | _ :: _ :: _, h5 => cases h5
end
end DL
/-! DLp: statements and defs that are checked. -/
namespace DL
open PySem PySem.Spec PyProof.Rows L2

/-! ### stores at once -/
def nameL (sc : Scope) (line : Nat) : Expr → Option Str
  | .Name id pos => if sc.names.lookup id == some .local && pos.line == line then some id else none
  | _ => none
/-- what swappedStores tells -/
def swapN (ts vs : List Expr) (sc : Scope) : Option (Option (List Str)) :=
  if (!(ts.length == 2 || ts.length == 3) || vs.length != ts.length) = true then some none
  else if (ts.filterMap (nameL sc ((ts.head?.map (·.pos.line)).getD 0))).length != ts.length || (ts.filterMap (nameL sc ((ts.head?.map (·.pos.line)).getD 0))).eraseDups.length != (ts.filterMap (nameL sc ((ts.head?.map (·.pos.line)).getD 0))).length then some none
  else if vs.all (foldedForSure 8) then some none
  else if vs.all (constantsAlone 8) then none
  else some (some (ts.filterMap (nameL sc ((ts.head?.map (·.pos.line)).getD 0))))
theorem swapN_of {ts vs : List Expr} {env : Env} {r : Option (List Str)} {k k2 : Nat} {p p2 : Pos} (hk : env.scope.kind = .function) (hp : vs.all plainE = true) (h : swapN ts vs env.scope = some r) : swappedStores [.Tuple ts k p] (.Tuple vs k2 p2) env = pure r := by
  have hb : env.blockKind = .function := by unfold Env.blockKind; rw [hk]; rfl
  have hs : (vs.any fun | .Starred .. => true | _ => false) = false := by
    rw [List.any_eq_false]
    intro v hv
    have := List.all_eq_true.mp hp v hv
    cases v <;> first | (cases this; done) | (intro h; cases h; done)
  unfold swapN at h
  unfold swappedStores
  dsimp only
  rw [hb]
  have hbb : (ScopeKind.function != ScopeKind.function) = false := by decide
  rw [hbb, Bool.or_false]
  split at h
  · rename_i h1; cases h; rw [if_pos h1]
  rename_i h1
  rw [if_neg h1]
  refine (if_neg (by erw [hs]; decide)).trans ?_
  have hn : (fun | Expr.Name id pos => if env.kindOf id == some .local && pos.line == (ts.head?.map (·.pos.line)).getD 0 then some id else none | _ => none) = nameL env.scope ((ts.head?.map (·.pos.line)).getD 0) := by
    funext x
    cases x <;> rfl
  split at h
  · rename_i h2; cases h; rw [← hn] at h2; exact if_pos h2
  rename_i h2
  refine (if_neg (by rw [← hn] at h2; exact h2)).trans ?_
  split at h
  · rename_i h3; cases h; exact if_pos h3
  rename_i h3
  refine (if_neg h3).trans ?_
  split at h
  · cases h
  · rename_i h4
    cases h
    refine (if_neg h4).trans ?_
    rw [← hn]
    rfl

/-! ### which text a statement stands for -/
def isTup : Expr → Bool
  | .Tuple .. => true
  | .List .. => true
  | _ => false
/-- a comprehension that is stored under a name at once -/
def compOk (sc : Scope) : Expr → Expr → Bool
  | .Name y py, .ListComp _ _ scope lpos => decide (sc.names.lookup y = some .local) && (py.line == lpos.line) && !(scope.names.any fun (n, k) => n == y && (k == .local || k == .cell))
  | _, _ => false
def cellOk (sc : Scope) : Expr → Expr → Bool
  | .Name y _, .ListComp .. => decide (sc.names.lookup y = some .cell)
  | _, _ => false
def isStrB : Expr → Bool
  | .Constant (.str _) _ _ => true
  | _ => false
def addSub (op : Operator) : Bool := decide (op = .Add) || decide (op = .Sub)
def chkTg (Γ : Tab) (N : List Str) (sc : Scope) : Tg → Expr → Bool
  | .name i, .Name x _ => decide (N[i]? = some x) && locB sc x
  | .ix a i, .Subscript x y _ => chkE Γ N sc a x && chkE Γ N sc i y && plainIxB y
  | _, _ => false
def chkTgs (Γ : Tab) (N : List Str) (sc : Scope) : List Tg → List Expr → Bool
  | [], [] => true
  | t :: ts, x :: xs => chkTg Γ N sc t x && chkTgs Γ N sc ts xs
  | _, _ => false
def parB (N : List Str) (sc : Scope) : List Nat → List Expr → List Expr → Bool
  | [i, j], [.Name x _, .Name y _], [v, w] => decide (N[i]? = some x) && decide (N[j]? = some y) && decide (i ≠ j) && decide (sc.names.lookup x = some .local) && decide (sc.names.lookup y = some .local) && plainE v && plainE w
  | [i, j, k], [.Name x _, .Name y _, .Name z _], [v, w, u] => decide (N[i]? = some x) && decide (N[j]? = some y) && decide (N[k]? = some z) && decide (i ≠ j) && decide (i ≠ k) && decide (j ≠ k) && decide (sc.names.lookup x = some .local) && decide (sc.names.lookup y = some .local) && decide (sc.names.lookup z = some .local)
  | _, _, _ => false
def namesOf : List Expr → List Str
  | .Name x _ :: r => x :: namesOf r
  | _ => []
mutual
def chkS (Γ : Tab) (N : List Str) (sc : Scope) : Sm → Stmt → Bool
  | .asg t e, .Assign [tg] v _ => chkT N sc (fun _ => true) t tg && chkE Γ N sc e v && (if notComp v = true then !(isTup tg && isTup v) else compOk sc tg v || cellOk sc tg v)
  | .asgs ts es, .Assign [.Tuple tgs _ _] (.Tuple vs _ _) _ => chkTgs Γ N sc ts tgs && chkEs Γ N sc es vs && decide (swapN tgs vs sc = some none) && decide (es.length = ts.length)
  | .set a i e, .Assign [.Subscript x y _] v _ => chkE Γ N sc a x && chkE Γ N sc i y && plainIxB y && chkE Γ N sc e v
  | .par is es, .Assign [.Tuple tgs _ _] (.Tuple vs _ _) _ => parB N sc is tgs vs && chkEs Γ N sc es vs && decide (swapN tgs vs sc = some (some (namesOf tgs)))
  | .aug i op e, .AugAssign (.Name x _) o v _ => decide (N[i]? = some x) && locB sc x && decide (op = o) && addSub op && chkE Γ N sc e v
  | .expr e, .Expr v _ => notComp v && chkE Γ N sc e v
  | .pass, .Expr v _ => isStrB v
  | .pass, .Pass _ => true
  | .ret e, .Return (some v) _ => chkE Γ N sc e v
  | .retN, .Return none _ => true
  | .ife c a b, .If x s1 s2 _ => chkB Γ N sc c x && chkSs Γ N sc a s1 && chkSs Γ N sc b s2
  | .for_ t it b, .For tg iter body [] _ => chkT N sc (fun _ => true) t tg && chkI Γ N sc it iter tg && chkSs Γ N sc b body
  | .while_ _ c b, .While x body [] _ => chkB Γ N sc c x && chkSs Γ N sc b body
  | .brk, .Break _ => true
  | .never, _ => true
  | _, _ => false
def chkSs (Γ : Tab) (N : List Str) (sc : Scope) : List Sm → List Stmt → Bool
  | [], [] => true
  | a :: as, x :: xs => chkS Γ N sc a x && chkSs Γ N sc as xs
  | _, _ => false
end

section
variable {Γ : Tab} {N : List Str} {sc : Scope} {E : XK} {X : Cx}
theorem swap_cell {elt : Expr} {gs : List Comprehension} {scope : Scope} {pos py : Pos} {y : Str} {l : Nat} {env : Env} (hy : env.scope.names.lookup y = some .cell) : swapsWith (.ListComp elt gs scope pos) (some (.Name y py)) l env = pure false := by
  have ky : env.kindOf y = some .cell := hy
  unfold swapsWith
  simp only [ky, show (some NameKind.cell == some NameKind.local) = false from rfl, Bool.and_false, Bool.false_and]
theorem swap_false {v : Expr} {t : Option Expr} {l : Nat} {env : Env} (h : notComp v = true) : swapsWith v t l env = pure false := by
  cases v <;> first | rfl | cases h
theorem swap_none {tg v : Expr} {env : Env} (h : (!(isTup tg && isTup v)) = true) : swappedStores [tg] v env = pure none := by
  cases tg <;> first | rfl | (cases v <;> first | rfl | cases h)
theorem fnb_all (am : Amb Γ N sc (fun _ => true) E X) (x : Str) : X.fn x = true := am.fnb x rfl
theorem sndTg {t : Tg} {x : Expr} (h : chkTg Γ N sc t x = true) (am : Amb Γ N sc (fun _ => true) E X) : PG X x (gW X.K X.mg E (evTg (fnsOf Γ) t)) ∧ plainE x = true := by
  cases t with
  | name i =>
    cases x with
    | Name y p =>
      obtain ⟨h1, h2⟩ := and2 (show (decide (N[i]? = some y) && locB sc y) = true from h)
      exact ⟨rw_name am.ndX (am.nix (of_decide_eq_true h1)) (am.loc h2) (.inl (fnb_all am y)), rfl⟩
    | _ => cases h
  | ix a i =>
    cases x with
    | Subscript y z p =>
      obtain ⟨h, h3⟩ := and2 (show (chkE Γ N sc a y && chkE Γ N sc i z && plainIxB z) = true from h)
      obtain ⟨h1, h2⟩ := and2 h
      exact ⟨rw_ix (by have := am.hun; omega) (sndE h1 am) (sndE h2 am) h3, rfl⟩
    | _ => cases h
theorem sndTgs : ∀ {ts : List Tg} {xs : List Expr}, chkTgs Γ N sc ts xs = true → Amb Γ N sc (fun _ => true) E X → PGs X xs (gWs X.K X.mg E (evTgs (fnsOf Γ) ts)) ∧ xs.all plainE = true ∧ ts.length = xs.length
  | [], [], h, am => by
    refine ⟨?_, rfl, rfl⟩
    have e : (evTgs (fnsOf Γ) []) = fun ws env st => match ws with | [] => .ok env st | _ => .bad := by
      funext ws env st
      cases ws <;> rfl
    rw [e]
    exact rws_nil
  | [], _ :: _, h, am => by cases h
  | _ :: _, [], h, am => by cases h
  | t :: ts, x :: xs, h, am => by
    obtain ⟨h1, h2⟩ := and2 (show (chkTg Γ N sc t x && chkTgs Γ N sc ts xs) = true from h)
    obtain ⟨q1, p1⟩ := sndTg h1 am
    obtain ⟨q2, p2, l2⟩ := sndTgs h2 am
    refine ⟨?_, by rw [List.all_cons, p1, p2]; rfl, by rw [List.length_cons, List.length_cons, l2]⟩
    have e : (evTgs (fnsOf Γ) (t :: ts)) = fun ws env st => match ws with | w :: ws => (evTg (fnsOf Γ) t w env st).bind fun env st => evTgs (fnsOf Γ) ts ws env st | [] => .bad := by
      funext ws env st
      cases ws <;> rfl
    rw [e]
    exact rws_cons q1 q2 p1
theorem rs_asgs2 {fns : Nat → Fn} {es : List DL.E} {vs tgs : List Expr} {k k2 : Nat} {pos pt pt2 : Pos} {d2 : List W → Ev → Store → Out Ev} (hc : X.calm = true) (ha : RdA X E vs (evs fns es)) (hg : PGs X tgs (gWs X.K X.mg E d2)) (hp : tgs.all plainE = true) (hl : es.length = tgs.length) (hw : swappedStores [.Tuple tgs k pt] (.Tuple vs k2 pt2) X.env = pure none) :
    RdS X E (.Assign [.Tuple tgs k pt] (.Tuple vs k2 pt2) pos) fun env st => (evs fns es env st).bind fun ws st => if ws.length ≤ lineS then (d2 ws env st).bind fun env st => .ok (.nx env) st else .bad := by
  obtain ⟨h1, h2⟩ := star_none (env := X.env) hp
  refine PS.imp (fun D σ H ⟨F, G, m, env, S, hs, he, hp⟩ => ?_) (ps_asg (pe_tup ha) (pg_tup hc hg h2 h1) rfl hw rfl)
  refine ⟨F, G, m, env, S, hs, he, (Post.evs hp).mono fun ws S1 F1 m1 H1 l s1 ⟨lw, hp1⟩ vs rvs => ?_⟩
  split at hp1
  · rename_i hll
    refine ⟨by rw [← ws_length rvs]; exact Nat.le_trans hll (by decide), fun p hpn => ?_⟩
    obtain ⟨s2, l2⟩ := s1.froze (.tup vs) hpn
    have hlen : vs.length = tgs.length := by rw [← ws_length rvs, lw, hl]
    exact ⟨p, vs, rfl, .inl (.inl upd_same), hlen, _, G, m1, env, S1, ws, s2, (he.le l).le l2, RepWs.le l2 rvs, (Post.le hp1 l2).bind.mono fun env1 S3 F3 m3 H3 l3 s3 hp3 σ' he' => hp3.now s3 σ' he'⟩
  · exact hp1.elim
theorem congrS {x : Stmt} {d d' : Ev → Store → Out Fl} (h : RdS X E x d) (e : ∀ env S, d env S = d' env S) : RdS X E x d' := by
  rw [show d' = d from funext fun env => funext fun S => (e env S).symm]
  exact h
mutual
theorem sndS : ∀ {s : Sm} {x : Stmt}, chkS Γ N sc s x = true → Amb Γ N sc (fun _ => true) E X → PassesOwn (model X.prog X.w) X.A X.env X.xe → RdS X E x (evS (fnsOf Γ) s)
  | .asg t e, x, h, am, ho => by
    cases x with
    | Assign tgs v pos =>
      match tgs, h with
      | [tg], h =>
        obtain ⟨h, h3⟩ := and2 (show (chkT N sc (fun _ => true) t tg && chkE Γ N sc e v && (if notComp v = true then !(isTup tg && isTup v) else compOk sc tg v || cellOk sc tg v)) = true from h)
        obtain ⟨h1, h2⟩ := and2 h
        cases hn : notComp v with
        | true =>
          rw [hn, if_pos rfl] at h3
          have hpl : plainE tg = true := by cases tg <;> first | rfl | (cases t <;> cases h1)
          exact rs_asg (sndE h2 am) (sndT h1 am) (swap_false hn) (swap_none h3) (by rw [assign_star hpl]; rfl)
        | false =>
          rw [hn, if_neg (by decide)] at h3
          cases tg with
          | Name y py =>
            cases v with
            | ListComp elt gs scope lpos =>
              rcases Bool.or_eq_true_iff.mp h3 with h3 | h3
              case inr => exact rs_asg (sndE h2 am) (sndT h1 am) (swap_cell (l := pos.line) (by rw [am.hsc]; exact of_decide_eq_true h3)) (swap_none rfl) (by rw [assign_star rfl]; rfl)
              obtain ⟨h, h6⟩ := and2 (show (decide (sc.names.lookup y = some .local) && (py.line == lpos.line) && !(scope.names.any fun (n, k) => n == y && (k == .local || k == .cell))) = true from h3)
              obtain ⟨h4, h5⟩ := and2 h
              cases t with
              | tup => cases h1
              | name i =>
                cases e with
                | comp m e t it c own =>
                  match gs, h2 with
                  | [⟨tg, iter, ifs, 0⟩], h2 =>
                    obtain ⟨ok, hown, hsl, hi, hg, ht, he, hf⟩ := comp_parts h2 am
                    have hNi : N[i]? = some y := by
                      simp only [chkT, Bool.and_eq_true, decide_eq_true_eq] at h1
                      exact h1.1.1
                    have hy : X.env.scope.names.lookup y = some .local := by rw [am.hsc]; exact of_decide_eq_true h4
                    exact rs_lc (b := m) am.calm am.ndX (am.nix hNi) hy (sw_true (by rw [am.hsc]; exact am.kind) hy h5 (beq_marks h6)) hi ok hown hsl hg ht he hf
                | const d => cases d <;> cases h2
                | _ => cases h2
            | SetComp => cases h3
            | DictComp => cases h3
            | _ => cases hn
          | _ => cases v <;> cases h3
      | [], h => cases h
      | _ :: _ :: _, h => cases h
    | _ => cases h
  | .asgs ts es, x, h, am, ho => by
    cases x with
    | Assign tgs v pos =>
      match tgs, v, h with
      | [.Tuple tgs k p], .Tuple vs k2 p2, h =>
        obtain ⟨h, h4⟩ := and2 (show (chkTgs Γ N sc ts tgs && chkEs Γ N sc es vs && decide (swapN tgs vs sc = some none) && decide (es.length = ts.length)) = true from h)
        obtain ⟨h, h3⟩ := and2 h
        obtain ⟨h1, h2⟩ := and2 h
        obtain ⟨q, p1, l1⟩ := sndTgs h1 am
        have r := sndEs h2 am
        exact rs_asgs2 am.calm r.ra q p1 (by rw [of_decide_eq_true h4, l1]) (swapN_of (by rw [am.hsc]; exact am.kind) r.plain (by rw [am.hsc]; exact of_decide_eq_true h3))
    | _ => cases h
  | .set a i e, x, h, am, ho => by
    cases x with
    | Assign tgs v pos =>
      match tgs, h with
      | [.Subscript y z p], h =>
        obtain ⟨h, h4⟩ := and2 (show (chkE Γ N sc a y && chkE Γ N sc i z && plainIxB z && chkE Γ N sc e v) = true from h)
        obtain ⟨h, h3⟩ := and2 h
        obtain ⟨h1, h2⟩ := and2 h
        exact rs_set (by have := am.hun; omega) (sndE h4 am) (sndE h1 am) (sndE h2 am) h3 (by cases v <;> rfl) rfl
    | _ => cases h
  | .par is es, x, h, am, ho => by
    cases x with
    | Assign tgs v pos =>
      match tgs, v, h with
      | [.Tuple tgs k p], .Tuple vs k2 p2, h =>
        obtain ⟨h, h3⟩ := and2 (show (parB N sc is tgs vs && chkEs Γ N sc es vs && decide (swapN tgs vs sc = some (some (namesOf tgs)))) = true from h)
        obtain ⟨h1, h2⟩ := and2 h
        have r := sndEs h2 am
        have hw := swapN_of (k := k) (k2 := k2) (p := p) (p2 := p2) (by rw [am.hsc]; exact am.kind) r.plain (by rw [am.hsc]; exact of_decide_eq_true h3)
        match is, tgs, vs, h1, r, hw with
        | [i, j], [.Name x px, .Name y py], [v, w], h1, r, hw =>
          simp only [parB, Bool.and_eq_true, decide_eq_true_eq] at h1
          obtain ⟨⟨⟨⟨⟨⟨g1, g2⟩, g3⟩, g4⟩, g5⟩, _⟩, _⟩ := h1
          exact rs_par2 am.calm am.ndX (am.nix g1) (am.nix g2) g3 (by rw [am.hsc]; exact g4) (by rw [am.hsc]; exact g5) r.ra hw
        | [i, j, l], [.Name x px, .Name y py, .Name z pz], [v, w, u], h1, r, hw =>
          simp only [parB, Bool.and_eq_true, decide_eq_true_eq] at h1
          obtain ⟨⟨⟨⟨⟨⟨⟨⟨g1, g2⟩, g3⟩, g4⟩, g5⟩, g6⟩, g7⟩, g8⟩, g9⟩ := h1
          exact rs_par3 am.calm am.ndX (am.nix g1) (am.nix g2) (am.nix g3) g4 g5 g6 (by rw [am.hsc]; exact g7) (by rw [am.hsc]; exact g8) (by rw [am.hsc]; exact g9) r.ra hw
    | _ => cases h
  | .aug i op e, x, h, am, ho => by
    cases x with
    | AugAssign tg o v pos =>
      cases tg with
      | Name y p =>
        obtain ⟨h, h5⟩ := and2 (show (decide (N[i]? = some y) && locB sc y && decide (op = o) && addSub op && chkE Γ N sc e v) = true from h)
        obtain ⟨h, h4⟩ := and2 h
        obtain ⟨h, h3⟩ := and2 h
        obtain ⟨h1, h2⟩ := and2 h
        cases of_decide_eq_true h3
        refine rs_aug ?_ am.ndX (am.nix (of_decide_eq_true h1)) (am.loc h2) (.inl (fnb_all am y)) (sndE h5 am)
        simp only [addSub, Bool.or_eq_true, decide_eq_true_eq] at h4
        exact h4
      | _ => cases h
    | _ => cases h
  | .expr e, x, h, am, ho => by
    cases x with
    | Expr v pos =>
      obtain ⟨h1, h2⟩ := and2 (show (notComp v && chkE Γ N sc e v) = true from h)
      exact rs_expr (sndE h2 am) (swap_false h1)
    | _ => cases h
  | .pass, x, h, am, ho => by
    cases x with
    | Expr v pos =>
      cases v with
      | Constant c k p => cases c <;> first | exact rs_doc | cases h
      | _ => cases h
    | Pass pos => exact rs_pass
    | _ => cases h
  | .ret e, x, h, am, ho => by
    cases x with
    | Return v pos =>
      cases v with
      | some v => exact rs_ret (sndE (show chkE Γ N sc e v = true from h) am)
      | none => cases h
    | _ => cases h
  | .retN, x, h, am, ho => by
    cases x with
    | Return v pos =>
      cases v with
      | some v => cases h
      | none => exact rs_retN
    | _ => cases h
  | .ife c a b, x, h, am, ho => by
    cases x with
    | If y s1 s2 pos =>
      obtain ⟨h, h3⟩ := and2 (show (chkB Γ N sc c y && chkSs Γ N sc a s1 && chkSs Γ N sc b s2) = true from h)
      obtain ⟨h1, h2⟩ := and2 h
      exact rs_if (sndB h1 am) (sndSs h2 am ho) (sndSs h3 am ho)
    | _ => cases h
  | .for_ t it b, x, h, am, ho => by
    cases x with
    | For tg iter body els pos =>
      cases els with
      | nil =>
        obtain ⟨h, h3⟩ := and2 (show (chkT N sc (fun _ => true) t tg && chkI Γ N sc it iter tg && chkSs Γ N sc b body) = true from h)
        obtain ⟨h1, h2⟩ := and2 h
        exact rs_for ho am.calm (sndI h2 am) (sndT h1 am) (sndSs h3 am ho) (fold_base h2)
      | cons => cases h
    | _ => cases h
  | .while_ n c b, x, h, am, ho => by
    cases x with
    | While y body els pos =>
      cases els with
      | nil =>
        obtain ⟨h1, h2⟩ := and2 (show (chkB Γ N sc c y && chkSs Γ N sc b body) = true from h)
        exact rs_while ho (sndB h1 am) (sndSs h2 am ho)
      | cons => cases h
    | _ => cases h
  | .brk, x, h, am, ho => by
    cases x with
    | Break => exact rs_brk
    | _ => cases h
  | .never, x, h, am, ho => rs_never
theorem sndSs : ∀ {ss : List Sm} {xs : List Stmt}, chkSs Γ N sc ss xs = true → Amb Γ N sc (fun _ => true) E X → PassesOwn (model X.prog X.w) X.A X.env X.xe → RdSs X E xs (evSs (fnsOf Γ) ss)
  | [], [], h, am, ho => rss_nil
  | [], _ :: _, h, am, ho => by cases h
  | _ :: _, [], h, am, ho => by cases h
  | s :: ss, x :: xs, h, am, ho => by
    obtain ⟨h1, h2⟩ := and2 (show (chkS Γ N sc s x && chkSs Γ N sc ss xs) = true from h)
    exact rss_cons (sndS h1 am ho) (sndSs h2 am ho)
end
end
end DL
/-! DLq: defs by their terms; the law's own call. -/
namespace DL
open PySem PySem.Spec PyProof.Rows L2

/-- what stands around the defs of a level -/
structure TabK (P : Program) (w : World) (K : PySem.W.Frag) (mg : Str → Option Value) (base : Heap) (k : Nat) (Γ : Tab) : Prop where
  fns : ∀ c ∈ Γ.fns, ∃ f fd ps j, mg c.name = some (.ref f) ∧ FnG P w K mg base j f fd ps (spD K mg c.np c.den) ∧ j ≤ k ∧ PySem.W.keepIn K (.ref f) = true ∧ BindsK fd ps c.ks c.n c.ord
  free : ∀ x ∈ Γ.free, mg x = none
  gl : ∀ p ∈ Γ.gl, ∃ u v, mg p.1 = some u ∧ RelV v u ∧ RepD K (fun _ => none) p.2 v
  dig : base.NoDigits
section
variable {P : Program} {w : World} {K : PySem.W.Frag} {mg : Str → Option Value} {base : Heap} {k : Nat} {Γ : Tab}
theorem TabK.ok {A : Around} (t : TabK P w K mg base k Γ) (r : Room k A) : TabOk P w K mg base A Γ where
  fns := fun c hc => by
    obtain ⟨f, fd, ps, j, h1, h2, h3, h4, h5⟩ := t.fns c hc
    exact ⟨f, fd, ps, j, h1, h2, r.mono h3, h4, h5⟩
  free := t.free
  gl := t.gl
  dig := t.dig
theorem rep_somes {F : Hp} {m : List Addr} : ∀ {ws : List W} {vs : List V}, RepWs K F m ws vs → ∀ n : Nat, RepE K F m (ws.map some ++ List.replicate n none) (vs.map some ++ List.replicate n none) := by
  intro ws vs r n
  induction r with
  | nil =>
    refine ⟨by simp, fun i w e => ?_⟩
    rw [List.map_nil, List.nil_append, List.getElem?_replicate] at e
    split at e <;> simp at e
  | @cons w v ws vs a r ih =>
    refine ⟨by have := ih.len; simpa using this, fun i u e => ?_⟩
    cases i with
    | zero =>
      have e : some (some w) = some (some u) := e
      cases e
      exact ⟨v, rfl, a⟩
    | succ i => exact ih.get i u e
theorem def_ok {x qual : Str} {params : Arguments} {body : List Stmt} {scope : Scope} {dvs : List V} {kws : List (Str × V)} {f : Addr} {fd : FuncData} {N ps : List Str} {b : List Sm}
    (F : FunD K x qual params body scope dvs kws f fd) (S : C8.scC N ps scope = true) (t : TabK P w K mg base k Γ) (h : chkSs Γ N scope b body = true) :
    FnG P w K mg base (k + 1) f fd ps (spD K mg ps.length (evF (fnsOf Γ) N.length b)) := by
  have S := C8.fnScope_by S
  have lenp : ∀ vs H Q E, spD K mg ps.length (evF (fnsOf Γ) N.length b) vs H Q E → vs.length = ps.length := by
    rintro vs H Q E ⟨F, G, m, S, ws, hl, _, hw, _⟩
    rw [← ws_length hw]
    exact hl
  refine okG F S lenp fun cdv A outer s H vs Q E hr hg hsp => ?_
  have am : Amb Γ N scope (fun _ => true) E (cxOf (L2.CX P w) P w K mg base N qual scope f cdv A outer s H E) := {
    calm := rfl
    grd := hg
    hN := rfl
    nd := S.nd
    hsc := rfl
    kind := S.kind
    hun := by
      have := hr.un
      show (A.deeper (envOfC qual scope s.heap.objs.size f cdv)).units + 70 < cLine
      omega
    pas := passes_call (takes_of rfl rfl rfl rfl) (fun _ _ _ _ h => h)
    tab := t.ok hr
    fnb := fun _ _ => rfl }
  refine ⟨_, sndSs h am (passes_of rfl), ?_⟩
  obtain ⟨F, G, m, St, ws, hl, hs, hw, hp⟩ := hsp
  refine ⟨F, G, m, _, St, hs, rep_somes hw (N.length - vs.length), ?_⟩
  unfold evF at hp
  rw [ws_length hw] at hp
  refine hp.bind.mono fun r S1 F1 m1 H1 l s1 hp1 => ?_
  cases r with
  | nx env => exact fun σ' _ => hp1.now s1 _ (.d .non)
  | rt w => exact hp1.now s1
  | bk env => exact hp1.elim
end

/-! ### the law is called -/
/-- nothing is known but the one thing at a -/
def Sole (H : Hp) (a : Addr) (o : Obj) (xs : List V) : Prop := ∀ b u, H b = some u → b = a ∧ u = .frz o (.lst xs)
section
variable {P : Program} {w : World} {K : PySem.W.Frag} {mg mb : Str → Option Value} {k : Nat} {fa a : Addr} {fd : FuncData} {x : Str} {sp : Sp} {s : Shared} {vs : List Value} {ns : List Int}
theorem law_in (KX : K.In s.heap) (hns : s.heap.Ns mainGlobals mg) (hb : s.heap.Ns builtinsNs mb)
    (hbb : ∀ x : Str, x ≠ "__name__" → mb x = bootBuiltins x) (hlim : s.heap.NoLimit) (hdig : s.heap.NoDigits)
    (hg : s.gens = #[]) (ha : s.heap.get? a = some { cls := .type "list", data := .seq vs.toArray })
    (hr : Room k callerA)
    (F : ∀ base : Heap, K.In base → base.Ns mainGlobals mg → base.NoDigits → FnG P w K mg base k fa fd [x] sp)
    (hbind : ∀ (s : Shared) (u : Value), BindsTo s fd ⟨[u], []⟩ [(x, u)]) {H : Hp}
    (one : Sole H a { cls := .type "list", data := .seq vs.toArray } (ns.map V.int)) (off : H a ≠ none → K.lookup a = none) (hok : HOk P w H s.heap)
    (hsp : sp [.ref a] H (fun v _ => v = .bl true) fun _ _ _ => False) :
    codeAny (model P w) callerA (.call (.ref fa) ⟨[.ref a], []⟩)
      (fun r s' => r = .ok (.ret (.bool true)) ∧ OldK s.heap s'.heap ∧ s'.os = s.os ∧ AllBare s'.gens) s := by
  -- what is not the script stays as it is
  have keep : ∀ {b : Addr} {o : Obj}, s.heap.get? b = some o → b ≠ a → (hidT s.heap H).get? b = some o := fun {b o} e ne =>
    hidT_get e (by
      cases q : H b with
      | none => rfl
      | some u => exact absurd (one b u q).1 ne)
  have space : ∀ {b : Addr} {m : Str → Option Value}, s.heap.Ns b m → (hidT s.heap H).Ns b m := by
    rintro b m ⟨o, es, ep, e, d, r⟩
    refine ⟨o, es, ep, keep e ?_, d, r⟩
    rintro rfl
    rw [ha] at e
    cases e
    have d2 : Data.seq vs.toArray _ = Data.dict es ep := d
    cases d2
  have kin : K.In (hidT s.heap H) := fun b o e => by
    cases q : H b with
    | none => exact hidT_get (KX b o e) q
    | some u =>
      obtain ⟨rfl, _⟩ := one b u q
      rw [off (by rw [q]; simp)] at e
      cases e
  obtain ⟨mc, n1, n2⟩ := hlim
  have modu : Mod K mg (hidT s.heap H) := ⟨kin, space hns, ⟨mb, space hb, hbb⟩, mc, space n1, n2⟩
  obtain ⟨md, m1, m2⟩ := hdig
  have nil : ∀ b : Addr, b ∉ ([] : List Addr) := fun b => List.not_mem_nil
  have e0 : Env0 P w K mg (hidT s.heap H) callerA [] s H :=
    ⟨rfl, modu, fun b o e => of_hidT e, Nat.le_of_eq (hidT_size _ _), trivial, fun b hb => absurd hb (nil b), hok, .of_eq hg⟩
  have go := (F _ kin (space hns) ⟨md, space m1, m2⟩).run callerA [] s H ⟨[.ref a], []⟩ [.ref a] [.ref a] _ _ hr rfl e0 (hbind s (.ref a)) (.cons rfl .nil) hsp
  refine codeAny_mono go fun r s' h => ?_
  match r, h with
  | .error e, h =>
    obtain ⟨_, _, _, _, _, _, _, _, _, _, _, _, no⟩ := h
    exact no.elim
  | .ok .next, h => exact False.elim h
  | .ok .brk, h => exact False.elim h
  | .ok .cont, h => exact False.elim h
  | .ok (.ret u), h =>
    obtain ⟨v, H', os, bare, un, hok', rv, q⟩ := h
    cases (show v = .bl true from q)
    cases (show u = Value.bool true from rv)
    refine ⟨rfl, OldK.of_keep fun b o e => ?_, os, bare⟩
    cases q : H b with
    | none => exact un.keep b o e q (nil b) (nil b)
    | some u =>
      obtain ⟨rfl, rfl⟩ := one b u q
      have q2 := un.frzs _ _ _ q
      rw [ha] at e
      cases e
      exact (hok' _ _ q2).1
theorem law_callG (KX : K.In s.heap) (hns : s.heap.Ns mainGlobals mg) (hb : s.heap.Ns builtinsNs mb)
    (hbb : ∀ x : Str, x ≠ "__name__" → mb x = bootBuiltins x) (hlim : s.heap.NoLimit) (hdig : s.heap.NoDigits)
    (hg : s.gens = #[]) (ha : s.heap.get? a = some { cls := .type "list", data := .seq vs.toArray }) (hi : IntsAre vs ns) (hl : ns.length ≤ sizeLine)
    (hr : Room k callerA)
    (F : ∀ base : Heap, K.In base → base.Ns mainGlobals mg → base.NoDigits → FnG P w K mg base k fa fd [x] sp)
    (hbind : ∀ (s : Shared) (u : Value), BindsTo s fd ⟨[u], []⟩ [(x, u)])
    (hsp : ∀ H : Hp, SqL K H a (ns.map V.int) → sp [.ref a] H (fun v _ => v = .bl true) fun _ _ _ => False) :
    codeAny (model P w) callerA (.call (.ref fa) ⟨[.ref a], []⟩)
      (fun r s' => r = .ok (.ret (.bool true)) ∧ OldK s.heap s'.heap ∧ s'.os = s.os ∧ AllBare s'.gens) s := by
  have rv := vals_ints hi
  have hlen : (ns.map V.int).length ≤ sizeLine := by rw [List.length_map]; exact hl
  cases hk : K.lookup a with
  | some o =>
    have e := KX a o hk
    rw [ha] at e
    cases e
    refine law_in (H := fun _ => none) (ns := ns) KX hns hb hbb hlim hdig hg ha hr F hbind (fun b u z => by cases z) (fun z => absurd rfl z) (fun b u z => by cases z) (hsp _ (.inr ⟨_, vs.toArray, _, hk, rfl, rfl, rfl, ?_, by simpa using rv⟩))
    rw [List.size_toArray, hi.length]
    exact hl
  | none =>
    have up := upd_same (H := fun _ => none) (a := a) (o := .frz { cls := .type "list", data := .seq vs.toArray } (.lst (ns.map V.int)))
    have only : Sole (upd (fun _ => none) a (.frz { cls := .type "list", data := .seq vs.toArray } (.lst (ns.map V.int)))) a { cls := .type "list", data := .seq vs.toArray } (ns.map V.int) := fun b u z => by
      by_cases e : b = a
      · rw [e, up] at z
        cases z
        exact ⟨e, rfl⟩
      · rw [upd_ne e] at z
        cases z
    refine law_in KX hns hb hbb hlim hdig hg ha hr F hbind only (fun _ => hk) (fun b u z => ?_) (hsp _ (.inl (.inr ⟨_, up⟩)))
    obtain ⟨rfl, rfl⟩ := only b u z
    exact ⟨ha, hlen, vs, _, rv, ha⟩
theorem walk_ofG {l : PySem.W.OpenLaw} {n k : Nat} {q : Program} {loose : List Str} {XP : (Str → Option Value) → Heap → Prop} {YP : World → Heap → Prop} {d : DefRec} {x : Str}
    (hn : l.most = some n) (hn2 : n ≤ sizeLine) (hdf : d.params.defaults = []) (hr : Room k callerA)
    (F : ∀ (w : World) (mg : Str → Option Value) (fa : Addr) (h : Heap), YP w h → h.Ns mainGlobals mg → mg d.name = some (.ref fa) →
      ∃ (K : PySem.W.Frag) (fd : FuncData) (sp : Sp), K.In h ∧ (∀ (s : Shared) (u : Value), BindsTo s fd ⟨[u], []⟩ [(x, u)]) ∧
        (∀ (H : Hp) (a : Addr) (ns : List Int), ns.length ≤ n → SqL K H a (ns.map V.int) → sp [.ref a] H (fun v _ => v = .bl true) fun _ _ _ => False) ∧
        ∀ base : Heap, K.In base → base.Ns mainGlobals mg → base.NoDigits → FnG l.prog w K mg base k fa fd [x] sp) :
    PySem.W.WalkO q loose XP YP l.row.toRowW d [] (fun f vs => PySem.call f vs) := by
  refine Att.attach_call hn hdf fun w s₀ s₁ mg mb fa o pm cd doc a vs ns G Y ho hd hcd hmg hobj hints hlen hg => ?_
  obtain ⟨K, fd, sp, KX, hb, hsp, hF⟩ := F w mg fa _ Y G.T.g hmg
  exact law_callG KX G.T.g G.T.b G.T.builtins G.T.nolimit G.T.nodigits hg hobj hints (Nat.le_trans hlen hn2) hr hF hb fun H hS => hsp H a ns hlen hS
end
end DL
/-! DLr: what the head tells: defs, names that are free, data under names. -/
namespace DL
open PySem PySem.Spec PyProof.Rows L2

mutual
/-- a value of the module that stands for such data -/
def repV (K : PySem.W.Frag) : D → Value → Bool
  | .non, .none => true
  | .bl b, .bool c => b == c
  | .int i, .int j _ => decide (i = j)
  | .str x, .str y _ => decide (x = y)
  | .rtp xs, .ref a => (match K.lookup a with
    | some ⟨.type c, _, .seq its _, _⟩ => decide (c = "tuple") && (decide (its.size ≤ sizeLine) && repVs K xs its.toList)
    | _ => false)
  | .rol xs, .ref a => (match K.lookup a with
    | some ⟨.type c, none, .seq its _, _⟩ => decide (c = "list") && (decide (its.size ≤ sizeLine) && repVs K xs its.toList)
    | _ => false)
  | _, _ => false
def repVs (K : PySem.W.Frag) : List D → List Value → Bool
  | [], [] => true
  | d :: ds, u :: us => repV K d u && repVs K ds us
  | _, _ => false
end
mutual
theorem repV_ok {K : PySem.W.Frag} (F : Hp) : ∀ {d : D} {u : Value}, repV K d u = true → ∃ v, RelV v u ∧ RepD K F d v
  | .non, u, h => by cases u <;> first | exact ⟨.non, rfl, .non⟩ | cases h
  | .bl b, u, h => by
    cases u with
    | bool c => cases eq_of_beq (show (b == c) = true from h); exact ⟨.bl b, rfl, .bl b⟩
    | _ => cases h
  | .int i, u, h => by
    cases u with
    | int j t => cases of_decide_eq_true (show decide (i = j) = true from h); exact ⟨.int i, ⟨t, rfl⟩, .int i⟩
    | _ => cases h
  | .str x, u, h => by
    cases u with
    | str y t => cases of_decide_eq_true (show decide (x = y) = true from h); exact ⟨.str x, ⟨t, rfl⟩, .str x⟩
    | _ => cases h
  | .rtp xs, u, h => by
    cases u with
    | ref a =>
      have h : (match K.lookup a with
        | some ⟨.type c, _, .seq its _, _⟩ => decide (c = "tuple") && (decide (its.size ≤ sizeLine) && repVs K xs its.toList)
        | _ => false) = true := h
      cases q : K.lookup a with
      | none => rw [q] at h; cases h
      | some o =>
        obtain ⟨oc, od, dt, osl⟩ := o
        rw [q] at h
        cases oc with
        | type c =>
          cases dt with
          | seq its n =>
            obtain ⟨h1, h2⟩ := and2 (show (decide (c = "tuple") && (decide (its.size ≤ sizeLine) && repVs K xs its.toList)) = true from h)
            obtain ⟨h3, h4⟩ := and2 h2
            obtain ⟨vs, r1, r2⟩ := repVs_ok F h4
            exact ⟨.ref a, rfl, .rtp (.inr ⟨_, its, n, q, congrArg Value.type (of_decide_eq_true h1), rfl, of_decide_eq_true h3, r1⟩) r2⟩
          | _ => cases h
        | _ => cases dt <;> cases h
    | _ => cases h
  | .rol xs, u, h => by
    cases u with
    | ref a =>
      have h : (match K.lookup a with
        | some ⟨.type c, none, .seq its _, _⟩ => decide (c = "list") && (decide (its.size ≤ sizeLine) && repVs K xs its.toList)
        | _ => false) = true := h
      cases q : K.lookup a with
      | none => rw [q] at h; cases h
      | some o =>
        obtain ⟨oc, od, dt, osl⟩ := o
        rw [q] at h
        cases oc with
        | type c =>
          cases od with
          | none =>
            cases dt with
            | seq its n =>
              obtain ⟨h1, h2⟩ := and2 (show (decide (c = "list") && (decide (its.size ≤ sizeLine) && repVs K xs its.toList)) = true from h)
              obtain ⟨h3, h4⟩ := and2 h2
              obtain ⟨vs, r1, r2⟩ := repVs_ok F h4
              exact ⟨.ref a, rfl, .rol (.inr ⟨_, its, n, q, congrArg Value.type (of_decide_eq_true h1), rfl, rfl, of_decide_eq_true h3, r1⟩) r2⟩
            | _ => cases h
          | some d => cases dt <;> cases h
        | _ => cases od <;> cases dt <;> cases h
    | _ => cases h
  | .lst xs, u, h => by cases u <;> cases h
  | .tup xs, u, h => by cases u <;> cases h
  | .dct _ _ _, u, h => by cases u <;> cases h
theorem repVs_ok {K : PySem.W.Frag} (F : Hp) : ∀ {ds : List D} {us : List Value}, repVs K ds us = true → ∃ vs, Vals vs us ∧ RepDs K F ds vs
  | [], [], h => ⟨[], .nil, .nil⟩
  | [], _ :: _, h => by cases h
  | _ :: _, [], h => by cases h
  | d :: ds, u :: us, h => by
    obtain ⟨h1, h2⟩ := and2 (show (repV K d u && repVs K ds us) = true from h)
    obtain ⟨v, a, b⟩ := repV_ok F h1
    obtain ⟨vs, as, bs⟩ := repVs_ok F h2
    exact ⟨v :: vs, .cons a as, .cons b bs⟩
end
/-- a name of the module for such data -/
def gB (K : PySem.W.Frag) (p : Str × D) : Bool := match PySem.W.nsIn K mainGlobals p.1 with
  | some (some u) => repV K p.2 u
  | _ => false
theorem gB_ok {K : PySem.W.Frag} {h : Heap} {mg : Str → Option Value} (X : K.In h) (G : h.Ns mainGlobals mg) {p : Str × D} (c : gB K p = true) : ∃ u v, mg p.1 = some u ∧ RelV v u ∧ RepD K (fun _ => none) p.2 v := by
  unfold gB at c
  cases e : PySem.W.nsIn K mainGlobals p.1 with
  | none => rw [e] at c; cases c
  | some o =>
    rw [e] at c
    cases o with
    | none => cases c
    | some u =>
      obtain ⟨v, r1, r2⟩ := repV_ok _ c
      exact ⟨u, v, PySem.W.mg_of X G e, r1, r2⟩

abbrev AlG : Type := Bool × He.AlD
def obsG (gl : List (Str × D)) (fa : List He.Fa) (fn : List He.DefD) (K : PySem.W.Frag) : AlG := (gl.all (gB K), He.obsD fa fn K)
def valG (fn : List He.DefD) : AlG := (true, He.valD fn)
structure SaysG (gl : List (Str × D)) (fa : List He.Fa) (fn : List He.DefD) (K : PySem.W.Frag) : Prop where
  gl : ∀ p ∈ gl, gB K p = true
  df : He.SaysD fa fn K
def frT (n : Nat) (g : Addr → Option Obj) : PySem.W.Frag := He.frG g (He.asD g n)
def hookG (n : Nat) (gl : List (Str × D)) (fa : List He.Fa) (fn : List He.DefD) : PySem.W.Hook where
  α := AlG
  obs := fun s => obsG gl fa fn (frT n s.heap.get?)
  val := fun _ => valG fn
  says := fun _ h => ∃ K : PySem.W.Frag, K.In h ∧ SaysG gl fa fn K
  of := fun _ _ e => ⟨_, He.frG_in, ⟨fun p hp => List.all_eq_true.mp (congrArg (fun z : AlG => z.1) e) p hp, congrArg (fun z : AlG => z.2) e⟩⟩
  keeps := fun _ _ _ ⟨K, hK, c⟩ k => ⟨K, PySem.W.Frag.In.keeps hK k, c⟩
theorem obsG_eq {n : Nat} {gl : List (Str × D)} {fa : List He.Fa} {fn : List He.DefD} {g : Addr → Option Obj} {s : Shared} (h : ∀ a, g a = s.heap.get? a) : obsG gl fa fn (frT n g) = (hookG n gl fa fn).obs s := by
  have e : g = s.heap.get? := funext h
  rw [e]
  rfl
end DL
namespace DL
open PySem PySem.Spec PyProof.Rows L2
theorem bindsK {K : PySem.W.Frag} {x qual : Str} {params : Arguments} {body : List Stmt} {scope : Scope} {f : Addr} {fd : FuncData} {ps ks : List Str} {n : Nat} {ord : List Nat} (F : FunD K x qual params body scope [] [] f fd)
    (h : ∀ (kV doc pm : Value) (an : Option Addr) (cdv ct : Value) (us ws : List Value), us.length = n → ws.length = ks.length → bindArgs (PySem.W.fnOf x qual params body scope .none kV doc pm an cdv ct) ⟨us, ks.zip ws⟩ = pure (ps.zip (ord.filterMap fun i => (us ++ ws)[i]?))) : BindsK fd ps ks n ord := by
  obtain ⟨oc, od, dV, kV, doc, pm, an, cdv, ct, osl, rfl, lk, hcd, hD, hK⟩ := F.ex
  rcases hD with ⟨_, rfl⟩ | ⟨e, _⟩
  · exact fun s us ws h1 h2 => .of_eq (h kV doc pm an cdv ct us ws h1 h2)
  · exact absurd rfl e
theorem all_nil {α : Type} {p : α → Prop} : ∀ x ∈ ([] : List α), p x := fun _ h => nomatch h
theorem all_cons {α : Type} {p : α → Prop} {a : α} {l : List α} (h : p a) (r : ∀ x ∈ l, p x) : ∀ x ∈ a :: l, p x := List.forall_mem_cons.mpr ⟨h, r⟩
end DL
/-! DLs: what the plain part leans on. -/
namespace DL
open PySem PySem.Spec PyProof.Rows L2

theorem ints_rep {K : PySem.W.Frag} {F : Hp} : ∀ ns : List Int, RepDs K F (ns.map .int) (ns.map V.int)
  | [] => .nil
  | n :: ns => .cons (.int n) (ints_rep ns)
/-- the law's own promise -/
theorem law_sp {K : PySem.W.Frag} {mg : Str → Option Value} {H : Hp} {a : Addr} {ns : List Int} {den : Fn} {b : Nat} (h : ∀ ns : List Int, ns.length ≤ b → ∃ S, den [.d (.rol (ns.map .int))] [] = .ok (.d (.bl true)) S) (hl : ns.length ≤ b) (hS : SqL K H a (ns.map V.int)) :
    spD K mg 1 den [.ref a] H (fun v _ => v = .bl true) fun _ _ _ => False := by
  obtain ⟨S, e⟩ := h ns hl
  refine ⟨H, fun _ => none, [], [], [.d (.rol (ns.map .int))], rfl, ?_, .cons (.d (.rol hS (ints_rep ns))) .nil, ?_⟩
  · refine ⟨fun _ _ e => e, (fun _ _ e => nomatch e), (fun _ _ e => nomatch e), (fun _ h => nomatch h), (fun _ h => nomatch h), List.nodup_nil, rfl, fun n u a e => by simp at e, (fun _ _ e => nomatch e), (fun _ h => nomatch h)⟩
  · rw [e]
    intro F' m' H' l s v r
    exact blOf (dOf r)

/-! ### sizes -/
theorem bits_lt {i : Int} {a : Nat} (h : i.natAbs < 2 ^ a) : Builtin.Int.intBits i ≤ a := by
  unfold Builtin.Int.intBits
  split
  · exact Nat.zero_le a
  · rename_i h0
    have h1 : i.natAbs ≠ 0 := by simpa using h0
    have := (Nat.log2_lt h1).mpr h
    omega
theorem mulOk_bits {i j : Int} (a b : Nat) (hi : i.natAbs < 2 ^ a) (hj : j.natAbs < 2 ^ b) (h : a + b ≤ 134217728) : mulOk i j = true := by
  have := bits_lt hi
  have := bits_lt hj
  unfold mulOk
  exact decide_eq_true (by omega)
/-- not long -/
def big : Nat := 2 ^ 30000
theorem big_lt {n : Nat} (h : n ≤ 2 ^ 200) : n < big := Nat.lt_of_le_of_lt h (Nat.pow_lt_pow_right (by decide) (by decide))
theorem mulOk_big {i j : Int} (hi : i.natAbs < big) (hj : j.natAbs < big) : mulOk i j = true := mulOk_bits 30000 30000 hi hj (by decide)
theorem powOk_big {i j : Int} (hi : i.natAbs < big) (h0 : 0 ≤ j) (hj : j ≤ 3000) : powOk i j = true := by
  have h := bits_lt hi
  unfold powOk
  refine decide_eq_true ⟨h0, ?_⟩
  have : (Builtin.Int.intBits i : Int) * j ≤ 30000 * 3000 := Int.mul_le_mul (by omega) hj h0 (by decide)
  omega
theorem divOk_of {j : Int} (h0 : 0 < j) (h : j < 2 ^ 200) : divOk j = true := by
  unfold divOk
  refine decide_eq_true ⟨h0, ?_⟩
  have h1 : j.natAbs ≠ 0 := by omega
  exact (Nat.log2_lt h1).mpr (Nat.lt_of_lt_of_le (show j.natAbs < 2 ^ 200 by omega) (Nat.pow_le_pow_right (by decide) (by decide)))
end DL
/-! DLs2: calls, loops, texts of data, as the plain part meets them. -/
namespace DL
open PySem PySem.Spec PyProof.Rows L2

/-! ### calls -/
/-- behind a call that was handed data alone -/
def outD (S : Store) (o : Out W) : Out W := match o with
  | .ok (.d x) _ => .ok (.d x) S
  | .ok (.l j) S' => (match S'[j]? with
    | some (.lst xs) => if xs.all isD = true then .ok (.l S.length) (S ++ [.lst xs]) else .bad
    | _ => .bad)
  | .err c x _ => .err c x S
  | .bad => .bad
@[simp] theorem outD_ok (S S' : Store) (x : D) : outD S (.ok (.d x) S') = .ok (.d x) S := rfl
theorem evCall_data {f : Fn} {ws : List W} {S : Store} (h : locsOf ws = []) : evCall f ws S = outD S (f (ws.map (reix [])) []) := by
  unfold evCall outD
  rw [h]
  simp only [getAll]
  cases f (ws.map (reix [])) [] with
  | ok r S' =>
    cases r with
    | d x => simp [putAll_nil1]
    | l j => first | (simp [putAll_nil1]; done) | (simp [putAll_nil1]; rfl)
  | err c x S' => simp [putAll_nil1]
  | bad => rfl
@[simp] theorem evCall_d1 (f : Fn) (a : D) (S : Store) : evCall f [.d a] S = outD S (f [.d a] []) := evCall_data rfl
@[simp] theorem evCall_d2 (f : Fn) (a b : D) (S : Store) : evCall f [.d a, .d b] S = outD S (f [.d a, .d b] []) := evCall_data rfl
@[simp] theorem evCall_d3 (f : Fn) (a b c : D) (S : Store) : evCall f [.d a, .d b, .d c] S = outD S (f [.d a, .d b, .d c] []) := evCall_data rfl
@[simp] theorem evCall_d4 (f : Fn) (a b c d : D) (S : Store) : evCall f [.d a, .d b, .d c, .d d] S = outD S (f [.d a, .d b, .d c, .d d] []) := evCall_data rfl
@[simp] theorem evCall_d5 (f : Fn) (a b c d e : D) (S : Store) : evCall f [.d a, .d b, .d c, .d d, .d e] S = outD S (f [.d a, .d b, .d c, .d d, .d e] []) := evCall_data rfl
/-- a place that is handed on with data -/
def outP (S : Store) (n : Nat) (o : Out W) : Out W := match o with
  | .ok (.d x) (p :: _) => if flatO p = true then .ok (.d x) (S.set n p) else .bad
  | .err c x (p :: _) => if flatO p = true then .err c x (S.set n p) else .bad
  | .ok (.l j) S' => evCall (fun _ _ => .ok (.l j) S') [.l n] S
  | _ => .bad
@[simp] theorem outP_ok (S S' : Store) (n : Nat) (p : Ob) (x : D) (h : flatO p = true) : outP S n (.ok (.d x) (p :: S')) = .ok (.d x) (S.set n p) := by
  show (if flatO p = true then _ else _) = _
  rw [if_pos h]
theorem evCall_place {f : Fn} {ws : List W} {S : Store} {n : Nat} {p : Ob} (h : locsOf ws = [n]) (hn : S[n]? = some p) (hf : flatO p = true) : evCall f ws S = outP S n (f (ws.map (reix [n])) [p]) := by
  have g : getAll S [n] = some [p] := by simp [getAll, hn, hf]
  unfold evCall outP
  rw [h]
  simp only [g]
  cases e : f (ws.map (reix [n])) [p] with
  | ok r S' =>
    cases r with
    | d x =>
      cases S' with
      | nil => simp
      | cons q r => simp [putAll_cons, putAll_nil1]
    | l j =>
      unfold evCall
      simp only [show locsOf [.l n] = [n] from rfl, g]
  | err c x S' =>
    cases S' with
    | nil => simp
    | cons q r => simp [putAll_cons, putAll_nil1]
  | bad => rfl
/-! ### loops -/
theorem forL_inv {ok : Store → Bool} {f : W → Ev → Store → Out Fl} {P : Nat → Ev → Store → Prop} : ∀ (xs : List W) (k : Nat) (env : Ev) (st : Store), P k env st →
    (∀ (i : Nat) (x : W) (env : Ev) (st : Store), xs[i]? = some x → P (k + i) env st → ok st = true ∧ ∃ env' st', f x env st = .ok (.nx env') st' ∧ P (k + i + 1) env' st') →
    (∀ env st, P (k + xs.length) env st → ok st = true) → ∃ env' st', forL ok f xs env st = .ok (.nx env') st' ∧ P (k + xs.length) env' st'
  | [], k, env, st, h, _, he => ⟨env, st, by unfold forL; rw [if_pos (he env st h)], h⟩
  | x :: xs, k, env, st, h, hs, he => by
    obtain ⟨h1, env1, st1, h2, h3⟩ := hs 0 x env st rfl h
    obtain ⟨env2, st2, h4, h5⟩ := forL_inv (f := f) (ok := ok) (P := P) xs (k + 1) env1 st1 h3
      (fun i y env st hi hp => by
        have q := hs (i + 1) y env st (by simpa using hi) (by rw [show k + (i + 1) = k + 1 + i by omega]; exact hp)
        rw [show k + (i + 1) + 1 = k + 1 + i + 1 by omega] at q
        exact q)
      (fun env st hp => he env st (by rw [List.length_cons, show k + (xs.length + 1) = k + 1 + xs.length by omega]; exact hp))
    refine ⟨env2, st2, ?_, by rw [List.length_cons, show k + (xs.length + 1) = k + 1 + xs.length by omega]; exact h5⟩
    unfold forL
    rw [if_pos h1, h2]
    exact h4
theorem compL_pure {ok : Store → Bool} {f : W → Store → Out (Option W)} {g : W → W} {S : Store} (h : ok S = true) : ∀ xs : List W, (∀ x ∈ xs, f x S = .ok (some (g x)) S) → compL ok f xs S = .ok (xs.map g) S
  | [], _ => by unfold compL; rw [if_pos h]; rfl
  | x :: xs, hs => by
    unfold compL
    rw [if_pos h, hs x (List.mem_cons_self ..)]
    simp only [Out.bind_ok]
    rw [compL_pure h xs fun y hy => hs y (List.mem_cons_of_mem _ hy)]
    rfl
theorem rangeL_eq (lo : Int) (n : Nat) : rangeL lo (lo + (n : Int)) = (List.range n).map fun (i : Nat) => W.d (.int (lo + (i : Int))) := by
  unfold rangeL
  rw [show (lo + (n : Int) - lo).toNat = n by omega]
theorem rangeL_nat (n : Nat) : rangeL 0 (n : Int) = (List.range n).map fun (i : Nat) => W.d (.int (i : Int)) := by
  have := rangeL_eq 0 n
  simp only [Int.zero_add] at this
  exact this

/-! ### the text of data -/
mutual
/-- no longer text than this -/
def wt : D → Nat
  | .non => 4
  | .bl _ => 5
  | .int _ => 4302
  | .str x => (reprText x).length
  | .tup xs => wts xs + 3
  | .lst xs => wts xs + 3
  | .rol xs => wts xs + 3
  | .rtp xs => wts xs + 3
  | .dct _ _ _ => 0
def wts : List D → Nat
  | [] => 0
  | x :: xs => wt x + 2 + wts xs
end
mutual
def txOk : D → Bool
  | .str x => strF (reprText x)
  | .tup xs => txOks xs
  | .lst xs => txOks xs
  | .rol xs => txOks xs
  | .rtp xs => txOks xs
  | .dct _ _ _ => false
  | _ => true
def txOks : List D → Bool
  | [] => true
  | x :: xs => txOk x && txOks xs
end
theorem strF_append (a b : Str) : strF (a ++ b) = (strF a && strF b) := by
  show (a.cps ++ b.cps).all _ = _
  rw [Array.all_append]
  rfl
theorem strF_of (s : String) : strF (Str.ofString s) = true := by
  rw [Str.ofString_eq_toList]
  unfold strF
  rw [List.all_toArray, List.all_eq_true]
  intro n hn
  obtain ⟨c, _, rfl⟩ := List.mem_map.mp hn
  have h := c.valid
  refine decide_eq_true ?_
  show c.val.toNat < _
  rcases h with h | ⟨_, h⟩ <;> omega
theorem strF_join (sep : Str) (hs : strF sep = true) : ∀ ts : List Str, (∀ t ∈ ts, strF t = true) → strF (Str.join sep ts) = true
  | [], _ => by show strF Str.empty = true; decide +kernel
  | [x], h => h x (List.mem_cons_self ..)
  | x :: y :: r, h => by
    show strF (x ++ sep ++ Str.join sep (y :: r)) = true
    rw [strF_append, strF_append, h x (List.mem_cons_self ..), hs, strF_join sep hs (y :: r) fun t ht => h t (List.mem_cons_of_mem _ ht)]
    rfl
theorem strF_from : ∀ (ts : List Str) (k : Nat) (acc : Str), strF acc = true → (∀ t ∈ ts, strF t = true) → strF (textFrom k acc ts) = true
  | [], _, _, h, _ => h
  | t :: ts, k, acc, h, hs => by
    show strF (textFrom (k + 1) (acc ++ (if k > 0 then ", " else "" : String) ++ t) ts) = true
    refine strF_from ts _ _ ?_ fun t ht => hs t (List.mem_cons_of_mem _ ht)
    rw [strF_append, strF_append, h, strF_of, hs t (List.mem_cons_self ..)]
    rfl
theorem from_len : ∀ (ts : List Str) (k : Nat) (acc : Str), (textFrom k acc ts).length ≤ acc.length + piled ts
  | [], _, acc => Nat.le_add_right ..
  | t :: ts, k, acc => by
    have ih := from_len ts (k + 1) (acc ++ (if k > 0 then ", " else "" : String) ++ t)
    have e : ((if k > 0 then ", " else "" : String) : Str).length ≤ 2 := by split <;> decide
    rw [strLen_append, strLen_append] at ih
    rw [piled_cons]
    show (textFrom (k + 1) _ ts).length ≤ _
    omega
theorem list_len (ts : List Str) : (listText ts).length ≤ piled ts + 3 := by
  unfold listText
  have := from_len ts 0 "["
  rw [strLen_append]
  have e1 : (("[" : String) : Str).length = 1 := rfl
  have e2 : (("]" : String) : Str).length = 1 := rfl
  omega
theorem tuple_len (ts : List Str) : (tupleText ts).length ≤ piled ts + 3 := by
  unfold tupleText
  rw [strLen_append, strLen_append]
  have e1 : (("(" : String) : Str).length = 1 := rfl
  have e2 : ((if ts.length == 1 then ",)" else ")" : String) : Str).length ≤ 2 := by split <;> decide
  cases ts with
  | nil =>
    have e3 : (Str.join ", " ([] : List Str)).length = 0 := rfl
    omega
  | cons t ts =>
    have := join_length_add (t :: ts) (List.cons_ne_nil _ _)
    omega
mutual
theorem shown_fits : ∀ x : D, tells x.py = true → txOk x = true → strF x.py.shown = true ∧ x.py.shown.length ≤ wt x
  | .non, _, _ => ⟨strF_of _, by decide⟩
  | .bl b, _, _ => by cases b <;> exact ⟨strF_of _, by decide⟩
  | .int i, h, _ => by
    refine ⟨strF_of _, ?_⟩
    have h : i.natAbs < 10 ^ 4300 := of_decide_eq_true h
    have := int_text_length_le10 (k := 4300) (by decide) h
    clear h
    show (Str.ofString (toString i)).length ≤ 4302
    rw [PySem.ofString_length]
    omega
  | .str x, _, h => ⟨h, Nat.le_refl _⟩
  | .tup xs, h, h2 => by
    obtain ⟨q1, q2⟩ := shown_all xs h h2
    refine ⟨?_, Nat.le_trans (tuple_len _) (Nat.add_le_add_right q2 3)⟩
    show strF (tupleText _) = true
    unfold tupleText
    rw [strF_append, strF_append, strF_of, strF_join _ (strF_of _) _ q1, strF_of]
    rfl
  | .rtp xs, h, h2 => by
    obtain ⟨q1, q2⟩ := shown_all xs h h2
    refine ⟨?_, Nat.le_trans (tuple_len _) (Nat.add_le_add_right q2 3)⟩
    show strF (tupleText _) = true
    unfold tupleText
    rw [strF_append, strF_append, strF_of, strF_join _ (strF_of _) _ q1, strF_of]
    rfl
  | .dct _ _ _, _, h => by cases h
  | .lst xs, h, h2 => by
    obtain ⟨q1, q2⟩ := shown_all xs h h2
    refine ⟨?_, Nat.le_trans (list_len _) (Nat.add_le_add_right q2 3)⟩
    show strF (listText _) = true
    unfold listText
    rw [strF_append, strF_from _ _ _ (strF_of _) q1, strF_of]
    rfl
  | .rol xs, h, h2 => by
    obtain ⟨q1, q2⟩ := shown_all xs h h2
    refine ⟨?_, Nat.le_trans (list_len _) (Nat.add_le_add_right q2 3)⟩
    show strF (listText _) = true
    unfold listText
    rw [strF_append, strF_from _ _ _ (strF_of _) q1, strF_of]
    rfl
theorem shown_all : ∀ xs : List D, tellsAll (D.pys xs) = true → txOks xs = true → (∀ t ∈ PyData.shownAll (D.pys xs), strF t = true) ∧ piled (PyData.shownAll (D.pys xs)) ≤ wts xs
  | [], _, _ => ⟨fun _ h => (nomatch h), Nat.le_refl _⟩
  | x :: xs, h, h2 => by
    have h : (tells x.py && tellsAll (D.pys xs)) = true := h
    have h2 : (txOk x && txOks xs) = true := h2
    rw [Bool.and_eq_true] at h h2
    obtain ⟨a1, a2⟩ := shown_fits x h.1 h2.1
    obtain ⟨b1, b2⟩ := shown_all xs h.2 h2.2
    show (∀ t ∈ PyData.shown x.py :: PyData.shownAll (D.pys xs), strF t = true) ∧ piled (PyData.shown x.py :: PyData.shownAll (D.pys xs)) ≤ wt x + 2 + wts xs
    refine ⟨fun t ht => ?_, ?_⟩
    · rcases List.mem_cons.mp ht with rfl | ht
      · exact a1
      · exact b1 t ht
    · rw [piled_cons]
      omega
end
/-- repr tells it -/
def shw (x : D) : Bool := sh 60 x && tells x.py && txOk x && decide (wt x ≤ lineS)
theorem repr_shw {x : D} {S : Store} (h : shw x = true) : evBi .repr [.d x] S = .ok (.d (.str x.py.shown)) S ∧ strF x.py.shown = true := by
  unfold shw at h
  simp only [Bool.and_eq_true, decide_eq_true_eq] at h
  obtain ⟨⟨⟨h1, h2⟩, h3⟩, h4⟩ := h
  obtain ⟨q1, q2⟩ := shown_fits x h2 h3
  refine ⟨?_, q1⟩
  show biRepr (.d x) S = _
  unfold biRepr
  simp only
  rw [if_pos (by rw [h1, h2, decide_eq_true (Nat.le_trans q2 h4)]; rfl)]
theorem ne_str {x : Str} {S : Store} (h : strF x = true) : evCmp .NotEq (.d (.str x)) (.d (.str x)) S = .ok false S := by
  simp [evCmp, cmpD, sh, h, deq]
theorem eq_str {x : Str} {S : Store} (h : strF x = true) : evCmp .Eq (.d (.str x)) (.d (.str x)) S = .ok true S := by
  simp [evCmp, cmpD, sh, h, deq]
theorem digit_of {i : Int} (h : i.natAbs < 2 ^ 14000) : i.natAbs < digitL := Nat.lt_trans h (by unfold digitL; decide +kernel)
theorem at_0 {α : Type} (xs : List α) : at_ xs 0 = xs[0]? := rfl
theorem at_1 {α : Type} (xs : List α) : at_ xs 1 = xs[1]? := rfl
theorem at_2 {α : Type} (xs : List α) : at_ xs 2 = xs[2]? := rfl
theorem at_3 {α : Type} (xs : List α) : at_ xs 3 = xs[3]? := rfl
theorem at_4 {α : Type} (xs : List α) : at_ xs 4 = xs[4]? := rfl
theorem at_nat {α : Type} (xs : List α) (n : Nat) : at_ xs (n : Int) = xs[n]? := rfl
end DL
/-! DLs3: comprehensions, loops in the plain part. -/
namespace DL
open PySem PySem.Spec PyProof.Rows L2
def turnC (fns : Nat → Fn) (e : E) (t : T) (c : B) (env : Ev) : W → Store → Out (Option W) := fun x S => (Out.of (bindT t x env) S).bind fun env1 S => (evB fns c env1 S).noErr.bind fun k S =>
  if k = true then (ev fns e env1 S).noErr.bind fun y S => .ok (some y) S else .ok none S
theorem ev_comp (fns : Nat → Fn) (m : Bool) (e : E) (t : T) (it : I) (c : B) (own : List Nat) (env : Ev) (S : Store) :
    ev fns (.comp m e t it c own) env S = (evI fns it env S).bind fun p S => if p.1.length < lineS then (compL (keeps p.2 p.1) (turnC fns e t c (wipeE env own)) p.1 S).bind fun ys S => newL m ys S else .bad := by
  rw [ev]
  rfl
/-- a comprehension that changes nothing -/
theorem comp_pure {fns : Nat → Fn} {m : Bool} {e : E} {t : T} {it : I} {c : B} {own : List Nat} {env : Ev} {S : Store} {xs : List W} {k : Option Nat} (g : W → W) (hi : evI fns it env S = .ok (xs, k) S) (hk : keeps k xs S = true) (hl : xs.length < lineS)
    (h : ∀ x ∈ xs, turnC fns e t c (wipeE env own) x S = .ok (some (g x)) S) : ev fns (.comp m e t it c own) env S = newL m (xs.map g) S := by
  rw [ev_comp, hi]
  simp only [Out.bind_ok]
  rw [if_pos hl, compL_pure hk xs h]
  rfl
theorem newL_data {xs : List W} {ds : List D} {S : Store} (h : xs.length ≤ lineS) (e : pures xs = some ds) : newL false xs S = .ok (.d (.lst ds)) S := by
  unfold newL
  rw [if_pos h, if_neg (by decide), e]
  rfl
theorem range_mem {n : Nat} {x : W} (h : x ∈ rangeL 0 (n : Int)) : ∃ r : Nat, r < n ∧ x = .d (.int r) := by
  rw [rangeL_nat] at h
  obtain ⟨r, hr, rfl⟩ := List.mem_map.mp h
  exact ⟨r, List.mem_range.mp hr, rfl⟩
theorem range_ok {b : Nat} (hb : b < 1000000) : rangeOk (b : Int) = true := by
  unfold rangeOk
  have h1 : -(2 ^ 62) ≤ (b : Int) := by omega
  have h2 : (b : Int) < 2 ^ 62 := by omega
  exact decide_eq_true ⟨h1, h2⟩
theorem range_len {b : Nat} (hb : b < 1000000) : (rangeL 0 (b : Int)).length < lineS := by
  rw [rangeL_nat, List.length_map, List.length_range]
  unfold lineS
  omega
theorem evI_rng {fns : Nat → Fn} {es : List E} {env : Ev} {S : Store} : evI fns (.range es) env S = (evs fns es env S).bind fun ws S => Out.of ((rangeOf ws).map fun xs => (xs, none)) S := by
  rw [evI]
theorem evs_one {fns : Nat → Fn} {e : E} {env : Ev} {S : Store} {w : W} (h : ev fns e env S = .ok w S) : evs fns [e] env S = .ok [w] S := by
  rw [evs, h]
  simp only [Out.bind_ok]
  rw [evs]
  rfl
theorem out_rng {ws : List W} {xs : List W} {S : Store} (h : rangeOf ws = some xs) : Out.of ((rangeOf ws).map fun xs => (xs, (none : Option Nat))) S = .ok (xs, none) S := by rw [h]; rfl
theorem evI_rngs {fns : Nat → Fn} {es : List E} {env : Ev} {S : Store} {ws : List W} {xs : List W} (h : evs fns es env S = .ok ws S) (h2 : rangeOf ws = some xs) : evI fns (.range es) env S = .ok (xs, none) S := by
  rw [evI_rng, h]
  exact out_rng h2
theorem rangeOf_1 {n : Int} (h : rangeOk n = true) : rangeOf [.d (.int n)] = some (rangeL 0 n) := by
  rw [rangeOf]
  rw [if_pos h]
theorem evI_range0 {fns : Nat → Fn} {e : E} {env : Ev} {S : Store} {b : Nat} (h : ev fns e env S = .ok (.d (.int (b : Int))) S) (hb : rangeOk (b : Int) = true) : evI fns (.range [e]) env S = .ok (rangeL 0 (b : Int), none) S := evI_rngs (evs_one h) (rangeOf_1 hb)
/-- range(e) -/
theorem evI_range {fns : Nat → Fn} {e : E} {env : Ev} {S : Store} {b : Nat} (h : ev fns e env S = .ok (.d (.int (b : Int))) S) (hb : b < 1000000) : evI fns (.range [e]) env S = .ok (rangeL 0 (b : Int), none) S := evI_range0 h (range_ok hb)
/-! ### one statement behind another -/
theorem evSs_nx {fns : Nat → Fn} {s : Sm} {ss : List Sm} {env env' : Ev} {st st' : Store} (h : evS fns s env st = .ok (.nx env') st') : evSs fns (s :: ss) env st = evSs fns ss env' st' := by
  rw [evSs, h]
  rfl
theorem evSs_rt {fns : Nat → Fn} {s : Sm} {ss : List Sm} {env : Ev} {st st' : Store} {w : W} (h : evS fns s env st = .ok (.rt w) st') : evSs fns (s :: ss) env st = .ok (.rt w) st' := by
  rw [evSs, h]
  rfl
theorem evSs_nil {fns : Nat → Fn} {env : Ev} {st : Store} : evSs fns [] env st = .ok (.nx env) st := by rw [evSs]
theorem evS_asg {fns : Nat → Fn} {i : Nat} {e : E} {env : Ev} {st st' : Store} {w : W} (h : ev fns e env st = .ok w st') (hi : i < env.length) : evS fns (.asg (.name i) e) env st = .ok (.nx (env.set i (some w))) st' := by
  rw [evS, h]
  simp only [Out.bind_ok]
  rw [bindT, if_pos hi]
  rfl
theorem evS_ret {fns : Nat → Fn} {e : E} {env : Ev} {st st' : Store} {w : W} (h : ev fns e env st = .ok w st') : evS fns (.ret e) env st = .ok (.rt w) st' := by
  rw [evS, h]
  rfl
theorem evS_for {fns : Nat → Fn} {t : T} {it : I} {b : List Sm} {env env' : Ev} {st st1 st' : Store} {xs : List W} {k : Option Nat} (h : evI fns it env st = .ok (xs, k) st1)
    (h2 : forL (keeps k xs) (fun x env st => (Out.of (bindT t x env) st).bind fun env st => evSs fns b env st) xs env st1 = .ok (.nx env') st') : evS fns (.for_ t it b) env st = .ok (.nx env') st' := by
  rw [evS, h]
  exact h2
theorem evF_rt {fns : Nat → Fn} {n : Nat} {b : List Sm} {ws : List W} {st st' : Store} {w : W} (h : evSs fns b (ws.map some ++ List.replicate (n - ws.length) none) st = .ok (.rt w) st') : evF fns n b ws st = .ok w st' := by
  unfold evF
  rw [h]
  rfl
theorem mtIs_list {w : W} {S : Store} {xs : List W} (h : lseq S w = some xs) : mtIs "list" w S = true := by
  unfold mtIs
  rw [if_neg (by decide), h]
  rfl
theorem bind_step {α : Type} {o : Option Ev} {env : Ev} {st : Store} {g : Ev → Store → Out α} {r : Out α} (h : o = some env) (h2 : g env st = r) : (Out.of o st).bind g = r := by
  subst h
  exact h2
theorem evS_if_f {fns : Nat → Fn} {c : B} {a b : List Sm} {env : Ev} {st st' : Store} (h : evB fns c env st = .ok false st') : evS fns (.ife c a b) env st = evSs fns b env st' := by
  rw [evS, h]
  rfl
theorem evS_if_t {fns : Nat → Fn} {c : B} {a b : List Sm} {env : Ev} {st st' : Store} (h : evB fns c env st = .ok true st') : evS fns (.ife c a b) env st = evSs fns a env st' := by
  rw [evS, h]
  rfl
theorem evS_skip {fns : Nat → Fn} {c : B} {a : List Sm} {env : Ev} {st st' : Store} (h : evB fns c env st = .ok false st') : evS fns (.ife c a []) env st = .ok (.nx env) st' := (evS_if_f h).trans evSs_nil
theorem evS_par {fns : Nat → Fn} {is : List Nat} {es : List E} {env env' : Ev} {st st' : Store} {ws : List W} (h : evs fns es env st = .ok ws st') (h2 : setNs is ws env = some env') : evS fns (.par is es) env st = .ok (.nx env') st' := by
  rw [evS, h]
  simp only [Out.bind_ok]
  rw [h2]
  rfl
theorem ev_repr {fns : Nat → Fn} {e : E} {env : Ev} {st st' : Store} {x : D} (h : ev fns e env st = .ok (.d x) st') (hx : shw x = true) : ev fns (.bi .repr [e]) env st = .ok (.d (.str x.py.shown)) st' := by
  rw [ev, evs, h]
  simp only [Out.bind_ok]
  rw [evs]
  simp only [Out.bind_ok]
  exact (repr_shw hx).1
/-- repr(e) != repr(e2) of the same data -/
theorem repr_ne {fns : Nat → Fn} {e e2 : E} {env : Ev} {st st1 st2 : Store} {x : D} (h : ev fns e env st = .ok (.d x) st1) (h2 : ev fns e2 env st1 = .ok (.d x) st2) (hx : shw x = true) : evB fns (.cmp .NotEq (.bi .repr [e]) (.bi .repr [e2])) env st = .ok false st2 := by
  rw [evB, ev_repr h hx]
  simp only [Out.bind_ok]
  rw [ev_repr h2 hx]
  simp only [Out.bind_ok]
  exact ne_str (repr_shw (S := st2) hx).2
theorem repr_eq {fns : Nat → Fn} {e e2 : E} {env : Ev} {st st1 st2 : Store} {x : D} (h : ev fns e env st = .ok (.d x) st1) (h2 : ev fns e2 env st1 = .ok (.d x) st2) (hx : shw x = true) : ev fns (.cmp .Eq (.bi .repr [e]) (.bi .repr [e2])) env st = .ok (.d (.bl true)) st2 := by
  rw [ev, ev_repr h hx]
  simp only [Out.bind_ok]
  rw [ev_repr h2 hx]
  simp only [Out.bind_ok]
  rw [eq_str (repr_shw (S := st2) hx).2]
  rfl
theorem ev_call2 {fns : Nat → Fn} {f : Nat} {e1 e2 : E} {env : Ev} {st st1 st2 st3 : Store} {u v w : W} (h1 : ev fns e1 env st = .ok u st1) (h2 : ev fns e2 env st1 = .ok v st2) (h : evCall (fns f) [u, v] st2 = .ok w st3) : ev fns (.call f [e1, e2]) env st = .ok w st3 := by
  rw [ev, evs, h1]
  simp only [Out.bind_ok]
  rw [evs, h2]
  simp only [Out.bind_ok]
  rw [evs]
  simp only [Out.bind_ok]
  exact h
theorem ev_call1 {fns : Nat → Fn} {f : Nat} {e1 : E} {env : Ev} {st st1 st3 : Store} {u w : W} (h1 : ev fns e1 env st = .ok u st1) (h : evCall (fns f) [u] st1 = .ok w st3) : ev fns (.call f [e1]) env st = .ok w st3 := by
  rw [ev, evs, h1]
  simp only [Out.bind_ok]
  rw [evs]
  simp only [Out.bind_ok]
  exact h
theorem ev_var {fns : Nat → Fn} {i : Nat} {env : Ev} {st : Store} {w : W} (h : env[i]? = some (some w)) : ev fns (.var i) env st = .ok w st := by
  rw [ev, getE, h]
  rfl
/-! ### which def a call is of -/
theorem fns1 {G : Tab} {i np n : Nat} {nm : Str} {ks : List Str} {den : Fn} (h : G.fns[i]? = some ⟨nm, np, n, ks, [0], den⟩) (u : W) (S : Store) : fnsOf G i [u] S = den [u] S := by
  unfold fnsOf
  rw [h]
  rfl
theorem fns2 {G : Tab} {i np n : Nat} {nm : Str} {ks : List Str} {den : Fn} (h : G.fns[i]? = some ⟨nm, np, n, ks, [0, 1], den⟩) (u v : W) (S : Store) : fnsOf G i [u, v] S = den [u, v] S := by
  unfold fnsOf
  rw [h]
  rfl
theorem fns2r {G : Tab} {i np n : Nat} {nm : Str} {ks : List Str} {den : Fn} (h : G.fns[i]? = some ⟨nm, np, n, ks, [1, 0], den⟩) (u v : W) (S : Store) : fnsOf G i [u, v] S = den [v, u] S := by
  unfold fnsOf
  rw [h]
  rfl
theorem fns3 {G : Tab} {i np n : Nat} {nm : Str} {ks : List Str} {den : Fn} (h : G.fns[i]? = some ⟨nm, np, n, ks, [0, 1, 2], den⟩) (u v w : W) (S : Store) : fnsOf G i [u, v, w] S = den [u, v, w] S := by
  unfold fnsOf
  rw [h]
  rfl
theorem ev_tup2 {fns : Nat → Fn} {e1 e2 : E} {env : Ev} {st st1 st2 : Store} {u v : D} (h1 : ev fns e1 env st = .ok (.d u) st1) (h2 : ev fns e2 env st1 = .ok (.d v) st2) : ev fns (.tup [e1, e2]) env st = .ok (.d (.tup [u, v])) st2 := by
  rw [ev, evs, h1]
  simp only [Out.bind_ok]
  rw [evs, h2]
  simp only [Out.bind_ok]
  rw [evs]
  simp only [Out.bind_ok]
  have h : [W.d u, W.d v].length ≤ lineS := (show 2 ≤ lineS by decide)
  rw [if_pos h]
  rfl
end DL
/-! DLw: what a term reckons, step by step: rules that are used from the front. -/
namespace DL
open PySem PySem.Spec PyProof.Rows L2
universe u
/-- it ends well, and then Q -/
def Ok {α : Type} (o : Out α) (Q : α → Store → Prop) : Prop := ∃ a S, o = .ok a S ∧ Q a S
/-- one of two ways -/
def Br (k : Bool) (A B : Prop) : Prop := if k = true then A else B
section
variable {α β : Type} {o : Out α} {Q Q' : α → Store → Prop} {a : α} {S S' : Store}
theorem Ok.now (h : Q a S) : Ok (.ok a S) Q := ⟨a, S, rfl, h⟩
theorem Ok.eqn (e : o = .ok a S) (h : Q a S) : Ok o Q := ⟨a, S, e, h⟩
theorem Ok.mono (h : Ok o Q) (hq : ∀ a S, Q a S → Q' a S) : Ok o Q' := by
  obtain ⟨a, S, e, q⟩ := h
  exact ⟨a, S, e, hq a S q⟩
theorem Ok.bind {f : α → Store → Out β} {R : β → Store → Prop} (h : Ok o fun a S => Ok (f a S) R) : Ok (o.bind f) R := by
  obtain ⟨a, S, rfl, b, S2, e, q⟩ := h
  exact ⟨b, S2, e, q⟩
theorem Ok.noErr (h : Ok o Q) : Ok o.noErr Q := by
  obtain ⟨a, S, rfl, q⟩ := h
  exact ⟨a, S, rfl, q⟩
theorem Ok.of {x : Option α} (e : x = some a) (h : Q a S) : Ok (Out.of x S) Q := by subst e; exact ⟨a, S, rfl, h⟩
end
section
variable {k : Bool} {A B : Prop}
theorem Br.t (h : A) : Br true A B := h
theorem Br.f (h : B) : Br false A B := h
theorem Br.is (hk : k = true) (h : A) : Br k A B := by subst hk; exact h
theorem Br.no (hk : k = false) (h : B) : Br k A B := by subst hk; exact h
theorem Br.yes {P : Prop} [Decidable P] (p : P) (h : A) : Br (decide P) A B := Br.is (decide_eq_true p) h
theorem Br.nay {P : Prop} [Decidable P] (p : ¬ P) (h : B) : Br (decide P) A B := Br.no (decide_eq_false p) h
theorem Br.not (h : Br k B A) : Br (!k) A B := by cases k <;> exact h
theorem Br.by (h1 : k = true → A) (h2 : k = false → B) : Br k A B := by
  cases k
  · exact h2 rfl
  · exact h1 rfl
theorem Br.dec {P : Prop} [Decidable P] (h1 : P → A) (h2 : ¬ P → B) : Br (decide P) A B := Br.by (fun e => h1 (of_decide_eq_true e)) fun e => h2 (of_decide_eq_false e)
end
theorem ex_eq {α : Type} {x : Option α} {a : α} {R : α → Prop} (h : x = some a) (q : R a) : ∃ b, x = some b ∧ R b := ⟨a, h, q⟩
theorem ex_int {i : Int} {R : Int → Prop} (q : R i) : ∃ j, W.d (.int i) = .d (.int j) ∧ R j := ⟨i, rfl, q⟩
theorem few {n : Nat} (h : Nat.ble n lineS = true) : n ≤ lineS := Nat.le_of_ble_eq_true h
section
variable {fns : Nat → Fn} {env : Ev} {S : Store} {Q : W → Store → Prop} {es : List E} {e a b c : E}
/-! ### expressions -/
theorem yr_var {i : Nat} {w : W} (h : env[i]? = some (some w)) (q : Q w S) : Ok (ev fns (.var i) env S) Q := .eqn (ev_var h) q
theorem yr_const {x : D} (q : Q (.d x) S) : Ok (ev fns (.const x) env S) Q := .eqn (by rw [ev]) q
theorem yr_glob {n : Str} {x : D} (q : Q (.d x) S) : Ok (ev fns (.glob n x) env S) Q := .eqn (by rw [ev]) q
theorem yr_bin {op : Operator} (h : Ok (ev fns a env S) fun x S => Ok (ev fns b env S) fun y S => Ok (evOp op x y S) Q) : Ok (ev fns (.bin op a b) env S) Q := by
  rw [ev]
  exact .bind (h.mono fun _ _ h => .bind h)
theorem yr_neg (h : Ok (ev fns a env S) fun x S => ∃ i, x = .d (.int i) ∧ Q (.d (.int (-i))) S) : Ok (ev fns (.neg a) env S) Q := by
  rw [ev]
  exact .bind (h.mono fun _ _ ⟨i, e, h⟩ => by subst e; exact .now h)
theorem yr_cmp {op : CmpOp} (h : Ok (ev fns a env S) fun x S => Ok (ev fns b env S) fun y S => Ok (evCmp op x y S) fun k S => Q (.d (.bl k)) S) : Ok (ev fns (.cmp op a b) env S) Q := by
  rw [ev]
  exact .bind (h.mono fun _ _ h => .bind (h.mono fun _ _ h => .bind (h.mono fun _ _ h => .now h)))
theorem yr_chain {op op' : CmpOp} (h : Ok (ev fns a env S) fun x S => Ok (ev fns b env S) fun y S => Ok (evCmp op x y S) fun k S => Br k (Ok (ev fns c env S) fun z S => Ok (evCmp op' y z S) fun k S => Q (.d (.bl k)) S) (Q (.d (.bl false)) S)) :
    Ok (ev fns (.chain op op' a b c) env S) Q := by
  rw [ev]
  exact .bind (h.mono fun _ _ h => .bind (h.mono fun _ _ h => .bind (h.mono fun k _ h => by
    cases k
    · exact .now h
    · exact .bind (h.mono fun _ _ h => .bind (h.mono fun _ _ h => .now h)))))
theorem yr_not (h : Ok (ev fns a env S) fun x S => Ok (Out.of (tru S x) S) fun k S => Q (.d (.bl (!k))) S) : Ok (ev fns (.not a) env S) Q := by
  rw [ev]
  exact .bind (h.mono fun x S h => by
    obtain ⟨k, S2, e, q⟩ := h
    cases ht : tru S x with
    | none => rw [ht] at e; cases e
    | some j => rw [ht] at e; cases e; exact .now q)
theorem yr_bop {k : Bool} (h : Ok (evBop fns k es env S) Q) : Ok (ev fns (.bop k es) env S) Q := by rw [ev]; exact h
theorem yr_bop1 {k : Bool} (h : Ok (ev fns e env S) Q) : Ok (evBop fns k [e] env S) Q := by rw [evBop]; exact h
theorem evBop_cons {k : Bool} {e2 : E} : evBop fns k (e :: e2 :: es) env S = (ev fns e env S).bind fun x S => (Out.of (tru S x) S).bind fun b S => if b = k then evBop fns k (e2 :: es) env S else .ok x S := by
  rw [evBop]
  intro h
  cases h
theorem yr_and {e2 : E} (h : Ok (ev fns e env S) fun x S => Ok (Out.of (tru S x) S) fun k S => Br k (Ok (evBop fns true (e2 :: es) env S) Q) (Q x S)) : Ok (evBop fns true (e :: e2 :: es) env S) Q := by
  rw [evBop_cons]
  exact .bind (h.mono fun _ _ h => .bind (h.mono fun k _ h => by
    cases k
    · exact .now h
    · exact h))
theorem yr_or {e2 : E} (h : Ok (ev fns e env S) fun x S => Ok (Out.of (tru S x) S) fun k S => Br k (Q x S) (Ok (evBop fns false (e2 :: es) env S) Q)) : Ok (evBop fns false (e :: e2 :: es) env S) Q := by
  rw [evBop_cons]
  exact .bind (h.mono fun _ _ h => .bind (h.mono fun k _ h => by
    cases k
    · exact h
    · exact .now h))
theorem yr_ifx {t : B} (h : Ok (evB fns t env S) fun k S => Br k (Ok (ev fns a env S) Q) (Ok (ev fns b env S) Q)) : Ok (ev fns (.ifx t a b) env S) Q := by
  rw [ev]
  exact .bind (h.mono fun k _ h => by cases k <;> exact h)
def Tp (ws : List W) (S : Store) (Q : W → Store → Prop) : Prop := ws.length ≤ lineS ∧ ∃ ds, pures ws = some ds ∧ Q (.d (.tup ds)) S
theorem ytp {ws : List W} {ds : List D} (l : Nat.ble ws.length lineS = true) (e : pures ws = some ds) (q : Q (.d (.tup ds)) S) : Tp ws S Q := ⟨few l, ds, e, q⟩
theorem yr_tup (h : Ok (evs fns es env S) fun ws S => Tp ws S Q) : Ok (ev fns (.tup es) env S) Q := by
  rw [ev]
  refine .bind (h.mono fun ws _ h => ?_)
  obtain ⟨l, ds, e, q⟩ := h
  show Ok (if ws.length ≤ lineS then _ else _) _
  rw [if_pos l, e]
  exact .now q
theorem yr_lst {m : Bool} (h : Ok (evs fns es env S) fun ws S => Ok (newL m ws S) Q) : Ok (ev fns (.lst m es) env S) Q := by
  rw [ev]
  exact .bind h
theorem ynl_t {ws : List W} (l : ws.length ≤ lineS) (q : Q (.l S.length) (S ++ [.lst ws])) : Ok (newL true ws S) Q := by
  unfold newL
  rw [if_pos l, if_pos rfl]
  exact .now q
theorem ynl_f {ws : List W} {ds : List D} (l : ws.length ≤ lineS) (e : pures ws = some ds) (q : Q (.d (.lst ds)) S) : Ok (newL false ws S) Q := .eqn (newL_data l e) q
theorem yr_ix (h : Ok (ev fns a env S) fun x S => Ok (ev fns b env S) fun y S => Ok (evIx x y S) Q) : Ok (ev fns (.ix a b) env S) Q := by
  rw [ev]
  exact .bind (h.mono fun _ _ h => .bind h)
theorem at_map {xs : List D} {k : Int} {d : D} (e : at_ xs k = some d) : at_ (xs.map W.d) k = some (.d d) := by
  cases k with
  | ofNat n =>
    show (xs.map W.d)[n]? = _
    rw [List.getElem?_map, show xs[n]? = some d from e]
    rfl
  | negSucc n =>
    have e : (if n < xs.length then xs[xs.length - 1 - n]? else none) = some d := e
    show (if n < (xs.map W.d).length then (xs.map W.d)[(xs.map W.d).length - 1 - n]? else none) = _
    rw [List.length_map, List.getElem?_map]
    split at e
    · rename_i h; rw [if_pos h, e]; rfl
    · cases e
theorem yix_tup {xs : List D} {k : Int} {d : D} (e : at_ xs k = some d) (q : Q (.d d) S) : Ok (evIx (.d (.tup xs)) (.d (.int k)) S) Q := by
  show Ok (Out.of (at_ (xs.map W.d) k) S) Q
  exact .of (at_map e) q
theorem yix_lst {xs : List D} {k : Int} {d : D} (e : at_ xs k = some d) (q : Q (.d d) S) : Ok (evIx (.d (.lst xs)) (.d (.int k)) S) Q := by
  show Ok (Out.of (at_ (xs.map W.d) k) S) Q
  exact .of (at_map e) q
theorem yix_rol {xs : List D} {k : Int} {d : D} (e : at_ xs k = some d) (q : Q (.d d) S) : Ok (evIx (.d (.rol xs)) (.d (.int k)) S) Q := by
  show Ok (Out.of (at_ (xs.map W.d) k) S) Q
  exact .of (at_map e) q
theorem yix_l {n : Nat} {xs : List W} {k : Int} {w : W} (hn : S[n]? = some (.lst xs)) (e : at_ xs k = some w) (q : Q w S) : Ok (evIx (.l n) (.d (.int k)) S) Q := by
  refine .eqn (a := w) (S := S) ?_ q
  simp [evIx, dicOf, seqOf, hn, e]
theorem yr_call {f : Nat} (h : Ok (evs fns es env S) fun ws S => Ok (evCall (fns f) ws S) Q) : Ok (ev fns (.call f es) env S) Q := by
  rw [ev]
  exact .bind h
theorem yr_bi {t : Bi} (h : Ok (evs fns es env S) fun ws S => Ok (evBi t ws S) Q) : Ok (ev fns (.bi t es) env S) Q := by
  rw [ev]
  exact .bind h
theorem yr_mt {m : Mt} (h : Ok (ev fns a env S) fun x S => mtIs (mtT m) x S = true ∧ Ok (evs fns es env S) fun ws S => Ok (evMt m x ws S) Q) : Ok (ev fns (.mt m a es) env S) Q := by
  rw [ev]
  refine .bind (h.mono fun x S h => ?_)
  obtain ⟨h1, h2⟩ := h
  show Ok (if mtIs (mtT m) x S = true then _ else _) _
  rw [if_pos h1]
  exact .bind h2
theorem yr_slice00 (h : Ok (ev fns a env S) fun x S => Ok (evSlice x none none S) Q) : Ok (ev fns (.slice a b c false false) env S) Q := by
  rw [ev]
  exact .bind (h.mono fun _ _ h => h)
theorem yr_slice10 (h : Ok (ev fns a env S) fun x S => Ok (ev fns b env S) fun y S => ∃ i, y = .d (.int i) ∧ Ok (evSlice x (some i) none S) Q) : Ok (ev fns (.slice a b c true false) env S) Q := by
  rw [ev]
  exact .bind (h.mono fun _ _ h => .bind (.bind (h.mono fun _ _ ⟨i, e, h⟩ => by subst e; exact .now h)))
theorem yr_slice01 (h : Ok (ev fns a env S) fun x S => Ok (ev fns c env S) fun y S => ∃ i, y = .d (.int i) ∧ Ok (evSlice x none (some i) S) Q) : Ok (ev fns (.slice a b c false true) env S) Q := by
  rw [ev]
  exact .bind (h.mono fun _ _ h => .bind (.now (.bind (.bind (h.mono fun _ _ ⟨i, e, h⟩ => by subst e; exact .now h)))))
theorem yr_slice11 (h : Ok (ev fns a env S) fun x S => Ok (ev fns b env S) fun y S => ∃ i, y = .d (.int i) ∧ Ok (ev fns c env S) fun z S => ∃ j, z = .d (.int j) ∧ Ok (evSlice x (some i) (some j) S) Q) : Ok (ev fns (.slice a b c true true) env S) Q := by
  rw [ev]
  exact .bind (h.mono fun _ _ h => .bind (.bind (h.mono fun _ _ ⟨i, e, h⟩ => by subst e; exact .now (.bind (.bind (h.mono fun _ _ ⟨j, e, h⟩ => by subst e; exact .now h))))))
theorem ysl_tup {xs : List D} {lo hi : Option Int} (q : Q (.d (.tup (cut_ xs lo hi))) S) : Ok (evSlice (.d (.tup xs)) lo hi S) Q := .now q
theorem ysl_lst {xs : List D} {lo hi : Option Int} (q : Q (.d (.lst (cut_ xs lo hi))) S) : Ok (evSlice (.d (.lst xs)) lo hi S) Q := .now q
theorem ysl_rol {xs : List D} {lo hi : Option Int} (q : Q (.d (.lst (cut_ xs lo hi))) S) : Ok (evSlice (.d (.rol xs)) lo hi S) Q := .now q
theorem yr_rep {m : Bool} (h : Ok (ev fns a env S) fun x S => Ok (ev fns b env S) fun y S => Ok (evRep m x y S) Q) : Ok (ev fns (.rep m a b) env S) Q := by
  rw [ev]; exact .bind (h.mono fun _ _ h => .bind h)
theorem yr_frz (h : Ok (ev fns a env S) fun x S => Ok (evFrz x S) Q) : Ok (ev fns (.frz a) env S) Q := by
  rw [ev]; exact .bind h
theorem yrep_f {xs : List D} {k : Int} (h1 : 0 ≤ k) (h2 : k < 1000000) (h3 : xs.length * k.toNat ≤ lineS) (l : (repD xs k).length ≤ lineS) (q : Q (.d (.lst (repD xs k))) S) : Ok (evRep false (.d (.lst xs)) (.d (.int k)) S) Q := by
  unfold evRep
  show Ok (if _ then newL false _ S else _) Q
  rw [if_pos ⟨by omega, by omega, h3⟩]
  exact ynl_f (by rw [List.length_map]; exact l) (pures_map _) q
theorem yrep_t {xs : List D} {k : Int} (h1 : 0 ≤ k) (h2 : k < 1000000) (h3 : xs.length * k.toNat ≤ lineS) (l : (repD xs k).length ≤ lineS) (q : Q (.l S.length) (S ++ [.lst ((repD xs k).map .d)])) : Ok (evRep true (.d (.lst xs)) (.d (.int k)) S) Q := by
  unfold evRep
  show Ok (if _ then newL true _ S else _) Q
  rw [if_pos ⟨by omega, by omega, h3⟩]
  exact ynl_t (by rw [List.length_map]; exact l) q
theorem yfrz {n : Nat} {ds : List D} (hn : S[n]? = some (.lst (ds.map .d))) (q : Q (.d (.lst ds)) (S.set n .dead)) : Ok (evFrz (.l n) S) Q := by
  refine .eqn (a := .d (.lst ds)) (S := S.set n .dead) ?_ q
  simp only [evFrz]
  rw [hn]
  simp only [pures_map]
theorem yfrz_dic {n : Nat} {t : Bool} {es : List (D × W)} {ds : List D} (hn : S[n]? = some (.dic t es)) (e : es.map (·.2) = ds.map .d) (q : Q (.d (.dct t (es.map (·.1)) ds)) (S.set n .dead)) : Ok (evFrz (.l n) S) Q := by
  refine .eqn (a := .d (.dct t (es.map (·.1)) ds)) (S := S.set n .dead) ?_ q
  simp only [evFrz]
  rw [hn]
  simp only [e, pures_map]
theorem yr_dict {t : Bool} (q : Q (.l S.length) (S ++ [.dic t []])) : Ok (ev fns (.dict t) env S) Q := by
  rw [ev]; exact .now q
theorem yix_dic {n : Nat} {t : Bool} {es : List (D × W)} {k : D} {w : W} (hn : S[n]? = some (.dic t es)) (hk : kOk t k = true) (e : dget es k = some w) (q : Q w S) : Ok (evIx (.l n) (.d k) S) Q := by
  refine .eqn (a := w) (S := S) ?_ q
  simp [evIx, dicOf, hn, hk, e]
theorem yix_dct {t : Bool} {ks vs : List D} {k : D} {w : W} (hk : kOk t k = true) (e : dget (ks.zip (vs.map W.d)) k = some w) (q : Q w S) : Ok (evIx (.d (.dct t ks vs)) (.d k) S) Q := by
  refine .eqn (a := w) (S := S) ?_ q
  simp [evIx, dicOf, hk, e]
theorem set_dic {n : Nat} {t : Bool} {es : List (D × W)} {k : D} {v : W} (hn : S[n]? = some (.dic t es)) (hk : kOk t k = true) (hl : es.length < lineS) : setIx (.l n) (.d k) v S = some (S.set n (.dic t (dput es k v))) := by
  simp [setIx, hn, hk, hl]
theorem ymg_get {n : Nat} {t : Bool} {es : List (D × W)} {k : D} {df : W} (hn : S[n]? = some (.dic t es)) (hk : kOk t k = true) (q : Q ((dget es k).getD df) S) : Ok (evMt .get (.l n) [.d k, df] S) Q := by
  refine .eqn (a := (dget es k).getD df) (S := S) ?_ q
  simp [evMt, evMt2, mtGet, dicOf, hn, hk]
theorem mtIs_dic {n : Nat} {t : Bool} {es : List (D × W)} (hn : S[n]? = some (.dic t es)) : mtIs (mtT .get) (.l n) S = true := by
  simp [mtIs, mtT, dicOf, hn]
theorem yix_rtp {xs : List D} {k : Int} {d : D} (e : at_ xs k = some d) (q : Q (.d d) S) : Ok (evIx (.d (.rtp xs)) (.d (.int k)) S) Q := by
  show Ok (Out.of (at_ (xs.map W.d) k) S) Q
  exact .of (at_map e) q
theorem yr_lrange {m : Bool} (h : Ok (evs fns es env S) fun ws S => Ok (Out.of (rangeOf ws) S) fun xs S => Ok (newL m xs S) Q) : Ok (ev fns (.lrange m es) env S) Q := by
  rw [ev]
  exact .bind (h.mono fun _ _ h => .bind h)
theorem yr_comp {m : Bool} {t : T} {it : I} {c : B} {own : List Nat} (h : Ok (evI fns it env S) fun p S => p.1.length < lineS ∧ Ok (compL (keeps p.2 p.1) (turnC fns e t c (wipeE env own)) p.1 S) fun ys S => Ok (newL m ys S) Q) :
    Ok (ev fns (.comp m e t it c own) env S) Q := by
  rw [ev_comp]
  refine .bind (h.mono fun p S h => ?_)
  show Ok (if p.1.length < lineS then _ else _) _
  rw [if_pos h.1]
  exact .bind h.2
theorem yr_turn {t : T} {c : B} {x : W} {env1 : Ev} {Q : Option W → Store → Prop} (hb : bindT t x env = some env1) (h : Ok (evB fns c env1 S) fun k S => Br k (Ok (ev fns e env1 S) fun y S => Q (some y) S) (Q none S)) : Ok (turnC fns e t c env x S) Q := by
  unfold turnC
  rw [hb]
  refine .bind (.now (.bind (h.noErr.mono fun k S h => ?_)))
  cases k
  · exact .now h
  · exact .bind (Ok.noErr (Ok.mono h fun y S h => .now h))
/-! ### starred parts -/
theorem yr_tupS {xs : List A} (h : Ok (evAs fns xs env S) fun ws S => Tp ws S Q) : Ok (ev fns (.tupS xs) env S) Q := by
  rw [ev]
  refine .bind (h.mono fun ws _ h => ?_)
  obtain ⟨l, ds, e, q⟩ := h
  show Ok (if ws.length ≤ lineS then _ else _) _
  rw [if_pos l, e]
  exact .now q
theorem yr_lstS {m : Bool} {xs : List A} (h : Ok (evAs fns xs env S) fun ws S => Ok (newL m ws S) Q) : Ok (ev fns (.lstS m xs) env S) Q := by
  rw [ev]
  exact .bind h
theorem yas_nil {Q : List W → Store → Prop} (q : Q [] S) : Ok (evAs fns [] env S) Q := by rw [evAs]; exact .now q
theorem yas_one {xs : List A} {Q : List W → Store → Prop} (h : Ok (ev fns e env S) fun x S => Ok (evAs fns xs env S) fun ys S => Q (x :: ys) S) : Ok (evAs fns (.one e :: xs) env S) Q := by
  rw [evAs]
  exact .bind (h.mono fun _ _ h => .bind (h.mono fun _ _ h => .now h))
theorem yas_star {xs : List A} {Q : List W → Store → Prop} (h : Ok (ev fns e env S) fun x S => Ok (Out.of (seqOf S x) S) fun zs S => Ok (evAs fns xs env S) fun ys S => Q (zs ++ ys) S) : Ok (evAs fns (.star e :: xs) env S) Q := by
  rw [evAs]
  exact .bind (h.mono fun _ _ h => .bind (h.mono fun _ _ h => .bind (h.mono fun _ _ h => .now h)))
theorem ysq_tup {xs : List D} {Q : List W → Store → Prop} (q : Q (xs.map .d) S) : Ok (Out.of (seqOf S (.d (.tup xs))) S) Q := .now q
theorem ysq_rtp {xs : List D} {Q : List W → Store → Prop} (q : Q (xs.map .d) S) : Ok (Out.of (seqOf S (.d (.rtp xs))) S) Q := .now q
theorem ysq_lst {xs : List D} {Q : List W → Store → Prop} (q : Q (xs.map .d) S) : Ok (Out.of (seqOf S (.d (.lst xs))) S) Q := .now q
/-! ### several -/
theorem ya_nil {Q : List W → Store → Prop} (q : Q [] S) : Ok (evs fns [] env S) Q := by rw [evs]; exact .now q
theorem ya_cons {Q : List W → Store → Prop} (h : Ok (ev fns e env S) fun x S => Ok (evs fns es env S) fun xs S => Q (x :: xs) S) : Ok (evs fns (e :: es) env S) Q := by
  rw [evs]
  exact .bind (h.mono fun _ _ h => .bind (h.mono fun _ _ h => .now h))
/-! ### operators -/
theorem yo_add {i j : Int} (q : Q (.d (.int (i + j))) S) : Ok (evOp .Add (.d (.int i)) (.d (.int j)) S) Q := .now q
theorem yo_sub {i j : Int} (q : Q (.d (.int (i - j))) S) : Ok (evOp .Sub (.d (.int i)) (.d (.int j)) S) Q := .now q
theorem yo_mul {i j : Int} (h : mulOk i j = true) (q : Q (.d (.int (i * j))) S) : Ok (evOp .Mult (.d (.int i)) (.d (.int j)) S) Q := by
  show Ok (Out.of ((if mulOk i j = true then some (D.int (i * j)) else none).map W.d) S) Q
  rw [if_pos h]
  exact .now q
theorem yo_mod {i j : Int} (h : 0 < j) (q : Q (.d (.int (i % j))) S) : Ok (evOp .Mod (.d (.int i)) (.d (.int j)) S) Q := by
  show Ok (Out.of ((if 0 < j then some (D.int (i % j)) else none).map W.d) S) Q
  rw [if_pos h]
  exact .now q
theorem yo_div {i j : Int} (h : divOk j = true) (q : Q (.d (.int (i / j))) S) : Ok (evOp .FloorDiv (.d (.int i)) (.d (.int j)) S) Q := by
  show Ok (Out.of ((if divOk j = true then some (D.int (i / j)) else none).map W.d) S) Q
  rw [if_pos h]
  exact .now q
theorem yo_pow {i j : Int} (h : powOk i j = true) (q : Q (.d (.int (i ^ j.toNat))) S) : Ok (evOp .Pow (.d (.int i)) (.d (.int j)) S) Q := by
  show Ok (Out.of ((if powOk i j = true then some (D.int (i ^ j.toNat)) else none).map W.d) S) Q
  rw [if_pos h]
  exact .now q
theorem yo_addT {xs ys : List D} (h : xs.length + ys.length ≤ lineS) (q : Q (.d (.tup (xs ++ ys))) S) : Ok (evOp .Add (.d (.tup xs)) (.d (.tup ys)) S) Q := by
  show Ok (Out.of ((if xs.length + ys.length ≤ lineS then some (D.tup (xs ++ ys)) else none).map W.d) S) Q
  rw [if_pos h]
  exact .now q
theorem yo_addL {xs ys : List D} (h : xs.length + ys.length ≤ lineS) (q : Q (.d (.lst (xs ++ ys))) S) : Ok (evOp .Add (.d (.lst xs)) (.d (.lst ys)) S) Q := by
  show Ok (Out.of ((if xs.length + ys.length ≤ lineS then some (D.lst (xs ++ ys)) else none).map W.d) S) Q
  rw [if_pos h]
  exact .now q
end
section
variable {S : Store} {Q : Bool → Store → Prop} {i j : Int}
/-! ### comparisons, truth -/
theorem yc_lt (q : Q (decide (i < j)) S) : Ok (evCmp .Lt (.d (.int i)) (.d (.int j)) S) Q := .now q
theorem yc_le (q : Q (decide (i ≤ j)) S) : Ok (evCmp .LtE (.d (.int i)) (.d (.int j)) S) Q := .now q
theorem yc_gt (q : Q (decide (j < i)) S) : Ok (evCmp .Gt (.d (.int i)) (.d (.int j)) S) Q := .now q
theorem yc_ge (q : Q (decide (j ≤ i)) S) : Ok (evCmp .GtE (.d (.int i)) (.d (.int j)) S) Q := .now q
theorem yc_eqi (q : Q (decide (i = j)) S) : Ok (evCmp .Eq (.d (.int i)) (.d (.int j)) S) Q := by
  refine .eqn (a := decide (i = j)) ?_ q
  simp [evCmp, cmpD, sh, deq]
theorem yc_nei (q : Q (!decide (i = j)) S) : Ok (evCmp .NotEq (.d (.int i)) (.d (.int j)) S) Q := by
  refine .eqn (a := !decide (i = j)) ?_ q
  simp [evCmp, cmpD, sh, deq]
theorem yc_eq {x y : D} (hx : sh 60 x = true) (hy : sh 60 y = true) (q : Q (deq x y) S) : Ok (evCmp .Eq (.d x) (.d y) S) Q := by
  refine .eqn (a := deq x y) ?_ q
  simp [evCmp, cmpD, hx, hy]
theorem yc_ne {x y : D} (hx : sh 60 x = true) (hy : sh 60 y = true) (q : Q (!deq x y) S) : Ok (evCmp .NotEq (.d x) (.d y) S) Q := by
  refine .eqn (a := !deq x y) ?_ q
  simp [evCmp, cmpD, hx, hy]
theorem yc_in {x : D} {ys : List D} (hx : sh 59 x = true) (hy : shs 59 ys = true) (q : Q (hasD x ys) S) : Ok (evCmp .In (.d x) (.d (.lst ys)) S) Q := by
  refine .eqn (a := hasD x ys) ?_ q
  simp [evCmp, cmpD, inD, hx, hy]
theorem yc_nin {x : D} {ys : List D} (hx : sh 59 x = true) (hy : shs 59 ys = true) (q : Q (!hasD x ys) S) : Ok (evCmp .NotIn (.d x) (.d (.lst ys)) S) Q := by
  refine .eqn (a := !hasD x ys) ?_ q
  simp [evCmp, cmpD, inD, hx, hy]
theorem yc_inT {x : D} {ys : List D} (hx : flatD x = true) (hy : ys.all flatD = true) (q : Q (hasD x ys) S) : Ok (evCmp .In (.d x) (.d (.tup ys)) S) Q := by
  refine .eqn (a := hasD x ys) ?_ q
  simp only [evCmp, cmpD, inD, hx, hy, Bool.and_self, if_true]
  rfl
theorem yc_ninT {x : D} {ys : List D} (hx : flatD x = true) (hy : ys.all flatD = true) (q : Q (!hasD x ys) S) : Ok (evCmp .NotIn (.d x) (.d (.tup ys)) S) Q := by
  refine .eqn (a := !hasD x ys) ?_ q
  simp only [evCmp, cmpD, inD, hx, hy, Bool.and_self, if_true]
  rfl
theorem yc_isb {a b : Bool} (q : Q (decide (a = b)) S) : Ok (evCmp .Is (.d (.bl a)) (.d (.bl b)) S) Q := .now q
theorem yc_isnb {a b : Bool} (q : Q (!decide (a = b)) S) : Ok (evCmp .IsNot (.d (.bl a)) (.d (.bl b)) S) Q := .now q
theorem yc_isn_n (q : Q true S) : Ok (evCmp .Is (.d .non) (.d .non) S) Q := .now q
theorem yc_isn_i (q : Q false S) : Ok (evCmp .Is (.d (.int i)) (.d .non) S) Q := .now q
theorem yc_isn_t {xs : List D} (q : Q false S) : Ok (evCmp .Is (.d (.tup xs)) (.d .non) S) Q := .now q
theorem yc_isn_rt {xs : List D} (q : Q false S) : Ok (evCmp .Is (.d (.rtp xs)) (.d .non) S) Q := .now q
theorem yc_isnn_n (q : Q false S) : Ok (evCmp .IsNot (.d .non) (.d .non) S) Q := .now q
theorem yc_isnn_i (q : Q true S) : Ok (evCmp .IsNot (.d (.int i)) (.d .non) S) Q := .now q
theorem yc_isnn_t {xs : List D} (q : Q true S) : Ok (evCmp .IsNot (.d (.tup xs)) (.d .non) S) Q := .now q
theorem yc_isnn_rt {xs : List D} (q : Q true S) : Ok (evCmp .IsNot (.d (.rtp xs)) (.d .non) S) Q := .now q
theorem yt_non (q : Q false S) : Ok (Out.of (tru S (.d .non)) S) Q := .now q
theorem yt_bl {b : Bool} (q : Q b S) : Ok (Out.of (tru S (.d (.bl b))) S) Q := .now q
theorem yt_int (q : Q (!decide (i = 0)) S) : Ok (Out.of (tru S (.d (.int i))) S) Q := .now q
theorem yt_tup {xs : List D} (q : Q (!xs.isEmpty) S) : Ok (Out.of (tru S (.d (.tup xs))) S) Q := .now q
theorem yt_rtp {xs : List D} (q : Q (!xs.isEmpty) S) : Ok (Out.of (tru S (.d (.rtp xs))) S) Q := .now q
theorem yt_lst {xs : List D} (q : Q (!xs.isEmpty) S) : Ok (Out.of (tru S (.d (.lst xs))) S) Q := .now q
theorem yt_rol {xs : List D} (q : Q (!xs.isEmpty) S) : Ok (Out.of (tru S (.d (.rol xs))) S) Q := .now q
theorem yt_l {n : Nat} {xs : List W} (hn : S[n]? = some (.lst xs)) (q : Q (!xs.isEmpty) S) : Ok (Out.of (tru S (.l n)) S) Q := by
  refine .of (a := !xs.isEmpty) ?_ q
  simp [tru, hn]
variable {fns : Nat → Fn} {env : Ev} {a b c : E} {t : B} {ts : List B}
theorem yb_val (h : Ok (ev fns a env S) fun x S => Ok (Out.of (tru S x) S) Q) : Ok (evB fns (.val a) env S) Q := by rw [evB]; exact .bind h
theorem yb_yes (q : Q true S) : Ok (evB fns .yes env S) Q := by rw [evB]; exact .now q
theorem yb_not (h : Ok (evB fns t env S) fun k S => Q (!k) S) : Ok (evB fns (.not t) env S) Q := by rw [evB]; exact .bind (h.mono fun _ _ h => .now h)
theorem yb_bop {k : Bool} (h : Ok (evBs fns k ts env S) Q) : Ok (evB fns (.bop k ts) env S) Q := by rw [evB]; exact h
theorem yb_cmp {op : CmpOp} (h : Ok (ev fns a env S) fun x S => Ok (ev fns b env S) fun y S => Ok (evCmp op x y S) Q) : Ok (evB fns (.cmp op a b) env S) Q := by
  rw [evB]
  exact .bind (h.mono fun _ _ h => .bind h)
theorem yb_chain {op op' : CmpOp} (h : Ok (ev fns a env S) fun x S => Ok (ev fns b env S) fun y S => Ok (evCmp op x y S) fun k S => Br k (Ok (ev fns c env S) fun z S => Ok (evCmp op' y z S) Q) (Q false S)) : Ok (evB fns (.chain op op' a b c) env S) Q := by
  rw [evB]
  exact .bind (h.mono fun _ _ h => .bind (h.mono fun _ _ h => .bind (h.mono fun k _ h => by
    cases k
    · exact .now h
    · exact .bind h)))
theorem evBs_cons {k : Bool} {t2 : B} : evBs fns k (t :: t2 :: ts) env S = (evB fns t env S).bind fun b S => if b = k then evBs fns k (t2 :: ts) env S else .ok b S := by
  rw [evBs]
  intro h
  cases h
theorem yb_1 {k : Bool} (h : Ok (evB fns t env S) Q) : Ok (evBs fns k [t] env S) Q := by rw [evBs]; exact h
theorem yb_and {t2 : B} (h : Ok (evB fns t env S) fun k S => Br k (Ok (evBs fns true (t2 :: ts) env S) Q) (Q false S)) : Ok (evBs fns true (t :: t2 :: ts) env S) Q := by
  rw [evBs_cons]
  exact .bind (h.mono fun k _ h => by
    cases k
    · exact .now h
    · exact h)
theorem yb_or {t2 : B} (h : Ok (evB fns t env S) fun k S => Br k (Q true S) (Ok (evBs fns false (t2 :: ts) env S) Q)) : Ok (evBs fns false (t :: t2 :: ts) env S) Q := by
  rw [evBs_cons]
  exact .bind (h.mono fun k _ h => by
    cases k
    · exact h
    · exact .now h)
end
section
variable {fns : Nat → Fn} {env : Ev} {S : Store} {Q : Fl → Store → Prop} {s : Sm} {ss : List Sm} {e a b : E}
/-! ### statements -/
/-- what follows -/
def Nx (fns : Nat → Fn) (ss : List Sm) (Q : Fl → Store → Prop) : Fl → Store → Prop := fun r S => match r with
  | .nx env => Ok (evSs fns ss env S) Q
  | .bk env => Q (.bk env) S
  | .rt w => Q (.rt w) S
theorem yss_nil (q : Q (.nx env) S) : Ok (evSs fns [] env S) Q := by rw [evSs]; exact .now q
theorem yss_cons (h : Ok (evS fns s env S) (Nx fns ss Q)) : Ok (evSs fns (s :: ss) env S) Q := by
  rw [evSs]
  exact .bind (h.mono fun r _ h => by
    cases r with
    | nx => exact h
    | bk => exact .now h
    | rt => exact .now h)
theorem ynx_nx (h : Ok (evSs fns ss env S) Q) : Nx fns ss Q (.nx env) S := h
theorem ynx_rt {w : W} (h : Q (.rt w) S) : Nx fns ss Q (.rt w) S := h
theorem ynx_bk (h : Q (.bk env) S) : Nx fns ss Q (.bk env) S := h
theorem ys_asgT {t : T} (h : Ok (ev fns e env S) fun w S => ∃ env', bindT t w env = some env' ∧ Q (.nx env') S) : Ok (evS fns (.asg t e) env S) Q := by
  rw [evS]
  refine .bind (h.mono fun w S h => ?_)
  obtain ⟨env', e, q⟩ := h
  exact .of (a := Fl.nx env') (by rw [e]; rfl) q
theorem ys_asgN {i : Nat} (hi : Nat.blt i env.length = true) (h : Ok (ev fns e env S) fun w S => Q (.nx (env.set i (some w))) S) : Ok (evS fns (.asg (.name i) e) env S) Q :=
  ys_asgT (h.mono fun w S h => ⟨_, by rw [bindT, if_pos (of_decide_eq_true (by simpa [Nat.blt_eq] using hi))], h⟩)
theorem ys_expr (h : Ok (ev fns e env S) fun _ S => Q (.nx env) S) : Ok (evS fns (.expr e) env S) Q := by rw [evS]; exact .bind (h.mono fun _ _ h => .now h)
theorem ys_ret (h : Ok (ev fns e env S) fun w S => Q (.rt w) S) : Ok (evS fns (.ret e) env S) Q := by rw [evS]; exact .bind (h.mono fun _ _ h => .now h)
theorem ys_retN (h : Q (.rt (.d .non)) S) : Ok (evS fns .retN env S) Q := by rw [evS]; exact .now h
theorem ys_pass (h : Q (.nx env) S) : Ok (evS fns .pass env S) Q := by rw [evS]; exact .now h
theorem ys_brk (h : Q (.bk env) S) : Ok (evS fns .brk env S) Q := by rw [evS]; exact .now h
theorem ys_ife {c : B} {a b : List Sm} (h : Ok (evB fns c env S) fun k S => Br k (Ok (evSs fns a env S) Q) (Ok (evSs fns b env S) Q)) : Ok (evS fns (.ife c a b) env S) Q := by
  rw [evS]
  exact .bind (h.mono fun k _ h => by cases k <;> exact h)
theorem ys_aug {i : Nat} {op : Operator} {x : W} (hx : env[i]? = some (some x)) (hi : i < env.length) (h : Ok (ev fns e env S) fun y S => Ok (augD op x y S) fun z S => Q (.nx (env.set i (some z))) S) : Ok (evS fns (.aug i op e) env S) Q := by
  rw [evS]
  refine .bind (.of (a := x) (by rw [getE, hx]; rfl) (.bind (h.mono fun y S h => .bind (h.mono fun z S h => ?_))))
  exact .of (a := Fl.nx (env.set i (some z))) (by rw [setN, if_pos hi]; rfl) h
theorem yg_add {Q : W → Store → Prop} {i j : Int} (q : Q (.d (.int (i + j))) S) : Ok (augD .Add (.d (.int i)) (.d (.int j)) S) Q := .now q
theorem yg_sub {Q : W → Store → Prop} {i j : Int} (q : Q (.d (.int (i - j))) S) : Ok (augD .Sub (.d (.int i)) (.d (.int j)) S) Q := .now q
theorem ys_par {is : List Nat} {es : List E} (h : Ok (evs fns es env S) fun ws S => ∃ env', setNs is ws env = some env' ∧ Q (.nx env') S) : Ok (evS fns (.par is es) env S) Q := by
  rw [evS]
  refine .bind (h.mono fun w S h => ?_)
  obtain ⟨env', e, q⟩ := h
  exact .of (a := Fl.nx env') (by rw [e]; rfl) q
theorem ys_set {o i : E} (h : Ok (ev fns e env S) fun w S => Ok (ev fns o env S) fun x S => Ok (ev fns i env S) fun k S => ∃ S', setIx x k w S = some S' ∧ Q (.nx env) S') : Ok (evS fns (.set o i e) env S) Q := by
  rw [evS]
  refine .bind (h.mono fun w S h => .bind (.bind (h.mono fun x S h => .bind (h.mono fun k S h => ?_))))
  obtain ⟨S', e, q⟩ := h
  rw [e]
  exact .now (.now q)
theorem ys_for {t : T} {it : I} {b : List Sm} (h : Ok (evI fns it env S) fun p S => Ok (forL (keeps p.2 p.1) (fun x env st => (Out.of (bindT t x env) st).bind fun env st => evSs fns b env st) p.1 env S) Q) : Ok (evS fns (.for_ t it b) env S) Q := by
  rw [evS]
  exact .bind h
/-- one turn of a loop -/
theorem yl_turn {t : T} {x : W} {b : List Sm} {env' : Ev} (e : bindT t x env = some env') (h : Ok (evSs fns b env' S) Q) : Ok ((Out.of (bindT t x env) S).bind fun env st => evSs fns b env st) Q := by
  rw [e]
  exact .bind (.now h)
/-- behind a turn -/
def Lp (P : Ev → Store → Prop) (Q : Fl → Store → Prop) : Fl → Store → Prop := fun r S => match r with
  | .nx env => P env S
  | .bk env => Q (.nx env) S
  | .rt w => Q (.rt w) S
theorem ylp_nx {P : Ev → Store → Prop} (q : P env S) : Lp P Q (.nx env) S := q
theorem ylp_rt {P : Ev → Store → Prop} {w : W} (q : Q (.rt w) S) : Lp P Q (.rt w) S := q
theorem ylp_bk {P : Ev → Store → Prop} (q : Q (.nx env) S) : Lp P Q (.bk env) S := q
/-- a loop: P holds ahead of turn i -/
theorem yl_for {ok : Store → Bool} {f : W → Ev → Store → Out Fl} (P : Nat → Ev → Store → Prop) {xs : List W} (h0 : P 0 env S) (hk : ∀ i env S, P i env S → ok S = true)
    (hs : ∀ i x env S, xs[i]? = some x → P i env S → Ok (f x env S) (Lp (P (i + 1)) Q)) (hq : ∀ env S, P xs.length env S → Q (.nx env) S) : Ok (forL ok f xs env S) Q := by
  have key : ∀ (ys : List W) (k : Nat) (env : Ev) (S : Store), P k env S → (∀ i x, ys[i]? = some x → xs[k + i]? = some x) → k + ys.length = xs.length → Ok (forL ok f ys env S) Q := by
    intro ys
    induction ys with
    | nil =>
      intro k env S h _ hl
      unfold forL
      rw [if_pos (hk k env S h)]
      exact .now (hq _ _ (by rw [← hl]; exact h))
    | cons y ys ih =>
      intro k env S h hx hl
      unfold forL
      rw [if_pos (hk k env S h)]
      refine .bind ((hs k y env S (hx 0 y rfl) h).mono fun r S h => ?_)
      cases r with
      | nx env =>
        refine ih (k + 1) env S h (fun i x e => ?_) (by rw [← hl, List.length_cons]; omega)
        rw [show k + 1 + i = k + (i + 1) by omega]
        exact hx (i + 1) x e
      | bk env => exact .now h
      | rt w => exact .now h
  exact key xs 0 env S h0 (fun i x e => by rw [Nat.zero_add]; exact e) (Nat.zero_add _)
/-- behind a def's text -/
def Fin (Q : W → Store → Prop) : Fl → Store → Prop := fun r S => match r with
  | .rt w => Q w S
  | .nx _ => Q (.d .non) S
  | .bk _ => False
theorem yfin_rt {Q : W → Store → Prop} {w : W} (q : Q w S) : Fin Q (.rt w) S := q
theorem yfin_nx {Q : W → Store → Prop} (q : Q (.d .non) S) : Fin Q (.nx env) S := q
/-- a def -/
theorem f_run {n : Nat} {b : List Sm} {ws : List W} {env : Ev} {Q : W → Store → Prop} (he : ws.map some ++ List.replicate (n - ws.length) none = env) (h : Ok (evSs fns b env S) (Fin Q)) : Ok (evF fns n b ws S) Q := by
  unfold evF
  rw [he]
  refine .bind (h.mono fun r S h => ?_)
  cases r with
  | nx env => exact .now h
  | bk env => exact h.elim
  | rt w => exact .now h
end
/-! ### comprehensions -/
theorem yl_comp {ok : Store → Bool} {f : W → Store → Out (Option W)} {S : Store} {Q : List W → Store → Prop} (P : Nat → List W → Store → Prop) {xs : List W} (h0 : P 0 [] S) (hk : ∀ i ys S, P i ys S → ok S = true)
    (hs : ∀ i x ys S, xs[i]? = some x → P i ys S → Ok (f x S) fun r S => P (i + 1) (ys ++ r.toList) S) (hq : ∀ ys S, P xs.length ys S → Q ys S) : Ok (compL ok f xs S) Q := by
  have key : ∀ (zs : List W) (k : Nat) (acc : List W) (S : Store), P k acc S → (∀ i x, zs[i]? = some x → xs[k + i]? = some x) → k + zs.length = xs.length → Ok (compL ok f zs S) fun ys S => Q (acc ++ ys) S := by
    intro zs
    induction zs with
    | nil =>
      intro k acc S h _ hl
      unfold compL
      rw [if_pos (hk k acc S h)]
      refine .now (hq _ _ ?_)
      rw [← hl, List.append_nil]
      exact h
    | cons z zs ih =>
      intro k acc S h hx hl
      unfold compL
      rw [if_pos (hk k acc S h)]
      refine .bind ((hs k z acc S (hx 0 z rfl) h).mono fun r S h => .bind ((ih (k + 1) _ S h (fun i x e => ?_) (by rw [← hl, List.length_cons]; omega)).mono fun ys S q => ?_))
      · rw [show k + 1 + i = k + (i + 1) by omega]
        exact hx (i + 1) x e
      · cases r with
        | none => exact .now (by simpa using q)
        | some y => exact .now (by simpa using q)
  exact (key xs 0 [] S h0 (fun i x e => by rw [Nat.zero_add]; exact e) (Nat.zero_add _)).mono fun ys S q => by simpa using q
/-- each item gives one, and nothing changes -/
theorem yl_map {ok : Store → Bool} {f : W → Store → Out (Option W)} {S : Store} {Q : List W → Store → Prop} {xs : List W} (g : W → W) (hk : ok S = true) (hs : ∀ x ∈ xs, Ok (f x S) fun r S' => r = some (g x) ∧ S' = S) (hq : Q (xs.map g) S) : Ok (compL ok f xs S) Q := by
  refine .eqn (compL_pure (g := g) hk xs fun x hx => ?_) hq
  obtain ⟨r, S', e, rfl, rfl⟩ := hs x hx
  exact e

theorem yset0 {fns : Nat → Fn} {S : Store} {Q : Fl → Store → Prop} {e0 : Option W} {r : Ev} {e : E} (h : Ok (ev fns e (e0 :: r) S) fun w S => Q (.nx (some w :: r)) S) : Ok (evS fns (.asg (.name 0) e) (e0 :: r) S) Q :=
  ys_asgN (by simp [Nat.blt_eq]) h
theorem yset1 {fns : Nat → Fn} {S : Store} {Q : Fl → Store → Prop} {e0 e1 : Option W} {r : Ev} {e : E} (h : Ok (ev fns e (e0 :: e1 :: r) S) fun w S => Q (.nx (e0 :: some w :: r)) S) : Ok (evS fns (.asg (.name 1) e) (e0 :: e1 :: r) S) Q :=
  ys_asgN (by simp [Nat.blt_eq]) h
theorem yset2 {fns : Nat → Fn} {S : Store} {Q : Fl → Store → Prop} {e0 e1 e2 : Option W} {r : Ev} {e : E} (h : Ok (ev fns e (e0 :: e1 :: e2 :: r) S) fun w S => Q (.nx (e0 :: e1 :: some w :: r)) S) : Ok (evS fns (.asg (.name 2) e) (e0 :: e1 :: e2 :: r) S) Q :=
  ys_asgN (by simp [Nat.blt_eq]) h
theorem yset3 {fns : Nat → Fn} {S : Store} {Q : Fl → Store → Prop} {e0 e1 e2 e3 : Option W} {r : Ev} {e : E} (h : Ok (ev fns e (e0 :: e1 :: e2 :: e3 :: r) S) fun w S => Q (.nx (e0 :: e1 :: e2 :: some w :: r)) S) : Ok (evS fns (.asg (.name 3) e) (e0 :: e1 :: e2 :: e3 :: r) S) Q :=
  ys_asgN (by simp [Nat.blt_eq]) h
theorem yset4 {fns : Nat → Fn} {S : Store} {Q : Fl → Store → Prop} {e0 e1 e2 e3 e4 : Option W} {r : Ev} {e : E} (h : Ok (ev fns e (e0 :: e1 :: e2 :: e3 :: e4 :: r) S) fun w S => Q (.nx (e0 :: e1 :: e2 :: e3 :: some w :: r)) S) : Ok (evS fns (.asg (.name 4) e) (e0 :: e1 :: e2 :: e3 :: e4 :: r) S) Q :=
  ys_asgN (by simp [Nat.blt_eq]) h
theorem yset5 {fns : Nat → Fn} {S : Store} {Q : Fl → Store → Prop} {e0 e1 e2 e3 e4 e5 : Option W} {r : Ev} {e : E} (h : Ok (ev fns e (e0 :: e1 :: e2 :: e3 :: e4 :: e5 :: r) S) fun w S => Q (.nx (e0 :: e1 :: e2 :: e3 :: e4 :: some w :: r)) S) : Ok (evS fns (.asg (.name 5) e) (e0 :: e1 :: e2 :: e3 :: e4 :: e5 :: r) S) Q :=
  ys_asgN (by simp [Nat.blt_eq]) h
theorem yset6 {fns : Nat → Fn} {S : Store} {Q : Fl → Store → Prop} {e0 e1 e2 e3 e4 e5 e6 : Option W} {r : Ev} {e : E} (h : Ok (ev fns e (e0 :: e1 :: e2 :: e3 :: e4 :: e5 :: e6 :: r) S) fun w S => Q (.nx (e0 :: e1 :: e2 :: e3 :: e4 :: e5 :: some w :: r)) S) : Ok (evS fns (.asg (.name 6) e) (e0 :: e1 :: e2 :: e3 :: e4 :: e5 :: e6 :: r) S) Q :=
  ys_asgN (by simp [Nat.blt_eq]) h
theorem yset7 {fns : Nat → Fn} {S : Store} {Q : Fl → Store → Prop} {e0 e1 e2 e3 e4 e5 e6 e7 : Option W} {r : Ev} {e : E} (h : Ok (ev fns e (e0 :: e1 :: e2 :: e3 :: e4 :: e5 :: e6 :: e7 :: r) S) fun w S => Q (.nx (e0 :: e1 :: e2 :: e3 :: e4 :: e5 :: e6 :: some w :: r)) S) : Ok (evS fns (.asg (.name 7) e) (e0 :: e1 :: e2 :: e3 :: e4 :: e5 :: e6 :: e7 :: r) S) Q :=
  ys_asgN (by simp [Nat.blt_eq]) h
theorem yset8 {fns : Nat → Fn} {S : Store} {Q : Fl → Store → Prop} {e0 e1 e2 e3 e4 e5 e6 e7 e8 : Option W} {r : Ev} {e : E} (h : Ok (ev fns e (e0 :: e1 :: e2 :: e3 :: e4 :: e5 :: e6 :: e7 :: e8 :: r) S) fun w S => Q (.nx (e0 :: e1 :: e2 :: e3 :: e4 :: e5 :: e6 :: e7 :: some w :: r)) S) : Ok (evS fns (.asg (.name 8) e) (e0 :: e1 :: e2 :: e3 :: e4 :: e5 :: e6 :: e7 :: e8 :: r) S) Q :=
  ys_asgN (by simp [Nat.blt_eq]) h
theorem yset9 {fns : Nat → Fn} {S : Store} {Q : Fl → Store → Prop} {e0 e1 e2 e3 e4 e5 e6 e7 e8 e9 : Option W} {r : Ev} {e : E} (h : Ok (ev fns e (e0 :: e1 :: e2 :: e3 :: e4 :: e5 :: e6 :: e7 :: e8 :: e9 :: r) S) fun w S => Q (.nx (e0 :: e1 :: e2 :: e3 :: e4 :: e5 :: e6 :: e7 :: e8 :: some w :: r)) S) : Ok (evS fns (.asg (.name 9) e) (e0 :: e1 :: e2 :: e3 :: e4 :: e5 :: e6 :: e7 :: e8 :: e9 :: r) S) Q :=
  ys_asgN (by simp [Nat.blt_eq]) h
theorem yset10 {fns : Nat → Fn} {S : Store} {Q : Fl → Store → Prop} {e0 e1 e2 e3 e4 e5 e6 e7 e8 e9 e10 : Option W} {r : Ev} {e : E} (h : Ok (ev fns e (e0 :: e1 :: e2 :: e3 :: e4 :: e5 :: e6 :: e7 :: e8 :: e9 :: e10 :: r) S) fun w S => Q (.nx (e0 :: e1 :: e2 :: e3 :: e4 :: e5 :: e6 :: e7 :: e8 :: e9 :: some w :: r)) S) : Ok (evS fns (.asg (.name 10) e) (e0 :: e1 :: e2 :: e3 :: e4 :: e5 :: e6 :: e7 :: e8 :: e9 :: e10 :: r) S) Q :=
  ys_asgN (by simp [Nat.blt_eq]) h
theorem yset11 {fns : Nat → Fn} {S : Store} {Q : Fl → Store → Prop} {e0 e1 e2 e3 e4 e5 e6 e7 e8 e9 e10 e11 : Option W} {r : Ev} {e : E} (h : Ok (ev fns e (e0 :: e1 :: e2 :: e3 :: e4 :: e5 :: e6 :: e7 :: e8 :: e9 :: e10 :: e11 :: r) S) fun w S => Q (.nx (e0 :: e1 :: e2 :: e3 :: e4 :: e5 :: e6 :: e7 :: e8 :: e9 :: e10 :: some w :: r)) S) : Ok (evS fns (.asg (.name 11) e) (e0 :: e1 :: e2 :: e3 :: e4 :: e5 :: e6 :: e7 :: e8 :: e9 :: e10 :: e11 :: r) S) Q :=
  ys_asgN (by simp [Nat.blt_eq]) h
theorem yset12 {fns : Nat → Fn} {S : Store} {Q : Fl → Store → Prop} {e0 e1 e2 e3 e4 e5 e6 e7 e8 e9 e10 e11 e12 : Option W} {r : Ev} {e : E} (h : Ok (ev fns e (e0 :: e1 :: e2 :: e3 :: e4 :: e5 :: e6 :: e7 :: e8 :: e9 :: e10 :: e11 :: e12 :: r) S) fun w S => Q (.nx (e0 :: e1 :: e2 :: e3 :: e4 :: e5 :: e6 :: e7 :: e8 :: e9 :: e10 :: e11 :: some w :: r)) S) : Ok (evS fns (.asg (.name 12) e) (e0 :: e1 :: e2 :: e3 :: e4 :: e5 :: e6 :: e7 :: e8 :: e9 :: e10 :: e11 :: e12 :: r) S) Q :=
  ys_asgN (by simp [Nat.blt_eq]) h
theorem yset13 {fns : Nat → Fn} {S : Store} {Q : Fl → Store → Prop} {e0 e1 e2 e3 e4 e5 e6 e7 e8 e9 e10 e11 e12 e13 : Option W} {r : Ev} {e : E} (h : Ok (ev fns e (e0 :: e1 :: e2 :: e3 :: e4 :: e5 :: e6 :: e7 :: e8 :: e9 :: e10 :: e11 :: e12 :: e13 :: r) S) fun w S => Q (.nx (e0 :: e1 :: e2 :: e3 :: e4 :: e5 :: e6 :: e7 :: e8 :: e9 :: e10 :: e11 :: e12 :: some w :: r)) S) : Ok (evS fns (.asg (.name 13) e) (e0 :: e1 :: e2 :: e3 :: e4 :: e5 :: e6 :: e7 :: e8 :: e9 :: e10 :: e11 :: e12 :: e13 :: r) S) Q :=
  ys_asgN (by simp [Nat.blt_eq]) h
theorem yset14 {fns : Nat → Fn} {S : Store} {Q : Fl → Store → Prop} {e0 e1 e2 e3 e4 e5 e6 e7 e8 e9 e10 e11 e12 e13 e14 : Option W} {r : Ev} {e : E} (h : Ok (ev fns e (e0 :: e1 :: e2 :: e3 :: e4 :: e5 :: e6 :: e7 :: e8 :: e9 :: e10 :: e11 :: e12 :: e13 :: e14 :: r) S) fun w S => Q (.nx (e0 :: e1 :: e2 :: e3 :: e4 :: e5 :: e6 :: e7 :: e8 :: e9 :: e10 :: e11 :: e12 :: e13 :: some w :: r)) S) : Ok (evS fns (.asg (.name 14) e) (e0 :: e1 :: e2 :: e3 :: e4 :: e5 :: e6 :: e7 :: e8 :: e9 :: e10 :: e11 :: e12 :: e13 :: e14 :: r) S) Q :=
  ys_asgN (by simp [Nat.blt_eq]) h
theorem yset15 {fns : Nat → Fn} {S : Store} {Q : Fl → Store → Prop} {e0 e1 e2 e3 e4 e5 e6 e7 e8 e9 e10 e11 e12 e13 e14 e15 : Option W} {r : Ev} {e : E} (h : Ok (ev fns e (e0 :: e1 :: e2 :: e3 :: e4 :: e5 :: e6 :: e7 :: e8 :: e9 :: e10 :: e11 :: e12 :: e13 :: e14 :: e15 :: r) S) fun w S => Q (.nx (e0 :: e1 :: e2 :: e3 :: e4 :: e5 :: e6 :: e7 :: e8 :: e9 :: e10 :: e11 :: e12 :: e13 :: e14 :: some w :: r)) S) : Ok (evS fns (.asg (.name 15) e) (e0 :: e1 :: e2 :: e3 :: e4 :: e5 :: e6 :: e7 :: e8 :: e9 :: e10 :: e11 :: e12 :: e13 :: e14 :: e15 :: r) S) Q :=
  ys_asgN (by simp [Nat.blt_eq]) h
theorem yset16 {fns : Nat → Fn} {S : Store} {Q : Fl → Store → Prop} {e0 e1 e2 e3 e4 e5 e6 e7 e8 e9 e10 e11 e12 e13 e14 e15 e16 : Option W} {r : Ev} {e : E} (h : Ok (ev fns e (e0 :: e1 :: e2 :: e3 :: e4 :: e5 :: e6 :: e7 :: e8 :: e9 :: e10 :: e11 :: e12 :: e13 :: e14 :: e15 :: e16 :: r) S) fun w S => Q (.nx (e0 :: e1 :: e2 :: e3 :: e4 :: e5 :: e6 :: e7 :: e8 :: e9 :: e10 :: e11 :: e12 :: e13 :: e14 :: e15 :: some w :: r)) S) : Ok (evS fns (.asg (.name 16) e) (e0 :: e1 :: e2 :: e3 :: e4 :: e5 :: e6 :: e7 :: e8 :: e9 :: e10 :: e11 :: e12 :: e13 :: e14 :: e15 :: e16 :: r) S) Q :=
  ys_asgN (by simp [Nat.blt_eq]) h
theorem yset17 {fns : Nat → Fn} {S : Store} {Q : Fl → Store → Prop} {e0 e1 e2 e3 e4 e5 e6 e7 e8 e9 e10 e11 e12 e13 e14 e15 e16 e17 : Option W} {r : Ev} {e : E} (h : Ok (ev fns e (e0 :: e1 :: e2 :: e3 :: e4 :: e5 :: e6 :: e7 :: e8 :: e9 :: e10 :: e11 :: e12 :: e13 :: e14 :: e15 :: e16 :: e17 :: r) S) fun w S => Q (.nx (e0 :: e1 :: e2 :: e3 :: e4 :: e5 :: e6 :: e7 :: e8 :: e9 :: e10 :: e11 :: e12 :: e13 :: e14 :: e15 :: e16 :: some w :: r)) S) : Ok (evS fns (.asg (.name 17) e) (e0 :: e1 :: e2 :: e3 :: e4 :: e5 :: e6 :: e7 :: e8 :: e9 :: e10 :: e11 :: e12 :: e13 :: e14 :: e15 :: e16 :: e17 :: r) S) Q :=
  ys_asgN (by simp [Nat.blt_eq]) h
theorem yset18 {fns : Nat → Fn} {S : Store} {Q : Fl → Store → Prop} {e0 e1 e2 e3 e4 e5 e6 e7 e8 e9 e10 e11 e12 e13 e14 e15 e16 e17 e18 : Option W} {r : Ev} {e : E} (h : Ok (ev fns e (e0 :: e1 :: e2 :: e3 :: e4 :: e5 :: e6 :: e7 :: e8 :: e9 :: e10 :: e11 :: e12 :: e13 :: e14 :: e15 :: e16 :: e17 :: e18 :: r) S) fun w S => Q (.nx (e0 :: e1 :: e2 :: e3 :: e4 :: e5 :: e6 :: e7 :: e8 :: e9 :: e10 :: e11 :: e12 :: e13 :: e14 :: e15 :: e16 :: e17 :: some w :: r)) S) : Ok (evS fns (.asg (.name 18) e) (e0 :: e1 :: e2 :: e3 :: e4 :: e5 :: e6 :: e7 :: e8 :: e9 :: e10 :: e11 :: e12 :: e13 :: e14 :: e15 :: e16 :: e17 :: e18 :: r) S) Q :=
  ys_asgN (by simp [Nat.blt_eq]) h
theorem yset19 {fns : Nat → Fn} {S : Store} {Q : Fl → Store → Prop} {e0 e1 e2 e3 e4 e5 e6 e7 e8 e9 e10 e11 e12 e13 e14 e15 e16 e17 e18 e19 : Option W} {r : Ev} {e : E} (h : Ok (ev fns e (e0 :: e1 :: e2 :: e3 :: e4 :: e5 :: e6 :: e7 :: e8 :: e9 :: e10 :: e11 :: e12 :: e13 :: e14 :: e15 :: e16 :: e17 :: e18 :: e19 :: r) S) fun w S => Q (.nx (e0 :: e1 :: e2 :: e3 :: e4 :: e5 :: e6 :: e7 :: e8 :: e9 :: e10 :: e11 :: e12 :: e13 :: e14 :: e15 :: e16 :: e17 :: e18 :: some w :: r)) S) : Ok (evS fns (.asg (.name 19) e) (e0 :: e1 :: e2 :: e3 :: e4 :: e5 :: e6 :: e7 :: e8 :: e9 :: e10 :: e11 :: e12 :: e13 :: e14 :: e15 :: e16 :: e17 :: e18 :: e19 :: r) S) Q :=
  ys_asgN (by simp [Nat.blt_eq]) h
/-! ### calls -/
/-- handed data, it gives data -/
def Gv (den : Fn) (xs : List D) (y : D) : Prop := ∃ S, den (xs.map .d) [] = .ok (.d y) S
theorem Gv.mk {den : Fn} {xs : List D} {y : D} (h : Ok (den (xs.map .d) []) fun w _ => w = .d y) : Gv den xs y := by
  obtain ⟨w, S, e, rfl⟩ := h
  exact ⟨S, e⟩
section
variable {f den : Fn} {S : Store} {Q : W → Store → Prop}
theorem yk_d {ws : List W} {xs : List D} {ys : List W} {y : D} (hw : ws = xs.map .d) (hf : f ws [] = den ys []) {zs : List D} (hy : ys = zs.map .d) (h : Gv den zs y) (q : Q (.d y) S) : Ok (evCall f ws S) Q := by
  have hl : locsOf ws = [] := by
    subst hw
    clear hf
    induction xs with
    | nil => rfl
    | cons x xs ih => exact ih
  have hr : ws.map (reix []) = ws := by
    subst hw
    clear hf hl
    induction xs with
    | nil => rfl
    | cons x xs ih => rw [List.map_cons, List.map_cons, ih]; rfl
  obtain ⟨S', e⟩ := h
  refine .eqn (a := .d y) (S := S) ?_ q
  rw [evCall_data hl, hr, hf, hy, e]
  rfl
theorem fnsC {G : Tab} {i : Nat} {c : Callee} (h : G.fns[i]? = some c) (us : List W) (S : Store) : fnsOf G i us S = c.den (c.ord.filterMap fun k => us[k]?) S := by
  unfold fnsOf
  rw [h]
/-- a place of the store is handed on, with data -/
theorem yk_p {ws us : List W} {n : Nat} {p : Ob} {ds : List D} (hl : locsOf ws = [n]) (hr : ws.map (reix [n]) = us) (hn : S[n]? = some p) (hp : flatO p = true) (hf : f us [p] = den us [p])
    (h : Ok (den us [p]) fun w S' => ∃ y p' r, w = .d y ∧ S' = p' :: r ∧ flatO p' = true ∧ Q (.d y) (S.set n p')) : Ok (evCall f ws S) Q := by
  obtain ⟨w, S', e, y, p', r, rfl, rfl, hp', q⟩ := h
  refine .eqn (a := .d y) (S := S.set n p') ?_ q
  rw [evCall_place hl hn hp, hr, hf, e, outP_ok _ _ _ _ _ hp']
end
/-! ### built-ins, methods -/
section
variable {S : Store} {Q : W → Store → Prop}
theorem yn_lenT {xs : List D} (q : Q (.d (.int xs.length)) S) : Ok (evBi .len [.d (.tup xs)] S) Q := .eqn (a := .d (.int xs.length)) (S := S) (by simp [evBi, evBi1, biLen, seqOf]) q
theorem yn_lenRT {xs : List D} (q : Q (.d (.int xs.length)) S) : Ok (evBi .len [.d (.rtp xs)] S) Q := .eqn (a := .d (.int xs.length)) (S := S) (by simp [evBi, evBi1, biLen, seqOf]) q
theorem yn_lenL {xs : List D} (q : Q (.d (.int xs.length)) S) : Ok (evBi .len [.d (.lst xs)] S) Q := .eqn (a := .d (.int xs.length)) (S := S) (by simp [evBi, evBi1, biLen, seqOf]) q
theorem yn_lenR {xs : List D} (q : Q (.d (.int xs.length)) S) : Ok (evBi .len [.d (.rol xs)] S) Q := .eqn (a := .d (.int xs.length)) (S := S) (by simp [evBi, evBi1, biLen, seqOf]) q
theorem yn_lenP {n : Nat} {xs : List W} (hn : S[n]? = some (.lst xs)) (q : Q (.d (.int xs.length)) S) : Ok (evBi .len [.l n] S) Q := .eqn (a := .d (.int xs.length)) (S := S) (by simp [evBi, evBi1, biLen, seqOf, hn]) q
theorem yn_int {i : Int} (q : Q (.d (.int i)) S) : Ok (evBi .int [.d (.int i)] S) Q := .now q
theorem yn_intB {b : Bool} (q : Q (.d (.int (if b then 1 else 0))) S) : Ok (evBi .int [.d (.bl b)] S) Q := .now q
theorem yn_tupL {xs : List D} (q : Q (.d (.tup xs)) S) : Ok (evBi .tuple [.d (.lst xs)] S) Q := .eqn (a := .d (.tup xs)) (S := S) (by simp [evBi, evBi1, seqOf, pures_map]) q
theorem yn_tupP {n : Nat} {xs : List D} (hn : S[n]? = some (.lst (xs.map .d))) (q : Q (.d (.tup xs)) S) : Ok (evBi .tuple [.l n] S) Q := .eqn (a := .d (.tup xs)) (S := S) (by simp [evBi, evBi1, seqOf, hn, pures_map]) q
theorem yn_isi_int_int {i : Int} (q : Q (.d (.bl true)) S) : Ok (evBi (.isinst "int") [.d (.int i)] S) Q := .eqn (a := .d (.bl true)) (S := S) (by show Out.ok (W.d (.bl (isTy _ "int"))) S = _; rw [show isTy (tyD (.int i)) "int" = true from (by decide : isTy "int" "int" = true)]) q
theorem yn_isi_int_bool {i : Int} (q : Q (.d (.bl false)) S) : Ok (evBi (.isinst "bool") [.d (.int i)] S) Q := .eqn (a := .d (.bl false)) (S := S) (by show Out.ok (W.d (.bl (isTy _ "bool"))) S = _; rw [show isTy (tyD (.int i)) "bool" = false from (by decide : isTy "int" "bool" = false)]) q
theorem yn_isi_bool_int {b : Bool} (q : Q (.d (.bl true)) S) : Ok (evBi (.isinst "int") [.d (.bl b)] S) Q := .eqn (a := .d (.bl true)) (S := S) (by show Out.ok (W.d (.bl (isTy _ "int"))) S = _; rw [show isTy (tyD (.bl b)) "int" = true from (by decide : isTy "bool" "int" = true)]) q
theorem yn_isi_bool_bool {b : Bool} (q : Q (.d (.bl true)) S) : Ok (evBi (.isinst "bool") [.d (.bl b)] S) Q := .eqn (a := .d (.bl true)) (S := S) (by show Out.ok (W.d (.bl (isTy _ "bool"))) S = _; rw [show isTy (tyD (.bl b)) "bool" = true from (by decide : isTy "bool" "bool" = true)]) q
theorem yn_isi_tup_tuple {xs : List D} (q : Q (.d (.bl true)) S) : Ok (evBi (.isinst "tuple") [.d (.tup xs)] S) Q := .eqn (a := .d (.bl true)) (S := S) (by show Out.ok (W.d (.bl (isTy _ "tuple"))) S = _; rw [show isTy (tyD (.tup xs)) "tuple" = true from (by decide : isTy "tuple" "tuple" = true)]) q
theorem yn_isi_rtp_tuple {xs : List D} (q : Q (.d (.bl true)) S) : Ok (evBi (.isinst "tuple") [.d (.rtp xs)] S) Q := .eqn (a := .d (.bl true)) (S := S) (by show Out.ok (W.d (.bl (isTy _ "tuple"))) S = _; rw [show isTy (tyD (.rtp xs)) "tuple" = true from (by decide : isTy "tuple" "tuple" = true)]) q
theorem yn_isi_int_tuple {i : Int} (q : Q (.d (.bl false)) S) : Ok (evBi (.isinst "tuple") [.d (.int i)] S) Q := .eqn (a := .d (.bl false)) (S := S) (by show Out.ok (W.d (.bl (isTy _ "tuple"))) S = _; rw [show isTy (tyD (.int i)) "tuple" = false from (by decide : isTy "int" "tuple" = false)]) q
theorem yn_isi_str_str {x : Str} (q : Q (.d (.bl true)) S) : Ok (evBi (.isinst "str") [.d (.str x)] S) Q := .eqn (a := .d (.bl true)) (S := S) (by show Out.ok (W.d (.bl (isTy _ "str"))) S = _; rw [show isTy (tyD (.str x)) "str" = true from (by decide : isTy "str" "str" = true)]) q
theorem yn_isi_int_str {i : Int} (q : Q (.d (.bl false)) S) : Ok (evBi (.isinst "str") [.d (.int i)] S) Q := .eqn (a := .d (.bl false)) (S := S) (by show Out.ok (W.d (.bl (isTy _ "str"))) S = _; rw [show isTy (tyD (.int i)) "str" = false from (by decide : isTy "int" "str" = false)]) q
theorem yn_isi_str_int {x : Str} (q : Q (.d (.bl false)) S) : Ok (evBi (.isinst "int") [.d (.str x)] S) Q := .eqn (a := .d (.bl false)) (S := S) (by show Out.ok (W.d (.bl (isTy _ "int"))) S = _; rw [show isTy (tyD (.str x)) "int" = false from (by decide : isTy "str" "int" = false)]) q
theorem yn_isi_tup_int {xs : List D} (q : Q (.d (.bl false)) S) : Ok (evBi (.isinst "int") [.d (.tup xs)] S) Q := .eqn (a := .d (.bl false)) (S := S) (by show Out.ok (W.d (.bl (isTy _ "int"))) S = _; rw [show isTy (tyD (.tup xs)) "int" = false from (by decide : isTy "tuple" "int" = false)]) q
theorem yn_isi_tup_str {xs : List D} (q : Q (.d (.bl false)) S) : Ok (evBi (.isinst "str") [.d (.tup xs)] S) Q := .eqn (a := .d (.bl false)) (S := S) (by show Out.ok (W.d (.bl (isTy _ "str"))) S = _; rw [show isTy (tyD (.tup xs)) "str" = false from (by decide : isTy "tuple" "str" = false)]) q
theorem yn_isi_str_tuple {x : Str} (q : Q (.d (.bl false)) S) : Ok (evBi (.isinst "tuple") [.d (.str x)] S) Q := .eqn (a := .d (.bl false)) (S := S) (by show Out.ok (W.d (.bl (isTy _ "tuple"))) S = _; rw [show isTy (tyD (.str x)) "tuple" = false from (by decide : isTy "str" "tuple" = false)]) q
theorem yn_isi_non_tuple (q : Q (.d (.bl false)) S) : Ok (evBi (.isinst "tuple") [.d (.non)] S) Q := .eqn (a := .d (.bl false)) (S := S) (by show Out.ok (W.d (.bl (isTy _ "tuple"))) S = _; rw [show isTy (tyD (.non)) "tuple" = false from (by decide : isTy "NoneType" "tuple" = false)]) q
theorem yn_isi_non_int (q : Q (.d (.bl false)) S) : Ok (evBi (.isinst "int") [.d (.non)] S) Q := .eqn (a := .d (.bl false)) (S := S) (by show Out.ok (W.d (.bl (isTy _ "int"))) S = _; rw [show isTy (tyD (.non)) "int" = false from (by decide : isTy "NoneType" "int" = false)]) q
theorem bls_map : ∀ bs : List Bool, blsOf ((bs.map D.bl).map W.d) = some bs
  | [] => rfl
  | b :: r => by
    show (blsOf ((r.map D.bl).map W.d)).map (b :: ·) = _
    rw [bls_map r]
    rfl
theorem yn_allL {bs : List Bool} {xs : List D} (e : xs = bs.map D.bl) (q : Q (.d (.bl (bs.all id))) S) : Ok (evBi .all [.d (.lst xs)] S) Q := by
  subst e
  refine .eqn (a := .d (.bl (bs.all id))) (S := S) ?_ q
  have h : (lseq S (.d (.lst (bs.map D.bl)))).bind blsOf = some bs := bls_map bs
  simp only [evBi, evBi1]
  rw [h]
theorem yn_anyL {bs : List Bool} {xs : List D} (e : xs = bs.map D.bl) (q : Q (.d (.bl (bs.any id))) S) : Ok (evBi .any [.d (.lst xs)] S) Q := by
  subst e
  refine .eqn (a := .d (.bl (bs.any id))) (S := S) ?_ q
  have h : (lseq S (.d (.lst (bs.map D.bl)))).bind blsOf = some bs := bls_map bs
  simp only [evBi, evBi1]
  rw [h]
theorem yn_anyT {xs : List D} (h : xs.all flatT = true) (q : Q (.d (.bl (xs.any truD))) S) : Ok (evBi .any [.d (.tup xs)] S) Q := by
  refine .eqn (a := .d (.bl (xs.any truD))) (S := S) ?_ q
  have h1 : (lseq S (.d (.tup xs))).bind blsOf = none := rfl
  have h2 : (seqOf S (.d (.tup xs))).bind pures = some xs := pures_map xs
  simp only [evBi, evBi1]
  rw [h1, h2]
  simp only
  rw [if_pos h]
theorem ints_map : ∀ ns : List Int, intsOf ((ns.map D.int).map W.d) = some ns
  | [] => rfl
  | n :: r => by
    show (intsOf ((r.map D.int).map W.d)).map (n :: ·) = _
    rw [ints_map r]
    rfl
theorem yn_sumL {ns : List Int} {xs : List D} (e : xs = ns.map D.int) (q : Q (.d (.int ns.sum)) S) : Ok (evBi .sum [.d (.lst xs)] S) Q := by
  subst e
  refine .eqn (a := .d (.int ns.sum)) (S := S) ?_ q
  show Out.of (((some ((ns.map D.int).map W.d)).bind intsOf).map fun ns => W.d (.int ns.sum)) S = _
  rw [Option.bind_some, ints_map]
  rfl
theorem yn_max2 {i j : Int} (q : Q (.d (.int (if j > i then j else i))) S) : Ok (evBi .max [.d (.int i), .d (.int j)] S) Q := .now q
theorem yn_min2 {i j : Int} (q : Q (.d (.int (if j < i then j else i))) S) : Ok (evBi .min [.d (.int i), .d (.int j)] S) Q := .now q
theorem yn_repr {x : D} (h : shw x = true) (q : strF x.py.shown = true → Q (.d (.str x.py.shown)) S) : Ok (evBi .repr [.d x] S) Q := .eqn (repr_shw (S := S) h).1 (q (repr_shw (S := S) h).2)
theorem ym_is {n : Nat} {xs : List W} {m : Mt} (hm : mtT m = "list") (hn : S[n]? = some (.lst xs)) : mtIs (mtT m) (.l n) S = true := by
  rw [hm]
  exact mtIs_list (xs := xs) (by simp [lseq, seqOf, hn])
theorem ym_append {n : Nat} {xs : List W} {y : W} (hn : S[n]? = some (.lst xs)) (l : xs.length < lineS) (q : Q (.d .non) (S.set n (.lst (xs ++ [y])))) : Ok (evMt .append (.l n) [y] S) Q := by
  show Ok (mtAppend n y S) Q
  unfold mtAppend
  rw [hn]
  show Ok (if xs.length < lineS then _ else _) Q
  rw [if_pos l]
  exact .now q
theorem ym_extend {n : Nat} {xs : List W} {ys : List D} (hn : S[n]? = some (.lst xs)) (l : xs.length + ys.length ≤ lineS) (q : Q (.d .non) (S.set n (.lst (xs ++ ys.map .d)))) : Ok (evMt .extend (.l n) [.d (.lst ys)] S) Q := by
  show Ok (mtExtend n (.d (.lst ys)) S) Q
  unfold mtExtend
  rw [hn]
  show Ok (if xs.length + ys.length ≤ lineS then _ else _) Q
  rw [if_pos l]
  exact .now q
theorem map_erase : ∀ (ds : List D) (j : Nat), (ds.map W.d).eraseIdx j = (ds.eraseIdx j).map W.d
  | [], _ => rfl
  | _ :: _, 0 => rfl
  | d :: ds, j + 1 => by
    show W.d d :: (ds.map W.d).eraseIdx j = _
    rw [map_erase ds j]
    rfl
theorem ym_remove {n : Nat} {ds : List D} {y : D} {j : Nat} (hn : S[n]? = some (.lst (ds.map .d))) (h1 : sh 59 y = true) (h2 : shs 59 ds = true) (hj : ds.findIdx? (fun d => deq d y) = some j) (q : Q (.d .non) (S.set n (.lst ((ds.eraseIdx j).map .d)))) : Ok (evMt .remove (.l n) [.d y] S) Q := by
  show Ok (mtRemove n (.d y) S) Q
  unfold mtRemove
  rw [hn]
  simp only [pures_map, h1, h2, Bool.and_self, if_true, hj]
  rw [show (ds.map W.d).eraseIdx j = (ds.eraseIdx j).map W.d from map_erase ds j]
  exact .now q
/-! ### what is walked -/
variable {fns : Nat → Fn} {env : Ev} {R : List W × Option Nat → Store → Prop} {a b : E} {es : List E}
theorem yi_seq (h : Ok (ev fns a env S) fun x S => Ok (Out.of (itemsD S x) S) R) : Ok (evI fns (.seq a) env S) R := by rw [evI]; exact .bind h
theorem yi_tup {xs : List D} (q : R (xs.map .d, none) S) : Ok (Out.of (itemsD S (.d (.tup xs))) S) R := .now q
theorem yi_rtp {xs : List D} (q : R (xs.map .d, none) S) : Ok (Out.of (itemsD S (.d (.rtp xs))) S) R := .now q
theorem yi_lst {xs : List D} (q : R (xs.map .d, none) S) : Ok (Out.of (itemsD S (.d (.lst xs))) S) R := .now q
theorem yi_rol {xs : List D} (q : R (xs.map .d, none) S) : Ok (Out.of (itemsD S (.d (.rol xs))) S) R := .now q
theorem yi_l {n : Nat} {xs : List W} (hn : S[n]? = some (.lst xs)) (q : R (xs, some n) S) : Ok (Out.of (itemsD S (.l n)) S) R := by
  refine .of (a := (xs, some n)) ?_ q
  simp [itemsD, hn]
theorem yi_rng (h : Ok (evs fns es env S) fun ws S => Ok (Out.of ((rangeOf ws).map fun xs => (xs, none)) S) R) : Ok (evI fns (.range es) env S) R := by rw [evI]; exact .bind h
theorem yi_rng1 {n : Nat} (hn : n < 1000000) (q : R (rangeL 0 n, none) S) : Ok (Out.of ((rangeOf [.d (.int (n : Int))]).map fun xs => (xs, none)) S) R := by
  refine .of (a := (rangeL 0 n, none)) ?_ q
  rw [rangeOf_1 (range_ok hn)]
  rfl
theorem yi_enum (h : Ok (ev fns a env S) fun x S => Ok (Out.of ((dataT x).map fun xs => (enumW 0 xs, none)) S) R) : Ok (evI fns (.enum a) env S) R := by rw [evI]; exact .bind h
theorem yi_enT {xs : List D} (q : R (enumW 0 xs, none) S) : Ok (Out.of ((dataT (.d (.tup xs))).map fun xs => (enumW 0 xs, none)) S) R := .now q
theorem yi_enRT {xs : List D} (q : R (enumW 0 xs, none) S) : Ok (Out.of ((dataT (.d (.rtp xs))).map fun xs => (enumW 0 xs, none)) S) R := .now q
theorem yi_enL {xs : List D} (q : R (enumW 0 xs, none) S) : Ok (Out.of ((dataT (.d (.lst xs))).map fun xs => (enumW 0 xs, none)) S) R := .now q
theorem yi_rng3 {c : E} (h : Ok (ev fns a env S) fun x S => Ok (ev fns b env S) fun y S => Ok (ev fns c env S) fun z S => Ok (Out.of ((range3L x y z).map fun xs => (xs, none)) S) R) : Ok (evI fns (.range3 a b c) env S) R := by
  rw [evI]
  exact .bind (h.mono fun _ _ h => .bind (h.mono fun _ _ h => .bind h))
theorem yi_rng3s {a b c : Int} (hk : rgOk a b c = true) (q : R (rangeC a c (Builtin.Range.rangeSize a b c).toNat, none) S) : Ok (Out.of ((range3L (.d (.int a)) (.d (.int b)) (.d (.int c))).map fun xs => (xs, none)) S) R := by
  refine .of (a := (rangeC a c (Builtin.Range.rangeSize a b c).toNat, none)) ?_ q
  unfold range3L
  simp only
  rw [if_pos hk]
  rfl
theorem yi_zip (h : Ok (ev fns a env S) fun x S => Ok (ev fns b env S) fun y S => Ok (Out.of ((zipD x y).map fun xs => (xs, none)) S) R) : Ok (evI fns (.zip a b) env S) R := by
  rw [evI]
  exact .bind (h.mono fun _ _ h => .bind h)
theorem yi_items (h : Ok (ev fns a env S) fun x S => Ok (Out.of ((itemsW x).map fun xs => (xs, none)) S) R) : Ok (evI fns (.items a) env S) R := by rw [evI]; exact .bind h
theorem yi_dct {t : Bool} {ks vs : List D} (q : R (zipW ks vs, none) S) : Ok (Out.of ((itemsW (.d (.dct t ks vs))).map fun xs => (xs, none)) S) R := .now q
theorem yi_zipTL {xs ys : List D} (q : R (zipW xs ys, none) S) : Ok (Out.of ((zipD (.d (.tup xs)) (.d (.lst ys))).map fun xs => (xs, none)) S) R := .now q
theorem yi_zipLT {xs ys : List D} (q : R (zipW xs ys, none) S) : Ok (Out.of ((zipD (.d (.lst xs)) (.d (.tup ys))).map fun xs => (xs, none)) S) R := .now q
theorem yi_zipL2 {xs ys : List D} (q : R (zipW xs ys, none) S) : Ok (Out.of ((zipD (.d (.lst xs)) (.d (.lst ys))).map fun xs => (xs, none)) S) R := .now q
theorem yi_enz (h : Ok (ev fns a env S) fun x S => Ok (ev fns b env S) fun y S => Ok (Out.of ((enzD x y).map fun xs => (xs, none)) S) R) : Ok (evI fns (.enz a b) env S) R := by
  rw [evI]
  exact .bind (h.mono fun _ _ h => .bind h)
theorem yi_enzT {xs ys : List D} (q : R (enumW 0 (zipP xs ys), none) S) : Ok (Out.of ((enzD (.d (.tup xs)) (.d (.tup ys))).map fun xs => (xs, none)) S) R := .now q
theorem yi_zipT {xs ys : List D} (q : R (zipW xs ys, none) S) : Ok (Out.of ((zipD (.d (.tup xs)) (.d (.tup ys))).map fun xs => (xs, none)) S) R := .now q
end
end DL
/-! DLz: the drawn numbers that every law begins with. -/
namespace DL
open PySem PySem.Spec PyProof.Rows L2
local macro_rules
  | `(tactic| sizeOf_list_dec) => `(tactic| first
    | with_reducible refine ynx_nx ?_ | with_reducible refine ynx_rt ?_ | with_reducible refine yss_cons ?_ | with_reducible refine yr_const ?_ | with_reducible refine ya_cons ?_ | with_reducible refine ya_nil ?_ | with_reducible refine yr_bin ?_ | with_reducible refine yr_ix ?_ | with_reducible refine yr_call ?_ | with_reducible refine yr_bi ?_ | with_reducible refine yset0 ?_ | with_reducible refine yset1 ?_
    | with_reducible refine yset2 ?_ | with_reducible refine yset3 ?_ | with_reducible refine yset4 ?_ | with_reducible refine yset5 ?_ | with_reducible refine yset6 ?_ | with_reducible refine yset7 ?_ | with_reducible refine yset8 ?_ | with_reducible refine yset9 ?_ | with_reducible refine yset10 ?_ | with_reducible refine yset11 ?_ | with_reducible refine yset12 ?_ | with_reducible refine yset13 ?_
    | with_reducible refine yset14 ?_ | with_reducible refine yset15 ?_ | with_reducible refine yset16 ?_ | with_reducible refine yset17 ?_ | with_reducible refine yset18 ?_ | with_reducible refine yset19 ?_ | with_reducible refine ys_ife ?_ | with_reducible refine yb_cmp ?_ | with_reducible refine yb_val ?_ | with_reducible refine yb_not ?_ | with_reducible refine yb_bop ?_ | with_reducible refine yb_and ?_
    | with_reducible refine yb_or ?_ | with_reducible refine yb_1 ?_ | with_reducible refine yb_chain ?_ | with_reducible refine yb_yes ?_ | with_reducible refine yo_add ?_ | with_reducible refine yo_sub ?_ | with_reducible refine yc_lt ?_ | with_reducible refine yc_le ?_ | with_reducible refine yc_gt ?_ | with_reducible refine yc_ge ?_ | with_reducible refine yc_eqi ?_ | with_reducible refine yc_nei ?_
    | with_reducible refine Br.t ?_ | with_reducible refine Br.f ?_ | with_reducible refine Br.not ?_ | with_reducible refine yr_tup ?_ | with_reducible refine yr_lst ?_ | with_reducible refine yr_neg ?_ | with_reducible refine yr_cmp ?_ | with_reducible refine yr_chain ?_ | with_reducible refine yr_not ?_ | with_reducible refine yr_bop ?_ | with_reducible refine yr_and ?_ | with_reducible refine yr_or ?_
    | with_reducible refine yr_bop1 ?_ | with_reducible refine yr_ifx ?_ | with_reducible refine yr_glob ?_ | with_reducible refine ys_ret ?_ | with_reducible refine ys_expr ?_ | with_reducible refine ys_par ?_ | with_reducible refine ys_retN ?_ | with_reducible refine ys_pass ?_ | with_reducible refine ys_brk ?_ | with_reducible refine ys_set ?_ | with_reducible refine yss_nil ?_ | with_reducible refine ys_for ?_
    | with_reducible refine yfin_rt ?_ | with_reducible refine yfin_nx ?_ | with_reducible refine ywp_nx ?_ | with_reducible refine ylp_nx ?_ | with_reducible refine ylp_rt ?_ | with_reducible refine ylp_bk ?_ | with_reducible refine ynx_bk ?_ | with_reducible refine yc_isb ?_ | with_reducible refine yc_isnb ?_ | with_reducible refine yc_isn_n ?_ | with_reducible refine yc_isn_i ?_ | with_reducible refine yc_isn_t ?_
    | with_reducible refine yc_isnn_n ?_ | with_reducible refine yc_isnn_i ?_ | with_reducible refine yc_isnn_t ?_ | with_reducible refine yt_bl ?_ | with_reducible refine yt_int ?_ | with_reducible refine yt_non ?_ | with_reducible refine yt_tup ?_ | with_reducible refine yt_lst ?_ | with_reducible refine yn_int ?_ | with_reducible refine yn_intB ?_ | with_reducible refine yn_max2 ?_ | with_reducible refine yn_min2 ?_
    | with_reducible refine yn_lenT ?_ | with_reducible refine yn_lenL ?_ | with_reducible refine yn_lenR ?_ | with_reducible refine yn_tupL ?_ | with_reducible refine yn_isi_int_int ?_ | with_reducible refine yn_isi_int_bool ?_ | with_reducible refine yn_isi_bool_int ?_ | with_reducible refine yn_isi_bool_bool ?_ | with_reducible refine yn_isi_tup_tuple ?_ | with_reducible refine yn_isi_int_tuple ?_
    | with_reducible refine yn_isi_str_str ?_ | with_reducible refine yn_isi_int_str ?_ | with_reducible refine yn_isi_str_int ?_ | with_reducible refine yn_isi_tup_int ?_ | with_reducible refine yn_isi_tup_str ?_ | with_reducible refine yn_isi_str_tuple ?_ | with_reducible refine yn_isi_non_tuple ?_ | with_reducible refine yn_isi_non_int ?_ | with_reducible refine yg_add ?_ | with_reducible refine yg_sub ?_
    | with_reducible refine yr_mt ?_ | with_reducible refine yr_comp ?_ | with_reducible refine yr_lrange ?_ | with_reducible refine yr_rep ?_ | with_reducible refine yr_frz ?_ | with_reducible refine yr_slice00 ?_ | with_reducible refine yr_slice10 ?_ | with_reducible refine yr_slice01 ?_ | with_reducible refine yr_slice11 ?_ | with_reducible refine ysl_tup ?_ | with_reducible refine ysl_lst ?_ | with_reducible refine ysl_rol ?_
    | with_reducible refine yi_seq ?_ | with_reducible refine yi_tup ?_ | with_reducible refine yi_lst ?_ | with_reducible refine yi_rol ?_ | with_reducible refine yi_rng ?_ | with_reducible refine yi_enum ?_ | with_reducible refine yi_enT ?_ | with_reducible refine yi_enL ?_ | with_reducible refine yi_rng3 ?_ | with_reducible refine yr_tupS ?_ | with_reducible refine yr_lstS ?_ | with_reducible refine yas_nil ?_
    | with_reducible refine yas_one ?_ | with_reducible refine yas_star ?_ | with_reducible refine ysq_tup ?_ | with_reducible refine ysq_lst ?_ | with_reducible refine yi_zip ?_ | with_reducible refine yi_zipT ?_ | with_reducible refine yi_zipTL ?_ | with_reducible refine yi_zipLT ?_ | with_reducible refine yi_enz ?_ | with_reducible refine yi_enzT ?_ | with_reducible refine ex_int ?_
    | ((with_reducible apply yr_var); rfl) | ((with_reducible apply Br.yes); omega) | ((with_reducible apply Br.nay); omega) | ((with_reducible apply yix_tup); rfl) | ((with_reducible apply yix_lst); rfl) | ((with_reducible apply yix_rol); rfl) | ((with_reducible apply yo_mul); assumption) | ((with_reducible apply yo_mod); (first | assumption | omega))
    | ((with_reducible apply yo_div); (first | assumption | exact divOk_of (by omega) (by omega))) | ((with_reducible apply yo_pow); assumption) | ((with_reducible apply ytp); rfl; rfl) | ((with_reducible apply ynl_f); exact few rfl; rfl) | ((with_reducible apply ynl_t); exact few rfl) | ((with_reducible apply ys_asgT); skip)
    | ((with_reducible apply ex_eq); rfl) | ((with_reducible apply yi_rng1); omega))
/-! ### the pot -/
abbrev P (o s c : Int) : Ob := .lst [.d (.int o), .d (.int s), .d (.int c)]
structure Pot (k : Nat) (o s c : Int) : Prop where
  o0 : 0 ≤ o
  ob : o.natAbs < big
  s0 : 0 ≤ s
  sb : s < 2 ^ 62
  c0 : 0 ≤ c
  cb : c ≤ k
theorem Pot.up {k l : Nat} {o s c : Int} (p : Pot k o s c) (h : k ≤ l) : Pot l o s c := ⟨p.o0, p.ob, p.s0, p.sb, p.c0, by have := p.cb; omega⟩
theorem small_big {i : Int} (h1 : -(2 ^ 190) < i) (h2 : i < 2 ^ 190) : i.natAbs < big := big_lt (by omega)
theorem mul_in {x y : Int} (X Y : Int) (hx0 : 0 ≤ x) (hx : x ≤ X) (hy0 : 0 ≤ y) (hy : y ≤ Y) : 0 ≤ x * y ∧ x * y ≤ X * Y :=
  ⟨Int.mul_nonneg hx0 hy0, Int.mul_le_mul hx hy hy0 (Int.le_trans hx0 hx)⟩
theorem mulOk_s {i j : Int} (h1 : -(2 ^ 190) < i) (h2 : i < 2 ^ 190) (h3 : -(2 ^ 190) < j) (h4 : j < 2 ^ 190) : mulOk i j = true := mulOk_big (small_big h1 h2) (small_big h3 h4)
/-- handed the pot and data, it gives data, after at most n draws -/
def Pf (den : Fn) (us : List D) (n : Nat) (R : D → Prop) : Prop := ∀ (k : Nat) (o s c : Int), Pot k o s c → k + n < 2 ^ 29 →
  Ok (den (.l 0 :: us.map .d) [P o s c]) fun w S' => ∃ y o' c' r, w = .d y ∧ S' = P o' s c' :: r ∧ R y ∧ Pot (k + n) o' s c'
theorem Pf.mono {den : Fn} {us : List D} {n : Nat} {R R' : D → Prop} (h : Pf den us n R) (hr : ∀ y, R y → R' y) : Pf den us n R' := fun k o s c p hk =>
  (h k o s c p hk).mono fun w S' ⟨y, o', c', r, e1, e2, q, p'⟩ => ⟨y, o', c', r, e1, e2, hr y q, p'⟩
theorem pf_reix (us : List D) : ((.l 0 :: us.map W.d : List W).map (reix [0])) = .l 0 :: us.map .d := by
  rw [List.map_cons, List.map_map]
  rfl
theorem pf_locs : ∀ us : List D, locsOf (us.map W.d) = []
  | [] => rfl
  | _ :: us => pf_locs us
theorem Pf.call {f den : Fn} {us vs : List D} {n k : Nat} {R : D → Prop} {o s c : Int} {r : Store} {Q : W → Store → Prop} (h : Pf den us n R) (hf : f (.l 0 :: vs.map .d) [P o s c] = den (.l 0 :: us.map .d) [P o s c]) (p : Pot k o s c) (hk : k + n < 2 ^ 29)
    (q : ∀ y o' c', R y → Pot (k + n) o' s c' → Q (.d y) (P o' s c' :: r)) : Ok (evCall f (.l 0 :: vs.map .d) (P o s c :: r)) Q := by
  obtain ⟨w, S', e, y, o', c', r', rfl, rfl, hR, p'⟩ := h k o s c p hk
  refine .eqn (a := .d y) (S := P o' s c' :: r) ?_ (q y o' c' hR p')
  have hl : locsOf (.l 0 :: vs.map W.d) = [0] := by
    show 0 :: (locsOf (vs.map W.d)).filter (· ≠ 0) = [0]
    rw [pf_locs]
    rfl
  rw [evCall_place (n := 0) (p := P o s c) hl rfl rfl, pf_reix, hf, e, outP_ok _ _ _ _ _ rfl]
  rfl
def takeB (a b m n d : Int) : List Sm := [(.ife (.cmp .Gt (.ix (.var 0) (.const (.int 0))) (.const (.int 0))) [(.asg (.name 2) (.bin .Mod (.bi .int [(.ix (.var 0) (.const (.int 0)))]) (.var 1))), (.set (.var 0) (.const (.int 0)) (.bin .FloorDiv (.ix (.var 0) (.const (.int 0))) (.var 1))), (.ret (.var 2))] []),
  (.set (.var 0) (.const (.int 2)) (.bin .Add (.ix (.var 0) (.const (.int 2))) (.const (.int 1)))), (.asg (.name 3) (.ix (.lst false [(.const (.int 2147483647)), (.const (.int 2147483629)), (.const (.int 2147483587)), (.const (.int 2147483579)), (.const (.int 2147483563))]) (.bin .Mod (.bi .int [(.ix (.var 0) (.const (.int 2)))]) (.const (.int 5))))),
  (.asg (.name 4) (.bin .Mod (.bi .int [(.bin .Pow (.bi .int [(.bin .Add (.bin .Add (.ix (.var 0) (.const (.int 1))) (.bin .Mult (.bin .Mult (.const (.int a)) (.ix (.var 0) (.const (.int 2)))) (.ix (.var 0) (.const (.int 2))))) (.const (.int b)))]) (.const (.int 3)))]) (.var 3))),
  (.asg (.name 4) (.bin .Mod (.bi .int [(.bin .Mult (.var 4) (.bin .Add (.bin .Mod (.bi .int [(.var 4)]) (.const (.int m))) (.bin .Mult (.const (.int n)) (.ix (.var 0) (.const (.int 2))))))]) (.const (.int 2305843009213693907)))), (.ret (.bin .Mod (.bi .int [(.bin .FloorDiv (.var 4) (.const (.int d)))]) (.var 1)))]
theorem draw_primes {n : Nat} (h : n < 5) : ∃ p : Int, at_ ([.int 2147483647, .int 2147483629, .int 2147483587, .int 2147483579, .int 2147483563] : List D) (n : Int) = some (.int p) ∧ 0 < p ∧ p < 2 ^ 31 := by
  match n, h with
  | 0, _ => exact ⟨_, rfl, by decide, by decide⟩
  | 1, _ => exact ⟨_, rfl, by decide, by decide⟩
  | 2, _ => exact ⟨_, rfl, by decide, by decide⟩
  | 3, _ => exact ⟨_, rfl, by decide, by decide⟩
  | 4, _ => exact ⟨_, rfl, by decide, by decide⟩
theorem set_0 {x y z w : W} : setIx (.l 0) (.d (.int 0)) w [.lst [x, y, z]] = some [.lst [w, y, z]] := rfl
theorem set_2 {x y z w : W} : setIx (.l 0) (.d (.int 2)) w [.lst [x, y, z]] = some [.lst [x, y, w]] := rfl
theorem pot_0 {Q : W → Store → Prop} {o s c : Int} {r : Store} (q : Q (.d (.int o)) (P o s c :: r)) : Ok (evIx (.l 0) (.d (.int 0)) (P o s c :: r)) Q := yix_l rfl rfl q
theorem pot_1 {Q : W → Store → Prop} {o s c : Int} {r : Store} (q : Q (.d (.int s)) (P o s c :: r)) : Ok (evIx (.l 0) (.d (.int 1)) (P o s c :: r)) Q := yix_l rfl rfl q
theorem pot_2 {Q : W → Store → Prop} {o s c : Int} {r : Store} (q : Q (.d (.int c)) (P o s c :: r)) : Ok (evIx (.l 0) (.d (.int 2)) (P o s c :: r)) Q := yix_l rfl rfl q
theorem take_any {fns : Nat → Fn} {a b m n d : Int} {u : Nat} (ha : 0 ≤ a) (ha2 : a ≤ 2 ^ 20) (hb : 0 ≤ b) (hb2 : b ≤ 2 ^ 20) (hm : 0 < m) (hm2 : m ≤ 2 ^ 20) (hn : 0 ≤ n) (hn2 : n ≤ 2 ^ 20) (hd : 0 < d) (hd2 : d ≤ 2 ^ 20) (hu : 0 < u) (hu2 : u < 2 ^ 60) :
    Pf (evF fns 5 (takeB a b m n d)) [.int u] 1 (fun y => ∃ r : Nat, r < u ∧ y = .int r) := by
  intro k o s c p hk
  have du : divOk (u : Int) = true := divOk_of (by omega) (by omega)
  have up : (0 : Int) < u := by omega
  have nat : ∀ z : Int, ∃ r : Nat, r < u ∧ D.int (z % (u : Int)) = .int r := fun z => by
    have h1 := Int.emod_nonneg z (show (u : Int) ≠ 0 by omega)
    have h2 := Int.emod_lt_of_pos z up
    exact ⟨(z % u).toNat, by omega, by rw [Int.toNat_of_nonneg h1]⟩
  refine f_run (env := [some (.l 0), some (.d (.int u)), none, none, none]) rfl ?_
  unfold takeB
  by_cases h : 0 < o
  · repeat (first | sizeOf_list_dec | refine pot_0 ?_)
    refine ⟨_, _, _, _, rfl, rfl, nat o, ?_⟩
    have h1 : 0 ≤ o / u := Int.ediv_nonneg p.o0 (by omega)
    have h2 : o / u ≤ o := Int.ediv_le_self _ p.o0
    exact ⟨h1, by have := p.ob; omega, p.s0, p.sb, p.c0, by have := p.cb; omega⟩
  · have c0 := p.c0
    have cb := p.cb
    have s0 := p.s0
    have sb := p.sb
    obtain ⟨a1, a2⟩ := mul_in (x := a) (y := c + 1) (2 ^ 20) (2 ^ 30) ha ha2 (by omega) (by omega)
    obtain ⟨b1, b2⟩ := mul_in (x := a * (c + 1)) (y := c + 1) (2 ^ 20 * 2 ^ 30) (2 ^ 30) a1 a2 (by omega) (by omega)
    obtain ⟨n1, n2⟩ := mul_in (x := n) (y := c + 1) (2 ^ 20) (2 ^ 30) hn hn2 (by omega) (by omega)
    have m1 : mulOk a (c + 1) = true := mulOk_s (by omega) (by omega) (by omega) (by omega)
    have m2 : mulOk (a * (c + 1)) (c + 1) = true := mulOk_s (by omega) (by omega) (by omega) (by omega)
    have m3 : mulOk n (c + 1) = true := mulOk_s (by omega) (by omega) (by omega) (by omega)
    have e1 : powOk (s + a * (c + 1) * (c + 1) + b) 3 = true := powOk_big (small_big (by omega) (by omega)) (by decide) (by decide)
    obtain ⟨j, hj⟩ : ∃ j : Nat, (c + 1) % 5 = (j : Int) := ⟨((c + 1) % 5).toNat, by omega⟩
    obtain ⟨q, hq, hq0, hq1⟩ := draw_primes (n := j) (by omega)
    rw [← hj] at hq
    have dd : divOk d = true := divOk_of hd (by omega)
    repeat (first | sizeOf_list_dec | refine pot_0 ?_ | refine pot_1 ?_ | refine pot_2 ?_ | refine yix_lst hq ?_)
    obtain ⟨z, hz⟩ : ∃ z, (s + a * (c + 1) * (c + 1) + b) ^ (3 : Int).toNat = z := ⟨_, rfl⟩
    rw [hz]
    have z0 : 0 ≤ z % q := Int.emod_nonneg _ (by omega)
    have z1 : z % q < q := Int.emod_lt_of_pos _ hq0
    have w0 : 0 ≤ z % q % m := Int.emod_nonneg _ (by omega)
    have w1 : z % q % m < m := Int.emod_lt_of_pos _ hm
    have m4 : mulOk (z % q) (z % q % m + n * (c + 1)) = true := mulOk_s (by omega) (by omega) (by omega) (by omega)
    repeat (first | sizeOf_list_dec | refine pot_1 ?_ | refine pot_2 ?_)
    exact ⟨_, _, _, _, rfl, rfl, nat _, ⟨p.o0, p.ob, p.s0, p.sb, by omega, by omega⟩⟩
def ofB : List Sm := [(.ret (.ix (.var 1) (.call 0 [(.var 0), (.bi .len [(.var 1)])])))]
theorem of_any {fns : Nat → Fn} {den : Fn} (hf : ∀ (u : Nat) (o s c : Int), fns 0 [.l 0, .d (.int u)] [P o s c] = den [.l 0, .d (.int u)] [P o s c]) (ht : ∀ u : Nat, 0 < u → u < 2 ^ 60 → Pf den [.int u] 1 (fun y => ∃ r : Nat, r < u ∧ y = .int r)) {ds : List D} (h0 : ds ≠ []) (h1 : ds.length < 2 ^ 59) :
    Pf (evF fns 2 ofB) [.lst ds] 1 (fun y => y ∈ ds) := by
  intro k o s c p hk
  have hl : 0 < ds.length := List.length_pos_iff.mpr h0
  refine f_run (env := [some (.l 0), some (.d (.lst ds))]) rfl ?_
  unfold ofB
  repeat sizeOf_list_dec
  refine Pf.call (vs := [.int ds.length]) (ht ds.length hl (by omega)) (hf _ _ _ _) p hk ?_
  rintro y o' c' ⟨r, hr, rfl⟩ p'
  refine yix_lst (d := ds[r]) (List.getElem?_eq_getElem hr) ?_
  repeat sizeOf_list_dec
  exact ⟨_, _, _, _, rfl, rfl, List.getElem_mem hr, p'⟩
/-- the same of a tuple -/
theorem of_anyT {fns : Nat → Fn} {den : Fn} (hf : ∀ (u : Nat) (o s c : Int), fns 0 [.l 0, .d (.int u)] [P o s c] = den [.l 0, .d (.int u)] [P o s c]) (ht : ∀ u : Nat, 0 < u → u < 2 ^ 60 → Pf den [.int u] 1 (fun y => ∃ r : Nat, r < u ∧ y = .int r)) {ds : List D} (h0 : ds ≠ []) (h1 : ds.length < 2 ^ 59) :
    Pf (evF fns 2 ofB) [.tup ds] 1 (fun y => y ∈ ds) := by
  intro k o s c p hk
  have hl : 0 < ds.length := List.length_pos_iff.mpr h0
  refine f_run (env := [some (.l 0), some (.d (.tup ds))]) rfl ?_
  unfold ofB
  repeat sizeOf_list_dec
  refine Pf.call (vs := [.int ds.length]) (ht ds.length hl (by omega)) (hf _ _ _ _) p hk ?_
  rintro y o' c' ⟨r, hr, rfl⟩ p'
  refine yix_tup (d := ds[r]) (List.getElem?_eq_getElem hr) ?_
  repeat sizeOf_list_dec
  exact ⟨_, _, _, _, rfl, rfl, List.getElem_mem hr, p'⟩
end DL
/-! DLz2: a cell's pot, the cells, the law over the cells. -/
namespace DL
open PySem PySem.Spec PyProof.Rows L2
local macro_rules
  | `(tactic| sizeOf_list_dec) => `(tactic| first
    | with_reducible refine ynx_nx ?_ | with_reducible refine ynx_rt ?_ | with_reducible refine yss_cons ?_ | with_reducible refine yr_const ?_ | with_reducible refine ya_cons ?_ | with_reducible refine ya_nil ?_ | with_reducible refine yr_bin ?_ | with_reducible refine yr_ix ?_ | with_reducible refine yr_call ?_ | with_reducible refine yr_bi ?_ | with_reducible refine yset0 ?_ | with_reducible refine yset1 ?_
    | with_reducible refine yset2 ?_ | with_reducible refine yset3 ?_ | with_reducible refine yset4 ?_ | with_reducible refine yset5 ?_ | with_reducible refine yset6 ?_ | with_reducible refine yset7 ?_ | with_reducible refine yset8 ?_ | with_reducible refine yset9 ?_ | with_reducible refine yset10 ?_ | with_reducible refine yset11 ?_ | with_reducible refine yset12 ?_ | with_reducible refine yset13 ?_
    | with_reducible refine yset14 ?_ | with_reducible refine yset15 ?_ | with_reducible refine yset16 ?_ | with_reducible refine yset17 ?_ | with_reducible refine yset18 ?_ | with_reducible refine yset19 ?_ | with_reducible refine ys_ife ?_ | with_reducible refine yb_cmp ?_ | with_reducible refine yb_val ?_ | with_reducible refine yb_not ?_ | with_reducible refine yb_bop ?_ | with_reducible refine yb_and ?_
    | with_reducible refine yb_or ?_ | with_reducible refine yb_1 ?_ | with_reducible refine yb_chain ?_ | with_reducible refine yb_yes ?_ | with_reducible refine yo_add ?_ | with_reducible refine yo_sub ?_ | with_reducible refine yc_lt ?_ | with_reducible refine yc_le ?_ | with_reducible refine yc_gt ?_ | with_reducible refine yc_ge ?_ | with_reducible refine yc_eqi ?_ | with_reducible refine yc_nei ?_
    | with_reducible refine Br.t ?_ | with_reducible refine Br.f ?_ | with_reducible refine Br.not ?_ | with_reducible refine yr_tup ?_ | with_reducible refine yr_lst ?_ | with_reducible refine yr_neg ?_ | with_reducible refine yr_cmp ?_ | with_reducible refine yr_chain ?_ | with_reducible refine yr_not ?_ | with_reducible refine yr_bop ?_ | with_reducible refine yr_and ?_ | with_reducible refine yr_or ?_
    | with_reducible refine yr_bop1 ?_ | with_reducible refine yr_ifx ?_ | with_reducible refine yr_glob ?_ | with_reducible refine ys_ret ?_ | with_reducible refine ys_expr ?_ | with_reducible refine ys_par ?_ | with_reducible refine ys_retN ?_ | with_reducible refine ys_pass ?_ | with_reducible refine ys_brk ?_ | with_reducible refine ys_set ?_ | with_reducible refine yss_nil ?_ | with_reducible refine ys_for ?_
    | with_reducible refine yfin_rt ?_ | with_reducible refine yfin_nx ?_ | with_reducible refine ywp_nx ?_ | with_reducible refine ylp_nx ?_ | with_reducible refine ylp_rt ?_ | with_reducible refine ylp_bk ?_ | with_reducible refine ynx_bk ?_ | with_reducible refine yc_isb ?_ | with_reducible refine yc_isnb ?_ | with_reducible refine yc_isn_n ?_ | with_reducible refine yc_isn_i ?_ | with_reducible refine yc_isn_t ?_
    | with_reducible refine yc_isnn_n ?_ | with_reducible refine yc_isnn_i ?_ | with_reducible refine yc_isnn_t ?_ | with_reducible refine yt_bl ?_ | with_reducible refine yt_int ?_ | with_reducible refine yt_non ?_ | with_reducible refine yt_tup ?_ | with_reducible refine yt_lst ?_ | with_reducible refine yn_int ?_ | with_reducible refine yn_intB ?_ | with_reducible refine yn_max2 ?_ | with_reducible refine yn_min2 ?_
    | with_reducible refine yn_lenT ?_ | with_reducible refine yn_lenL ?_ | with_reducible refine yn_lenR ?_ | with_reducible refine yn_tupL ?_ | with_reducible refine yn_isi_int_int ?_ | with_reducible refine yn_isi_int_bool ?_ | with_reducible refine yn_isi_bool_int ?_ | with_reducible refine yn_isi_bool_bool ?_ | with_reducible refine yn_isi_tup_tuple ?_ | with_reducible refine yn_isi_int_tuple ?_
    | with_reducible refine yn_isi_str_str ?_ | with_reducible refine yn_isi_int_str ?_ | with_reducible refine yn_isi_str_int ?_ | with_reducible refine yn_isi_tup_int ?_ | with_reducible refine yn_isi_tup_str ?_ | with_reducible refine yn_isi_str_tuple ?_ | with_reducible refine yn_isi_non_tuple ?_ | with_reducible refine yn_isi_non_int ?_ | with_reducible refine yg_add ?_ | with_reducible refine yg_sub ?_
    | with_reducible refine yr_mt ?_ | with_reducible refine yr_comp ?_ | with_reducible refine yr_lrange ?_ | with_reducible refine yr_rep ?_ | with_reducible refine yr_frz ?_ | with_reducible refine yr_slice00 ?_ | with_reducible refine yr_slice10 ?_ | with_reducible refine yr_slice01 ?_ | with_reducible refine yr_slice11 ?_ | with_reducible refine ysl_tup ?_ | with_reducible refine ysl_lst ?_ | with_reducible refine ysl_rol ?_
    | with_reducible refine yi_seq ?_ | with_reducible refine yi_tup ?_ | with_reducible refine yi_lst ?_ | with_reducible refine yi_rol ?_ | with_reducible refine yi_rng ?_ | with_reducible refine yi_enum ?_ | with_reducible refine yi_enT ?_ | with_reducible refine yi_enL ?_ | with_reducible refine yi_rng3 ?_ | with_reducible refine yr_tupS ?_ | with_reducible refine yr_lstS ?_ | with_reducible refine yas_nil ?_
    | with_reducible refine yas_one ?_ | with_reducible refine yas_star ?_ | with_reducible refine ysq_tup ?_ | with_reducible refine ysq_lst ?_ | with_reducible refine yi_zip ?_ | with_reducible refine yi_zipT ?_ | with_reducible refine yi_zipTL ?_ | with_reducible refine yi_zipLT ?_ | with_reducible refine yi_enz ?_ | with_reducible refine yi_enzT ?_ | with_reducible refine ex_int ?_
    | ((with_reducible apply yr_var); rfl) | ((with_reducible apply Br.yes); omega) | ((with_reducible apply Br.nay); omega) | ((with_reducible apply yix_tup); rfl) | ((with_reducible apply yix_lst); rfl) | ((with_reducible apply yix_rol); rfl) | ((with_reducible apply yo_mul); assumption) | ((with_reducible apply yo_mod); (first | assumption | omega))
    | ((with_reducible apply yo_div); (first | assumption | exact divOk_of (by omega) (by omega))) | ((with_reducible apply yo_pow); assumption) | ((with_reducible apply ytp); rfl; rfl) | ((with_reducible apply ynl_f); exact few rfl; rfl) | ((with_reducible apply ynl_t); exact few rfl) | ((with_reducible apply ys_asgT); skip)
    | ((with_reducible apply ex_eq); rfl) | ((with_reducible apply yi_rng1); omega))
def potB (c1 c2 c3 c4 c5 : Int) : List Sm := [(.asg (.name 2) (.ifx (.cmp .Lt (.var 1) (.bi .len [(.var 0)])) (.ix (.var 0) (.var 1)) (.bin .Add (.bin .Add (.bin .Mod (.bi .sum [(.slice (.var 0) (.const .non) (.const (.int 1)) false true)]) (.const (.int 1000003))) (.bin .Mult (.const (.int c1)) (.var 1))) (.const (.int c2))))),
  (.asg (.name 3) (.bin .Mult (.bin .Mod (.bi .int [(.bi .abs [(.var 2)])]) (.bin .Pow (.bin .Pow (.const (.int 10)) (.const (.int 60))) (.const (.int 5)))) (.bi .int [(.cmp .GtE (.bi .abs [(.var 2)]) (.bin .Pow (.const (.int 10)) (.const (.int 18))))]))),
  (.asg (.name 4) (.bin .Mod (.bi .int [(.var 2)]) (.const (.int 2305843009213693951)))),
  (.ret (.lst true [(.var 3), (.bin .Mod (.bi .int [(.bin .Add (.bin .Add (.bin .Mult (.var 4) (.const (.int c3))) (.bin .Mult (.bin .Mult (.const (.int c4)) (.var 1)) (.var 1))) (.const (.int c5)))]) (.const (.int 2305843009213693921))), (.const (.int 0))]))]
def N300 : Int := 10 ^ 300
theorem N_pos : 0 < N300 := by decide +kernel
theorem N_big : N300.natAbs < big := Nat.lt_of_lt_of_le (show N300.natAbs < 2 ^ 1000 by decide +kernel) (Nat.pow_le_pow_right (by decide) (by decide))
theorem N_eq : ((10 : Int) ^ 60) ^ 5 = N300 := by decide +kernel
theorem pow_18 {Q : W → Store → Prop} {S : Store} (q : Q (.d (.int 1000000000000000000)) S) : Ok (evOp .Pow (.d (.int 10)) (.d (.int 18)) S) Q :=
  yo_pow (powOk_big (small_big (by decide) (by decide)) (by decide) (by decide)) q
theorem pow_60 {Q : W → Store → Prop} {S : Store} (q : Q (.d (.int (10 ^ 60))) S) : Ok (evOp .Pow (.d (.int 10)) (.d (.int 60)) S) Q :=
  yo_pow (powOk_big (small_big (by decide) (by decide)) (by decide) (by decide)) q
theorem pow_300 {Q : W → Store → Prop} {S : Store} (q : Q (.d (.int N300)) S) : Ok (evOp .Pow (.d (.int (10 ^ 60))) (.d (.int 5)) S) Q := by
  refine yo_pow (powOk_big (big_lt (by decide)) (by decide) (by decide)) ?_
  show Q (.d (.int (((10 : Int) ^ 60) ^ 5))) S
  rw [N_eq]
  exact q
theorem n_abs {Q : W → Store → Prop} {S : Store} {i : Int} (q : Q (.d (.int (if i < 0 then -i else i))) S) : Ok (evBi .abs [.d (.int i)] S) Q := .now q
def cellV (c2 : Int) (ns : List Int) (i : Nat) : Int := if h : i < ns.length then ns[i] else c2
theorem cell_ok {fns : Nat → Fn} {c1 c2 : Int} {ns : List Int} {i : Nat} {a b c : Option W} {S : Store} {Q : W → Store → Prop} (hi : i < ns.length ∨ (ns = [] ∧ i = 0)) (hc : 0 ≤ c1 ∧ c1 ≤ 2 ^ 20) (q : Q (.d (.int (cellV c2 ns i))) S) :
    Ok (ev fns (.ifx (.cmp .Lt (.var 1) (.bi .len [(.var 0)])) (.ix (.var 0) (.var 1)) (.bin .Add (.bin .Add (.bin .Mod (.bi .sum [(.slice (.var 0) (.const .non) (.const (.int 1)) false true)]) (.const (.int 1000003))) (.bin .Mult (.const (.int c1)) (.var 1))) (.const (.int c2)))) [some (.d (.rol (ns.map .int))), some (.d (.int i)), a, b, c] S) Q := by
  rcases hi with h | ⟨rfl, rfl⟩
  · have hl : (ns.map D.int).length = ns.length := List.length_map ..
    repeat sizeOf_list_dec
    refine yix_rol (d := .int ns[i]) ?_ ?_
    · rw [at_nat, List.getElem?_map, List.getElem?_eq_getElem h]
      rfl
    · unfold cellV at q
      rw [dif_pos h] at q
      exact q
  · have hl0 : (([] : List Int).map D.int).length = 0 := rfl
    have m0 : mulOk c1 ((0 : Nat) : Int) = true := mulOk_s (by omega) (by omega) (by decide) (by decide)
    repeat sizeOf_list_dec
    refine yn_sumL (ns := []) rfl ?_
    repeat sizeOf_list_dec
    have e : ([] : List Int).sum % 1000003 + c1 * ((0 : Nat) : Int) + c2 = cellV c2 [] 0 := by
      show (0 : Int) % 1000003 + c1 * 0 + c2 = c2
      rw [Int.mul_zero]
      simp
    rw [e]
    exact q
theorem pot_any {fns : Nat → Fn} {c1 c2 c3 c4 c5 : Int} {ns : List Int} {i : Nat} (hi : i < ns.length ∨ (ns = [] ∧ i = 0)) (h2 : i ≤ 63) (hc1 : 0 ≤ c1 ∧ c1 ≤ 2 ^ 20) (hc3 : 0 ≤ c3 ∧ c3 ≤ 2 ^ 20) (hc4 : 0 ≤ c4 ∧ c4 ≤ 2 ^ 20) :
    ∃ o s, evF fns 5 (potB c1 c2 c3 c4 c5) [.d (.rol (ns.map .int)), .d (.int i)] [] = .ok (.l 0) [P o s 0] ∧ Pot 0 o s 0 := by
  have hN := N_pos
  have hB := N_big
  have main : Ok (evF fns 5 (potB c1 c2 c3 c4 c5) [.d (.rol (ns.map .int)), .d (.int i)] []) fun w S => ∃ o s, w = .l 0 ∧ S = [P o s 0] ∧ Pot 0 o s 0 := by
    refine f_run (env := [some (.d (.rol (ns.map .int))), some (.d (.int i)), none, none, none]) rfl ?_
    unfold potB
    refine yss_cons (yset2 (cell_ok hi hc1 ?_))
    obtain ⟨v, hv⟩ : ∃ v, cellV c2 ns i = v := ⟨_, rfl⟩
    rw [hv]
    obtain ⟨A, hA⟩ : ∃ A, (if v < 0 then -v else v) = A := ⟨_, rfl⟩
    have a1 : 0 ≤ A % N300 := Int.emod_nonneg _ (by omega)
    have a2 : A % N300 < N300 := Int.emod_lt_of_pos _ hN
    have t1 : ∀ b : Bool, mulOk (A % N300) (if b = true then 1 else 0) = true := fun b => mulOk_big (by omega) (by cases b <;> exact small_big (by decide) (by decide))
    have r1 : 0 ≤ v % 2305843009213693951 := Int.emod_nonneg _ (by decide)
    have r2 : v % 2305843009213693951 < 2305843009213693951 := Int.emod_lt_of_pos _ (by decide)
    obtain ⟨z, hz⟩ : ∃ z, v % 2305843009213693951 = z := ⟨_, rfl⟩
    have m3 : mulOk z c3 = true := mulOk_s (by omega) (by omega) (by omega) (by omega)
    obtain ⟨w1, w2⟩ := mul_in (x := c4) (y := (i : Int)) (2 ^ 20) 63 hc4.1 hc4.2 (by omega) (by omega)
    have m4 : mulOk c4 (i : Int) = true := mulOk_s (by omega) (by omega) (by omega) (by omega)
    have m5 : mulOk (c4 * (i : Int)) (i : Int) = true := mulOk_s (by omega) (by omega) (by omega) (by omega)
    repeat (first | sizeOf_list_dec | refine n_abs ?_ | refine pow_60 ?_ | refine pow_300 ?_ | refine pow_18 ?_ | rw [hA] | refine yo_mul (t1 _) ?_ | rw [hz])
    refine ⟨_, _, rfl, rfl, ?_⟩
    have s1 : 0 ≤ (z * c3 + c4 * i * i + c5) % 2305843009213693921 := Int.emod_nonneg _ (by decide)
    have s2 : (z * c3 + c4 * i * i + c5) % 2305843009213693921 < 2305843009213693921 := Int.emod_lt_of_pos _ (by decide)
    refine ⟨?_, ?_, s1, by omega, by decide, by decide⟩
    · refine Int.mul_nonneg a1 ?_
      split <;> decide
    · split
      · rw [Int.mul_one]; omega
      · rw [Int.mul_zero]; omega
  obtain ⟨w, S, e, o, s, rfl, rfl, p⟩ := main
  exact ⟨o, s, e, p⟩
/-! ### the cells -/
def cellsB : List Sm := [(.ret (.lrange false [(.bi .max [(.const (.int 1)), (.bi .min [(.var 1), (.bi .len [(.var 0)])])])]))]
def cn (m l : Nat) : Nat := max 1 (min m l)
def numsTo (n : Nat) : List D := (List.range n).map fun (i : Nat) => D.int (i : Int)
theorem nums_pure (n : Nat) : pures (rangeL 0 (n : Int)) = some (numsTo n) := by
  rw [rangeL_nat]
  have := pures_map (numsTo n)
  unfold numsTo at *
  rw [List.map_map] at this
  exact this
theorem cells_any {fns : Nat → Fn} {m : Nat} (hm : m ≤ 63) (ns : List Int) : evF fns 2 cellsB [.d (.rol (ns.map .int)), .d (.int m)] [] = .ok (.d (.lst (numsTo (cn m ns.length)))) [] := by
  have main : Ok (evF fns 2 cellsB [.d (.rol (ns.map .int)), .d (.int m)] []) fun w S => w = .d (.lst (numsTo (cn m ns.length))) ∧ S = [] := by
    refine f_run (env := [some (.d (.rol (ns.map .int))), some (.d (.int m))]) rfl ?_
    unfold cellsB
    have hl : (ns.map D.int).length = ns.length := List.length_map ..
    repeat sizeOf_list_dec
    have e : (if (if ((ns.map D.int).length : Int) < (m : Int) then ((ns.map D.int).length : Int) else (m : Int)) > 1 then (if ((ns.map D.int).length : Int) < (m : Int) then ((ns.map D.int).length : Int) else (m : Int)) else 1) = ((cn m ns.length : Nat) : Int) := by
      rw [hl]
      unfold cn
      repeat' split
      all_goals omega
    rw [e]
    have hn : cn m ns.length ≤ 63 := by unfold cn; omega
    refine .of (rangeOf_1 (range_ok (by omega))) ?_
    refine ynl_f ?_ (nums_pure _) ?_
    · rw [rangeL_nat, List.length_map, List.length_range]
      unfold lineS
      omega
    · exact ⟨rfl, rfl⟩
  obtain ⟨w, S, e, rfl, rfl⟩ := main
  exact e
theorem cn_in {m : Nat} {ns : List Int} {i : Nat} (hm : m ≤ 63) (h : i < cn m ns.length) : (i < ns.length ∨ (ns = [] ∧ i = 0)) ∧ i ≤ 63 := by
  unfold cn at h
  refine ⟨?_, by omega⟩
  cases ns with
  | nil => exact .inr ⟨rfl, by simp at h; omega⟩
  | cons a r =>
    left
    rw [List.length_cons] at *
    omega
/-! ### the law -/
theorem reps_pure (n : Nat) : pures (List.replicate n (W.d (.bl true))) = some (List.replicate n (.bl true)) := by
  have := pures_map (List.replicate n (.bl true))
  rwa [List.map_replicate] at this
theorem reps_all (n : Nat) : (List.replicate n true).all id = true := by
  rw [List.all_eq_true]
  intro b hb
  exact (List.mem_replicate.mp hb).2
/-- each turn gives True -/
theorem l_comp_all {f : W → Store → Out (Option W)} {xs : List W} {S : Store} {Q : List W → Store → Prop} (h : ∀ x ∈ xs, ∀ S, Ok (f x S) fun r _ => r = some (.d (.bl true))) (hq : ∀ S, Q (List.replicate xs.length (.d (.bl true))) S) : Ok (compL (keeps none xs) f xs S) Q := by
  refine yl_comp (fun i ys _ => ys = List.replicate i (.d (.bl true))) rfl (fun _ _ _ _ => rfl) (fun i x ys S hx hp => ?_) (fun ys S hp => by rw [hp]; exact hq S)
  refine (h x (List.mem_of_getElem? hx) S).mono fun r S' e => ?_
  rw [e, hp, List.replicate_succ']
  rfl
def eT : DL.E := (.call 1 [(.call 2 [(.var 0), (.var 1)])])
def lawB (m : Int) : List Sm := [(.ret (.bi .all [(.comp false eT (.name 1) (.seq (.call 0 [(.var 0), (.const (.int m))])) .yes [1])]))]
theorem law_any {fns : Nat → Fn} {c1 c2 c3 c4 c5 : Int} {m n : Nat} {g0 g2 : Nat → Fn} {right : Fn} (ns : List Int) (hm : m ≤ 63) (hn : n < 2 ^ 29) (hc1 : 0 ≤ c1 ∧ c1 ≤ 2 ^ 20) (hc3 : 0 ≤ c3 ∧ c3 ≤ 2 ^ 20) (hc4 : 0 ≤ c4 ∧ c4 ≤ 2 ^ 20)
    (f0 : ∀ (x y : D), fns 0 [.d x, .d y] [] = evF g0 2 cellsB [.d x, .d y] []) (f2 : ∀ (x y : D), fns 2 [.d x, .d y] [] = evF g2 5 (potB c1 c2 c3 c4 c5) [.d x, .d y] []) (f1 : ∀ o s c, fns 1 [.l 0] [P o s c] = right [.l 0] [P o s c])
    (hr : Pf right [] n (fun y => y = .bl true)) : ∃ S, evF fns 2 (lawB m) [.d (.rol (ns.map .int))] [] = .ok (.d (.bl true)) S := by
  have hk : cn m ns.length ≤ 63 := by unfold cn; omega
  have main : Ok (evF fns 2 (lawB m) [.d (.rol (ns.map .int))] []) fun w _ => w = .d (.bl true) := by
    refine f_run (env := [some (.d (.rol (ns.map .int))), none]) rfl ?_
    unfold lawB
    repeat sizeOf_list_dec
    refine yk_d (xs := [.rol (ns.map .int), .int m]) rfl (f0 _ _) (zs := [.rol (ns.map .int), .int m]) rfl ⟨_, cells_any hm ns⟩ ?_
    repeat sizeOf_list_dec
    have hl : ((numsTo (cn m ns.length)).map W.d).length = cn m ns.length := by simp [numsTo]
    refine ⟨by rw [hl]; unfold lineS; omega, ?_⟩
    refine l_comp_all ?_ ?_
    · intro x hx S
      obtain ⟨d, hd, rfl⟩ := List.mem_map.mp hx
      obtain ⟨i, hi, rfl⟩ := List.mem_map.mp hd
      obtain ⟨h1, h2⟩ := cn_in hm (List.mem_range.mp hi)
      obtain ⟨o, s, e, p⟩ := pot_any (fns := g2) (c2 := c2) (c5 := c5) h1 h2 hc1 hc3 hc4
      refine yr_turn (env1 := [some (.d (.rol (ns.map .int))), some (.d (.int i))]) rfl ?_
      unfold eT
      repeat sizeOf_list_dec
      refine .eqn (a := .l S.length) (S := S ++ [P o s 0]) ?_ ?_
      · rw [evCall_d2, f2, e]
        rfl
      repeat sizeOf_list_dec
      obtain ⟨w, S', e2, y, o', c', r, rfl, rfl, rfl, p'⟩ := hr 0 o s 0 p (by omega)
      refine .eqn (a := .d (.bl true)) (S := (S ++ [P o s 0]).set S.length (P o' s c')) ?_ rfl
      rw [evCall_place (n := S.length) (p := P o s 0) rfl (by simp) rfl]
      show outP _ _ (fns 1 [reix [S.length] (.l S.length)] _) = _
      rw [show reix [S.length] (.l S.length) = .l 0 by simp [reix], f1, show right [.l 0] [P o s 0] = .ok (.d (.bl true)) (P o' s c' :: r) from e2, outP_ok _ _ _ _ _ rfl]
    · intro S
      rw [hl]
      refine ynl_f (by rw [List.length_replicate]; unfold lineS; omega) (reps_pure _) ?_
      repeat sizeOf_list_dec
      refine yn_allL (bs := List.replicate (cn m ns.length) true) (by rw [List.map_replicate]) ?_
      repeat sizeOf_list_dec
      rw [reps_all]
  obtain ⟨w, S, e, rfl⟩ := main
  exact ⟨S, e⟩
end DL
/-! DLv: comprehensions that change nothing, over embedded lists. -/
namespace DL
open PySem PySem.Spec PyProof.Rows L2
section
variable {α β : Type} {f : W → Store → Out (Option W)} {S : Store} {Q : W → Store → Prop}
theorem pures_mapE (g : α → D) (xs : List α) : pures (xs.map fun a => W.d (g a)) = some (xs.map g) := by
  have := pures_map (xs.map g)
  rwa [List.map_map] at this
/-- an item that is given, nothing changed -/
abbrev Gives (f : W → Store → Out (Option W)) (S : Store) (x y : D) : Prop := Ok (f (.d x) S) fun r S' => r = some (.d y) ∧ S' = S
theorem yc_mapE (emb g : α → D) {xs : List α} (l : xs.length < lineS) (h : ∀ a ∈ xs, Gives f S (emb a) (g a)) (q : Q (.d (.lst (xs.map g))) S) :
    ((xs.map emb).map W.d).length < lineS ∧ Ok (compL (keeps none ((xs.map emb).map W.d)) f ((xs.map emb).map W.d) S) fun ys S => Ok (newL false ys S) Q := by
  refine ⟨by rw [List.length_map, List.length_map]; exact l, ?_⟩
  refine yl_comp (fun i ys S' => S' = S ∧ ys = (xs.take i).map fun a => W.d (g a)) ⟨rfl, rfl⟩ (fun _ _ _ _ => rfl) (fun i x ys S' hx hp => ?_) fun ys S' hp => ?_
  · obtain ⟨rfl, rfl⟩ := hp
    rw [List.getElem?_map, List.getElem?_map] at hx
    obtain ⟨d, hd, rfl⟩ := map_of hx
    obtain ⟨a, ha, rfl⟩ := map_of hd
    refine (h a (List.mem_of_getElem? ha)).mono fun r S2 hr => ?_
    obtain ⟨rfl, rfl⟩ := hr
    refine ⟨rfl, ?_⟩
    rw [List.take_add_one, ha]
    simp
  · obtain ⟨rfl, rfl⟩ := hp
    have e : xs.take ((xs.map emb).map W.d).length = xs := by rw [List.length_map, List.length_map, List.take_length]
    rw [e]
    exact ynl_f (by rw [List.length_map]; exact Nat.le_of_lt l) (pures_mapE g xs) q
/-- the same with a test -/
theorem yc_filE (emb g : α → D) (k : α → Bool) {xs : List α} (l : xs.length < lineS) (h : ∀ a ∈ xs, Ok (f (.d (emb a)) S) fun r S' => r = (if k a = true then some (.d (g a)) else none) ∧ S' = S) (q : Q (.d (.lst ((xs.filter k).map g))) S) :
    ((xs.map emb).map W.d).length < lineS ∧ Ok (compL (keeps none ((xs.map emb).map W.d)) f ((xs.map emb).map W.d) S) fun ys S => Ok (newL false ys S) Q := by
  refine ⟨by rw [List.length_map, List.length_map]; exact l, ?_⟩
  refine yl_comp (fun i ys S' => S' = S ∧ ys = ((xs.take i).filter k).map fun a => W.d (g a)) ⟨rfl, rfl⟩ (fun _ _ _ _ => rfl) (fun i x ys S' hx hp => ?_) fun ys S' hp => ?_
  · obtain ⟨rfl, rfl⟩ := hp
    rw [List.getElem?_map, List.getElem?_map] at hx
    obtain ⟨d, hd, rfl⟩ := map_of hx
    obtain ⟨a, ha, rfl⟩ := map_of hd
    refine (h a (List.mem_of_getElem? ha)).mono fun r S2 hr => ?_
    obtain ⟨rfl, rfl⟩ := hr
    refine ⟨rfl, ?_⟩
    rw [List.take_add_one, ha]
    cases e : k a <;> simp [e]
  · obtain ⟨rfl, rfl⟩ := hp
    have e : xs.take ((xs.map emb).map W.d).length = xs := by rw [List.length_map, List.length_map, List.take_length]
    rw [e]
    exact ynl_f (by rw [List.length_map]; exact Nat.le_trans (List.length_filter_le _ _) (Nat.le_of_lt l)) (pures_mapE g _) q
theorem zipW_emb (ea : α → D) (eb : β → D) : ∀ (xs : List α) (ys : List β), zipW (xs.map ea) (ys.map eb) = ((xs.zip ys).map fun p => D.tup [ea p.1, eb p.2]).map W.d
  | [], _ => rfl
  | _ :: _, [] => rfl
  | x :: xs, y :: ys => by
    show _ :: zipW (xs.map ea) (ys.map eb) = _
    rw [zipW_emb ea eb xs ys]
    rfl
theorem yc_zipE (ea : α → D) (eb : β → D) (g : α → β → D) {xs : List α} {ys : List β} (l : xs.length < lineS) (h : ∀ p ∈ xs.zip ys, Gives f S (.tup [ea p.1, eb p.2]) (g p.1 p.2)) (q : Q (.d (.lst ((xs.zip ys).map fun p => g p.1 p.2))) S) :
    (zipW (xs.map ea) (ys.map eb)).length < lineS ∧ Ok (compL (keeps none (zipW (xs.map ea) (ys.map eb))) f (zipW (xs.map ea) (ys.map eb)) S) fun ys S => Ok (newL false ys S) Q := by
  rw [zipW_emb]
  exact yc_mapE (α := α × β) (fun p => D.tup [ea p.1, eb p.2]) (fun p => g p.1 p.2) (by rw [List.length_zip]; omega) h q
theorem yc_rangeE {n : Nat} (g : Nat → D) (l : n < lineS) (h : ∀ i, i < n → Gives f S (.int i) (g i)) (q : Q (.d (.lst ((List.range n).map g))) S) :
    (rangeL 0 (n : Int)).length < lineS ∧ Ok (compL (keeps none (rangeL 0 (n : Int))) f (rangeL 0 (n : Int)) S) fun ys S => Ok (newL false ys S) Q := by
  have e : rangeL 0 (n : Int) = ((List.range n).map fun (i : Nat) => D.int (i : Int)).map W.d := by rw [rangeL_nat, List.map_map]; rfl
  rw [e]
  exact yc_mapE (fun (i : Nat) => D.int (i : Int)) g (by rw [List.length_range]; exact l) (fun i hi => h i (List.mem_range.mp hi)) q
theorem enumW_emb (ea : α → D) : ∀ (xs : List α) (k : Nat), enumW k (xs.map ea) = ((xs.zipIdx k).map fun p => D.tup [.int (p.2 : Nat), ea p.1]).map W.d
  | [], _ => rfl
  | x :: xs, k => by
    show _ :: enumW (k + 1) (xs.map ea) = _
    rw [enumW_emb ea xs (k + 1)]
    rfl
theorem zip_map {γ : Type} (g : α → β → γ) : ∀ (xs : List α) (ys : List β), ((xs.zip ys).map fun p => g p.1 p.2) = List.zipWith g xs ys
  | [], _ => rfl
  | _ :: _, [] => rfl
  | x :: xs, y :: ys => by
    show g x y :: ((xs.zip ys).map fun p => g p.1 p.2) = _
    rw [zip_map g xs ys]
    rfl
end
end DL
namespace DL
open PySem PySem.Spec PyProof.Rows L2
/-- behind a turn of a while loop -/
def Wp (P : Nat → Ev → Store → Prop) (m : Nat) (Q : Fl → Store → Prop) : Fl → Store → Prop := fun r S => match r with
  | .nx env => ∃ m', m' < m ∧ P m' env S
  | .bk env => Q (.nx env) S
  | .rt w => Q (.rt w) S
theorem ywp_nx {P : Nat → Ev → Store → Prop} {m : Nat} {Q : Fl → Store → Prop} {env : Ev} {S : Store} (q : ∃ m', m' < m ∧ P m' env S) : Wp P m Q (.nx env) S := q
/-- a while loop: m falls -/
theorem ys_while {fns : Nat → Fn} {n : Nat} {c : B} {b : List Sm} {Q : Fl → Store → Prop} {env : Ev} {S : Store} (P : Nat → Ev → Store → Prop) (m : Nat) (h0 : P m env S) (hm : m < n)
    (hs : ∀ m env S, P m env S → Ok (evB fns c env S) fun k S' => Br k (Ok (evSs fns b env S') (Wp P m Q)) (Q (.nx env) S')) : Ok (evS fns (.while_ n c b) env S) Q := by
  rw [evS]
  induction n generalizing m env S with
  | zero => omega
  | succ n ih =>
    unfold whileL
    refine .bind ((hs m env S h0).mono fun k S' h => ?_)
    cases k with
    | false => exact .now h
    | true =>
      refine .bind (Ok.mono h fun r S'' h => ?_)
      cases r with
      | nx env' =>
        obtain ⟨m', h1, h2⟩ := h
        exact ih m' h2 (by omega)
      | bk env' => exact .now h
      | rt w => exact .now h
theorem ys_asgs {fns : Nat → Fn} {env : Ev} {S : Store} {Q : Fl → Store → Prop} {ts : List Tg} {es : List E} (h : Ok (evs fns es env S) fun ws S => ws.length ≤ lineS ∧ Ok (evTgs fns ts ws env S) fun env S => Q (.nx env) S) : Ok (evS fns (.asgs ts es) env S) Q := by
  rw [evS]
  refine .bind (h.mono fun ws S h => ?_)
  show Ok (if ws.length ≤ lineS then _ else _) _
  rw [if_pos h.1]
  exact .bind (h.2.mono fun _ _ h => .now h)
end DL
/-! DLu: more for the plain part. -/
namespace DL
open PySem PySem.Spec PyProof.Rows L2
theorem sh_int (n : Nat) (i : Int) : sh n (.int i) = true := by cases n <;> rfl
theorem shs_ints (n : Nat) : ∀ v : List Int, shs n (v.map D.int) = true
  | [] => rfl
  | x :: v => by
    show (sh n (.int x) && shs n (v.map D.int)) = true
    rw [sh_int, shs_ints n v]
    rfl
theorem deqs_ints : ∀ a b : List Int, deqs (a.map D.int) (b.map D.int) = decide (a = b)
  | [], [] => by simp [deqs]
  | [], _ :: _ => by simp [deqs]
  | _ :: _, [] => by simp [deqs]
  | x :: a, y :: b => by
    show (deq (.int x) (.int y) && deqs (a.map D.int) (b.map D.int)) = _
    rw [deqs_ints a b]
    simp [deq]
theorem shs_nats : ∀ (k : Nat) (l : List Nat), shs k (l.map fun (c : Nat) => D.int (c : Int)) = true
  | 0, [] => rfl
  | _ + 1, [] => rfl
  | k, y :: l => by
    show (sh k (.int _) && shs k _) = true
    rw [sh_int, shs_nats k l]
    rfl
theorem has_nat (x : Nat) : ∀ l : List Nat, hasD (.int (x : Int)) (l.map fun (c : Nat) => D.int (c : Int)) = decide (x ∈ l)
  | [] => rfl
  | y :: l => by
    show (deq (.int (y : Int)) (.int (x : Int)) || hasD _ _) = _
    rw [has_nat x l]
    show (decide ((y : Int) = x) || decide (x ∈ l)) = decide (x ∈ y :: l)
    by_cases h : y = x
    · subst h; simp
    · have : ¬ ((y : Int) = x) := by omega
      simp [this, Ne.symm h]
theorem ix_nat (n i : Nat) (h : i < n) : ixOf n (i : Int) = some i := by show (if i < n then some i else none) = _; rw [if_pos h]
theorem setIx_l {S : Store} {n i : Nat} {xs : List W} {w : W} (hn : S[n]? = some (.lst xs)) (hi : i < xs.length) : setIx (.l n) (.d (.int (i : Nat))) w S = some (S.set n (.lst (xs.set i w))) := by
  simp only [setIx, hn, ix_nat _ _ hi, Option.map_some]
theorem at_emb {α : Type} (f : α → D) {h : List α} {i : Nat} {x : α} (e : h[i]? = some x) : at_ (h.map f) (i : Int) = some (f x) := by
  rw [at_nat, List.getElem?_map, e]
  rfl
theorem at_embW {α : Type} (f : α → D) {h : List α} {i : Nat} {x : α} (e : h[i]? = some x) : at_ (h.map fun a => W.d (f a)) (i : Int) = some (.d (f x)) := by
  rw [at_nat, List.getElem?_map, e]
  rfl
theorem enum_at {α : Type} (f : α → D) : ∀ {xs : List α} {k i : Nat} {x : W}, (enumW k (xs.map f))[i]? = some x → ∃ a, xs[i]? = some a ∧ x = .d (.tup [.int ((k + i : Nat) : Int), f a])
  | [], _, _, _, h => by simp [enumW] at h
  | a :: xs, k, 0, x, h => ⟨a, rfl, (Option.some.inj h).symm⟩
  | a :: xs, k, i + 1, x, h => by
    obtain ⟨b, h1, h2⟩ := enum_at f (xs := xs) (k := k + 1) (i := i) (x := x) (by simpa [enumW] using h)
    exact ⟨b, by simpa using h1, by rw [h2, show k + 1 + i = k + (i + 1) by omega]⟩
theorem enum_len {α : Type} (f : α → D) : ∀ (xs : List α) (k : Nat), (enumW k (xs.map f)).length = xs.length
  | [], _ => rfl
  | a :: xs, k => by show (_ :: enumW (k + 1) (xs.map f)).length = _; rw [List.length_cons, enum_len f xs, List.length_cons]
theorem range_at {n i : Nat} {x : W} (h : (rangeL 0 (n : Int))[i]? = some x) : i < n ∧ x = .d (.int (i : Nat)) := by
  have hi : i < (rangeL 0 (n : Int)).length := (List.getElem?_eq_some_iff.mp h).1
  rw [rangeL_nat, List.length_map, List.length_range] at hi
  rw [rangeL_nat, List.getElem?_map, List.getElem?_range hi] at h
  exact ⟨hi, (Option.some.inj h).symm⟩
theorem range_length (n : Nat) : (rangeL 0 (n : Int)).length = n := by rw [rangeL_nat, List.length_map, List.length_range]
theorem yc_all {α : Type} {f : W → Store → Out (Option W)} {S : Store} {Q : W → Store → Prop} {m : Bool} {ko : Option Nat} {ws : List W} (emb g : α → D) (k : α → Bool) {xs : List α} (hw : ws = xs.map fun a => W.d (emb a)) (hk : keeps ko ws S = true) (l : xs.length < lineS)
    (h : ∀ a ∈ xs, Ok (f (.d (emb a)) S) fun r S' => r = (if k a = true then some (.d (g a)) else none) ∧ S' = S) (q : Ok (newL m ((xs.filter k).map fun a => W.d (g a)) S) Q) :
    ws.length < lineS ∧ Ok (compL (keeps ko ws) f ws S) fun ys S => Ok (newL m ys S) Q := by
  subst hw
  refine ⟨by rw [List.length_map]; exact l, ?_⟩
  refine yl_comp (fun i ys S' => S' = S ∧ ys = ((xs.take i).filter k).map fun a => W.d (g a)) ⟨rfl, rfl⟩ (fun _ _ _ hp => by rw [hp.1]; exact hk) (fun i x ys S' hx hp => ?_) fun ys S' hp => ?_
  · obtain ⟨rfl, rfl⟩ := hp
    rw [List.getElem?_map] at hx
    obtain ⟨a, ha, rfl⟩ := map_of hx
    refine (h a (List.mem_of_getElem? ha)).mono fun r S2 hr => ?_
    obtain ⟨rfl, rfl⟩ := hr
    refine ⟨rfl, ?_⟩
    rw [List.take_add_one, ha]
    cases e : k a <;> simp [e]
  · obtain ⟨rfl, rfl⟩ := hp
    have e : xs.take (xs.map fun a => W.d (emb a)).length = xs := by rw [List.length_map, List.take_length]
    rw [e]
    exact q
theorem keeps_at {n : Nat} {ws : List W} {S : Store} (h : S[n]? = some (.lst ws)) : keeps (some n) ws S = true := by
  show (match S[n]? with | some (.lst ys) => sameWs ys ws | _ => false) = true
  rw [h]
  exact sameWs_refl ws
theorem fil_all {α : Type} (xs : List α) : xs.filter (fun _ => true) = xs := by simp
/-- a comprehension that draws -/
theorem yc_draw {f : W → Store → Out (Option W)} {Q : W → Store → Prop} {ws : List W} {R : D → Prop} {d k : Nat} {o s c : Int} {r : Store} (pt : Pot k o s c) (hk : k + ws.length * d < 2 ^ 29) (l : ws.length < lineS)
    (h : ∀ w ∈ ws, ∀ (k : Nat) (o c : Int), Pot k o s c → k + d < 2 ^ 29 → Ok (f w (P o s c :: r)) fun x S' => ∃ y o' c', x = some (.d y) ∧ S' = P o' s c' :: r ∧ R y ∧ Pot (k + d) o' s c')
    (q : ∀ (ys : List D) (o' c' : Int), ys.length = ws.length → (∀ y ∈ ys, R y) → Pot (k + ws.length * d) o' s c' → Q (.d (.lst ys)) (P o' s c' :: r)) :
    ws.length < lineS ∧ Ok (compL (keeps none ws) f ws (P o s c :: r)) fun ys S => Ok (newL false ys S) Q := by
  refine ⟨l, ?_⟩
  refine yl_comp (fun i ys S' => ∃ (zs : List D) (o' c' : Int), i ≤ ws.length ∧ ys = zs.map .d ∧ zs.length = i ∧ (∀ y ∈ zs, R y) ∧ S' = P o' s c' :: r ∧ Pot (k + i * d) o' s c') ⟨[], o, c, Nat.zero_le _, rfl, rfl, fun _ h => (nomatch h), rfl, by rw [Nat.zero_mul]; exact pt⟩ (fun _ _ _ _ => rfl) (fun i x ys S' hx hp => ?_) fun ys S' hp => ?_
  · obtain ⟨zs, o', c', hi, rfl, hl, hR, rfl, p'⟩ := hp
    have hi2 : i < ws.length := (List.getElem?_eq_some_iff.mp hx).1
    have hmul : i * d + d ≤ ws.length * d := by rw [← Nat.succ_mul]; exact Nat.mul_le_mul_right d hi2
    refine (h x (List.mem_of_getElem? hx) (k + i * d) o' c' p' (by omega)).mono fun z S2 hz => ?_
    obtain ⟨y, o2, c2, rfl, rfl, hy, p2⟩ := hz
    refine ⟨zs ++ [y], o2, c2, hi2, by simp, by simp [hl], fun z hz => ?_, rfl, by rw [Nat.succ_mul, ← Nat.add_assoc]; exact p2⟩
    rcases List.mem_append.mp hz with hz | hz
    · exact hR z hz
    · rw [List.mem_singleton.mp hz]; exact hy
  · obtain ⟨zs, o', c', hi, rfl, hl, hR, rfl, p'⟩ := hp
    exact ynl_f (by rw [List.length_map]; omega) (pures_map zs) (q zs o' c' hl hR p')
theorem zipW_same {α : Type} (f g : α → D) : ∀ l : List α, zipW (l.map f) (l.map g) = l.map fun z => W.d (.tup [f z, g z])
  | [] => rfl
  | z :: l => by
    show _ :: zipW (l.map f) (l.map g) = _
    rw [zipW_same f g l]
    rfl
/-- a comprehension whose test draws -/
theorem yc_drawF {f : W → Store → Out (Option W)} {Q : W → Store → Prop} {ws : List W} {R : D → Prop} {d k : Nat} {o s c : Int} {r : Store} (pt : Pot k o s c) (hk : k + ws.length * d < 2 ^ 29) (l : ws.length < lineS)
    (h : ∀ w ∈ ws, ∀ (k : Nat) (o c : Int), Pot k o s c → k + d < 2 ^ 29 → Ok (f w (P o s c :: r)) fun x S' => ∃ o' c', (x = none ∨ ∃ y, x = some (.d y) ∧ R y) ∧ S' = P o' s c' :: r ∧ Pot (k + d) o' s c')
    (q : ∀ (ys : List D) (o' c' : Int), ys.length ≤ ws.length → (∀ y ∈ ys, R y) → Pot (k + ws.length * d) o' s c' → Q (.d (.lst ys)) (P o' s c' :: r)) :
    ws.length < lineS ∧ Ok (compL (keeps none ws) f ws (P o s c :: r)) fun ys S => Ok (newL false ys S) Q := by
  refine ⟨l, ?_⟩
  refine yl_comp (fun i ys S' => ∃ (zs : List D) (o' c' : Int), i ≤ ws.length ∧ ys = zs.map .d ∧ zs.length ≤ i ∧ (∀ y ∈ zs, R y) ∧ S' = P o' s c' :: r ∧ Pot (k + i * d) o' s c') ⟨[], o, c, Nat.zero_le _, rfl, Nat.le_refl _, fun _ h => (nomatch h), rfl, by rw [Nat.zero_mul]; exact pt⟩ (fun _ _ _ _ => rfl) (fun i x ys S' hx hp => ?_) fun ys S' hp => ?_
  · obtain ⟨zs, o', c', hi, rfl, hl, hR, rfl, p'⟩ := hp
    have hi2 : i < ws.length := (List.getElem?_eq_some_iff.mp hx).1
    have hmul : i * d + d ≤ ws.length * d := by rw [← Nat.succ_mul]; exact Nat.mul_le_mul_right d hi2
    refine (h x (List.mem_of_getElem? hx) (k + i * d) o' c' p' (by omega)).mono fun z S2 hz => ?_
    obtain ⟨o2, c2, hz, rfl, p2⟩ := hz
    rcases hz with rfl | ⟨y, rfl, hy⟩
    · exact ⟨zs, o2, c2, hi2, by simp, by omega, hR, rfl, by rw [Nat.succ_mul, ← Nat.add_assoc]; exact p2⟩
    · refine ⟨zs ++ [y], o2, c2, hi2, by simp, by simp; omega, fun z hz => ?_, rfl, by rw [Nat.succ_mul, ← Nat.add_assoc]; exact p2⟩
      rcases List.mem_append.mp hz with hz | hz
      · exact hR z hz
      · rw [List.mem_singleton.mp hz]; exact hy
  · obtain ⟨zs, o', c', hi, rfl, hl, hR, rfl, p'⟩ := hp
    exact ynl_f (by rw [List.length_map]; omega) (pures_map zs) (q zs o' c' hl hR p')
theorem nats_of : ∀ {ys : List D}, (∀ y ∈ ys, ∃ r : Nat, y = .int r) → ∃ v : List Nat, ys = v.map fun (c : Nat) => D.int (c : Int)
  | [], _ => ⟨[], rfl⟩
  | y :: ys, h => by
    obtain ⟨x, rfl⟩ := h y (List.mem_cons_self ..)
    obtain ⟨v, rfl⟩ := nats_of (fun z hz => h z (List.mem_cons_of_mem _ hz)) (ys := ys)
    exact ⟨x :: v, rfl⟩
theorem cut_to {xs : List D} {j : Nat} (h : j ≤ xs.length) : cut_ xs none (some (j : Int)) = xs.take j := by
  unfold cut_
  rw [HT.sIx_none, HT.sIx_nat, List.drop_zero, Nat.sub_zero, Nat.min_eq_left h]
theorem cut_from {xs : List D} {j : Nat} (h : j + 1 ≤ xs.length) : cut_ xs (some ((j : Int) + 1)) none = xs.drop (j + 1) := by
  unfold cut_
  rw [show ((j : Int) + 1) = ((j + 1 : Nat) : Int) by omega, HT.sIx_nat, HT.sIx_none, Nat.min_eq_left h]
  rw [List.take_of_length_le (by rw [List.length_drop]; exact Nat.le_refl _)]
theorem cut_set {α : Type} {xs : List α} {j : Nat} {x : α} (h : j < xs.length) : xs.take j ++ [x] ++ xs.drop (j + 1) = xs.set j x := by
  rw [List.set_eq_take_append_cons_drop, if_pos h, List.append_assoc]
  rfl
theorem dig_s {x : Int} (h0 : 0 ≤ x) (h1 : x < 2 ^ 100) : x.natAbs < digitL := digit_of (Nat.lt_of_lt_of_le (show x.natAbs < 2 ^ 100 by omega) (Nat.pow_le_pow_right (by decide) (by decide)))
theorem shw_bl (b : Bool) : shw (.bl b) = true := by cases b <;> rfl
theorem all_true {α : Type} (xs : List α) : (xs.map fun _ => true).all id = true := by simp
end DL
/-! MMa: what a store is told, and the two piles: plain. -/
namespace MM
abbrev Pr := Int × Int
abbrev Tr := Int × Int × Int
inductive Dd where
  | rd (p : Nat)
  | pt (p : Nat) (v : Int)
def Dd.pl : Dd → Nat
  | .rd p => p
  | .pt p _ => p
/-- what lies there behind a deed -/
def vb : Dd → Pr → Int
  | .rd _, x => x.1
  | .pt _ v, _ => v
/-- the same of a keeper that forgets some puts -/
def kv (lost : List Nat) (j : Nat) : Dd → Pr → Int
  | .rd _, x => x.1
  | .pt _ v, x => if j ∈ lost then x.1 else v
theorem kv_nil (j : Nat) (d : Dd) (x : Pr) : kv [] j d x = vb d x := by cases d <;> simp [kv, vb]
def run (lost : List Nat) : Nat → List Dd → List Pr → List Pr × List Pr
  | _, [], h => ([], h)
  | j, d :: ds, h => (h.getD d.pl (0, 0) :: (run lost (j + 1) ds (h.set d.pl (kv lost j d (h.getD d.pl (0, 0)), ((j + 1 : Nat) : Int)))).1, (run lost (j + 1) ds (h.set d.pl (kv lost j d (h.getD d.pl (0, 0)), ((j + 1 : Nat) : Int)))).2)
def ini (vs : List Int) : List Pr := vs.map fun v => (v, 0)
def right (vs : List Int) (ds : List Dd) : List Pr × List Pr := run [] 0 ds (ini vs)
/-- the piles -/
def tl : Nat → List Pr → List Tr
  | _, [] => []
  | k, x :: r => ((k : Int), x.1, x.2) :: tl (k + 1) r
def pj : Nat → List Dd → List Pr → List Tr
  | j, d :: ds, x :: xs => ((d.pl : Int), vb d x, ((j + 1 : Nat) : Int)) :: pj (j + 1) ds xs
  | _, _, _ => []
def tj : List Dd → List Pr → List Tr
  | d :: ds, x :: xs => ((d.pl : Int), x.1, x.2) :: tj ds xs
  | _, _ => []
def puts (vs : List Int) (ds : List Dd) (told : List Pr) : List Tr := tl 0 (ini vs) ++ pj 0 ds told
def taken (ds : List Dd) (told last : List Pr) : List Tr := tj ds told ++ tl 0 last

theorem tl_mem {t : Tr} : ∀ {h : List Pr} {k : Nat}, t ∈ tl k h → ∃ i, i < h.length ∧ t.1 = ((k + i : Nat) : Int) ∧ h[i]? = some (t.2.1, t.2.2)
  | [], _, h => nomatch h
  | x :: r, k, h => by
    rcases List.mem_cons.mp h with rfl | h
    · exact ⟨0, by simp, rfl, rfl⟩
    · obtain ⟨i, h1, h2, h3⟩ := tl_mem h
      exact ⟨i + 1, by simpa using h1, by rw [h2]; congr 1; omega, by simpa using h3⟩
/-- one place taken out -/
theorem tl_pick : ∀ {h : List Pr} {k p : Nat} {x : Pr}, h[p]? = some x → ∃ L, (tl k h).Perm ((((k + p : Nat) : Int), x.1, x.2) :: L) ∧ ∀ y : Pr, (tl k (h.set p y)).Perm ((((k + p : Nat) : Int), y.1, y.2) :: L)
  | [], _, _, _, h => by simp at h
  | z :: r, k, 0, x, h => by
    have h : z = x := by simpa using h
    subst h
    exact ⟨tl (k + 1) r, .refl _, fun y => .refl _⟩
  | z :: r, k, p + 1, x, h => by
    obtain ⟨L, h1, h2⟩ := tl_pick (h := r) (k := k + 1) (p := p) (x := x) (by simpa using h)
    have e : k + 1 + p = k + (p + 1) := by omega
    rw [e] at h1
    refine ⟨((k : Int), z.1, z.2) :: L, ?_, fun y => ?_⟩
    · exact (List.Perm.cons _ h1).trans (.swap ..)
    · have h2 := h2 y
      rw [e] at h2
      exact (List.Perm.cons _ h2).trans (.swap ..)
theorem pj_late {t : Tr} : ∀ {ds : List Dd} {xs : List Pr} {j : Nat}, t ∈ pj j ds xs → ((j + 1 : Nat) : Int) ≤ t.2.2
  | [], _, _, h => by simp [pj] at h
  | _ :: _, [], _, h => by simp [pj] at h
  | d :: ds, x :: xs, j, h => by
    rcases List.mem_cons.mp h with rfl | h
    · exact Int.le_refl _
    · have := pj_late h
      omega
theorem tl_inj : ∀ {a b : List Pr} {k : Nat}, a.length = b.length → (tl k a).Perm (tl k b) → a = b
  | [], [], _, _, _ => rfl
  | [], _ :: _, _, h, _ => by simp at h
  | _ :: _, [], _, h, _ => by simp at h
  | x :: a, y :: b, k, h, p => by
    have m : ((k : Int), x.1, x.2) ∈ tl k (y :: b) := p.mem_iff.mp (List.mem_cons_self ..)
    obtain ⟨i, _, h2, h3⟩ := tl_mem m
    have h2 : (k : Int) = ((k + i : Nat) : Int) := h2
    have i0 : i = 0 := by omega
    subst i0
    have e : y = x := by simpa using h3
    subst e
    rw [tl_inj (k := k + 1) (by simpa using h) (List.perm_cons _ |>.mp p)]
theorem getD_some {h : List Pr} {p : Nat} (hp : p < h.length) : h[p]? = some (h.getD p (0, 0)) := by
  rw [List.getD_eq_getElem?_getD, List.getElem?_eq_getElem hp]
  rfl
/-- the walk: the piles are alike just if all is told right -/
theorem walk : ∀ {ds : List Dd} {told last h : List Pr} {j : Nat}, (∀ d ∈ ds, d.pl < h.length) → told.length = ds.length → last.length = h.length → (∀ x ∈ h, x.2 ≤ (j : Int)) →
    (((∀ i x, told[i]? = some x → x.2 ≤ ((j + i : Nat) : Int)) ∧ (tl 0 h ++ pj j ds told).Perm (tj ds told ++ tl 0 last)) ↔ (told, last) = run [] j ds h)
  | [], told, last, h, j, hd, hl, hl2, hm => by
    have : told = [] := List.eq_nil_of_length_eq_zero (by simpa using hl)
    subst this
    show (_ ∧ (tl 0 h ++ []).Perm ([] ++ tl 0 last)) ↔ ([], last) = ([], h)
    rw [List.append_nil, List.nil_append]
    constructor
    · rintro ⟨_, p⟩
      rw [tl_inj hl2.symm p]
    · intro e
      cases e
      exact ⟨fun i x e => by simp at e, .refl _⟩
  | d :: ds, [], last, h, j, hd, hl, hl2, hm => by simp at hl
  | d :: ds, x :: told, last, h, j, hd, hl, hl2, hm => by
    have hp := hd d (List.mem_cons_self ..)
    have hx := getD_some hp
    obtain ⟨L, p1, p2⟩ := tl_pick (k := 0) hx
    rw [Nat.zero_add] at p1 p2
    generalize hy : h.getD d.pl (0, 0) = y at hx p1
    have ihb : ∀ v : Int, ∀ z ∈ h.set d.pl (v, ((j + 1 : Nat) : Int)), z.2 ≤ ((j + 1 : Nat) : Int) := fun v z hz => by
      rcases List.mem_or_eq_of_mem_set hz with hz | rfl
      · have := hm z hz; omega
      · exact Int.le_refl _
    have ih := fun v : Int => walk (ds := ds) (told := told) (last := last) (h := h.set d.pl (v, ((j + 1 : Nat) : Int))) (j := j + 1) (fun e he => by rw [List.length_set]; exact hd e (List.mem_cons_of_mem _ he)) (by simpa using hl) (by rw [List.length_set]; exact hl2) (ihb v)
    have core : x = y → ((tl 0 h ++ pj j (d :: ds) (x :: told)).Perm (tj (d :: ds) (x :: told) ++ tl 0 last) ↔ (tl 0 (h.set d.pl (vb d y, ((j + 1 : Nat) : Int))) ++ pj (j + 1) ds told).Perm (tj ds told ++ tl 0 last)) := by
      rintro rfl
      have q1 : (tl 0 h ++ pj j (d :: ds) (x :: told)).Perm (((d.pl : Int), x.1, x.2) :: (L ++ ((d.pl : Int), vb d x, ((j + 1 : Nat) : Int)) :: pj (j + 1) ds told)) := p1.append_right _
      have q2 : (tl 0 (h.set d.pl (vb d x, ((j + 1 : Nat) : Int))) ++ pj (j + 1) ds told).Perm (L ++ ((d.pl : Int), vb d x, ((j + 1 : Nat) : Int)) :: pj (j + 1) ds told) := ((p2 _).append_right _).trans List.perm_middle.symm
      show (_ : List Tr).Perm (((d.pl : Int), x.1, x.2) :: (tj ds told ++ tl 0 last)) ↔ _
      constructor
      · intro p
        exact q2.trans ((List.perm_cons _).mp (q1.symm.trans p))
      · intro p
        exact q1.trans ((List.perm_cons _).mpr (q2.symm.trans p))
    have er : run [] j (d :: ds) h = (y :: (run [] (j + 1) ds (h.set d.pl (vb d y, ((j + 1 : Nat) : Int)))).1, (run [] (j + 1) ds (h.set d.pl (vb d y, ((j + 1 : Nat) : Int)))).2) := by
      show (_, _) = _
      rw [hy, kv_nil]
    rw [er]
    constructor
    · rintro ⟨late, p⟩
      have hx0 := late 0 x rfl
      have m : ((d.pl : Int), x.1, x.2) ∈ tl 0 h ++ pj j (d :: ds) (x :: told) := p.mem_iff.mpr (List.mem_cons_self ..)
      have exy : x = y := by
        rcases List.mem_append.mp m with m | m
        · obtain ⟨i, _, h2, h3⟩ := tl_mem m
          have h2 : (d.pl : Int) = ((0 + i : Nat) : Int) := h2
          have : i = d.pl := by omega
          subst this
          rw [hx] at h3
          exact (Option.some.inj h3).symm
        · have := pj_late m
          have this : ((j + 1 : Nat) : Int) ≤ x.2 := this
          omega
      have p' := (core exy).mp p
      have := (ih (vb d y)).mp ⟨fun i z hz => by have := late (i + 1) z (by simpa using hz); rw [show j + 1 + i = j + (i + 1) by omega]; exact this, p'⟩
      rw [← this, exy]
    · intro e
      have e1 := (Prod.mk.inj e).1
      have e2 := (Prod.mk.inj e).2
      have exy : x = y := (List.cons.inj e1).1
      have e3 : (told, last) = run [] (j + 1) ds (h.set d.pl (vb d y, ((j + 1 : Nat) : Int))) := by rw [(List.cons.inj e1).2, e2]
      obtain ⟨l, p⟩ := (ih (vb d y)).mpr e3
      refine ⟨fun i z hz => ?_, (core exy).mpr p⟩
      cases i with
      | zero =>
        have : x = z := by simpa using hz
        rw [← this, exy]
        have := hm y (List.mem_of_getElem? hx)
        omega
      | succ i =>
        have := l i z (by simpa using hz)
        rw [show j + (i + 1) = j + 1 + i by omega]
        exact this
theorem ini_len (vs : List Int) : (ini vs).length = vs.length := by unfold ini; rw [List.length_map]
theorem ini_0 {vs : List Int} : ∀ x ∈ ini vs, x.2 ≤ ((0 : Nat) : Int) := fun x hx => by
  obtain ⟨v, _, rfl⟩ := List.mem_map.mp hx
  exact Int.le_refl _
/-- tallies let just the right answers -/
theorem tallies_iff {vs : List Int} {ds : List Dd} {told last : List Pr} (hd : ∀ d ∈ ds, d.pl < vs.length) (h1 : told.length = ds.length) (h2 : last.length = vs.length) :
    ((∀ (i : Nat) x, told[i]? = some x → x.2 ≤ (i : Int)) ∧ ∀ t, (puts vs ds told).count t = (taken ds told last).count t) ↔ (told, last) = right vs ds := by
  have := walk (ds := ds) (told := told) (last := last) (h := ini vs) (j := 0) (fun d h => by rw [ini_len]; exact hd d h) h1 (by rw [ini_len]; exact h2) ini_0
  unfold right
  rw [← this]
  unfold puts taken
  rw [← List.perm_iff_count]
  simp
/-! ### sizes -/
theorem run_len : ∀ (lost : List Nat) (ds : List Dd) (j : Nat) (h : List Pr), (run lost j ds h).1.length = ds.length ∧ (run lost j ds h).2.length = h.length
  | _, [], _, _ => ⟨rfl, rfl⟩
  | lost, d :: ds, j, h => by
    obtain ⟨a, b⟩ := run_len lost ds (j + 1) (h.set d.pl (kv lost j d (h.getD d.pl (0, 0)), ((j + 1 : Nat) : Int)))
    simp only [run, List.length_cons, a, b, List.length_set, and_self]
end MM
namespace K70
open PySem PySem.Spec PyProof.Rows L2 DL
def top (i : Nat) : Stmt := PySem.Challenge.pw_fewthrows_k70_whole_tallies_let_just_the.main.body.getD i (.Pass ⟨0, 0, 0, 0⟩)
abbrev st__law_take : Stmt := top 30
def n__law_take : List Str := ["pot", "upto", "digit", "prime", "blend"]
def b__law_take : List Sm := [(.ife (.cmp .Gt (.ix (.var 0) (.const (.int 0))) (.const (.int 0))) [(.asg (.name 2) (.bin .Mod (.bi .int [(.ix (.var 0) (.const (.int 0)))]) (.var 1))), (.set (.var 0) (.const (.int 0)) (.bin .FloorDiv (.ix (.var 0) (.const (.int 0))) (.var 1))), (.ret (.var 2))] []), (.set (.var 0) (.const (.int 2)) (.bin .Add (.ix (.var 0) (.const (.int 2))) (.const (.int 1)))), (.asg (.name 3) (.ix (.lst false [(.const (.int 2147483647)), (.const (.int 2147483629)), (.const (.int 2147483587)), (.const (.int 2147483579)), (.const (.int 2147483563))]) (.bin .Mod (.bi .int [(.ix (.var 0) (.const (.int 2)))]) (.const (.int 5))))), (.asg (.name 4) (.bin .Mod (.bi .int [(.bin .Pow (.bi .int [(.bin .Add (.bin .Add (.ix (.var 0) (.const (.int 1))) (.bin .Mult (.bin .Mult (.const (.int 100307)) (.ix (.var 0) (.const (.int 2)))) (.ix (.var 0) (.const (.int 2))))) (.const (.int 1331)))]) (.const (.int 3)))]) (.var 3))), (.asg (.name 4) (.bin .Mod (.bi .int [(.bin .Mult (.var 4) (.bin .Add (.bin .Mod (.bi .int [(.var 4)]) (.const (.int 10149))) (.bin .Mult (.const (.int 369)) (.ix (.var 0) (.const (.int 2))))))]) (.const (.int 2305843009213693907)))), (.ret (.bin .Mod (.bi .int [(.bin .FloorDiv (.var 4) (.const (.int 173)))]) (.var 1)))]
def t__law_take : Tab := ⟨[], ["int"], []⟩
def d__law_take : Fn := evF (fnsOf t__law_take) 5 b__law_take
theorem c__law_take : chkSs t__law_take n__law_take (defScope st__law_take) b__law_take (defBody st__law_take) = true := by decide +kernel
theorem s__law_take : C8.scC n__law_take ["pot", "upto"] (defScope st__law_take) = true := by decide +kernel
def f__law_take : He.DefD := ⟨("_law_take", none), "_law_take", "_law_take", defArgs st__law_take, defBody st__law_take, defScope st__law_take, [], []⟩
abbrev st__law_of : Stmt := top 31
def n__law_of : List Str := ["pot", "some"]
def b__law_of : List Sm := [(.ret (.ix (.var 1) (.call 0 [(.var 0), (.bi .len [(.var 1)])])))]
def t__law_of : Tab := ⟨[⟨"_law_take", 2, 2, [], [0, 1], d__law_take⟩], ["len"], []⟩
def d__law_of : Fn := evF (fnsOf t__law_of) 2 b__law_of
theorem c__law_of : chkSs t__law_of n__law_of (defScope st__law_of) b__law_of (defBody st__law_of) = true := by decide +kernel
theorem s__law_of : C8.scC n__law_of ["pot", "some"] (defScope st__law_of) = true := by decide +kernel
def f__law_of : He.DefD := ⟨("_law_of", none), "_law_of", "_law_of", defArgs st__law_of, defBody st__law_of, defScope st__law_of, [], []⟩
abbrev st__law_values : Stmt := top 33
def n__law_values : List Str := ["pot", "most", "many", "pool", "place"]
def b__law_values : List Sm := [(.asg (.name 2) (.bin .Add (.const (.int 1)) (.call 0 [(.var 0), (.var 1)]))), (.asg (.name 3) (.lst false [(.const (.int 0)), (.const (.int 1)), (.const (.int 2)), (.const (.int 5)), (.call 0 [(.var 0), (.const (.int 7))])])), (.ret (.bi .tuple [(.comp false (.bi .int [(.call 1 [(.var 0), (.var 3)])]) (.name 4) (.range [(.var 2)]) .yes [4])]))]
def t__law_values : Tab := ⟨[⟨"_law_take", 2, 2, [], [0, 1], d__law_take⟩, ⟨"_law_of", 2, 2, [], [0, 1], d__law_of⟩], ["tuple", "range", "int"], []⟩
def d__law_values : Fn := evF (fnsOf t__law_values) 5 b__law_values
theorem c__law_values : chkSs t__law_values n__law_values (defScope st__law_values) b__law_values (defBody st__law_values) = true := by decide +kernel
theorem s__law_values : C8.scC n__law_values ["pot", "most"] (defScope st__law_values) = true := by decide +kernel
def f__law_values : He.DefD := ⟨("_law_values", none), "_law_values", "_law_values", defArgs st__law_values, defBody st__law_values, defScope st__law_values, [], []⟩
abbrev st__law_job : Stmt := top 34
def n__law_job : List Str := ["pot", "places", "most", "found", "loved", "lap", "place"]
def b__law_job : List Sm := [(.par [3, 4] [(.lst true []), (.call 0 [(.var 0), (.var 1)])]), (.for_ (.name 5) (.range [(.call 0 [(.var 0), (.bin .Add (.var 2) (.const (.int 1)))])]) [(.asg (.name 6) (.ifx (.cmp .Eq (.call 0 [(.var 0), (.const (.int 3))]) (.const (.int 0))) (.var 4) (.call 0 [(.var 0), (.var 1)]))), (.ife (.cmp .Lt (.call 0 [(.var 0), (.const (.int 5))]) (.const (.int 3))) [(.expr (.mt .append (.var 3) [(.tup [(.const (.str "read")), (.bi .int [(.var 6)])])]))] [(.expr (.mt .append (.var 3) [(.tup [(.const (.str "put")), (.bi .int [(.var 6)]), (.bi .int [(.call 1 [(.var 0), (.lst false [(.const (.int 0)), (.const (.int 1)), (.const (.int 2)), (.const (.int 3)), (.const (.int 5)), (.const (.int 6))])])])])]))])]), (.ret (.bi .tuple [(.var 3)]))]
def t__law_job : Tab := ⟨[⟨"_law_take", 2, 2, [], [0, 1], d__law_take⟩, ⟨"_law_of", 2, 2, [], [0, 1], d__law_of⟩], ["range", "int", "tuple"], []⟩
def d__law_job : Fn := evF (fnsOf t__law_job) 7 b__law_job
theorem c__law_job : chkSs t__law_job n__law_job (defScope st__law_job) b__law_job (defBody st__law_job) = true := by decide +kernel
theorem s__law_job : C8.scC n__law_job ["pot", "places", "most"] (defScope st__law_job) = true := by decide +kernel
def f__law_job : He.DefD := ⟨("_law_job", none), "_law_job", "_law_job", defArgs st__law_job, defBody st__law_job, defScope st__law_job, [], []⟩
abbrev st__law_kept : Stmt := top 35
def n__law_kept : List Str := ["values", "job", "lost", "store", "told", "at", "deed", "value"]
def b__law_kept : List Sm := [(.par [3, 4] [(.comp true (.tup [(.var 7), (.const (.int 0))]) (.name 7) (.seq (.var 0)) .yes [7]), (.lst true [])]), (.for_ (.tup [(.name 5), (.name 6)]) (.enum (.var 1)) [(.expr (.mt .append (.var 4) [(.ix (.var 3) (.ix (.var 6) (.const (.int 1))))])), (.asg (.name 7) (.ifx (.bop true [(.cmp .Eq (.ix (.var 6) (.const (.int 0))) (.const (.str "put"))), (.cmp .NotIn (.var 5) (.var 2))]) (.ix (.var 6) (.const (.int 2))) (.ix (.ix (.var 3) (.ix (.var 6) (.const (.int 1)))) (.const (.int 0))))), (.set (.var 3) (.ix (.var 6) (.const (.int 1))) (.tup [(.var 7), (.bin .Add (.var 5) (.const (.int 1)))]))]), (.ret (.tup [(.bi .tuple [(.var 4)]), (.bi .tuple [(.var 3)])]))]
def t__law_kept : Tab := ⟨[], ["enumerate", "tuple"], []⟩
def d__law_kept : Fn := evF (fnsOf t__law_kept) 8 b__law_kept
theorem c__law_kept : chkSs t__law_kept n__law_kept (defScope st__law_kept) b__law_kept (defBody st__law_kept) = true := by decide +kernel
theorem s__law_kept : C8.scC n__law_kept ["values", "job", "lost"] (defScope st__law_kept) = true := by decide +kernel
def f__law_kept : He.DefD := ⟨("_law_kept", none), "_law_kept", "_law_kept", defArgs st__law_kept, defBody st__law_kept, defScope st__law_kept, [], []⟩
abbrev st__law_plain : Stmt := top 36
def n__law_plain : List Str := ["values", "job"]
def b__law_plain : List Sm := [(.ret (.call 0 [(.var 0), (.var 1), (.lst false [])]))]
def t__law_plain : Tab := ⟨[⟨"_law_kept", 3, 3, [], [0, 1, 2], d__law_kept⟩], [], []⟩
def d__law_plain : Fn := evF (fnsOf t__law_plain) 2 b__law_plain
theorem c__law_plain : chkSs t__law_plain n__law_plain (defScope st__law_plain) b__law_plain (defBody st__law_plain) = true := by decide +kernel
theorem s__law_plain : C8.scC n__law_plain ["values", "job"] (defScope st__law_plain) = true := by decide +kernel
def f__law_plain : He.DefD := ⟨("_law_plain", none), "_law_plain", "_law_plain", defArgs st__law_plain, defBody st__law_plain, defScope st__law_plain, [], []⟩
abbrev st__law_changed : Stmt := top 37
def n__law_changed : List Str := ["some", "at", "one"]
def b__law_changed : List Sm := [(.ret (.bin .Add (.bin .Add (.slice (.var 0) (.const .non) (.var 1) false true) (.tup [(.var 2)])) (.slice (.var 0) (.bin .Add (.var 1) (.const (.int 1))) (.const .non) true false)))]
def t__law_changed : Tab := ⟨[], [], []⟩
def d__law_changed : Fn := evF (fnsOf t__law_changed) 3 b__law_changed
theorem c__law_changed : chkSs t__law_changed n__law_changed (defScope st__law_changed) b__law_changed (defBody st__law_changed) = true := by decide +kernel
theorem s__law_changed : C8.scC n__law_changed ["some", "at", "one"] (defScope st__law_changed) = true := by decide +kernel
def f__law_changed : He.DefD := ⟨("_law_changed", none), "_law_changed", "_law_changed", defArgs st__law_changed, defBody st__law_changed, defScope st__law_changed, [], []⟩
abbrev st__law_pair_near : Stmt := top 38
def n__law_pair_near : List Str := ["pot", "pair", "number", "value", "moment", "some"]
def b__law_pair_near : List Sm := [(.asg (.tup [(.name 3), (.name 4)]) (.var 1)), (.asg (.name 5) (.lst false [(.tup [(.bin .Add (.var 3) (.const (.int 1))), (.var 4)]), (.tup [(.bi .max [(.const (.int 0)), (.bin .Sub (.var 3) (.const (.int 1)))]), (.var 4)]), (.tup [(.var 3), (.bin .Add (.var 4) (.const (.int 1)))]), (.tup [(.var 3), (.bi .max [(.const (.int 0)), (.bin .Sub (.var 4) (.const (.int 1)))])])])), (.asg (.name 5) (.bin .Add (.var 5) (.lst false [(.tup [(.var 3), (.const (.int 0))]), (.tup [(.const (.int 0)), (.var 4)]), (.tup [(.var 3), (.var 2)]), (.tup [(.var 3), (.bin .Add (.var 2) (.const (.int 1)))])]))), (.ret (.call 0 [(.var 0), (.bin .Add (.var 5) (.lst false [(.tup [(.var 3), (.bi .max [(.const (.int 0)), (.bin .Sub (.var 2) (.const (.int 1)))])])]))]))]
def t__law_pair_near : Tab := ⟨[⟨"_law_of", 2, 2, [], [0, 1], d__law_of⟩], ["max"], []⟩
def d__law_pair_near : Fn := evF (fnsOf t__law_pair_near) 6 b__law_pair_near
theorem c__law_pair_near : chkSs t__law_pair_near n__law_pair_near (defScope st__law_pair_near) b__law_pair_near (defBody st__law_pair_near) = true := by decide +kernel
theorem s__law_pair_near : C8.scC n__law_pair_near ["pot", "pair", "number"] (defScope st__law_pair_near) = true := by decide +kernel
def f__law_pair_near : He.DefD := ⟨("_law_pair_near", none), "_law_pair_near", "_law_pair_near", defArgs st__law_pair_near, defBody st__law_pair_near, defScope st__law_pair_near, [], []⟩
abbrev st__law_lie : Stmt := top 39
def n__law_lie : List Str := ["pot", "values", "job", "told", "last", "way", "at", "to"]
def b__law_lie : List Sm := [(.asg (.tup [(.name 3), (.name 4)]) (.call 0 [(.var 1), (.var 2), (.comp false (.var 6) (.name 6) (.range [(.bi .len [(.var 2)])]) (.cmp .Eq (.call 1 [(.var 0), (.const (.int 4))]) (.const (.int 0))) [6])])), (.asg (.name 5) (.call 1 [(.var 0), (.const (.int 8))])), (.ife (.cmp .Lt (.var 5) (.const (.int 5))) [(.asg (.tup [(.name 3), (.name 4)]) (.call 2 [(.var 1), (.var 2)]))] []), (.ife (.bop false [(.cmp .Eq (.var 5) (.const (.int 7))), (.cmp .Eq (.var 5) (.const (.int 0)))]) [(.ret (.tup [(.var 3), (.var 4)]))] []), (.ife (.bop true [(.cmp .In (.var 5) (.tup [(.const (.int 1)), (.const (.int 6))])), (.cmp .NotEq (.var 2) (.tup []))]) [(.asg (.name 6) (.call 1 [(.var 0), (.bi .len [(.var 3)])])), (.ret (.tup [(.call 3 [(.var 3), (.var 6), (.call 4 [(.var 0), (.ix (.var 3) (.var 6)), (.bin .Add (.var 6) (.const (.int 1)))])]), (.var 4)]))] []), (.ife (.bop true [(.cmp .Eq (.var 5) (.const (.int 2))), (.cmp .NotEq (.var 2) (.tup []))]) [(.asg (.name 6) (.call 1 [(.var 0), (.bi .len [(.var 3)])])), (.ret (.tup [(.call 3 [(.var 3), (.var 6), (.call 5 [(.var 0), (.lst false [(.tup [(.ix (.var 1) (.ix (.ix (.var 2) (.var 6)) (.const (.int 1)))), (.const (.int 0))]), (.call 5 [(.var 0), (.var 3)])])])]), (.var 4)]))] []), (.ife (.bop true [(.cmp .Eq (.var 5) (.const (.int 3))), (.cmp .NotEq (.var 2) (.tup []))]) [(.par [6, 7] [(.call 1 [(.var 0), (.bi .len [(.var 3)])]), (.call 1 [(.var 0), (.bi .len [(.var 3)])])]), (.ret (.tup [(.call 3 [(.call 3 [(.var 3), (.var 6), (.ix (.var 3) (.var 7))]), (.var 7), (.ix (.var 3) (.var 6))]), (.var 4)]))] []), (.asg (.name 6) (.call 1 [(.var 0), (.bi .len [(.var 4)])])), (.ret (.tup [(.var 3), (.call 3 [(.var 4), (.var 6), (.call 5 [(.var 0), (.lst false [(.call 4 [(.var 0), (.ix (.var 4) (.var 6)), (.bi .len [(.var 2)])]), (.call 5 [(.var 0), (.var 4)])])])])]))]
def t__law_lie : Tab := ⟨[⟨"_law_kept", 3, 3, [], [0, 1, 2], d__law_kept⟩, ⟨"_law_take", 2, 2, [], [0, 1], d__law_take⟩, ⟨"_law_plain", 2, 2, [], [0, 1], d__law_plain⟩, ⟨"_law_changed", 3, 3, [], [0, 1, 2], d__law_changed⟩, ⟨"_law_pair_near", 3, 3, [], [0, 1, 2], d__law_pair_near⟩, ⟨"_law_of", 2, 2, [], [0, 1], d__law_of⟩], ["range", "len"], []⟩
def d__law_lie : Fn := evF (fnsOf t__law_lie) 8 b__law_lie
theorem c__law_lie : chkSs t__law_lie n__law_lie (defScope st__law_lie) b__law_lie (defBody st__law_lie) = true := by decide +kernel
theorem s__law_lie : C8.scC n__law_lie ["pot", "values", "job"] (defScope st__law_lie) = true := by decide +kernel
def f__law_lie : He.DefD := ⟨("_law_lie", none), "_law_lie", "_law_lie", defArgs st__law_lie, defBody st__law_lie, defScope st__law_lie, [], []⟩
abbrev st__law_piles : Stmt := top 40
def n__law_piles : List Str := ["values", "job", "answers", "put", "taken", "at", "deed", "value", "moment", "place", "pair"]
def b__law_piles : List Sm := [(.par [3, 4] [(.comp true (.tup [(.var 9), (.var 7), (.const (.int 0))]) (.tup [(.name 9), (.name 7)]) (.enum (.var 0)) .yes [9, 7]), (.lst true [])]), (.for_ (.tup [(.name 5), (.name 6)]) (.enum (.var 1)) [(.asg (.tup [(.name 7), (.name 8)]) (.ix (.ix (.var 2) (.const (.int 0))) (.var 5))), (.expr (.mt .append (.var 4) [(.tup [(.ix (.var 6) (.const (.int 1))), (.var 7), (.var 8)])])), (.expr (.mt .append (.var 3) [(.tup [(.ix (.var 6) (.const (.int 1))), (.ifx (.cmp .Eq (.ix (.var 6) (.const (.int 0))) (.const (.str "put"))) (.ix (.var 6) (.const (.int 2))) (.var 7)), (.bin .Add (.var 5) (.const (.int 1)))])]))]), (.expr (.mt .extend (.var 4) [(.comp false (.tup [(.var 9), (.ix (.var 10) (.const (.int 0))), (.ix (.var 10) (.const (.int 1)))]) (.tup [(.name 9), (.name 10)]) (.enum (.ix (.var 2) (.const (.int 1)))) .yes [9, 10])])), (.ret (.tup [(.frz (.var 3)), (.frz (.var 4))]))]
def t__law_piles : Tab := ⟨[], ["enumerate"], []⟩
def d__law_piles : Fn := evF (fnsOf t__law_piles) 11 b__law_piles
theorem c__law_piles : chkSs t__law_piles n__law_piles (defScope st__law_piles) b__law_piles (defBody st__law_piles) = true := by decide +kernel
theorem s__law_piles : C8.scC n__law_piles ["values", "job", "answers"] (defScope st__law_piles) = true := by decide +kernel
def f__law_piles : He.DefD := ⟨("_law_piles", none), "_law_piles", "_law_piles", defArgs st__law_piles, defBody st__law_piles, defScope st__law_piles, [], []⟩
abbrev st__law_due : Stmt := top 41
def n__law_due : List Str := ["values", "job", "answers", "at", "put", "taken", "unlike", "triple"]
def b__law_due : List Sm := [(.for_ (.name 3) (.range [(.bi .len [(.var 1)])]) [(.ife (.cmp .Gt (.ix (.ix (.ix (.var 2) (.const (.int 0))) (.var 3)) (.const (.int 1))) (.var 3)) [(.ret (.tup [(.const (.str "late")), (.bin .Add (.var 3) (.const (.int 1)))]))] [])]), (.asg (.tup [(.name 4), (.name 5)]) (.call 0 [(.var 0), (.var 1), (.var 2)])), (.asg (.name 6) (.comp false (.var 7) (.name 7) (.seq (.bin .Add (.var 4) (.var 5))) (.cmp .NotEq (.mt .count (.var 4) [(.var 7)]) (.mt .count (.var 5) [(.var 7)])) [7])), (.ret (.ifx (.cmp .NotEq (.var 6) (.lst false [])) (.tup [(.const (.str "unlike")), (.bi .min [(.var 6)])]) (.tup [(.const (.str "let"))])))]
def t__law_due : Tab := ⟨[⟨"_law_piles", 3, 3, [], [0, 1, 2], d__law_piles⟩], ["range", "len", "min"], []⟩
def d__law_due : Fn := evF (fnsOf t__law_due) 8 b__law_due
theorem c__law_due : chkSs t__law_due n__law_due (defScope st__law_due) b__law_due (defBody st__law_due) = true := by decide +kernel
theorem s__law_due : C8.scC n__law_due ["values", "job", "answers"] (defScope st__law_due) = true := by decide +kernel
def f__law_due : He.DefD := ⟨("_law_due", none), "_law_due", "_law_due", defArgs st__law_due, defBody st__law_due, defScope st__law_due, [], []⟩
abbrev st_is_integer : Stmt := top 6
def n_is_integer : List Str := ["value"]
def b_is_integer : List Sm := [(.ret (.bop true [(.bi (.isinst "int") [(.var 0)]), (.not (.bi (.isinst "bool") [(.var 0)]))]))]
def t_is_integer : Tab := ⟨[], ["isinstance", "int", "bool"], []⟩
def d_is_integer : Fn := evF (fnsOf t_is_integer) 1 b_is_integer
theorem c_is_integer : chkSs t_is_integer n_is_integer (defScope st_is_integer) b_is_integer (defBody st_is_integer) = true := by decide +kernel
theorem s_is_integer : C8.scC n_is_integer ["value"] (defScope st_is_integer) = true := by decide +kernel
def f_is_integer : He.DefD := ⟨("is_integer", none), "is_integer", "is_integer", defArgs st_is_integer, defBody st_is_integer, defScope st_is_integer, [], []⟩
abbrev st_is_index : Stmt := top 7
def n_is_index : List Str := ["value", "many"]
def b_is_index : List Sm := [(.ret (.bop true [(.call 0 [(.var 0)]), (.chain .LtE .Lt (.const (.int 0)) (.var 0) (.var 1))]))]
def t_is_index : Tab := ⟨[⟨"is_integer", 1, 1, [], [0], d_is_integer⟩], [], []⟩
def d_is_index : Fn := evF (fnsOf t_is_index) 2 b_is_index
theorem c_is_index : chkSs t_is_index n_is_index (defScope st_is_index) b_is_index (defBody st_is_index) = true := by decide +kernel
theorem s_is_index : C8.scC n_is_index ["value", "many"] (defScope st_is_index) = true := by decide +kernel
def f_is_index : He.DefD := ⟨("is_index", none), "is_index", "is_index", defArgs st_is_index, defBody st_is_index, defScope st_is_index, [], []⟩
abbrev st_are_values : Stmt := top 17
def n_are_values : List Str := ["values", "one"]
def b_are_values : List Sm := [(.ife (.bop false [(.not (.val (.bi (.isinst "tuple") [(.var 0)]))), (.not (.chain .LtE .LtE (.const (.int 1)) (.bi .len [(.var 0)]) (.glob "MOST_PLACES" (.int 16))))]) [(.ret (.const (.bl false)))] []), (.ret (.bi .all [(.comp false (.call 0 [(.var 1), (.glob "VALUES" (.int 1000003))]) (.name 1) (.seq (.var 0)) .yes [1])]))]
def t_are_values : Tab := ⟨[⟨"is_index", 2, 2, [], [0, 1], d_is_index⟩], ["isinstance", "tuple", "len", "all"], [("MOST_PLACES", (.int 16)), ("VALUES", (.int 1000003))]⟩
def d_are_values : Fn := evF (fnsOf t_are_values) 2 b_are_values
theorem c_are_values : chkSs t_are_values n_are_values (defScope st_are_values) b_are_values (defBody st_are_values) = true := by decide +kernel
theorem s_are_values : C8.scC n_are_values ["values"] (defScope st_are_values) = true := by decide +kernel
def f_are_values : He.DefD := ⟨("are_values", none), "are_values", "are_values", defArgs st_are_values, defBody st_are_values, defScope st_are_values, [], []⟩
abbrev st_is_deed : Stmt := top 18
def n_is_deed : List Str := ["value", "places"]
def b_is_deed : List Sm := [(.ife (.bop false [(.not (.val (.bi (.isinst "tuple") [(.var 0)]))), (.cmp .NotIn (.bi .len [(.var 0)]) (.tup [(.const (.int 2)), (.const (.int 3))])), (.not (.val (.bi (.isinst "str") [(.ix (.var 0) (.const (.int 0)))])))]) [(.ret (.const (.bl false)))] []), (.ife (.not (.val (.call 0 [(.ix (.var 0) (.const (.int 1))), (.var 1)]))) [(.ret (.const (.bl false)))] []), (.ife (.cmp .Eq (.bi .len [(.var 0)]) (.const (.int 2))) [(.ret (.cmp .Eq (.ix (.var 0) (.const (.int 0))) (.glob "READ" (.str "read"))))] []), (.ret (.bop true [(.cmp .Eq (.ix (.var 0) (.const (.int 0))) (.glob "PUT" (.str "put"))), (.call 0 [(.ix (.var 0) (.const (.int 2))), (.glob "VALUES" (.int 1000003))])]))]
def t_is_deed : Tab := ⟨[⟨"is_index", 2, 2, [], [0, 1], d_is_index⟩], ["isinstance", "tuple", "len", "str"], [("READ", (.str "read")), ("PUT", (.str "put")), ("VALUES", (.int 1000003))]⟩
def d_is_deed : Fn := evF (fnsOf t_is_deed) 2 b_is_deed
theorem c_is_deed : chkSs t_is_deed n_is_deed (defScope st_is_deed) b_is_deed (defBody st_is_deed) = true := by decide +kernel
theorem s_is_deed : C8.scC n_is_deed ["value", "places"] (defScope st_is_deed) = true := by decide +kernel
def f_is_deed : He.DefD := ⟨("is_deed", none), "is_deed", "is_deed", defArgs st_is_deed, defBody st_is_deed, defScope st_is_deed, [], []⟩
abbrev st_check_job : Stmt := top 19
def n_check_job : List Str := ["values", "job", "one"]
def b_check_job : List Sm := [(.ife (.not (.val (.call 0 [(.var 0)]))) [.never] []), (.ife (.bop false [(.not (.val (.bi (.isinst "tuple") [(.var 1)]))), (.cmp .Gt (.bi .len [(.var 1)]) (.glob "MOST_DEEDS" (.int 60))), (.not (.val (.bi .all [(.comp false (.call 1 [(.var 2), (.bi .len [(.var 0)])]) (.name 2) (.seq (.var 1)) .yes [2])])))]) [.never] [])]
def t_check_job : Tab := ⟨[⟨"are_values", 1, 1, [], [0], d_are_values⟩, ⟨"is_deed", 2, 2, [], [0, 1], d_is_deed⟩], ["isinstance", "tuple", "len", "all"], [("MOST_DEEDS", (.int 60))]⟩
def d_check_job : Fn := evF (fnsOf t_check_job) 3 b_check_job
theorem c_check_job : chkSs t_check_job n_check_job (defScope st_check_job) b_check_job (defBody st_check_job) = true := by decide +kernel
theorem s_check_job : C8.scC n_check_job ["values", "job"] (defScope st_check_job) = true := by decide +kernel
def f_check_job : He.DefD := ⟨("check_job", none), "check_job", "check_job", defArgs st_check_job, defBody st_check_job, defScope st_check_job, [], []⟩
abbrev st_is_pair : Stmt := top 20
def n_is_pair : List Str := ["value", "one"]
def b_is_pair : List Sm := [(.ret (.bop true [(.bi (.isinst "tuple") [(.var 0)]), (.cmp .Eq (.bi .len [(.var 0)]) (.const (.int 2))), (.bi .all [(.comp false (.bop true [(.call 0 [(.var 1)]), (.cmp .GtE (.var 1) (.const (.int 0)))]) (.name 1) (.seq (.var 0)) .yes [1])])]))]
def t_is_pair : Tab := ⟨[⟨"is_integer", 1, 1, [], [0], d_is_integer⟩], ["isinstance", "tuple", "len", "all"], []⟩
def d_is_pair : Fn := evF (fnsOf t_is_pair) 2 b_is_pair
theorem c_is_pair : chkSs t_is_pair n_is_pair (defScope st_is_pair) b_is_pair (defBody st_is_pair) = true := by decide +kernel
theorem s_is_pair : C8.scC n_is_pair ["value"] (defScope st_is_pair) = true := by decide +kernel
def f_is_pair : He.DefD := ⟨("is_pair", none), "is_pair", "is_pair", defArgs st_is_pair, defBody st_is_pair, defScope st_is_pair, [], []⟩
abbrev st_are_pairs : Stmt := top 21
def n_are_pairs : List Str := ["value", "many", "one"]
def b_are_pairs : List Sm := [(.ret (.bop true [(.bi (.isinst "tuple") [(.var 0)]), (.cmp .Eq (.bi .len [(.var 0)]) (.var 1)), (.bi .all [(.comp false (.call 0 [(.var 2)]) (.name 2) (.seq (.var 0)) .yes [2])])]))]
def t_are_pairs : Tab := ⟨[⟨"is_pair", 1, 1, [], [0], d_is_pair⟩], ["isinstance", "tuple", "len", "all"], []⟩
def d_are_pairs : Fn := evF (fnsOf t_are_pairs) 3 b_are_pairs
theorem c_are_pairs : chkSs t_are_pairs n_are_pairs (defScope st_are_pairs) b_are_pairs (defBody st_are_pairs) = true := by decide +kernel
theorem s_are_pairs : C8.scC n_are_pairs ["value", "many"] (defScope st_are_pairs) = true := by decide +kernel
def f_are_pairs : He.DefD := ⟨("are_pairs", none), "are_pairs", "are_pairs", defArgs st_are_pairs, defBody st_are_pairs, defScope st_are_pairs, [], []⟩
abbrev st_check_answers : Stmt := top 22
def n_check_answers : List Str := ["values", "job", "answers"]
def b_check_answers : List Sm := [(.expr (.call 0 [(.var 0), (.var 1)])), (.ife (.bop false [(.not (.val (.bi (.isinst "tuple") [(.var 2)]))), (.cmp .NotEq (.bi .len [(.var 2)]) (.const (.int 2)))]) [.never] []), (.ife (.bop false [(.not (.val (.call 1 [(.ix (.var 2) (.const (.int 0))), (.bi .len [(.var 1)])]))), (.not (.val (.call 1 [(.ix (.var 2) (.const (.int 1))), (.bi .len [(.var 0)])])))]) [.never] [])]
def t_check_answers : Tab := ⟨[⟨"check_job", 2, 2, [], [0, 1], d_check_job⟩, ⟨"are_pairs", 2, 2, [], [0, 1], d_are_pairs⟩], ["isinstance", "tuple", "len"], []⟩
def d_check_answers : Fn := evF (fnsOf t_check_answers) 3 b_check_answers
theorem c_check_answers : chkSs t_check_answers n_check_answers (defScope st_check_answers) b_check_answers (defBody st_check_answers) = true := by decide +kernel
theorem s_check_answers : C8.scC n_check_answers ["values", "job", "answers"] (defScope st_check_answers) = true := by decide +kernel
def f_check_answers : He.DefD := ⟨("check_answers", none), "check_answers", "check_answers", defArgs st_check_answers, defBody st_check_answers, defScope st_check_answers, [], []⟩
abbrev st_late_deed : Stmt := top 24
def n_late_deed : List Str := ["job", "answers", "bound", "number", "value", "moment"]
def b_late_deed : List Sm := [(.for_ (.tup [(.name 3), (.tup [(.name 4), (.name 5)])]) (.enum (.ix (.var 1) (.const (.int 0)))) [(.ife (.bop false [(.cmp .Gt (.var 5) (.var 3)), (.bop true [(.cmp .IsNot (.var 2) (.const .non)), (.cmp .GtE (.var 4) (.var 2))])]) [(.ret (.bin .Add (.var 3) (.const (.int 1))))] [])]), (.ret (.const .non))]
def t_late_deed : Tab := ⟨[], ["enumerate"], []⟩
def d_late_deed : Fn := evF (fnsOf t_late_deed) 6 b_late_deed
theorem c_late_deed : chkSs t_late_deed n_late_deed (defScope st_late_deed) b_late_deed (defBody st_late_deed) = true := by decide +kernel
theorem s_late_deed : C8.scC n_late_deed ["job", "answers", "bound"] (defScope st_late_deed) = true := by decide +kernel
def f_late_deed : He.DefD := ⟨("late_deed", none), "late_deed", "late_deed", defArgs st_late_deed, defBody st_late_deed, defScope st_late_deed, [], []⟩
abbrev st_value_behind : Stmt := top 23
def n_value_behind : List Str := ["deed", "pair"]
def b_value_behind : List Sm := [(.ret (.ifx (.cmp .Eq (.ix (.var 0) (.const (.int 0))) (.glob "READ" (.str "read"))) (.ix (.var 1) (.const (.int 0))) (.ix (.var 0) (.const (.int 2)))))]
def t_value_behind : Tab := ⟨[], [], [("READ", (.str "read"))]⟩
def d_value_behind : Fn := evF (fnsOf t_value_behind) 2 b_value_behind
theorem c_value_behind : chkSs t_value_behind n_value_behind (defScope st_value_behind) b_value_behind (defBody st_value_behind) = true := by decide +kernel
theorem s_value_behind : C8.scC n_value_behind ["deed", "pair"] (defScope st_value_behind) = true := by decide +kernel
def f_value_behind : He.DefD := ⟨("value_behind", none), "value_behind", "value_behind", defArgs st_value_behind, defBody st_value_behind, defScope st_value_behind, [], []⟩
abbrev st_piles_of : Stmt := top 25
def n_piles_of : List Str := ["values", "job", "answers", "put", "taken", "number", "deed", "pair", "place", "value"]
def b_piles_of : List Sm := [(.par [3, 4] [(.comp true (.tup [(.var 8), (.var 9), (.const (.int 0))]) (.tup [(.name 8), (.name 9)]) (.enum (.var 0)) .yes [8, 9]), (.lst true [])]), (.for_ (.tup [(.name 5), (.tup [(.name 6), (.name 7)])]) (.enz (.var 1) (.ix (.var 2) (.const (.int 0)))) [(.expr (.mt .append (.var 4) [(.tupS [(.one (.ix (.var 6) (.const (.int 1)))), (.star (.var 7))])])), (.expr (.mt .append (.var 3) [(.tup [(.ix (.var 6) (.const (.int 1))), (.call 0 [(.var 6), (.var 7)]), (.bin .Add (.var 5) (.const (.int 1)))])]))]), (.expr (.mt .extend (.var 4) [(.comp false (.tupS [(.one (.var 8)), (.star (.var 7))]) (.tup [(.name 8), (.name 7)]) (.enum (.ix (.var 2) (.const (.int 1)))) .yes [8, 7])])), (.ret (.tup [(.frz (.var 3)), (.frz (.var 4))]))]
def t_piles_of : Tab := ⟨[⟨"value_behind", 2, 2, [], [0, 1], d_value_behind⟩], ["enumerate", "zip"], []⟩
def d_piles_of : Fn := evF (fnsOf t_piles_of) 10 b_piles_of
theorem c_piles_of : chkSs t_piles_of n_piles_of (defScope st_piles_of) b_piles_of (defBody st_piles_of) = true := by decide +kernel
theorem s_piles_of : C8.scC n_piles_of ["values", "job", "answers"] (defScope st_piles_of) = true := by decide +kernel
def f_piles_of : He.DefD := ⟨("piles_of", none), "piles_of", "piles_of", defArgs st_piles_of, defBody st_piles_of, defScope st_piles_of, [], []⟩
abbrev st_least_unlike : Stmt := top 26
def n_least_unlike : List Str := ["put", "taken", "often", "triple", "unlike", "many"]
def b_least_unlike : List Sm := [(.asg (.name 2) (.dict true)), (.for_ (.name 3) (.seq (.var 0)) [(.set (.var 2) (.var 3) (.bin .Add (.mt .get (.var 2) [(.var 3), (.const (.int 0))]) (.const (.int 1))))]), (.for_ (.name 3) (.seq (.var 1)) [(.set (.var 2) (.var 3) (.bin .Sub (.mt .get (.var 2) [(.var 3), (.const (.int 0))]) (.const (.int 1))))]), (.asg (.name 4) (.comp false (.var 3) (.tup [(.name 3), (.name 5)]) (.items (.frz (.var 2))) (.cmp .NotEq (.var 5) (.const (.int 0))) [3, 5])), (.ret (.ifx (.val (.var 4)) (.bi .min [(.var 4)]) (.const .non)))]
def t_least_unlike : Tab := ⟨[], ["min"], []⟩
def d_least_unlike : Fn := evF (fnsOf t_least_unlike) 6 b_least_unlike
theorem c_least_unlike : chkSs t_least_unlike n_least_unlike (defScope st_least_unlike) b_least_unlike (defBody st_least_unlike) = true := by decide +kernel
theorem s_least_unlike : C8.scC n_least_unlike ["put", "taken"] (defScope st_least_unlike) = true := by decide +kernel
def f_least_unlike : He.DefD := ⟨("least_unlike", none), "least_unlike", "least_unlike", defArgs st_least_unlike, defBody st_least_unlike, defScope st_least_unlike, [], []⟩
abbrev st_tallies : Stmt := top 27
def n_tallies : List Str := ["values", "job", "answers", "late", "put", "taken", "unlike"]
def b_tallies : List Sm := [(.expr (.call 0 [(.var 0), (.var 1), (.var 2)])), (.asg (.name 3) (.call 1 [(.var 1), (.var 2), (.const .non)])), (.ife (.cmp .IsNot (.var 3) (.const .non)) [(.ret (.tup [(.glob "LATE" (.str "late")), (.var 3)]))] []), (.asg (.tup [(.name 4), (.name 5)]) (.call 2 [(.var 0), (.var 1), (.var 2)])), (.asg (.name 6) (.call 3 [(.var 4), (.var 5)])), (.ret (.ifx (.cmp .Is (.var 6) (.const .non)) (.glob "LET" (.rtp [(.str "let")])) (.tup [(.glob "UNLIKE" (.str "unlike")), (.var 6)])))]
def t_tallies : Tab := ⟨[⟨"check_answers", 3, 3, [], [0, 1, 2], d_check_answers⟩, ⟨"late_deed", 3, 3, [], [0, 1, 2], d_late_deed⟩, ⟨"piles_of", 3, 3, [], [0, 1, 2], d_piles_of⟩, ⟨"least_unlike", 2, 2, [], [0, 1], d_least_unlike⟩], [], [("LATE", (.str "late")), ("LET", (.rtp [(.str "let")])), ("UNLIKE", (.str "unlike"))]⟩
def d_tallies : Fn := evF (fnsOf t_tallies) 7 b_tallies
theorem c_tallies : chkSs t_tallies n_tallies (defScope st_tallies) b_tallies (defBody st_tallies) = true := by decide +kernel
theorem s_tallies : C8.scC n_tallies ["values", "job", "answers"] (defScope st_tallies) = true := by decide +kernel
def f_tallies : He.DefD := ⟨("tallies", none), "tallies", "tallies", defArgs st_tallies, defBody st_tallies, defScope st_tallies, [], []⟩
abbrev st__law_right : Stmt := top 42
def n__law_right : List Str := ["pot", "lap", "values", "job", "answers", "due"]
def b__law_right : List Sm := [(.for_ (.name 1) (.range [(.const (.int 6))]) [(.asg (.name 2) (.call 0 [(.var 0), (.const (.int 6))])), (.asg (.name 3) (.call 1 [(.var 0), (.bi .len [(.var 2)]), (.call 2 [(.var 0), (.lst false [(.const (.int 2)), (.const (.int 5)), (.const (.int 10)), (.const (.int 20))])])])), (.asg (.name 4) (.call 3 [(.var 0), (.var 2), (.var 3)])), (.asg (.name 5) (.call 4 [(.var 2), (.var 3), (.var 4)])), (.ife (.cmp .NotEq (.cmp .Eq (.var 5) (.tup [(.const (.str "let"))])) (.cmp .Eq (.var 4) (.call 5 [(.var 2), (.var 3)]))) [(.ret (.const (.bl false)))] []), (.ife (.cmp .NotEq (.bi .repr [(.call 6 [(.var 2), (.var 3), (.var 4)])]) (.bi .repr [(.var 5)])) [(.ret (.const (.bl false)))] []), (.ife (.cmp .NotEq (.bi .repr [(.call 7 [(.call 5 [(.var 2), (.var 3)]), (.var 3), (.var 2)])]) (.bi .repr [(.tup [(.const (.str "let"))])])) [(.ret (.const (.bl false)))] [])]), (.ret (.const (.bl true)))]
def t__law_right : Tab := ⟨[⟨"_law_values", 2, 2, [], [0, 1], d__law_values⟩, ⟨"_law_job", 3, 3, [], [0, 1, 2], d__law_job⟩, ⟨"_law_of", 2, 2, [], [0, 1], d__law_of⟩, ⟨"_law_lie", 3, 3, [], [0, 1, 2], d__law_lie⟩, ⟨"_law_due", 3, 3, [], [0, 1, 2], d__law_due⟩, ⟨"_law_plain", 2, 2, [], [0, 1], d__law_plain⟩, ⟨"tallies", 3, 3, [], [0, 1, 2], d_tallies⟩, ⟨"tallies", 3, 0, ["answers", "job", "values"], [2, 1, 0], d_tallies⟩], ["range", "len", "repr"], []⟩
def d__law_right : Fn := evF (fnsOf t__law_right) 6 b__law_right
theorem c__law_right : chkSs t__law_right n__law_right (defScope st__law_right) b__law_right (defBody st__law_right) = true := by decide +kernel
theorem s__law_right : C8.scC n__law_right ["pot"] (defScope st__law_right) = true := by decide +kernel
def f__law_right : He.DefD := ⟨("_law_right", none), "_law_right", "_law_right", defArgs st__law_right, defBody st__law_right, defScope st__law_right, [], []⟩
abbrev st__law_pot : Stmt := top 29
def n__law_pot : List Str := ["script", "place", "cell", "own", "small"]
def b__law_pot : List Sm := [(.asg (.name 2) (.ifx (.cmp .Lt (.var 1) (.bi .len [(.var 0)])) (.ix (.var 0) (.var 1)) (.bin .Add (.bin .Add (.bin .Mod (.bi .sum [(.slice (.var 0) (.const .non) (.const (.int 1)) false true)]) (.const (.int 1000003))) (.bin .Mult (.const (.int 1999)) (.var 1))) (.const (.int 1349))))), (.asg (.name 3) (.bin .Mult (.bin .Mod (.bi .int [(.bi .abs [(.var 2)])]) (.bin .Pow (.bin .Pow (.const (.int 10)) (.const (.int 60))) (.const (.int 5)))) (.bi .int [(.cmp .GtE (.bi .abs [(.var 2)]) (.bin .Pow (.const (.int 10)) (.const (.int 18))))]))), (.asg (.name 4) (.bin .Mod (.bi .int [(.var 2)]) (.const (.int 2305843009213693951)))), (.ret (.lst true [(.var 3), (.bin .Mod (.bi .int [(.bin .Add (.bin .Add (.bin .Mult (.var 4) (.const (.int 73877))) (.bin .Mult (.bin .Mult (.const (.int 8459)) (.var 1)) (.var 1))) (.const (.int 1143)))]) (.const (.int 2305843009213693921))), (.const (.int 0))]))]
def t__law_pot : Tab := ⟨[], ["len", "sum", "int", "abs"], []⟩
def d__law_pot : Fn := evF (fnsOf t__law_pot) 5 b__law_pot
theorem c__law_pot : chkSs t__law_pot n__law_pot (defScope st__law_pot) b__law_pot (defBody st__law_pot) = true := by decide +kernel
theorem s__law_pot : C8.scC n__law_pot ["script", "place"] (defScope st__law_pot) = true := by decide +kernel
def f__law_pot : He.DefD := ⟨("_law_pot", none), "_law_pot", "_law_pot", defArgs st__law_pot, defBody st__law_pot, defScope st__law_pot, [], []⟩
abbrev st__law_cells : Stmt := top 32
def n__law_cells : List Str := ["script", "most"]
def b__law_cells : List Sm := [(.ret (.lrange false [(.bi .max [(.const (.int 1)), (.bi .min [(.var 1), (.bi .len [(.var 0)])])])]))]
def t__law_cells : Tab := ⟨[], ["list", "range", "max", "min", "len"], []⟩
def d__law_cells : Fn := evF (fnsOf t__law_cells) 2 b__law_cells
theorem c__law_cells : chkSs t__law_cells n__law_cells (defScope st__law_cells) b__law_cells (defBody st__law_cells) = true := by decide +kernel
theorem s__law_cells : C8.scC n__law_cells ["script", "most"] (defScope st__law_cells) = true := by decide +kernel
def f__law_cells : He.DefD := ⟨("_law_cells", none), "_law_cells", "_law_cells", defArgs st__law_cells, defBody st__law_cells, defScope st__law_cells, [], []⟩
abbrev st_law : Stmt := top 43
def n_law : List Str := ["script", "place"]
def b_law : List Sm := [(.ret (.bi .all [(.comp false (.call 1 [(.call 2 [(.var 0), (.var 1)])]) (.name 1) (.seq (.call 0 [(.var 0), (.const (.int 2))])) .yes [1])]))]
def t_law : Tab := ⟨[⟨"_law_cells", 2, 2, [], [0, 1], d__law_cells⟩, ⟨"_law_right", 1, 1, [], [0], d__law_right⟩, ⟨"_law_pot", 2, 2, [], [0, 1], d__law_pot⟩], ["all"], []⟩
def d_law : Fn := evF (fnsOf t_law) 2 b_law
theorem c_law : chkSs t_law n_law (defScope st_law) b_law (defBody st_law) = true := by decide +kernel
theorem s_law : C8.scC n_law ["script"] (defScope st_law) = true := by decide +kernel
def f_law : He.DefD := ⟨("law", none), "law", "law", defArgs st_law, defBody st_law, defScope st_law, [], []⟩
def fn : List He.DefD := [f__law_take, f__law_of, f__law_values, f__law_job, f__law_kept, f__law_plain, f__law_changed, f__law_pair_near, f__law_lie, f__law_piles, f__law_due, f_is_integer, f_is_index, f_are_values, f_is_deed, f_check_job, f_is_pair, f_are_pairs, f_check_answers, f_late_deed, f_value_behind, f_piles_of, f_least_unlike, f_tallies, f__law_right, f__law_pot, f__law_cells, f_law]
def fa : List He.Fa := [.glo "_law_take", .glo "_law_of", .glo "_law_values", .glo "_law_job", .glo "_law_kept", .glo "_law_plain", .glo "_law_changed", .glo "_law_pair_near", .glo "_law_lie", .glo "_law_piles", .glo "_law_due", .glo "is_integer", .glo "is_index", .glo "are_values", .glo "is_deed", .glo "check_job", .glo "is_pair", .glo "are_pairs", .glo "check_answers", .glo "late_deed", .glo "value_behind", .glo "piles_of", .glo "least_unlike", .glo "tallies", .glo "_law_right", .glo "_law_pot", .glo "_law_cells", .glo "law", .free "int", .free "len", .free "tuple", .free "range", .free "enumerate", .free "max", .free "min", .free "isinstance", .free "bool", .free "all", .free "str", .free "zip", .free "repr", .free "sum", .free "abs", .free "list"]
def gl : List (Str × D) := [("MOST_PLACES", (.int 16)), ("VALUES", (.int 1000003)), ("READ", (.str "read")), ("PUT", (.str "put")), ("MOST_DEEDS", (.int 60)), ("LATE", (.str "late")), ("LET", (.rtp [(.str "let")])), ("UNLIKE", (.str "unlike"))]
abbrev R : PySem.W.OpenRow := PySem.W.OpenLaw.row PySem.Challenge.rw_fewthrows_k70_whole_tallies_let_just_the
abbrev hk : PySem.W.Hook := hookG 3 gl fa fn
def ob (s : PySem.W.SharedT) : AlG := obsG gl fa fn (frT 3 (HandSHeadRun.getT s))
theorem ob_eq (s : PySem.W.SharedT) : ob s = hk.obs s.abs := obsG_eq (HandSHeadRun.getT_eq s)
def loose : List Str := (["__name__", "ThrowError", "BadAnswers", "BadValues", "BadJob", "is_integer", "is_index", "READ", "PUT", "LET", "LATE", "UNLIKE", "MOST_PLACES", "VALUES", "MOST_DEEDS", "are_values", "is_deed", "check_job", "is_pair", "are_pairs", "check_answers", "value_behind", "late_deed", "piles_of", "least_unlike", "tallies", "_law_pot", "_law_take", "_law_of", "_law_cells"] : List Str) ++ (["_law_values", "_law_job", "_law_kept", "_law_plain", "_law_changed", "_law_pair_near", "_law_lie", "_law_piles", "_law_due", "_law_right"] : List Str)
theorem run (w : World) : HandSHeadRun.RunEq R (PySem.W.view R.prog [43]) hk ob 20000 loose w := by
  intro os
  kernel_rfl
theorem k__law_take_2 {K : PySem.W.Frag} {a : Addr} {fd : FuncData} (F : FunD K "_law_take" "_law_take" (defArgs st__law_take) (defBody st__law_take) (defScope st__law_take) [] [] a fd) : BindsK fd ["pot", "upto"] [] 2 [0, 1] :=
  bindsK F fun _ _ _ _ _ _ us ws h1 h2 => match us, ws, h1, h2 with | [_, _], [], _, _ => rfl
theorem k__law_of_2 {K : PySem.W.Frag} {a : Addr} {fd : FuncData} (F : FunD K "_law_of" "_law_of" (defArgs st__law_of) (defBody st__law_of) (defScope st__law_of) [] [] a fd) : BindsK fd ["pot", "some"] [] 2 [0, 1] :=
  bindsK F fun _ _ _ _ _ _ us ws h1 h2 => match us, ws, h1, h2 with | [_, _], [], _, _ => rfl
theorem k__law_kept_3 {K : PySem.W.Frag} {a : Addr} {fd : FuncData} (F : FunD K "_law_kept" "_law_kept" (defArgs st__law_kept) (defBody st__law_kept) (defScope st__law_kept) [] [] a fd) : BindsK fd ["values", "job", "lost"] [] 3 [0, 1, 2] :=
  bindsK F fun _ _ _ _ _ _ us ws h1 h2 => match us, ws, h1, h2 with | [_, _, _], [], _, _ => rfl
theorem k__law_plain_2 {K : PySem.W.Frag} {a : Addr} {fd : FuncData} (F : FunD K "_law_plain" "_law_plain" (defArgs st__law_plain) (defBody st__law_plain) (defScope st__law_plain) [] [] a fd) : BindsK fd ["values", "job"] [] 2 [0, 1] :=
  bindsK F fun _ _ _ _ _ _ us ws h1 h2 => match us, ws, h1, h2 with | [_, _], [], _, _ => rfl
theorem k__law_changed_3 {K : PySem.W.Frag} {a : Addr} {fd : FuncData} (F : FunD K "_law_changed" "_law_changed" (defArgs st__law_changed) (defBody st__law_changed) (defScope st__law_changed) [] [] a fd) : BindsK fd ["some", "at", "one"] [] 3 [0, 1, 2] :=
  bindsK F fun _ _ _ _ _ _ us ws h1 h2 => match us, ws, h1, h2 with | [_, _, _], [], _, _ => rfl
theorem k__law_pair_near_3 {K : PySem.W.Frag} {a : Addr} {fd : FuncData} (F : FunD K "_law_pair_near" "_law_pair_near" (defArgs st__law_pair_near) (defBody st__law_pair_near) (defScope st__law_pair_near) [] [] a fd) : BindsK fd ["pot", "pair", "number"] [] 3 [0, 1, 2] :=
  bindsK F fun _ _ _ _ _ _ us ws h1 h2 => match us, ws, h1, h2 with | [_, _, _], [], _, _ => rfl
theorem k__law_piles_3 {K : PySem.W.Frag} {a : Addr} {fd : FuncData} (F : FunD K "_law_piles" "_law_piles" (defArgs st__law_piles) (defBody st__law_piles) (defScope st__law_piles) [] [] a fd) : BindsK fd ["values", "job", "answers"] [] 3 [0, 1, 2] :=
  bindsK F fun _ _ _ _ _ _ us ws h1 h2 => match us, ws, h1, h2 with | [_, _, _], [], _, _ => rfl
theorem k_is_integer_1 {K : PySem.W.Frag} {a : Addr} {fd : FuncData} (F : FunD K "is_integer" "is_integer" (defArgs st_is_integer) (defBody st_is_integer) (defScope st_is_integer) [] [] a fd) : BindsK fd ["value"] [] 1 [0] :=
  bindsK F fun _ _ _ _ _ _ us ws h1 h2 => match us, ws, h1, h2 with | [_], [], _, _ => rfl
theorem k_is_index_2 {K : PySem.W.Frag} {a : Addr} {fd : FuncData} (F : FunD K "is_index" "is_index" (defArgs st_is_index) (defBody st_is_index) (defScope st_is_index) [] [] a fd) : BindsK fd ["value", "many"] [] 2 [0, 1] :=
  bindsK F fun _ _ _ _ _ _ us ws h1 h2 => match us, ws, h1, h2 with | [_, _], [], _, _ => rfl
theorem k_are_values_1 {K : PySem.W.Frag} {a : Addr} {fd : FuncData} (F : FunD K "are_values" "are_values" (defArgs st_are_values) (defBody st_are_values) (defScope st_are_values) [] [] a fd) : BindsK fd ["values"] [] 1 [0] :=
  bindsK F fun _ _ _ _ _ _ us ws h1 h2 => match us, ws, h1, h2 with | [_], [], _, _ => rfl
theorem k_is_deed_2 {K : PySem.W.Frag} {a : Addr} {fd : FuncData} (F : FunD K "is_deed" "is_deed" (defArgs st_is_deed) (defBody st_is_deed) (defScope st_is_deed) [] [] a fd) : BindsK fd ["value", "places"] [] 2 [0, 1] :=
  bindsK F fun _ _ _ _ _ _ us ws h1 h2 => match us, ws, h1, h2 with | [_, _], [], _, _ => rfl
theorem k_is_pair_1 {K : PySem.W.Frag} {a : Addr} {fd : FuncData} (F : FunD K "is_pair" "is_pair" (defArgs st_is_pair) (defBody st_is_pair) (defScope st_is_pair) [] [] a fd) : BindsK fd ["value"] [] 1 [0] :=
  bindsK F fun _ _ _ _ _ _ us ws h1 h2 => match us, ws, h1, h2 with | [_], [], _, _ => rfl
theorem k_check_job_2 {K : PySem.W.Frag} {a : Addr} {fd : FuncData} (F : FunD K "check_job" "check_job" (defArgs st_check_job) (defBody st_check_job) (defScope st_check_job) [] [] a fd) : BindsK fd ["values", "job"] [] 2 [0, 1] :=
  bindsK F fun _ _ _ _ _ _ us ws h1 h2 => match us, ws, h1, h2 with | [_, _], [], _, _ => rfl
theorem k_are_pairs_2 {K : PySem.W.Frag} {a : Addr} {fd : FuncData} (F : FunD K "are_pairs" "are_pairs" (defArgs st_are_pairs) (defBody st_are_pairs) (defScope st_are_pairs) [] [] a fd) : BindsK fd ["value", "many"] [] 2 [0, 1] :=
  bindsK F fun _ _ _ _ _ _ us ws h1 h2 => match us, ws, h1, h2 with | [_, _], [], _, _ => rfl
theorem k_value_behind_2 {K : PySem.W.Frag} {a : Addr} {fd : FuncData} (F : FunD K "value_behind" "value_behind" (defArgs st_value_behind) (defBody st_value_behind) (defScope st_value_behind) [] [] a fd) : BindsK fd ["deed", "pair"] [] 2 [0, 1] :=
  bindsK F fun _ _ _ _ _ _ us ws h1 h2 => match us, ws, h1, h2 with | [_, _], [], _, _ => rfl
theorem k_check_answers_3 {K : PySem.W.Frag} {a : Addr} {fd : FuncData} (F : FunD K "check_answers" "check_answers" (defArgs st_check_answers) (defBody st_check_answers) (defScope st_check_answers) [] [] a fd) : BindsK fd ["values", "job", "answers"] [] 3 [0, 1, 2] :=
  bindsK F fun _ _ _ _ _ _ us ws h1 h2 => match us, ws, h1, h2 with | [_, _, _], [], _, _ => rfl
theorem k_late_deed_3 {K : PySem.W.Frag} {a : Addr} {fd : FuncData} (F : FunD K "late_deed" "late_deed" (defArgs st_late_deed) (defBody st_late_deed) (defScope st_late_deed) [] [] a fd) : BindsK fd ["job", "answers", "bound"] [] 3 [0, 1, 2] :=
  bindsK F fun _ _ _ _ _ _ us ws h1 h2 => match us, ws, h1, h2 with | [_, _, _], [], _, _ => rfl
theorem k_piles_of_3 {K : PySem.W.Frag} {a : Addr} {fd : FuncData} (F : FunD K "piles_of" "piles_of" (defArgs st_piles_of) (defBody st_piles_of) (defScope st_piles_of) [] [] a fd) : BindsK fd ["values", "job", "answers"] [] 3 [0, 1, 2] :=
  bindsK F fun _ _ _ _ _ _ us ws h1 h2 => match us, ws, h1, h2 with | [_, _, _], [], _, _ => rfl
theorem k_least_unlike_2 {K : PySem.W.Frag} {a : Addr} {fd : FuncData} (F : FunD K "least_unlike" "least_unlike" (defArgs st_least_unlike) (defBody st_least_unlike) (defScope st_least_unlike) [] [] a fd) : BindsK fd ["put", "taken"] [] 2 [0, 1] :=
  bindsK F fun _ _ _ _ _ _ us ws h1 h2 => match us, ws, h1, h2 with | [_, _], [], _, _ => rfl
theorem k__law_values_2 {K : PySem.W.Frag} {a : Addr} {fd : FuncData} (F : FunD K "_law_values" "_law_values" (defArgs st__law_values) (defBody st__law_values) (defScope st__law_values) [] [] a fd) : BindsK fd ["pot", "most"] [] 2 [0, 1] :=
  bindsK F fun _ _ _ _ _ _ us ws h1 h2 => match us, ws, h1, h2 with | [_, _], [], _, _ => rfl
theorem k__law_job_3 {K : PySem.W.Frag} {a : Addr} {fd : FuncData} (F : FunD K "_law_job" "_law_job" (defArgs st__law_job) (defBody st__law_job) (defScope st__law_job) [] [] a fd) : BindsK fd ["pot", "places", "most"] [] 3 [0, 1, 2] :=
  bindsK F fun _ _ _ _ _ _ us ws h1 h2 => match us, ws, h1, h2 with | [_, _, _], [], _, _ => rfl
theorem k__law_lie_3 {K : PySem.W.Frag} {a : Addr} {fd : FuncData} (F : FunD K "_law_lie" "_law_lie" (defArgs st__law_lie) (defBody st__law_lie) (defScope st__law_lie) [] [] a fd) : BindsK fd ["pot", "values", "job"] [] 3 [0, 1, 2] :=
  bindsK F fun _ _ _ _ _ _ us ws h1 h2 => match us, ws, h1, h2 with | [_, _, _], [], _, _ => rfl
theorem k__law_due_3 {K : PySem.W.Frag} {a : Addr} {fd : FuncData} (F : FunD K "_law_due" "_law_due" (defArgs st__law_due) (defBody st__law_due) (defScope st__law_due) [] [] a fd) : BindsK fd ["values", "job", "answers"] [] 3 [0, 1, 2] :=
  bindsK F fun _ _ _ _ _ _ us ws h1 h2 => match us, ws, h1, h2 with | [_, _, _], [], _, _ => rfl
theorem k_tallies_3 {K : PySem.W.Frag} {a : Addr} {fd : FuncData} (F : FunD K "tallies" "tallies" (defArgs st_tallies) (defBody st_tallies) (defScope st_tallies) [] [] a fd) : BindsK fd ["values", "job", "answers"] [] 3 [0, 1, 2] :=
  bindsK F fun _ _ _ _ _ _ us ws h1 h2 => match us, ws, h1, h2 with | [_, _, _], [], _, _ => rfl
theorem k_tallies_0_answers_job_values {K : PySem.W.Frag} {a : Addr} {fd : FuncData} (F : FunD K "tallies" "tallies" (defArgs st_tallies) (defBody st_tallies) (defScope st_tallies) [] [] a fd) : BindsK fd ["values", "job", "answers"] ["answers", "job", "values"] 0 [2, 1, 0] :=
  bindsK F fun _ _ _ _ _ _ us ws h1 h2 => match us, ws, h1, h2 with | [], [_, _, _], _, _ => rfl
theorem k__law_cells_2 {K : PySem.W.Frag} {a : Addr} {fd : FuncData} (F : FunD K "_law_cells" "_law_cells" (defArgs st__law_cells) (defBody st__law_cells) (defScope st__law_cells) [] [] a fd) : BindsK fd ["script", "most"] [] 2 [0, 1] :=
  bindsK F fun _ _ _ _ _ _ us ws h1 h2 => match us, ws, h1, h2 with | [_, _], [], _, _ => rfl
theorem k__law_right_1 {K : PySem.W.Frag} {a : Addr} {fd : FuncData} (F : FunD K "_law_right" "_law_right" (defArgs st__law_right) (defBody st__law_right) (defScope st__law_right) [] [] a fd) : BindsK fd ["pot"] [] 1 [0] :=
  bindsK F fun _ _ _ _ _ _ us ws h1 h2 => match us, ws, h1, h2 with | [_], [], _, _ => rfl
theorem k__law_pot_2 {K : PySem.W.Frag} {a : Addr} {fd : FuncData} (F : FunD K "_law_pot" "_law_pot" (defArgs st__law_pot) (defBody st__law_pot) (defScope st__law_pot) [] [] a fd) : BindsK fd ["script", "place"] [] 2 [0, 1] :=
  bindsK F fun _ _ _ _ _ _ us ws h1 h2 => match us, ws, h1, h2 with | [_, _], [], _, _ => rfl
theorem k_law_1 {K : PySem.W.Frag} {a : Addr} {fd : FuncData} (F : FunD K "law" "law" (defArgs st_law) (defBody st_law) (defScope st_law) [] [] a fd) : BindsK fd ["script"] [] 1 [0] :=
  bindsK F fun _ _ _ _ _ _ us ws h1 h2 => match us, ws, h1, h2 with | [_], [], _, _ => rfl
theorem facts {P : Program} {w : World} {K : PySem.W.Frag} {h : Heap} {mg : Str → Option Value} {f : Addr} (X : K.In h) (G : h.Ns mainGlobals mg) (hfa : mg ("law" : Str) = some (.ref f)) (c : SaysG gl fa fn K) :
    ∃ fd : FuncData, (∀ (s : Shared) (v : Value), BindsTo s fd ⟨[v], []⟩ [("script", v)]) ∧ ∀ base : Heap, K.In base → base.Ns mainGlobals mg → base.NoDigits → FnG P w K mg base 8 f fd ["script"] (spD K mg 1 d_law) := by
  obtain ⟨fd__law_take, F__law_take⟩ := c.df.def_ 0 (d := f__law_take) rfl
  have m__law_take := He.glo_ok X G (c.df.fact 0 (f := .glo "_law_take") rfl)
  obtain ⟨fd__law_of, F__law_of⟩ := c.df.def_ 1 (d := f__law_of) rfl
  have m__law_of := He.glo_ok X G (c.df.fact 1 (f := .glo "_law_of") rfl)
  obtain ⟨fd__law_values, F__law_values⟩ := c.df.def_ 2 (d := f__law_values) rfl
  have m__law_values := He.glo_ok X G (c.df.fact 2 (f := .glo "_law_values") rfl)
  obtain ⟨fd__law_job, F__law_job⟩ := c.df.def_ 3 (d := f__law_job) rfl
  have m__law_job := He.glo_ok X G (c.df.fact 3 (f := .glo "_law_job") rfl)
  obtain ⟨fd__law_kept, F__law_kept⟩ := c.df.def_ 4 (d := f__law_kept) rfl
  have m__law_kept := He.glo_ok X G (c.df.fact 4 (f := .glo "_law_kept") rfl)
  obtain ⟨fd__law_plain, F__law_plain⟩ := c.df.def_ 5 (d := f__law_plain) rfl
  have m__law_plain := He.glo_ok X G (c.df.fact 5 (f := .glo "_law_plain") rfl)
  obtain ⟨fd__law_changed, F__law_changed⟩ := c.df.def_ 6 (d := f__law_changed) rfl
  have m__law_changed := He.glo_ok X G (c.df.fact 6 (f := .glo "_law_changed") rfl)
  obtain ⟨fd__law_pair_near, F__law_pair_near⟩ := c.df.def_ 7 (d := f__law_pair_near) rfl
  have m__law_pair_near := He.glo_ok X G (c.df.fact 7 (f := .glo "_law_pair_near") rfl)
  obtain ⟨fd__law_lie, F__law_lie⟩ := c.df.def_ 8 (d := f__law_lie) rfl
  have m__law_lie := He.glo_ok X G (c.df.fact 8 (f := .glo "_law_lie") rfl)
  obtain ⟨fd__law_piles, F__law_piles⟩ := c.df.def_ 9 (d := f__law_piles) rfl
  have m__law_piles := He.glo_ok X G (c.df.fact 9 (f := .glo "_law_piles") rfl)
  obtain ⟨fd__law_due, F__law_due⟩ := c.df.def_ 10 (d := f__law_due) rfl
  have m__law_due := He.glo_ok X G (c.df.fact 10 (f := .glo "_law_due") rfl)
  obtain ⟨fd_is_integer, F_is_integer⟩ := c.df.def_ 11 (d := f_is_integer) rfl
  have m_is_integer := He.glo_ok X G (c.df.fact 11 (f := .glo "is_integer") rfl)
  obtain ⟨fd_is_index, F_is_index⟩ := c.df.def_ 12 (d := f_is_index) rfl
  have m_is_index := He.glo_ok X G (c.df.fact 12 (f := .glo "is_index") rfl)
  obtain ⟨fd_are_values, F_are_values⟩ := c.df.def_ 13 (d := f_are_values) rfl
  have m_are_values := He.glo_ok X G (c.df.fact 13 (f := .glo "are_values") rfl)
  obtain ⟨fd_is_deed, F_is_deed⟩ := c.df.def_ 14 (d := f_is_deed) rfl
  have m_is_deed := He.glo_ok X G (c.df.fact 14 (f := .glo "is_deed") rfl)
  obtain ⟨fd_check_job, F_check_job⟩ := c.df.def_ 15 (d := f_check_job) rfl
  have m_check_job := He.glo_ok X G (c.df.fact 15 (f := .glo "check_job") rfl)
  obtain ⟨fd_is_pair, F_is_pair⟩ := c.df.def_ 16 (d := f_is_pair) rfl
  have m_is_pair := He.glo_ok X G (c.df.fact 16 (f := .glo "is_pair") rfl)
  obtain ⟨fd_are_pairs, F_are_pairs⟩ := c.df.def_ 17 (d := f_are_pairs) rfl
  have m_are_pairs := He.glo_ok X G (c.df.fact 17 (f := .glo "are_pairs") rfl)
  obtain ⟨fd_check_answers, F_check_answers⟩ := c.df.def_ 18 (d := f_check_answers) rfl
  have m_check_answers := He.glo_ok X G (c.df.fact 18 (f := .glo "check_answers") rfl)
  obtain ⟨fd_late_deed, F_late_deed⟩ := c.df.def_ 19 (d := f_late_deed) rfl
  have m_late_deed := He.glo_ok X G (c.df.fact 19 (f := .glo "late_deed") rfl)
  obtain ⟨fd_value_behind, F_value_behind⟩ := c.df.def_ 20 (d := f_value_behind) rfl
  have m_value_behind := He.glo_ok X G (c.df.fact 20 (f := .glo "value_behind") rfl)
  obtain ⟨fd_piles_of, F_piles_of⟩ := c.df.def_ 21 (d := f_piles_of) rfl
  have m_piles_of := He.glo_ok X G (c.df.fact 21 (f := .glo "piles_of") rfl)
  obtain ⟨fd_least_unlike, F_least_unlike⟩ := c.df.def_ 22 (d := f_least_unlike) rfl
  have m_least_unlike := He.glo_ok X G (c.df.fact 22 (f := .glo "least_unlike") rfl)
  obtain ⟨fd_tallies, F_tallies⟩ := c.df.def_ 23 (d := f_tallies) rfl
  have m_tallies := He.glo_ok X G (c.df.fact 23 (f := .glo "tallies") rfl)
  obtain ⟨fd__law_right, F__law_right⟩ := c.df.def_ 24 (d := f__law_right) rfl
  have m__law_right := He.glo_ok X G (c.df.fact 24 (f := .glo "_law_right") rfl)
  obtain ⟨fd__law_pot, F__law_pot⟩ := c.df.def_ 25 (d := f__law_pot) rfl
  have m__law_pot := He.glo_ok X G (c.df.fact 25 (f := .glo "_law_pot") rfl)
  obtain ⟨fd__law_cells, F__law_cells⟩ := c.df.def_ 26 (d := f__law_cells) rfl
  have m__law_cells := He.glo_ok X G (c.df.fact 26 (f := .glo "_law_cells") rfl)
  obtain ⟨fd_law, F_law⟩ := c.df.def_ 27 (d := f_law) rfl
  have m_law := He.glo_ok X G (c.df.fact 27 (f := .glo "law") rfl)
  have e := hfa.symm.trans m_law
  cases e
  have r_int := He.free_ok X G (c.df.fact 28 (f := .free "int") rfl)
  have r_len := He.free_ok X G (c.df.fact 29 (f := .free "len") rfl)
  have r_tuple := He.free_ok X G (c.df.fact 30 (f := .free "tuple") rfl)
  have r_range := He.free_ok X G (c.df.fact 31 (f := .free "range") rfl)
  have r_enumerate := He.free_ok X G (c.df.fact 32 (f := .free "enumerate") rfl)
  have r_max := He.free_ok X G (c.df.fact 33 (f := .free "max") rfl)
  have r_min := He.free_ok X G (c.df.fact 34 (f := .free "min") rfl)
  have r_isinstance := He.free_ok X G (c.df.fact 35 (f := .free "isinstance") rfl)
  have r_bool := He.free_ok X G (c.df.fact 36 (f := .free "bool") rfl)
  have r_all := He.free_ok X G (c.df.fact 37 (f := .free "all") rfl)
  have r_str := He.free_ok X G (c.df.fact 38 (f := .free "str") rfl)
  have r_zip := He.free_ok X G (c.df.fact 39 (f := .free "zip") rfl)
  have r_repr := He.free_ok X G (c.df.fact 40 (f := .free "repr") rfl)
  have r_sum := He.free_ok X G (c.df.fact 41 (f := .free "sum") rfl)
  have r_abs := He.free_ok X G (c.df.fact 42 (f := .free "abs") rfl)
  have r_list := He.free_ok X G (c.df.fact 43 (f := .free "list") rfl)
  have g_MOST_PLACES := gB_ok X G (c.gl _ (List.mem_of_getElem? (i := 0) (l := gl) rfl))
  have g_VALUES := gB_ok X G (c.gl _ (List.mem_of_getElem? (i := 1) (l := gl) rfl))
  have g_READ := gB_ok X G (c.gl _ (List.mem_of_getElem? (i := 2) (l := gl) rfl))
  have g_PUT := gB_ok X G (c.gl _ (List.mem_of_getElem? (i := 3) (l := gl) rfl))
  have g_MOST_DEEDS := gB_ok X G (c.gl _ (List.mem_of_getElem? (i := 4) (l := gl) rfl))
  have g_LATE := gB_ok X G (c.gl _ (List.mem_of_getElem? (i := 5) (l := gl) rfl))
  have g_LET := gB_ok X G (c.gl _ (List.mem_of_getElem? (i := 6) (l := gl) rfl))
  have g_UNLIKE := gB_ok X G (c.gl _ (List.mem_of_getElem? (i := 7) (l := gl) rfl))
  have bl := k_law_1 F_law
  refine ⟨fd_law, fun s v => bl s [v] [] rfl rfl, fun base KB GB dig => ?_⟩
  have o__law_take : FnG P w K mg base 1 _ fd__law_take ["pot", "upto"] (spD K mg 2 d__law_take) := def_ok F__law_take s__law_take (k := 0) (Γ := t__law_take) ⟨all_nil, (all_cons r_int all_nil), all_nil, dig⟩ c__law_take
  have o__law_of : FnG P w K mg base 2 _ fd__law_of ["pot", "some"] (spD K mg 2 d__law_of) := def_ok F__law_of s__law_of (k := 1) (Γ := t__law_of) ⟨(all_cons ⟨_, _, _, _, m__law_take, o__law_take, by decide, F__law_take.kp, k__law_take_2 F__law_take⟩ all_nil), (all_cons r_len all_nil), all_nil, dig⟩ c__law_of
  have o__law_values : FnG P w K mg base 3 _ fd__law_values ["pot", "most"] (spD K mg 2 d__law_values) := def_ok F__law_values s__law_values (k := 2) (Γ := t__law_values) ⟨(all_cons ⟨_, _, _, _, m__law_take, o__law_take, by decide, F__law_take.kp, k__law_take_2 F__law_take⟩ (all_cons ⟨_, _, _, _, m__law_of, o__law_of, by decide, F__law_of.kp, k__law_of_2 F__law_of⟩ all_nil)), (all_cons r_tuple (all_cons r_range (all_cons r_int all_nil))), all_nil, dig⟩ c__law_values
  have o__law_job : FnG P w K mg base 3 _ fd__law_job ["pot", "places", "most"] (spD K mg 3 d__law_job) := def_ok F__law_job s__law_job (k := 2) (Γ := t__law_job) ⟨(all_cons ⟨_, _, _, _, m__law_take, o__law_take, by decide, F__law_take.kp, k__law_take_2 F__law_take⟩ (all_cons ⟨_, _, _, _, m__law_of, o__law_of, by decide, F__law_of.kp, k__law_of_2 F__law_of⟩ all_nil)), (all_cons r_range (all_cons r_int (all_cons r_tuple all_nil))), all_nil, dig⟩ c__law_job
  have o__law_kept : FnG P w K mg base 1 _ fd__law_kept ["values", "job", "lost"] (spD K mg 3 d__law_kept) := def_ok F__law_kept s__law_kept (k := 0) (Γ := t__law_kept) ⟨all_nil, (all_cons r_enumerate (all_cons r_tuple all_nil)), all_nil, dig⟩ c__law_kept
  have o__law_plain : FnG P w K mg base 2 _ fd__law_plain ["values", "job"] (spD K mg 2 d__law_plain) := def_ok F__law_plain s__law_plain (k := 1) (Γ := t__law_plain) ⟨(all_cons ⟨_, _, _, _, m__law_kept, o__law_kept, by decide, F__law_kept.kp, k__law_kept_3 F__law_kept⟩ all_nil), all_nil, all_nil, dig⟩ c__law_plain
  have o__law_changed : FnG P w K mg base 1 _ fd__law_changed ["some", "at", "one"] (spD K mg 3 d__law_changed) := def_ok F__law_changed s__law_changed (k := 0) (Γ := t__law_changed) ⟨all_nil, all_nil, all_nil, dig⟩ c__law_changed
  have o__law_pair_near : FnG P w K mg base 3 _ fd__law_pair_near ["pot", "pair", "number"] (spD K mg 3 d__law_pair_near) := def_ok F__law_pair_near s__law_pair_near (k := 2) (Γ := t__law_pair_near) ⟨(all_cons ⟨_, _, _, _, m__law_of, o__law_of, by decide, F__law_of.kp, k__law_of_2 F__law_of⟩ all_nil), (all_cons r_max all_nil), all_nil, dig⟩ c__law_pair_near
  have o__law_lie : FnG P w K mg base 4 _ fd__law_lie ["pot", "values", "job"] (spD K mg 3 d__law_lie) := def_ok F__law_lie s__law_lie (k := 3) (Γ := t__law_lie) ⟨(all_cons ⟨_, _, _, _, m__law_kept, o__law_kept, by decide, F__law_kept.kp, k__law_kept_3 F__law_kept⟩ (all_cons ⟨_, _, _, _, m__law_take, o__law_take, by decide, F__law_take.kp, k__law_take_2 F__law_take⟩ (all_cons ⟨_, _, _, _, m__law_plain, o__law_plain, by decide, F__law_plain.kp, k__law_plain_2 F__law_plain⟩ (all_cons ⟨_, _, _, _, m__law_changed, o__law_changed, by decide, F__law_changed.kp, k__law_changed_3 F__law_changed⟩ (all_cons ⟨_, _, _, _, m__law_pair_near, o__law_pair_near, by decide, F__law_pair_near.kp, k__law_pair_near_3 F__law_pair_near⟩ (all_cons ⟨_, _, _, _, m__law_of, o__law_of, by decide, F__law_of.kp, k__law_of_2 F__law_of⟩ all_nil)))))), (all_cons r_range (all_cons r_len all_nil)), all_nil, dig⟩ c__law_lie
  have o__law_piles : FnG P w K mg base 1 _ fd__law_piles ["values", "job", "answers"] (spD K mg 3 d__law_piles) := def_ok F__law_piles s__law_piles (k := 0) (Γ := t__law_piles) ⟨all_nil, (all_cons r_enumerate all_nil), all_nil, dig⟩ c__law_piles
  have o__law_due : FnG P w K mg base 2 _ fd__law_due ["values", "job", "answers"] (spD K mg 3 d__law_due) := def_ok F__law_due s__law_due (k := 1) (Γ := t__law_due) ⟨(all_cons ⟨_, _, _, _, m__law_piles, o__law_piles, by decide, F__law_piles.kp, k__law_piles_3 F__law_piles⟩ all_nil), (all_cons r_range (all_cons r_len (all_cons r_min all_nil))), all_nil, dig⟩ c__law_due
  have o_is_integer : FnG P w K mg base 1 _ fd_is_integer ["value"] (spD K mg 1 d_is_integer) := def_ok F_is_integer s_is_integer (k := 0) (Γ := t_is_integer) ⟨all_nil, (all_cons r_isinstance (all_cons r_int (all_cons r_bool all_nil))), all_nil, dig⟩ c_is_integer
  have o_is_index : FnG P w K mg base 2 _ fd_is_index ["value", "many"] (spD K mg 2 d_is_index) := def_ok F_is_index s_is_index (k := 1) (Γ := t_is_index) ⟨(all_cons ⟨_, _, _, _, m_is_integer, o_is_integer, by decide, F_is_integer.kp, k_is_integer_1 F_is_integer⟩ all_nil), all_nil, all_nil, dig⟩ c_is_index
  have o_are_values : FnG P w K mg base 3 _ fd_are_values ["values"] (spD K mg 1 d_are_values) := def_ok F_are_values s_are_values (k := 2) (Γ := t_are_values) ⟨(all_cons ⟨_, _, _, _, m_is_index, o_is_index, by decide, F_is_index.kp, k_is_index_2 F_is_index⟩ all_nil), (all_cons r_isinstance (all_cons r_tuple (all_cons r_len (all_cons r_all all_nil)))), (all_cons g_MOST_PLACES (all_cons g_VALUES all_nil)), dig⟩ c_are_values
  have o_is_deed : FnG P w K mg base 3 _ fd_is_deed ["value", "places"] (spD K mg 2 d_is_deed) := def_ok F_is_deed s_is_deed (k := 2) (Γ := t_is_deed) ⟨(all_cons ⟨_, _, _, _, m_is_index, o_is_index, by decide, F_is_index.kp, k_is_index_2 F_is_index⟩ all_nil), (all_cons r_isinstance (all_cons r_tuple (all_cons r_len (all_cons r_str all_nil)))), (all_cons g_READ (all_cons g_PUT (all_cons g_VALUES all_nil))), dig⟩ c_is_deed
  have o_check_job : FnG P w K mg base 4 _ fd_check_job ["values", "job"] (spD K mg 2 d_check_job) := def_ok F_check_job s_check_job (k := 3) (Γ := t_check_job) ⟨(all_cons ⟨_, _, _, _, m_are_values, o_are_values, by decide, F_are_values.kp, k_are_values_1 F_are_values⟩ (all_cons ⟨_, _, _, _, m_is_deed, o_is_deed, by decide, F_is_deed.kp, k_is_deed_2 F_is_deed⟩ all_nil)), (all_cons r_isinstance (all_cons r_tuple (all_cons r_len (all_cons r_all all_nil)))), (all_cons g_MOST_DEEDS all_nil), dig⟩ c_check_job
  have o_is_pair : FnG P w K mg base 2 _ fd_is_pair ["value"] (spD K mg 1 d_is_pair) := def_ok F_is_pair s_is_pair (k := 1) (Γ := t_is_pair) ⟨(all_cons ⟨_, _, _, _, m_is_integer, o_is_integer, by decide, F_is_integer.kp, k_is_integer_1 F_is_integer⟩ all_nil), (all_cons r_isinstance (all_cons r_tuple (all_cons r_len (all_cons r_all all_nil)))), all_nil, dig⟩ c_is_pair
  have o_are_pairs : FnG P w K mg base 3 _ fd_are_pairs ["value", "many"] (spD K mg 2 d_are_pairs) := def_ok F_are_pairs s_are_pairs (k := 2) (Γ := t_are_pairs) ⟨(all_cons ⟨_, _, _, _, m_is_pair, o_is_pair, by decide, F_is_pair.kp, k_is_pair_1 F_is_pair⟩ all_nil), (all_cons r_isinstance (all_cons r_tuple (all_cons r_len (all_cons r_all all_nil)))), all_nil, dig⟩ c_are_pairs
  have o_check_answers : FnG P w K mg base 5 _ fd_check_answers ["values", "job", "answers"] (spD K mg 3 d_check_answers) := def_ok F_check_answers s_check_answers (k := 4) (Γ := t_check_answers) ⟨(all_cons ⟨_, _, _, _, m_check_job, o_check_job, by decide, F_check_job.kp, k_check_job_2 F_check_job⟩ (all_cons ⟨_, _, _, _, m_are_pairs, o_are_pairs, by decide, F_are_pairs.kp, k_are_pairs_2 F_are_pairs⟩ all_nil)), (all_cons r_isinstance (all_cons r_tuple (all_cons r_len all_nil))), all_nil, dig⟩ c_check_answers
  have o_late_deed : FnG P w K mg base 1 _ fd_late_deed ["job", "answers", "bound"] (spD K mg 3 d_late_deed) := def_ok F_late_deed s_late_deed (k := 0) (Γ := t_late_deed) ⟨all_nil, (all_cons r_enumerate all_nil), all_nil, dig⟩ c_late_deed
  have o_value_behind : FnG P w K mg base 1 _ fd_value_behind ["deed", "pair"] (spD K mg 2 d_value_behind) := def_ok F_value_behind s_value_behind (k := 0) (Γ := t_value_behind) ⟨all_nil, all_nil, (all_cons g_READ all_nil), dig⟩ c_value_behind
  have o_piles_of : FnG P w K mg base 2 _ fd_piles_of ["values", "job", "answers"] (spD K mg 3 d_piles_of) := def_ok F_piles_of s_piles_of (k := 1) (Γ := t_piles_of) ⟨(all_cons ⟨_, _, _, _, m_value_behind, o_value_behind, by decide, F_value_behind.kp, k_value_behind_2 F_value_behind⟩ all_nil), (all_cons r_enumerate (all_cons r_zip all_nil)), all_nil, dig⟩ c_piles_of
  have o_least_unlike : FnG P w K mg base 1 _ fd_least_unlike ["put", "taken"] (spD K mg 2 d_least_unlike) := def_ok F_least_unlike s_least_unlike (k := 0) (Γ := t_least_unlike) ⟨all_nil, (all_cons r_min all_nil), all_nil, dig⟩ c_least_unlike
  have o_tallies : FnG P w K mg base 6 _ fd_tallies ["values", "job", "answers"] (spD K mg 3 d_tallies) := def_ok F_tallies s_tallies (k := 5) (Γ := t_tallies) ⟨(all_cons ⟨_, _, _, _, m_check_answers, o_check_answers, by decide, F_check_answers.kp, k_check_answers_3 F_check_answers⟩ (all_cons ⟨_, _, _, _, m_late_deed, o_late_deed, by decide, F_late_deed.kp, k_late_deed_3 F_late_deed⟩ (all_cons ⟨_, _, _, _, m_piles_of, o_piles_of, by decide, F_piles_of.kp, k_piles_of_3 F_piles_of⟩ (all_cons ⟨_, _, _, _, m_least_unlike, o_least_unlike, by decide, F_least_unlike.kp, k_least_unlike_2 F_least_unlike⟩ all_nil)))), all_nil, (all_cons g_LATE (all_cons g_LET (all_cons g_UNLIKE all_nil))), dig⟩ c_tallies
  have o__law_right : FnG P w K mg base 7 _ fd__law_right ["pot"] (spD K mg 1 d__law_right) := def_ok F__law_right s__law_right (k := 6) (Γ := t__law_right) ⟨(all_cons ⟨_, _, _, _, m__law_values, o__law_values, by decide, F__law_values.kp, k__law_values_2 F__law_values⟩ (all_cons ⟨_, _, _, _, m__law_job, o__law_job, by decide, F__law_job.kp, k__law_job_3 F__law_job⟩ (all_cons ⟨_, _, _, _, m__law_of, o__law_of, by decide, F__law_of.kp, k__law_of_2 F__law_of⟩ (all_cons ⟨_, _, _, _, m__law_lie, o__law_lie, by decide, F__law_lie.kp, k__law_lie_3 F__law_lie⟩ (all_cons ⟨_, _, _, _, m__law_due, o__law_due, by decide, F__law_due.kp, k__law_due_3 F__law_due⟩ (all_cons ⟨_, _, _, _, m__law_plain, o__law_plain, by decide, F__law_plain.kp, k__law_plain_2 F__law_plain⟩ (all_cons ⟨_, _, _, _, m_tallies, o_tallies, by decide, F_tallies.kp, k_tallies_3 F_tallies⟩ (all_cons ⟨_, _, _, _, m_tallies, o_tallies, by decide, F_tallies.kp, k_tallies_0_answers_job_values F_tallies⟩ all_nil)))))))), (all_cons r_range (all_cons r_len (all_cons r_repr all_nil))), all_nil, dig⟩ c__law_right
  have o__law_pot : FnG P w K mg base 1 _ fd__law_pot ["script", "place"] (spD K mg 2 d__law_pot) := def_ok F__law_pot s__law_pot (k := 0) (Γ := t__law_pot) ⟨all_nil, (all_cons r_len (all_cons r_sum (all_cons r_int (all_cons r_abs all_nil)))), all_nil, dig⟩ c__law_pot
  have o__law_cells : FnG P w K mg base 1 _ fd__law_cells ["script", "most"] (spD K mg 2 d__law_cells) := def_ok F__law_cells s__law_cells (k := 0) (Γ := t__law_cells) ⟨all_nil, (all_cons r_list (all_cons r_range (all_cons r_max (all_cons r_min (all_cons r_len all_nil))))), all_nil, dig⟩ c__law_cells
  have o_law : FnG P w K mg base 8 _ fd_law ["script"] (spD K mg 1 d_law) := def_ok F_law s_law (k := 7) (Γ := t_law) ⟨(all_cons ⟨_, _, _, _, m__law_cells, o__law_cells, by decide, F__law_cells.kp, k__law_cells_2 F__law_cells⟩ (all_cons ⟨_, _, _, _, m__law_right, o__law_right, by decide, F__law_right.kp, k__law_right_1 F__law_right⟩ (all_cons ⟨_, _, _, _, m__law_pot, o__law_pot, by decide, F__law_pot.kp, k__law_pot_2 F__law_pot⟩ all_nil))), (all_cons r_all all_nil), all_nil, dig⟩ c_law
  exact o_law
end K70
namespace K70
open PySem PySem.Spec PyProof.Rows L2 DL
theorem go__law_take {a0 a1 : W} {S : Store} {Q : W → Store → Prop} (h : Ok (evSs (fnsOf t__law_take) b__law_take [some a0, some a1, none, none, none] S) (Fin Q)) : Ok (d__law_take [a0, a1] S) Q := f_run rfl h
theorem go__law_of {a0 a1 : W} {S : Store} {Q : W → Store → Prop} (h : Ok (evSs (fnsOf t__law_of) b__law_of [some a0, some a1] S) (Fin Q)) : Ok (d__law_of [a0, a1] S) Q := f_run rfl h
theorem u__law_of_0 {x0 x1 : D} {y : D} {S : Store} {Q : W → Store → Prop} (h : Gv d__law_take [x0, x1] y) (q : Q (.d y) S) : Ok (evCall (fnsOf t__law_of 0) [.d x0, .d x1] S) Q := yk_d (xs := [x0, x1]) (ys := [.d x0, .d x1]) (zs := [x0, x1]) rfl (fnsC (c := ⟨"_law_take", 2, 2, [], [0, 1], d__law_take⟩) rfl _ _) rfl h q
theorem go__law_values {a0 a1 : W} {S : Store} {Q : W → Store → Prop} (h : Ok (evSs (fnsOf t__law_values) b__law_values [some a0, some a1, none, none, none] S) (Fin Q)) : Ok (d__law_values [a0, a1] S) Q := f_run rfl h
theorem u__law_values_0 {x0 x1 : D} {y : D} {S : Store} {Q : W → Store → Prop} (h : Gv d__law_take [x0, x1] y) (q : Q (.d y) S) : Ok (evCall (fnsOf t__law_values 0) [.d x0, .d x1] S) Q := yk_d (xs := [x0, x1]) (ys := [.d x0, .d x1]) (zs := [x0, x1]) rfl (fnsC (c := ⟨"_law_take", 2, 2, [], [0, 1], d__law_take⟩) rfl _ _) rfl h q
theorem u__law_values_1 {x0 x1 : D} {y : D} {S : Store} {Q : W → Store → Prop} (h : Gv d__law_of [x0, x1] y) (q : Q (.d y) S) : Ok (evCall (fnsOf t__law_values 1) [.d x0, .d x1] S) Q := yk_d (xs := [x0, x1]) (ys := [.d x0, .d x1]) (zs := [x0, x1]) rfl (fnsC (c := ⟨"_law_of", 2, 2, [], [0, 1], d__law_of⟩) rfl _ _) rfl h q
theorem go__law_job {a0 a1 a2 : W} {S : Store} {Q : W → Store → Prop} (h : Ok (evSs (fnsOf t__law_job) b__law_job [some a0, some a1, some a2, none, none, none, none] S) (Fin Q)) : Ok (d__law_job [a0, a1, a2] S) Q := f_run rfl h
theorem u__law_job_0 {x0 x1 : D} {y : D} {S : Store} {Q : W → Store → Prop} (h : Gv d__law_take [x0, x1] y) (q : Q (.d y) S) : Ok (evCall (fnsOf t__law_job 0) [.d x0, .d x1] S) Q := yk_d (xs := [x0, x1]) (ys := [.d x0, .d x1]) (zs := [x0, x1]) rfl (fnsC (c := ⟨"_law_take", 2, 2, [], [0, 1], d__law_take⟩) rfl _ _) rfl h q
theorem u__law_job_1 {x0 x1 : D} {y : D} {S : Store} {Q : W → Store → Prop} (h : Gv d__law_of [x0, x1] y) (q : Q (.d y) S) : Ok (evCall (fnsOf t__law_job 1) [.d x0, .d x1] S) Q := yk_d (xs := [x0, x1]) (ys := [.d x0, .d x1]) (zs := [x0, x1]) rfl (fnsC (c := ⟨"_law_of", 2, 2, [], [0, 1], d__law_of⟩) rfl _ _) rfl h q
theorem go__law_kept {a0 a1 a2 : W} {S : Store} {Q : W → Store → Prop} (h : Ok (evSs (fnsOf t__law_kept) b__law_kept [some a0, some a1, some a2, none, none, none, none, none] S) (Fin Q)) : Ok (d__law_kept [a0, a1, a2] S) Q := f_run rfl h
theorem go__law_plain {a0 a1 : W} {S : Store} {Q : W → Store → Prop} (h : Ok (evSs (fnsOf t__law_plain) b__law_plain [some a0, some a1] S) (Fin Q)) : Ok (d__law_plain [a0, a1] S) Q := f_run rfl h
theorem u__law_plain_0 {x0 x1 x2 : D} {y : D} {S : Store} {Q : W → Store → Prop} (h : Gv d__law_kept [x0, x1, x2] y) (q : Q (.d y) S) : Ok (evCall (fnsOf t__law_plain 0) [.d x0, .d x1, .d x2] S) Q := yk_d (xs := [x0, x1, x2]) (ys := [.d x0, .d x1, .d x2]) (zs := [x0, x1, x2]) rfl (fnsC (c := ⟨"_law_kept", 3, 3, [], [0, 1, 2], d__law_kept⟩) rfl _ _) rfl h q
theorem go__law_changed {a0 a1 a2 : W} {S : Store} {Q : W → Store → Prop} (h : Ok (evSs (fnsOf t__law_changed) b__law_changed [some a0, some a1, some a2] S) (Fin Q)) : Ok (d__law_changed [a0, a1, a2] S) Q := f_run rfl h
theorem go__law_pair_near {a0 a1 a2 : W} {S : Store} {Q : W → Store → Prop} (h : Ok (evSs (fnsOf t__law_pair_near) b__law_pair_near [some a0, some a1, some a2, none, none, none] S) (Fin Q)) : Ok (d__law_pair_near [a0, a1, a2] S) Q := f_run rfl h
theorem u__law_pair_near_0 {x0 x1 : D} {y : D} {S : Store} {Q : W → Store → Prop} (h : Gv d__law_of [x0, x1] y) (q : Q (.d y) S) : Ok (evCall (fnsOf t__law_pair_near 0) [.d x0, .d x1] S) Q := yk_d (xs := [x0, x1]) (ys := [.d x0, .d x1]) (zs := [x0, x1]) rfl (fnsC (c := ⟨"_law_of", 2, 2, [], [0, 1], d__law_of⟩) rfl _ _) rfl h q
theorem go__law_lie {a0 a1 a2 : W} {S : Store} {Q : W → Store → Prop} (h : Ok (evSs (fnsOf t__law_lie) b__law_lie [some a0, some a1, some a2, none, none, none, none, none] S) (Fin Q)) : Ok (d__law_lie [a0, a1, a2] S) Q := f_run rfl h
theorem u__law_lie_0 {x0 x1 x2 : D} {y : D} {S : Store} {Q : W → Store → Prop} (h : Gv d__law_kept [x0, x1, x2] y) (q : Q (.d y) S) : Ok (evCall (fnsOf t__law_lie 0) [.d x0, .d x1, .d x2] S) Q := yk_d (xs := [x0, x1, x2]) (ys := [.d x0, .d x1, .d x2]) (zs := [x0, x1, x2]) rfl (fnsC (c := ⟨"_law_kept", 3, 3, [], [0, 1, 2], d__law_kept⟩) rfl _ _) rfl h q
theorem u__law_lie_1 {x0 x1 : D} {y : D} {S : Store} {Q : W → Store → Prop} (h : Gv d__law_take [x0, x1] y) (q : Q (.d y) S) : Ok (evCall (fnsOf t__law_lie 1) [.d x0, .d x1] S) Q := yk_d (xs := [x0, x1]) (ys := [.d x0, .d x1]) (zs := [x0, x1]) rfl (fnsC (c := ⟨"_law_take", 2, 2, [], [0, 1], d__law_take⟩) rfl _ _) rfl h q
theorem u__law_lie_2 {x0 x1 : D} {y : D} {S : Store} {Q : W → Store → Prop} (h : Gv d__law_plain [x0, x1] y) (q : Q (.d y) S) : Ok (evCall (fnsOf t__law_lie 2) [.d x0, .d x1] S) Q := yk_d (xs := [x0, x1]) (ys := [.d x0, .d x1]) (zs := [x0, x1]) rfl (fnsC (c := ⟨"_law_plain", 2, 2, [], [0, 1], d__law_plain⟩) rfl _ _) rfl h q
theorem u__law_lie_3 {x0 x1 x2 : D} {y : D} {S : Store} {Q : W → Store → Prop} (h : Gv d__law_changed [x0, x1, x2] y) (q : Q (.d y) S) : Ok (evCall (fnsOf t__law_lie 3) [.d x0, .d x1, .d x2] S) Q := yk_d (xs := [x0, x1, x2]) (ys := [.d x0, .d x1, .d x2]) (zs := [x0, x1, x2]) rfl (fnsC (c := ⟨"_law_changed", 3, 3, [], [0, 1, 2], d__law_changed⟩) rfl _ _) rfl h q
theorem u__law_lie_4 {x0 x1 x2 : D} {y : D} {S : Store} {Q : W → Store → Prop} (h : Gv d__law_pair_near [x0, x1, x2] y) (q : Q (.d y) S) : Ok (evCall (fnsOf t__law_lie 4) [.d x0, .d x1, .d x2] S) Q := yk_d (xs := [x0, x1, x2]) (ys := [.d x0, .d x1, .d x2]) (zs := [x0, x1, x2]) rfl (fnsC (c := ⟨"_law_pair_near", 3, 3, [], [0, 1, 2], d__law_pair_near⟩) rfl _ _) rfl h q
theorem u__law_lie_5 {x0 x1 : D} {y : D} {S : Store} {Q : W → Store → Prop} (h : Gv d__law_of [x0, x1] y) (q : Q (.d y) S) : Ok (evCall (fnsOf t__law_lie 5) [.d x0, .d x1] S) Q := yk_d (xs := [x0, x1]) (ys := [.d x0, .d x1]) (zs := [x0, x1]) rfl (fnsC (c := ⟨"_law_of", 2, 2, [], [0, 1], d__law_of⟩) rfl _ _) rfl h q
theorem go__law_piles {a0 a1 a2 : W} {S : Store} {Q : W → Store → Prop} (h : Ok (evSs (fnsOf t__law_piles) b__law_piles [some a0, some a1, some a2, none, none, none, none, none, none, none, none] S) (Fin Q)) : Ok (d__law_piles [a0, a1, a2] S) Q := f_run rfl h
theorem go__law_due {a0 a1 a2 : W} {S : Store} {Q : W → Store → Prop} (h : Ok (evSs (fnsOf t__law_due) b__law_due [some a0, some a1, some a2, none, none, none, none, none] S) (Fin Q)) : Ok (d__law_due [a0, a1, a2] S) Q := f_run rfl h
theorem u__law_due_0 {x0 x1 x2 : D} {y : D} {S : Store} {Q : W → Store → Prop} (h : Gv d__law_piles [x0, x1, x2] y) (q : Q (.d y) S) : Ok (evCall (fnsOf t__law_due 0) [.d x0, .d x1, .d x2] S) Q := yk_d (xs := [x0, x1, x2]) (ys := [.d x0, .d x1, .d x2]) (zs := [x0, x1, x2]) rfl (fnsC (c := ⟨"_law_piles", 3, 3, [], [0, 1, 2], d__law_piles⟩) rfl _ _) rfl h q
theorem go_is_integer {a0 : W} {S : Store} {Q : W → Store → Prop} (h : Ok (evSs (fnsOf t_is_integer) b_is_integer [some a0] S) (Fin Q)) : Ok (d_is_integer [a0] S) Q := f_run rfl h
theorem go_is_index {a0 a1 : W} {S : Store} {Q : W → Store → Prop} (h : Ok (evSs (fnsOf t_is_index) b_is_index [some a0, some a1] S) (Fin Q)) : Ok (d_is_index [a0, a1] S) Q := f_run rfl h
theorem u_is_index_0 {x0 : D} {y : D} {S : Store} {Q : W → Store → Prop} (h : Gv d_is_integer [x0] y) (q : Q (.d y) S) : Ok (evCall (fnsOf t_is_index 0) [.d x0] S) Q := yk_d (xs := [x0]) (ys := [.d x0]) (zs := [x0]) rfl (fnsC (c := ⟨"is_integer", 1, 1, [], [0], d_is_integer⟩) rfl _ _) rfl h q
theorem go_are_values {a0 : W} {S : Store} {Q : W → Store → Prop} (h : Ok (evSs (fnsOf t_are_values) b_are_values [some a0, none] S) (Fin Q)) : Ok (d_are_values [a0] S) Q := f_run rfl h
theorem u_are_values_0 {x0 x1 : D} {y : D} {S : Store} {Q : W → Store → Prop} (h : Gv d_is_index [x0, x1] y) (q : Q (.d y) S) : Ok (evCall (fnsOf t_are_values 0) [.d x0, .d x1] S) Q := yk_d (xs := [x0, x1]) (ys := [.d x0, .d x1]) (zs := [x0, x1]) rfl (fnsC (c := ⟨"is_index", 2, 2, [], [0, 1], d_is_index⟩) rfl _ _) rfl h q
theorem go_is_deed {a0 a1 : W} {S : Store} {Q : W → Store → Prop} (h : Ok (evSs (fnsOf t_is_deed) b_is_deed [some a0, some a1] S) (Fin Q)) : Ok (d_is_deed [a0, a1] S) Q := f_run rfl h
theorem u_is_deed_0 {x0 x1 : D} {y : D} {S : Store} {Q : W → Store → Prop} (h : Gv d_is_index [x0, x1] y) (q : Q (.d y) S) : Ok (evCall (fnsOf t_is_deed 0) [.d x0, .d x1] S) Q := yk_d (xs := [x0, x1]) (ys := [.d x0, .d x1]) (zs := [x0, x1]) rfl (fnsC (c := ⟨"is_index", 2, 2, [], [0, 1], d_is_index⟩) rfl _ _) rfl h q
theorem go_check_job {a0 a1 : W} {S : Store} {Q : W → Store → Prop} (h : Ok (evSs (fnsOf t_check_job) b_check_job [some a0, some a1, none] S) (Fin Q)) : Ok (d_check_job [a0, a1] S) Q := f_run rfl h
theorem u_check_job_0 {x0 : D} {y : D} {S : Store} {Q : W → Store → Prop} (h : Gv d_are_values [x0] y) (q : Q (.d y) S) : Ok (evCall (fnsOf t_check_job 0) [.d x0] S) Q := yk_d (xs := [x0]) (ys := [.d x0]) (zs := [x0]) rfl (fnsC (c := ⟨"are_values", 1, 1, [], [0], d_are_values⟩) rfl _ _) rfl h q
theorem u_check_job_1 {x0 x1 : D} {y : D} {S : Store} {Q : W → Store → Prop} (h : Gv d_is_deed [x0, x1] y) (q : Q (.d y) S) : Ok (evCall (fnsOf t_check_job 1) [.d x0, .d x1] S) Q := yk_d (xs := [x0, x1]) (ys := [.d x0, .d x1]) (zs := [x0, x1]) rfl (fnsC (c := ⟨"is_deed", 2, 2, [], [0, 1], d_is_deed⟩) rfl _ _) rfl h q
theorem go_is_pair {a0 : W} {S : Store} {Q : W → Store → Prop} (h : Ok (evSs (fnsOf t_is_pair) b_is_pair [some a0, none] S) (Fin Q)) : Ok (d_is_pair [a0] S) Q := f_run rfl h
theorem u_is_pair_0 {x0 : D} {y : D} {S : Store} {Q : W → Store → Prop} (h : Gv d_is_integer [x0] y) (q : Q (.d y) S) : Ok (evCall (fnsOf t_is_pair 0) [.d x0] S) Q := yk_d (xs := [x0]) (ys := [.d x0]) (zs := [x0]) rfl (fnsC (c := ⟨"is_integer", 1, 1, [], [0], d_is_integer⟩) rfl _ _) rfl h q
theorem go_are_pairs {a0 a1 : W} {S : Store} {Q : W → Store → Prop} (h : Ok (evSs (fnsOf t_are_pairs) b_are_pairs [some a0, some a1, none] S) (Fin Q)) : Ok (d_are_pairs [a0, a1] S) Q := f_run rfl h
theorem u_are_pairs_0 {x0 : D} {y : D} {S : Store} {Q : W → Store → Prop} (h : Gv d_is_pair [x0] y) (q : Q (.d y) S) : Ok (evCall (fnsOf t_are_pairs 0) [.d x0] S) Q := yk_d (xs := [x0]) (ys := [.d x0]) (zs := [x0]) rfl (fnsC (c := ⟨"is_pair", 1, 1, [], [0], d_is_pair⟩) rfl _ _) rfl h q
theorem go_check_answers {a0 a1 a2 : W} {S : Store} {Q : W → Store → Prop} (h : Ok (evSs (fnsOf t_check_answers) b_check_answers [some a0, some a1, some a2] S) (Fin Q)) : Ok (d_check_answers [a0, a1, a2] S) Q := f_run rfl h
theorem u_check_answers_0 {x0 x1 : D} {y : D} {S : Store} {Q : W → Store → Prop} (h : Gv d_check_job [x0, x1] y) (q : Q (.d y) S) : Ok (evCall (fnsOf t_check_answers 0) [.d x0, .d x1] S) Q := yk_d (xs := [x0, x1]) (ys := [.d x0, .d x1]) (zs := [x0, x1]) rfl (fnsC (c := ⟨"check_job", 2, 2, [], [0, 1], d_check_job⟩) rfl _ _) rfl h q
theorem u_check_answers_1 {x0 x1 : D} {y : D} {S : Store} {Q : W → Store → Prop} (h : Gv d_are_pairs [x0, x1] y) (q : Q (.d y) S) : Ok (evCall (fnsOf t_check_answers 1) [.d x0, .d x1] S) Q := yk_d (xs := [x0, x1]) (ys := [.d x0, .d x1]) (zs := [x0, x1]) rfl (fnsC (c := ⟨"are_pairs", 2, 2, [], [0, 1], d_are_pairs⟩) rfl _ _) rfl h q
theorem go_late_deed {a0 a1 a2 : W} {S : Store} {Q : W → Store → Prop} (h : Ok (evSs (fnsOf t_late_deed) b_late_deed [some a0, some a1, some a2, none, none, none] S) (Fin Q)) : Ok (d_late_deed [a0, a1, a2] S) Q := f_run rfl h
theorem go_value_behind {a0 a1 : W} {S : Store} {Q : W → Store → Prop} (h : Ok (evSs (fnsOf t_value_behind) b_value_behind [some a0, some a1] S) (Fin Q)) : Ok (d_value_behind [a0, a1] S) Q := f_run rfl h
theorem go_piles_of {a0 a1 a2 : W} {S : Store} {Q : W → Store → Prop} (h : Ok (evSs (fnsOf t_piles_of) b_piles_of [some a0, some a1, some a2, none, none, none, none, none, none, none] S) (Fin Q)) : Ok (d_piles_of [a0, a1, a2] S) Q := f_run rfl h
theorem u_piles_of_0 {x0 x1 : D} {y : D} {S : Store} {Q : W → Store → Prop} (h : Gv d_value_behind [x0, x1] y) (q : Q (.d y) S) : Ok (evCall (fnsOf t_piles_of 0) [.d x0, .d x1] S) Q := yk_d (xs := [x0, x1]) (ys := [.d x0, .d x1]) (zs := [x0, x1]) rfl (fnsC (c := ⟨"value_behind", 2, 2, [], [0, 1], d_value_behind⟩) rfl _ _) rfl h q
theorem go_least_unlike {a0 a1 : W} {S : Store} {Q : W → Store → Prop} (h : Ok (evSs (fnsOf t_least_unlike) b_least_unlike [some a0, some a1, none, none, none, none] S) (Fin Q)) : Ok (d_least_unlike [a0, a1] S) Q := f_run rfl h
theorem go_tallies {a0 a1 a2 : W} {S : Store} {Q : W → Store → Prop} (h : Ok (evSs (fnsOf t_tallies) b_tallies [some a0, some a1, some a2, none, none, none, none] S) (Fin Q)) : Ok (d_tallies [a0, a1, a2] S) Q := f_run rfl h
theorem u_tallies_0 {x0 x1 x2 : D} {y : D} {S : Store} {Q : W → Store → Prop} (h : Gv d_check_answers [x0, x1, x2] y) (q : Q (.d y) S) : Ok (evCall (fnsOf t_tallies 0) [.d x0, .d x1, .d x2] S) Q := yk_d (xs := [x0, x1, x2]) (ys := [.d x0, .d x1, .d x2]) (zs := [x0, x1, x2]) rfl (fnsC (c := ⟨"check_answers", 3, 3, [], [0, 1, 2], d_check_answers⟩) rfl _ _) rfl h q
theorem u_tallies_1 {x0 x1 x2 : D} {y : D} {S : Store} {Q : W → Store → Prop} (h : Gv d_late_deed [x0, x1, x2] y) (q : Q (.d y) S) : Ok (evCall (fnsOf t_tallies 1) [.d x0, .d x1, .d x2] S) Q := yk_d (xs := [x0, x1, x2]) (ys := [.d x0, .d x1, .d x2]) (zs := [x0, x1, x2]) rfl (fnsC (c := ⟨"late_deed", 3, 3, [], [0, 1, 2], d_late_deed⟩) rfl _ _) rfl h q
theorem u_tallies_2 {x0 x1 x2 : D} {y : D} {S : Store} {Q : W → Store → Prop} (h : Gv d_piles_of [x0, x1, x2] y) (q : Q (.d y) S) : Ok (evCall (fnsOf t_tallies 2) [.d x0, .d x1, .d x2] S) Q := yk_d (xs := [x0, x1, x2]) (ys := [.d x0, .d x1, .d x2]) (zs := [x0, x1, x2]) rfl (fnsC (c := ⟨"piles_of", 3, 3, [], [0, 1, 2], d_piles_of⟩) rfl _ _) rfl h q
theorem u_tallies_3 {x0 x1 : D} {y : D} {S : Store} {Q : W → Store → Prop} (h : Gv d_least_unlike [x0, x1] y) (q : Q (.d y) S) : Ok (evCall (fnsOf t_tallies 3) [.d x0, .d x1] S) Q := yk_d (xs := [x0, x1]) (ys := [.d x0, .d x1]) (zs := [x0, x1]) rfl (fnsC (c := ⟨"least_unlike", 2, 2, [], [0, 1], d_least_unlike⟩) rfl _ _) rfl h q
theorem go__law_right {a0 : W} {S : Store} {Q : W → Store → Prop} (h : Ok (evSs (fnsOf t__law_right) b__law_right [some a0, none, none, none, none, none] S) (Fin Q)) : Ok (d__law_right [a0] S) Q := f_run rfl h
theorem u__law_right_0 {x0 x1 : D} {y : D} {S : Store} {Q : W → Store → Prop} (h : Gv d__law_values [x0, x1] y) (q : Q (.d y) S) : Ok (evCall (fnsOf t__law_right 0) [.d x0, .d x1] S) Q := yk_d (xs := [x0, x1]) (ys := [.d x0, .d x1]) (zs := [x0, x1]) rfl (fnsC (c := ⟨"_law_values", 2, 2, [], [0, 1], d__law_values⟩) rfl _ _) rfl h q
theorem u__law_right_1 {x0 x1 x2 : D} {y : D} {S : Store} {Q : W → Store → Prop} (h : Gv d__law_job [x0, x1, x2] y) (q : Q (.d y) S) : Ok (evCall (fnsOf t__law_right 1) [.d x0, .d x1, .d x2] S) Q := yk_d (xs := [x0, x1, x2]) (ys := [.d x0, .d x1, .d x2]) (zs := [x0, x1, x2]) rfl (fnsC (c := ⟨"_law_job", 3, 3, [], [0, 1, 2], d__law_job⟩) rfl _ _) rfl h q
theorem u__law_right_2 {x0 x1 : D} {y : D} {S : Store} {Q : W → Store → Prop} (h : Gv d__law_of [x0, x1] y) (q : Q (.d y) S) : Ok (evCall (fnsOf t__law_right 2) [.d x0, .d x1] S) Q := yk_d (xs := [x0, x1]) (ys := [.d x0, .d x1]) (zs := [x0, x1]) rfl (fnsC (c := ⟨"_law_of", 2, 2, [], [0, 1], d__law_of⟩) rfl _ _) rfl h q
theorem u__law_right_3 {x0 x1 x2 : D} {y : D} {S : Store} {Q : W → Store → Prop} (h : Gv d__law_lie [x0, x1, x2] y) (q : Q (.d y) S) : Ok (evCall (fnsOf t__law_right 3) [.d x0, .d x1, .d x2] S) Q := yk_d (xs := [x0, x1, x2]) (ys := [.d x0, .d x1, .d x2]) (zs := [x0, x1, x2]) rfl (fnsC (c := ⟨"_law_lie", 3, 3, [], [0, 1, 2], d__law_lie⟩) rfl _ _) rfl h q
theorem u__law_right_4 {x0 x1 x2 : D} {y : D} {S : Store} {Q : W → Store → Prop} (h : Gv d__law_due [x0, x1, x2] y) (q : Q (.d y) S) : Ok (evCall (fnsOf t__law_right 4) [.d x0, .d x1, .d x2] S) Q := yk_d (xs := [x0, x1, x2]) (ys := [.d x0, .d x1, .d x2]) (zs := [x0, x1, x2]) rfl (fnsC (c := ⟨"_law_due", 3, 3, [], [0, 1, 2], d__law_due⟩) rfl _ _) rfl h q
theorem u__law_right_5 {x0 x1 : D} {y : D} {S : Store} {Q : W → Store → Prop} (h : Gv d__law_plain [x0, x1] y) (q : Q (.d y) S) : Ok (evCall (fnsOf t__law_right 5) [.d x0, .d x1] S) Q := yk_d (xs := [x0, x1]) (ys := [.d x0, .d x1]) (zs := [x0, x1]) rfl (fnsC (c := ⟨"_law_plain", 2, 2, [], [0, 1], d__law_plain⟩) rfl _ _) rfl h q
theorem u__law_right_6 {x0 x1 x2 : D} {y : D} {S : Store} {Q : W → Store → Prop} (h : Gv d_tallies [x0, x1, x2] y) (q : Q (.d y) S) : Ok (evCall (fnsOf t__law_right 6) [.d x0, .d x1, .d x2] S) Q := yk_d (xs := [x0, x1, x2]) (ys := [.d x0, .d x1, .d x2]) (zs := [x0, x1, x2]) rfl (fnsC (c := ⟨"tallies", 3, 3, [], [0, 1, 2], d_tallies⟩) rfl _ _) rfl h q
theorem u__law_right_7 {x0 x1 x2 : D} {y : D} {S : Store} {Q : W → Store → Prop} (h : Gv d_tallies [x2, x1, x0] y) (q : Q (.d y) S) : Ok (evCall (fnsOf t__law_right 7) [.d x0, .d x1, .d x2] S) Q := yk_d (xs := [x0, x1, x2]) (ys := [.d x2, .d x1, .d x0]) (zs := [x2, x1, x0]) rfl (fnsC (c := ⟨"tallies", 3, 0, ["answers", "job", "values"], [2, 1, 0], d_tallies⟩) rfl _ _) rfl h q
theorem go__law_pot {a0 a1 : W} {S : Store} {Q : W → Store → Prop} (h : Ok (evSs (fnsOf t__law_pot) b__law_pot [some a0, some a1, none, none, none] S) (Fin Q)) : Ok (d__law_pot [a0, a1] S) Q := f_run rfl h
theorem go__law_cells {a0 a1 : W} {S : Store} {Q : W → Store → Prop} (h : Ok (evSs (fnsOf t__law_cells) b__law_cells [some a0, some a1] S) (Fin Q)) : Ok (d__law_cells [a0, a1] S) Q := f_run rfl h
theorem go_law {a0 : W} {S : Store} {Q : W → Store → Prop} (h : Ok (evSs (fnsOf t_law) b_law [some a0, none] S) (Fin Q)) : Ok (d_law [a0] S) Q := f_run rfl h
theorem u_law_0 {x0 x1 : D} {y : D} {S : Store} {Q : W → Store → Prop} (h : Gv d__law_cells [x0, x1] y) (q : Q (.d y) S) : Ok (evCall (fnsOf t_law 0) [.d x0, .d x1] S) Q := yk_d (xs := [x0, x1]) (ys := [.d x0, .d x1]) (zs := [x0, x1]) rfl (fnsC (c := ⟨"_law_cells", 2, 2, [], [0, 1], d__law_cells⟩) rfl _ _) rfl h q
theorem u_law_1 {x0 : D} {y : D} {S : Store} {Q : W → Store → Prop} (h : Gv d__law_right [x0] y) (q : Q (.d y) S) : Ok (evCall (fnsOf t_law 1) [.d x0] S) Q := yk_d (xs := [x0]) (ys := [.d x0]) (zs := [x0]) rfl (fnsC (c := ⟨"_law_right", 1, 1, [], [0], d__law_right⟩) rfl _ _) rfl h q
theorem u_law_2 {x0 x1 : D} {y : D} {S : Store} {Q : W → Store → Prop} (h : Gv d__law_pot [x0, x1] y) (q : Q (.d y) S) : Ok (evCall (fnsOf t_law 2) [.d x0, .d x1] S) Q := yk_d (xs := [x0, x1]) (ys := [.d x0, .d x1]) (zs := [x0, x1]) rfl (fnsC (c := ⟨"_law_pot", 2, 2, [], [0, 1], d__law_pot⟩) rfl _ _) rfl h q
theorem v__law_of_0 {x1 : D} {n k : Nat} {R : D → Prop} {o s c : Int} {r : Store} {Q : W → Store → Prop} (h : Pf d__law_take [x1] n R) (p : Pot k o s c) (hk : k + n < 2 ^ 29) (q : ∀ y o1 c1, R y → Pot (k + n) o1 s c1 → Q (.d y) (P o1 s c1 :: r)) : Ok (evCall (fnsOf t__law_of 0) [.l 0, .d x1] (P o s c :: r)) Q := Pf.call (us := [x1]) (vs := [x1]) h (fnsC (c := ⟨"_law_take", 2, 2, [], [0, 1], d__law_take⟩) rfl _ _) p hk q
theorem v__law_values_0 {x1 : D} {n k : Nat} {R : D → Prop} {o s c : Int} {r : Store} {Q : W → Store → Prop} (h : Pf d__law_take [x1] n R) (p : Pot k o s c) (hk : k + n < 2 ^ 29) (q : ∀ y o1 c1, R y → Pot (k + n) o1 s c1 → Q (.d y) (P o1 s c1 :: r)) : Ok (evCall (fnsOf t__law_values 0) [.l 0, .d x1] (P o s c :: r)) Q := Pf.call (us := [x1]) (vs := [x1]) h (fnsC (c := ⟨"_law_take", 2, 2, [], [0, 1], d__law_take⟩) rfl _ _) p hk q
theorem v__law_values_1 {x1 : D} {n k : Nat} {R : D → Prop} {o s c : Int} {r : Store} {Q : W → Store → Prop} (h : Pf d__law_of [x1] n R) (p : Pot k o s c) (hk : k + n < 2 ^ 29) (q : ∀ y o1 c1, R y → Pot (k + n) o1 s c1 → Q (.d y) (P o1 s c1 :: r)) : Ok (evCall (fnsOf t__law_values 1) [.l 0, .d x1] (P o s c :: r)) Q := Pf.call (us := [x1]) (vs := [x1]) h (fnsC (c := ⟨"_law_of", 2, 2, [], [0, 1], d__law_of⟩) rfl _ _) p hk q
theorem v__law_job_0 {x1 : D} {n k : Nat} {R : D → Prop} {o s c : Int} {r : Store} {Q : W → Store → Prop} (h : Pf d__law_take [x1] n R) (p : Pot k o s c) (hk : k + n < 2 ^ 29) (q : ∀ y o1 c1, R y → Pot (k + n) o1 s c1 → Q (.d y) (P o1 s c1 :: r)) : Ok (evCall (fnsOf t__law_job 0) [.l 0, .d x1] (P o s c :: r)) Q := Pf.call (us := [x1]) (vs := [x1]) h (fnsC (c := ⟨"_law_take", 2, 2, [], [0, 1], d__law_take⟩) rfl _ _) p hk q
theorem v__law_job_1 {x1 : D} {n k : Nat} {R : D → Prop} {o s c : Int} {r : Store} {Q : W → Store → Prop} (h : Pf d__law_of [x1] n R) (p : Pot k o s c) (hk : k + n < 2 ^ 29) (q : ∀ y o1 c1, R y → Pot (k + n) o1 s c1 → Q (.d y) (P o1 s c1 :: r)) : Ok (evCall (fnsOf t__law_job 1) [.l 0, .d x1] (P o s c :: r)) Q := Pf.call (us := [x1]) (vs := [x1]) h (fnsC (c := ⟨"_law_of", 2, 2, [], [0, 1], d__law_of⟩) rfl _ _) p hk q
theorem v__law_pair_near_0 {x1 : D} {n k : Nat} {R : D → Prop} {o s c : Int} {r : Store} {Q : W → Store → Prop} (h : Pf d__law_of [x1] n R) (p : Pot k o s c) (hk : k + n < 2 ^ 29) (q : ∀ y o1 c1, R y → Pot (k + n) o1 s c1 → Q (.d y) (P o1 s c1 :: r)) : Ok (evCall (fnsOf t__law_pair_near 0) [.l 0, .d x1] (P o s c :: r)) Q := Pf.call (us := [x1]) (vs := [x1]) h (fnsC (c := ⟨"_law_of", 2, 2, [], [0, 1], d__law_of⟩) rfl _ _) p hk q
theorem v__law_lie_1 {x1 : D} {n k : Nat} {R : D → Prop} {o s c : Int} {r : Store} {Q : W → Store → Prop} (h : Pf d__law_take [x1] n R) (p : Pot k o s c) (hk : k + n < 2 ^ 29) (q : ∀ y o1 c1, R y → Pot (k + n) o1 s c1 → Q (.d y) (P o1 s c1 :: r)) : Ok (evCall (fnsOf t__law_lie 1) [.l 0, .d x1] (P o s c :: r)) Q := Pf.call (us := [x1]) (vs := [x1]) h (fnsC (c := ⟨"_law_take", 2, 2, [], [0, 1], d__law_take⟩) rfl _ _) p hk q
theorem v__law_lie_4 {x1 x2 : D} {n k : Nat} {R : D → Prop} {o s c : Int} {r : Store} {Q : W → Store → Prop} (h : Pf d__law_pair_near [x1, x2] n R) (p : Pot k o s c) (hk : k + n < 2 ^ 29) (q : ∀ y o1 c1, R y → Pot (k + n) o1 s c1 → Q (.d y) (P o1 s c1 :: r)) : Ok (evCall (fnsOf t__law_lie 4) [.l 0, .d x1, .d x2] (P o s c :: r)) Q := Pf.call (us := [x1, x2]) (vs := [x1, x2]) h (fnsC (c := ⟨"_law_pair_near", 3, 3, [], [0, 1, 2], d__law_pair_near⟩) rfl _ _) p hk q
theorem v__law_lie_5 {x1 : D} {n k : Nat} {R : D → Prop} {o s c : Int} {r : Store} {Q : W → Store → Prop} (h : Pf d__law_of [x1] n R) (p : Pot k o s c) (hk : k + n < 2 ^ 29) (q : ∀ y o1 c1, R y → Pot (k + n) o1 s c1 → Q (.d y) (P o1 s c1 :: r)) : Ok (evCall (fnsOf t__law_lie 5) [.l 0, .d x1] (P o s c :: r)) Q := Pf.call (us := [x1]) (vs := [x1]) h (fnsC (c := ⟨"_law_of", 2, 2, [], [0, 1], d__law_of⟩) rfl _ _) p hk q
theorem v__law_right_0 {x1 : D} {n k : Nat} {R : D → Prop} {o s c : Int} {r : Store} {Q : W → Store → Prop} (h : Pf d__law_values [x1] n R) (p : Pot k o s c) (hk : k + n < 2 ^ 29) (q : ∀ y o1 c1, R y → Pot (k + n) o1 s c1 → Q (.d y) (P o1 s c1 :: r)) : Ok (evCall (fnsOf t__law_right 0) [.l 0, .d x1] (P o s c :: r)) Q := Pf.call (us := [x1]) (vs := [x1]) h (fnsC (c := ⟨"_law_values", 2, 2, [], [0, 1], d__law_values⟩) rfl _ _) p hk q
theorem v__law_right_1 {x1 x2 : D} {n k : Nat} {R : D → Prop} {o s c : Int} {r : Store} {Q : W → Store → Prop} (h : Pf d__law_job [x1, x2] n R) (p : Pot k o s c) (hk : k + n < 2 ^ 29) (q : ∀ y o1 c1, R y → Pot (k + n) o1 s c1 → Q (.d y) (P o1 s c1 :: r)) : Ok (evCall (fnsOf t__law_right 1) [.l 0, .d x1, .d x2] (P o s c :: r)) Q := Pf.call (us := [x1, x2]) (vs := [x1, x2]) h (fnsC (c := ⟨"_law_job", 3, 3, [], [0, 1, 2], d__law_job⟩) rfl _ _) p hk q
theorem v__law_right_2 {x1 : D} {n k : Nat} {R : D → Prop} {o s c : Int} {r : Store} {Q : W → Store → Prop} (h : Pf d__law_of [x1] n R) (p : Pot k o s c) (hk : k + n < 2 ^ 29) (q : ∀ y o1 c1, R y → Pot (k + n) o1 s c1 → Q (.d y) (P o1 s c1 :: r)) : Ok (evCall (fnsOf t__law_right 2) [.l 0, .d x1] (P o s c :: r)) Q := Pf.call (us := [x1]) (vs := [x1]) h (fnsC (c := ⟨"_law_of", 2, 2, [], [0, 1], d__law_of⟩) rfl _ _) p hk q
theorem v__law_right_3 {x1 x2 : D} {n k : Nat} {R : D → Prop} {o s c : Int} {r : Store} {Q : W → Store → Prop} (h : Pf d__law_lie [x1, x2] n R) (p : Pot k o s c) (hk : k + n < 2 ^ 29) (q : ∀ y o1 c1, R y → Pot (k + n) o1 s c1 → Q (.d y) (P o1 s c1 :: r)) : Ok (evCall (fnsOf t__law_right 3) [.l 0, .d x1, .d x2] (P o s c :: r)) Q := Pf.call (us := [x1, x2]) (vs := [x1, x2]) h (fnsC (c := ⟨"_law_lie", 3, 3, [], [0, 1, 2], d__law_lie⟩) rfl _ _) p hk q
theorem v_law_1 {n k : Nat} {R : D → Prop} {o s c : Int} {r : Store} {Q : W → Store → Prop} (h : Pf d__law_right [] n R) (p : Pot k o s c) (hk : k + n < 2 ^ 29) (q : ∀ y o1 c1, R y → Pot (k + n) o1 s c1 → Q (.d y) (P o1 s c1 :: r)) : Ok (evCall (fnsOf t_law 1) [.l 0] (P o s c :: r)) Q := Pf.call (us := []) (vs := []) h (fnsC (c := ⟨"_law_right", 1, 1, [], [0], d__law_right⟩) rfl _ _) p hk q
end K70
namespace K70
open PySem PySem.Spec PyProof.Rows L2 DL
local macro_rules
  | `(tactic| sizeOf_list_dec) => `(tactic| first
    | with_reducible refine ynx_nx ?_ | with_reducible refine ynx_rt ?_ | with_reducible refine yss_cons ?_ | with_reducible refine yr_const ?_ | with_reducible refine ya_cons ?_ | with_reducible refine ya_nil ?_ | with_reducible refine yr_bin ?_ | with_reducible refine yr_ix ?_ | with_reducible refine yr_call ?_ | with_reducible refine yr_bi ?_ | with_reducible refine yset0 ?_ | with_reducible refine yset1 ?_
    | with_reducible refine yset2 ?_ | with_reducible refine yset3 ?_ | with_reducible refine yset4 ?_ | with_reducible refine yset5 ?_ | with_reducible refine yset6 ?_ | with_reducible refine yset7 ?_ | with_reducible refine yset8 ?_ | with_reducible refine yset9 ?_ | with_reducible refine yset10 ?_ | with_reducible refine yset11 ?_ | with_reducible refine yset12 ?_ | with_reducible refine yset13 ?_
    | with_reducible refine yset14 ?_ | with_reducible refine yset15 ?_ | with_reducible refine yset16 ?_ | with_reducible refine yset17 ?_ | with_reducible refine yset18 ?_ | with_reducible refine yset19 ?_ | with_reducible refine ys_ife ?_ | with_reducible refine yb_cmp ?_ | with_reducible refine yb_val ?_ | with_reducible refine yb_not ?_ | with_reducible refine yb_bop ?_ | with_reducible refine yb_and ?_
    | with_reducible refine yb_or ?_ | with_reducible refine yb_1 ?_ | with_reducible refine yb_chain ?_ | with_reducible refine yb_yes ?_ | with_reducible refine yo_add ?_ | with_reducible refine yo_sub ?_ | with_reducible refine yc_lt ?_ | with_reducible refine yc_le ?_ | with_reducible refine yc_gt ?_ | with_reducible refine yc_ge ?_ | with_reducible refine yc_eqi ?_ | with_reducible refine yc_nei ?_
    | with_reducible refine Br.t ?_ | with_reducible refine Br.f ?_ | with_reducible refine Br.not ?_ | with_reducible refine yr_tup ?_ | with_reducible refine yr_lst ?_ | with_reducible refine yr_neg ?_ | with_reducible refine yr_cmp ?_ | with_reducible refine yr_chain ?_ | with_reducible refine yr_not ?_ | with_reducible refine yr_bop ?_ | with_reducible refine yr_and ?_ | with_reducible refine yr_or ?_
    | with_reducible refine yr_bop1 ?_ | with_reducible refine yr_ifx ?_ | with_reducible refine yr_glob ?_ | with_reducible refine ys_ret ?_ | with_reducible refine ys_expr ?_ | with_reducible refine ys_par ?_ | with_reducible refine ys_retN ?_ | with_reducible refine ys_pass ?_ | with_reducible refine ys_brk ?_ | with_reducible refine ys_set ?_ | with_reducible refine yss_nil ?_ | with_reducible refine ys_for ?_
    | with_reducible refine yfin_rt ?_ | with_reducible refine yfin_nx ?_ | with_reducible refine ywp_nx ?_ | with_reducible refine ylp_nx ?_ | with_reducible refine ylp_rt ?_ | with_reducible refine ylp_bk ?_ | with_reducible refine ynx_bk ?_ | with_reducible refine yc_isb ?_ | with_reducible refine yc_isnb ?_ | with_reducible refine yc_isn_n ?_ | with_reducible refine yc_isn_i ?_ | with_reducible refine yc_isn_t ?_
    | with_reducible refine yc_isnn_n ?_ | with_reducible refine yc_isnn_i ?_ | with_reducible refine yc_isnn_t ?_ | with_reducible refine yt_bl ?_ | with_reducible refine yt_int ?_ | with_reducible refine yt_non ?_ | with_reducible refine yt_tup ?_ | with_reducible refine yt_lst ?_ | with_reducible refine yn_int ?_ | with_reducible refine yn_intB ?_ | with_reducible refine yn_max2 ?_ | with_reducible refine yn_min2 ?_
    | with_reducible refine yn_lenT ?_ | with_reducible refine yn_lenL ?_ | with_reducible refine yn_lenR ?_ | with_reducible refine yn_tupL ?_ | with_reducible refine yn_isi_int_int ?_ | with_reducible refine yn_isi_int_bool ?_ | with_reducible refine yn_isi_bool_int ?_ | with_reducible refine yn_isi_bool_bool ?_ | with_reducible refine yn_isi_tup_tuple ?_ | with_reducible refine yn_isi_int_tuple ?_
    | with_reducible refine yn_isi_str_str ?_ | with_reducible refine yn_isi_int_str ?_ | with_reducible refine yn_isi_str_int ?_ | with_reducible refine yn_isi_tup_int ?_ | with_reducible refine yn_isi_tup_str ?_ | with_reducible refine yn_isi_str_tuple ?_ | with_reducible refine yn_isi_non_tuple ?_ | with_reducible refine yn_isi_non_int ?_ | with_reducible refine yg_add ?_ | with_reducible refine yg_sub ?_
    | with_reducible refine yr_mt ?_ | with_reducible refine yr_comp ?_ | with_reducible refine yr_lrange ?_ | with_reducible refine yr_rep ?_ | with_reducible refine yr_frz ?_ | with_reducible refine yr_dict ?_ | with_reducible refine yi_items ?_ | with_reducible refine yi_dct ?_ | with_reducible refine yi_rtp ?_ | with_reducible refine yi_enRT ?_ | with_reducible refine yt_rtp ?_ | with_reducible refine yc_isn_rt ?_
    | with_reducible refine yc_isnn_rt ?_ | with_reducible refine ysq_rtp ?_ | with_reducible refine yn_lenRT ?_ | with_reducible refine yn_isi_rtp_tuple ?_ | with_reducible refine yr_slice00 ?_ | with_reducible refine yr_slice10 ?_ | with_reducible refine yr_slice01 ?_ | with_reducible refine yr_slice11 ?_ | with_reducible refine ysl_tup ?_ | with_reducible refine ysl_lst ?_ | with_reducible refine ysl_rol ?_
    | with_reducible refine yi_seq ?_ | with_reducible refine yi_tup ?_ | with_reducible refine yi_lst ?_ | with_reducible refine yi_rol ?_ | with_reducible refine yi_rng ?_ | with_reducible refine yi_enum ?_ | with_reducible refine yi_enT ?_ | with_reducible refine yi_enL ?_ | with_reducible refine yi_rng3 ?_ | with_reducible refine yr_tupS ?_ | with_reducible refine yr_lstS ?_ | with_reducible refine yas_nil ?_
    | with_reducible refine yas_one ?_ | with_reducible refine yas_star ?_ | with_reducible refine ysq_tup ?_ | with_reducible refine ysq_lst ?_ | with_reducible refine yi_zip ?_ | with_reducible refine yi_zipT ?_ | with_reducible refine yi_zipTL ?_ | with_reducible refine yi_zipLT ?_ | with_reducible refine yi_enz ?_ | with_reducible refine yi_enzT ?_ | with_reducible refine ex_int ?_
    | ((with_reducible apply yr_var); rfl) | ((with_reducible apply Br.yes); omega) | ((with_reducible apply Br.nay); omega) | ((with_reducible apply yix_tup); rfl) | ((with_reducible apply yix_lst); rfl) | ((with_reducible apply yix_rol); rfl) | ((with_reducible apply yix_rtp); rfl) | ((with_reducible apply yo_mul); assumption)
    | ((with_reducible apply yo_mod); (first | assumption | omega)) | ((with_reducible apply yo_div); (first | assumption | exact divOk_of (by omega) (by omega))) | ((with_reducible apply yo_pow); assumption) | ((with_reducible apply ytp); rfl; rfl) | ((with_reducible apply ynl_f); exact few rfl; rfl)
    | ((with_reducible apply ynl_t); exact few rfl) | ((with_reducible apply ys_asgT); skip) | ((with_reducible apply ex_eq); rfl) | ((with_reducible apply yi_rng1); omega))
/-! ### shapes -/
abbrev rT (v : List Int) : D := .tup (v.map .int)
abbrev pD (x : MM.Pr) : D := .tup [.int x.1, .int x.2]
abbrev pT (h : List MM.Pr) : D := .tup (h.map pD)
def dD : MM.Dd → D
  | .rd p => .tup [.str "read", .int (p : Int)]
  | .pt p v => .tup [.str "put", .int (p : Int), .int v]
abbrev jT (ds : List MM.Dd) : D := .tup (ds.map dD)
abbrev aT (a : List MM.Pr × List MM.Pr) : D := .tup [pT a.1, pT a.2]
structure Vs (vs : List Int) : Prop where
  l1 : 1 ≤ vs.length
  l2 : vs.length ≤ 16
  r : ∀ v ∈ vs, 0 ≤ v ∧ v < 1000003
def OkD (n : Nat) : MM.Dd → Prop
  | .rd p => p < n
  | .pt p v => p < n ∧ 0 ≤ v ∧ v < 1000003
theorem OkD.lt {n : Nat} {d : MM.Dd} (h : OkD n d) : d.pl < n := by
  cases d with
  | rd => exact h
  | pt => exact h.1
structure Jb (n : Nat) (ds : List MM.Dd) : Prop where
  l : ds.length ≤ 60
  r : ∀ d ∈ ds, OkD n d
def Pk (x : MM.Pr) : Prop := 0 ≤ x.1 ∧ x.1 < 2000000 ∧ 0 ≤ x.2 ∧ x.2 < 2000000
structure An (n m : Nat) (a : List MM.Pr × List MM.Pr) : Prop where
  t : a.1.length = m
  l : a.2.length = n
  pt : ∀ x ∈ a.1, Pk x
  pl : ∀ x ∈ a.2, Pk x
section
variable {S : Store} {Q : Bool → Store → Prop}
theorem sF (s : String) : strF (Str.ofString s) = true := strF_of s
theorem e_rr (q : Q true S) : Ok (evCmp .Eq (.d (.str "read")) (.d (.str "read")) S) Q := .eqn (eq_str (sF _)) q
theorem e_pp (q : Q true S) : Ok (evCmp .Eq (.d (.str "put")) (.d (.str "put")) S) Q := .eqn (eq_str (sF _)) q
theorem e_pr (q : Q false S) : Ok (evCmp .Eq (.d (.str "put")) (.d (.str "read")) S) Q := yc_eq (show sh _ _ = true from sF "put") (show sh _ _ = true from sF "read") (by rw [show deq (.str "put") (.str "read") = false by decide +kernel]; exact q)
theorem e_rp (q : Q false S) : Ok (evCmp .Eq (.d (.str "read")) (.d (.str "put")) S) Q := yc_eq (show sh _ _ = true from sF "read") (show sh _ _ = true from sF "put") (by rw [show deq (.str "read") (.str "put") = false by decide +kernel]; exact q)
end
theorem integer_ok (n : Int) : Gv d_is_integer [.int n] (.bl true) := by
  refine Gv.mk (go_is_integer ?_)
  unfold b_is_integer
  repeat sizeOf_list_dec
  rfl
theorem index_ok {x m : Int} (h0 : 0 ≤ x) (h1 : x < m) : Gv d_is_index [.int x, .int m] (.bl true) := by
  refine Gv.mk (go_is_index ?_)
  unfold b_is_index
  repeat sizeOf_list_dec
  refine u_is_index_0 (integer_ok _) ?_
  repeat sizeOf_list_dec
  rw [decide_eq_true h1]
theorem values_ok {vs : List Int} (h : Vs vs) : Gv d_are_values [rT vs] (.bl true) := by
  have hl : (vs.map D.int).length = vs.length := List.length_map _
  have l1 := h.l1
  have l2 := h.l2
  refine Gv.mk (go_are_values ?_)
  unfold b_are_values
  repeat sizeOf_list_dec
  refine yc_mapE D.int (fun _ => .bl true) (by unfold lineS; omega) (fun x hx => ?_) ?_
  · obtain ⟨x0, x1⟩ := h.r x hx
    refine yr_turn rfl ?_
    repeat sizeOf_list_dec
    refine u_are_values_0 (index_ok x0 x1) ?_
    exact ⟨rfl, rfl⟩
  · repeat sizeOf_list_dec
    refine yn_allL (bs := vs.map fun _ => true) (by rw [List.map_map]; rfl) ?_
    repeat sizeOf_list_dec
    rw [all_true]
theorem deed_ok {n : Nat} {d : MM.Dd} (h : OkD n d) : Gv d_is_deed [dD d, .int n] (.bl true) := by
  refine Gv.mk (go_is_deed ?_)
  unfold b_is_deed
  cases d with
  | rd p =>
    have h : p < n := h
    unfold dD
    repeat sizeOf_list_dec
    refine yc_ninT rfl rfl ?_
    refine Br.no rfl ?_
    repeat sizeOf_list_dec
    refine u_is_deed_0 (index_ok (by omega) (by omega)) ?_
    repeat sizeOf_list_dec
    refine Br.yes rfl ?_
    repeat sizeOf_list_dec
    refine e_rr ?_
    repeat sizeOf_list_dec
    rfl
  | pt p v =>
    obtain ⟨h, h1, h2⟩ : p < n ∧ 0 ≤ v ∧ v < 1000003 := h
    unfold dD
    repeat sizeOf_list_dec
    refine yc_ninT rfl rfl ?_
    refine Br.no rfl ?_
    repeat sizeOf_list_dec
    refine u_is_deed_0 (index_ok (by omega) (by omega)) ?_
    repeat sizeOf_list_dec
    refine Br.nay (by simp) ?_
    repeat sizeOf_list_dec
    refine e_pp ?_
    repeat sizeOf_list_dec
    refine u_is_deed_0 (index_ok h1 h2) ?_
    repeat sizeOf_list_dec
    first | done | rfl
theorem job_ok {vs : List Int} {ds : List MM.Dd} (h : Vs vs) (hj : Jb vs.length ds) : Gv d_check_job [rT vs, jT ds] .non := by
  have hl : (vs.map D.int).length = vs.length := List.length_map _
  have hl2 : (ds.map dD).length = ds.length := List.length_map _
  have l2 := hj.l
  refine Gv.mk (go_check_job ?_)
  unfold b_check_job
  repeat sizeOf_list_dec
  refine u_check_job_0 (values_ok h) ?_
  repeat sizeOf_list_dec
  refine yc_mapE dD (fun _ => .bl true) (by unfold lineS; omega) (fun d hd => ?_) ?_
  · refine yr_turn rfl ?_
    repeat sizeOf_list_dec
    rw [hl]
    refine u_check_job_1 (deed_ok (hj.r d hd)) ?_
    exact ⟨rfl, rfl⟩
  · repeat sizeOf_list_dec
    refine yn_allL (bs := ds.map fun _ => true) (by rw [List.map_map]; rfl) ?_
    rw [all_true]
    repeat sizeOf_list_dec
    rfl
theorem pair_ok {x : MM.Pr} (h : Pk x) : Gv d_is_pair [pD x] (.bl true) := by
  obtain ⟨h1, h2, h3, h4⟩ := h
  refine Gv.mk (go_is_pair ?_)
  unfold b_is_pair
  repeat sizeOf_list_dec
  refine Br.yes rfl ?_
  repeat sizeOf_list_dec
  refine yc_mapE D.int (xs := [x.1, x.2]) (fun _ => .bl true) (by show 2 < lineS; unfold lineS; omega) (fun z hz => ?_) ?_
  · have hz0 : 0 ≤ z := by
      rcases List.mem_cons.mp hz with rfl | hz
      · exact h1
      · rw [List.mem_singleton.mp hz]; exact h3
    refine yr_turn rfl ?_
    repeat sizeOf_list_dec
    refine u_is_pair_0 (integer_ok _) ?_
    repeat sizeOf_list_dec
    first | exact ⟨rfl, rfl⟩ | exact ⟨by rw [decide_eq_true (show z ≥ 0 from hz0)], rfl⟩
  · repeat sizeOf_list_dec
    refine yn_allL (bs := [true, true]) rfl ?_
    repeat sizeOf_list_dec
    rfl
theorem pairs_ok {n : Nat} {h : List MM.Pr} (hn : h.length = n) (hl : n ≤ 100) (hp : ∀ x ∈ h, Pk x) : Gv d_are_pairs [pT h, .int n] (.bl true) := by
  have hl2 : (h.map pD).length = n := by rw [List.length_map]; exact hn
  refine Gv.mk (go_are_pairs ?_)
  unfold b_are_pairs
  repeat sizeOf_list_dec
  refine yc_mapE pD (fun _ => .bl true) (by unfold lineS; omega) (fun d hd => ?_) ?_
  · refine yr_turn rfl ?_
    repeat sizeOf_list_dec
    refine u_are_pairs_0 (pair_ok (hp d hd)) ?_
    exact ⟨rfl, rfl⟩
  · repeat sizeOf_list_dec
    refine yn_allL (bs := h.map fun _ => true) (by rw [List.map_map]; rfl) ?_
    rw [all_true]
    repeat sizeOf_list_dec
    rfl
theorem answers_ok {vs : List Int} {ds : List MM.Dd} {a : List MM.Pr × List MM.Pr} (h : Vs vs) (hj : Jb vs.length ds) (ha : An vs.length ds.length a) : Gv d_check_answers [rT vs, jT ds, aT a] .non := by
  have hl : (vs.map D.int).length = vs.length := List.length_map _
  have hl2 : (ds.map dD).length = ds.length := List.length_map _
  have l2 := h.l2
  have l3 := hj.l
  refine Gv.mk (go_check_answers ?_)
  unfold b_check_answers
  repeat sizeOf_list_dec
  refine u_check_answers_0 (job_ok h hj) ?_
  repeat sizeOf_list_dec
  refine Br.yes rfl ?_
  repeat sizeOf_list_dec
  rw [hl2]
  refine u_check_answers_1 (pairs_ok ha.t (by omega) ha.pt) ?_
  repeat sizeOf_list_dec
  rw [hl]
  refine u_check_answers_1 (pairs_ok ha.l (by omega) ha.pl) ?_
  repeat sizeOf_list_dec
  rfl
end K70
namespace K70
open PySem PySem.Spec PyProof.Rows L2 DL
local macro_rules
  | `(tactic| sizeOf_list_dec) => `(tactic| first
    | with_reducible refine ynx_nx ?_ | with_reducible refine ynx_rt ?_ | with_reducible refine yss_cons ?_ | with_reducible refine yr_const ?_ | with_reducible refine ya_cons ?_ | with_reducible refine ya_nil ?_ | with_reducible refine yr_bin ?_ | with_reducible refine yr_ix ?_ | with_reducible refine yr_call ?_ | with_reducible refine yr_bi ?_ | with_reducible refine yset0 ?_ | with_reducible refine yset1 ?_
    | with_reducible refine yset2 ?_ | with_reducible refine yset3 ?_ | with_reducible refine yset4 ?_ | with_reducible refine yset5 ?_ | with_reducible refine yset6 ?_ | with_reducible refine yset7 ?_ | with_reducible refine yset8 ?_ | with_reducible refine yset9 ?_ | with_reducible refine yset10 ?_ | with_reducible refine yset11 ?_ | with_reducible refine yset12 ?_ | with_reducible refine yset13 ?_
    | with_reducible refine yset14 ?_ | with_reducible refine yset15 ?_ | with_reducible refine yset16 ?_ | with_reducible refine yset17 ?_ | with_reducible refine yset18 ?_ | with_reducible refine yset19 ?_ | with_reducible refine ys_ife ?_ | with_reducible refine yb_cmp ?_ | with_reducible refine yb_val ?_ | with_reducible refine yb_not ?_ | with_reducible refine yb_bop ?_ | with_reducible refine yb_and ?_
    | with_reducible refine yb_or ?_ | with_reducible refine yb_1 ?_ | with_reducible refine yb_chain ?_ | with_reducible refine yb_yes ?_ | with_reducible refine yo_add ?_ | with_reducible refine yo_sub ?_ | with_reducible refine yc_lt ?_ | with_reducible refine yc_le ?_ | with_reducible refine yc_gt ?_ | with_reducible refine yc_ge ?_ | with_reducible refine yc_eqi ?_ | with_reducible refine yc_nei ?_
    | with_reducible refine Br.t ?_ | with_reducible refine Br.f ?_ | with_reducible refine Br.not ?_ | with_reducible refine yr_tup ?_ | with_reducible refine yr_lst ?_ | with_reducible refine yr_neg ?_ | with_reducible refine yr_cmp ?_ | with_reducible refine yr_chain ?_ | with_reducible refine yr_not ?_ | with_reducible refine yr_bop ?_ | with_reducible refine yr_and ?_ | with_reducible refine yr_or ?_
    | with_reducible refine yr_bop1 ?_ | with_reducible refine yr_ifx ?_ | with_reducible refine yr_glob ?_ | with_reducible refine ys_ret ?_ | with_reducible refine ys_expr ?_ | with_reducible refine ys_par ?_ | with_reducible refine ys_retN ?_ | with_reducible refine ys_pass ?_ | with_reducible refine ys_brk ?_ | with_reducible refine ys_set ?_ | with_reducible refine yss_nil ?_ | with_reducible refine ys_for ?_
    | with_reducible refine yfin_rt ?_ | with_reducible refine yfin_nx ?_ | with_reducible refine ywp_nx ?_ | with_reducible refine ylp_nx ?_ | with_reducible refine ylp_rt ?_ | with_reducible refine ylp_bk ?_ | with_reducible refine ynx_bk ?_ | with_reducible refine yc_isb ?_ | with_reducible refine yc_isnb ?_ | with_reducible refine yc_isn_n ?_ | with_reducible refine yc_isn_i ?_ | with_reducible refine yc_isn_t ?_
    | with_reducible refine yc_isnn_n ?_ | with_reducible refine yc_isnn_i ?_ | with_reducible refine yc_isnn_t ?_ | with_reducible refine yt_bl ?_ | with_reducible refine yt_int ?_ | with_reducible refine yt_non ?_ | with_reducible refine yt_tup ?_ | with_reducible refine yt_lst ?_ | with_reducible refine yn_int ?_ | with_reducible refine yn_intB ?_ | with_reducible refine yn_max2 ?_ | with_reducible refine yn_min2 ?_
    | with_reducible refine yn_lenT ?_ | with_reducible refine yn_lenL ?_ | with_reducible refine yn_lenR ?_ | with_reducible refine yn_tupL ?_ | with_reducible refine yn_isi_int_int ?_ | with_reducible refine yn_isi_int_bool ?_ | with_reducible refine yn_isi_bool_int ?_ | with_reducible refine yn_isi_bool_bool ?_ | with_reducible refine yn_isi_tup_tuple ?_ | with_reducible refine yn_isi_int_tuple ?_
    | with_reducible refine yn_isi_str_str ?_ | with_reducible refine yn_isi_int_str ?_ | with_reducible refine yn_isi_str_int ?_ | with_reducible refine yn_isi_tup_int ?_ | with_reducible refine yn_isi_tup_str ?_ | with_reducible refine yn_isi_str_tuple ?_ | with_reducible refine yn_isi_non_tuple ?_ | with_reducible refine yn_isi_non_int ?_ | with_reducible refine yg_add ?_ | with_reducible refine yg_sub ?_
    | with_reducible refine yr_mt ?_ | with_reducible refine yr_comp ?_ | with_reducible refine yr_lrange ?_ | with_reducible refine yr_rep ?_ | with_reducible refine yr_frz ?_ | with_reducible refine yr_dict ?_ | with_reducible refine yi_items ?_ | with_reducible refine yi_dct ?_ | with_reducible refine yi_rtp ?_ | with_reducible refine yi_enRT ?_ | with_reducible refine yt_rtp ?_ | with_reducible refine yc_isn_rt ?_
    | with_reducible refine yc_isnn_rt ?_ | with_reducible refine ysq_rtp ?_ | with_reducible refine yn_lenRT ?_ | with_reducible refine yn_isi_rtp_tuple ?_ | with_reducible refine yr_slice00 ?_ | with_reducible refine yr_slice10 ?_ | with_reducible refine yr_slice01 ?_ | with_reducible refine yr_slice11 ?_ | with_reducible refine ysl_tup ?_ | with_reducible refine ysl_lst ?_ | with_reducible refine ysl_rol ?_
    | with_reducible refine yi_seq ?_ | with_reducible refine yi_tup ?_ | with_reducible refine yi_lst ?_ | with_reducible refine yi_rol ?_ | with_reducible refine yi_rng ?_ | with_reducible refine yi_enum ?_ | with_reducible refine yi_enT ?_ | with_reducible refine yi_enL ?_ | with_reducible refine yi_rng3 ?_ | with_reducible refine yr_tupS ?_ | with_reducible refine yr_lstS ?_ | with_reducible refine yas_nil ?_
    | with_reducible refine yas_one ?_ | with_reducible refine yas_star ?_ | with_reducible refine ysq_tup ?_ | with_reducible refine ysq_lst ?_ | with_reducible refine yi_zip ?_ | with_reducible refine yi_zipT ?_ | with_reducible refine yi_zipTL ?_ | with_reducible refine yi_zipLT ?_ | with_reducible refine yi_enz ?_ | with_reducible refine yi_enzT ?_ | with_reducible refine ex_int ?_
    | ((with_reducible apply yr_var); rfl) | ((with_reducible apply Br.yes); omega) | ((with_reducible apply Br.nay); omega) | ((with_reducible apply yix_tup); rfl) | ((with_reducible apply yix_lst); rfl) | ((with_reducible apply yix_rol); rfl) | ((with_reducible apply yix_rtp); rfl) | ((with_reducible apply yo_mul); assumption)
    | ((with_reducible apply yo_mod); (first | assumption | omega)) | ((with_reducible apply yo_div); (first | assumption | exact divOk_of (by omega) (by omega))) | ((with_reducible apply yo_pow); assumption) | ((with_reducible apply ytp); rfl; rfl) | ((with_reducible apply ynl_f); exact few rfl; rfl)
    | ((with_reducible apply ynl_t); exact few rfl) | ((with_reducible apply ys_asgT); skip) | ((with_reducible apply ex_eq); rfl) | ((with_reducible apply yi_rng1); omega))
abbrev pL (h : List MM.Pr) : Ob := .lst (h.map fun x => W.d (pD x))
theorem run_step {lost : List Nat} {ds : List MM.Dd} {i : Nat} {d : MM.Dd} {h : List MM.Pr} (e : ds[i]? = some d) : MM.run lost i (ds.drop i) h = (h.getD d.pl (0, 0) :: (MM.run lost (i + 1) (ds.drop (i + 1)) (h.set d.pl (MM.kv lost i d (h.getD d.pl (0, 0)), ((i + 1 : Nat) : Int)))).1, (MM.run lost (i + 1) (ds.drop (i + 1)) (h.set d.pl (MM.kv lost i d (h.getD d.pl (0, 0)), ((i + 1 : Nat) : Int)))).2) := by
  obtain ⟨hi, rfl⟩ := List.getElem?_eq_some_iff.mp e
  rw [List.drop_eq_getElem_cons hi]
  rfl
/-- how far a run is -/
def At (lost : List Nat) (ds : List MM.Dd) (vs : List Int) (i : Nat) (told h : List MM.Pr) : Prop :=
  h.length = vs.length ∧ told.length ≤ i ∧ MM.run lost 0 ds (MM.ini vs) = (told ++ (MM.run lost i (ds.drop i) h).1, (MM.run lost i (ds.drop i) h).2)
theorem At.start (lost : List Nat) (ds : List MM.Dd) (vs : List Int) : At lost ds vs 0 [] (MM.ini vs) := ⟨MM.ini_len vs, Nat.le_refl _, rfl⟩
theorem At.next {lost : List Nat} {ds : List MM.Dd} {vs : List Int} {i : Nat} {told h : List MM.Pr} {d : MM.Dd} (a : At lost ds vs i told h) (e : ds[i]? = some d) :
    At lost ds vs (i + 1) (told ++ [h.getD d.pl (0, 0)]) (h.set d.pl (MM.kv lost i d (h.getD d.pl (0, 0)), ((i + 1 : Nat) : Int))) := by
  obtain ⟨a1, a2, a3⟩ := a
  refine ⟨by rw [List.length_set]; exact a1, by rw [List.length_append]; simp; omega, ?_⟩
  rw [a3, run_step e, List.append_assoc]
  rfl
theorem At.fin {lost : List Nat} {ds : List MM.Dd} {vs : List Int} {told h : List MM.Pr} (a : At lost ds vs ds.length told h) : MM.run lost 0 ds (MM.ini vs) = (told, h) := by
  obtain ⟨_, _, a3⟩ := a
  rw [a3, List.drop_length]
  show (told ++ [], h) = _
  rw [List.append_nil]
theorem ini_w (vs : List Int) : vs.map (fun v => W.d (.tup [.int v, .int 0])) = (MM.ini vs).map fun x => W.d (pD x) := by
  unfold MM.ini
  rw [List.map_map]
  rfl
theorem st_ok {h told : List MM.Pr} {p i : Nat} {a : Int} {y : MM.Pr} : ([pL h, pL told].set 1 (.lst (told.map (fun x => W.d (pD x)) ++ [W.d (pD y)]))).set 0 (.lst ((h.map fun x => W.d (pD x)).set p (W.d (.tup [.int a, .int ((i : Int) + 1)])))) = [pL (h.set p (a, ((i + 1 : Nat) : Int))), pL (told ++ [y])] := by
  show [Ob.lst _, Ob.lst _] = [Ob.lst _, Ob.lst _]
  rw [List.map_append, List.map_set]
  rfl
abbrev nL (l : List Nat) : D := .lst (l.map fun (c : Nat) => D.int (c : Int))
theorem law_kept_ok {vs : List Int} {ds : List MM.Dd} (hv : Vs vs) (hj : Jb vs.length ds) (lost : List Nat) : Gv d__law_kept [rT vs, jT ds, nL lost] (aT (MM.run lost 0 ds (MM.ini vs))) := by
  have l2 := hv.l2
  have l3 := hj.l
  refine Gv.mk (go__law_kept ?_)
  unfold b__law_kept
  repeat sizeOf_list_dec
  refine yc_all (emb := D.int) (g := fun v => .tup [.int v, .int 0]) (k := fun _ => true) (xs := vs) (by rw [List.map_map]; rfl) rfl (by unfold lineS; omega) (fun v _ => ?_) ?_
  · refine yr_turn rfl (yb_yes (Br.t ?_))
    repeat sizeOf_list_dec
    exact ⟨rfl, rfl⟩
  rw [fil_all, ini_w]
  refine ynl_t (by rw [List.length_map, MM.ini_len]; unfold lineS; omega) ?_
  repeat sizeOf_list_dec
  refine yl_for (fun i env S => ∃ told h a5 a6 a7, At lost ds vs i told h ∧ env = [some (.d (rT vs)), some (.d (jT ds)), some (.d (nL lost)), some (.l 0), some (.l 1), a5, a6, a7] ∧ S = [pL h, pL told]) ⟨[], MM.ini vs, _, _, _, At.start .., rfl, rfl⟩ (fun _ _ _ _ => rfl) ?_ ?_
  · rintro i x env S hx ⟨told, h, a5, a6, a7, ha, rfl, rfl⟩
    obtain ⟨d, hd, rfl⟩ := enum_at dD hx
    rw [Nat.zero_add]
    have hi : i < ds.length := (List.getElem?_eq_some_iff.mp hd).1
    have hdp : d.pl < h.length := by rw [ha.1]; exact (hj.r d (List.mem_of_getElem? hd)).lt
    have hb := at_embW pD (MM.getD_some hdp)
    refine yl_turn (env' := [some (.d (rT vs)), some (.d (jT ds)), some (.d (nL lost)), some (.l 0), some (.l 1), some (.d (.int (i : Nat))), some (.d (dD d)), a7]) rfl ?_
    have nx := ha.next hd
    have tl := ha.2.1
    cases d with
    | rd p =>
      repeat sizeOf_list_dec
      refine ⟨ym_is rfl rfl, ?_⟩
      unfold dD
      repeat sizeOf_list_dec
      refine yix_l (n := 0) rfl hb ?_
      repeat sizeOf_list_dec
      refine ym_append (n := 1) rfl (by rw [List.length_map]; unfold lineS; omega) ?_
      repeat sizeOf_list_dec
      refine e_rp ?_
      repeat sizeOf_list_dec
      refine yix_l (n := 0) rfl hb ?_
      repeat sizeOf_list_dec
      refine ⟨_, setIx_l rfl (by rw [List.length_map]; exact hdp), ?_⟩
      repeat sizeOf_list_dec
      refine ⟨_, _, _, _, _, nx, rfl, ?_⟩
      exact st_ok
    | pt p v =>
      repeat sizeOf_list_dec
      refine ⟨ym_is rfl rfl, ?_⟩
      unfold dD
      repeat sizeOf_list_dec
      refine yix_l (n := 0) rfl hb ?_
      repeat sizeOf_list_dec
      refine ym_append (n := 1) rfl (by rw [List.length_map]; unfold lineS; omega) ?_
      repeat sizeOf_list_dec
      refine e_pp ?_
      repeat sizeOf_list_dec
      refine yc_nin (sh_int _ _) (shs_nats _ _) ?_
      rw [has_nat]
      have nx' : At lost ds vs (i + 1) (told ++ [h.getD p (0, 0)]) (h.set p (if i ∈ lost then (h.getD p (0, 0)).1 else v, ((i + 1 : Nat) : Int))) := nx
      by_cases hm : i ∈ lost
      · rw [decide_eq_true hm]
        rw [if_pos hm] at nx'
        refine Br.no rfl ?_
        repeat sizeOf_list_dec
        refine yix_l (n := 0) rfl hb ?_
        repeat sizeOf_list_dec
        refine ⟨_, setIx_l rfl (by rw [List.length_map]; exact hdp), ?_⟩
        repeat sizeOf_list_dec
        refine ⟨_, _, _, _, _, nx', rfl, ?_⟩
        exact st_ok
      · rw [decide_eq_false hm]
        rw [if_neg hm] at nx'
        refine Br.is rfl ?_
        repeat sizeOf_list_dec
        refine ⟨_, setIx_l rfl (by rw [List.length_map]; exact hdp), ?_⟩
        repeat sizeOf_list_dec
        refine ⟨_, _, _, _, _, nx', rfl, ?_⟩
        exact st_ok
  · rintro env S ⟨told, h, a5, a6, a7, ha, rfl, rfl⟩
    have ha : At lost ds vs (enumW 0 (ds.map dD)).length told h := ha
    rw [enum_len] at ha
    rw [ha.fin]
    repeat sizeOf_list_dec
    refine yn_tupP (n := 1) (xs := told.map pD) (by rw [List.map_map]; rfl) ?_
    repeat sizeOf_list_dec
    refine yn_tupP (n := 0) (xs := h.map pD) (by rw [List.map_map]; rfl) ?_
    repeat sizeOf_list_dec
    rfl
theorem law_plain_ok {vs : List Int} {ds : List MM.Dd} (hv : Vs vs) (hj : Jb vs.length ds) : Gv d__law_plain [rT vs, jT ds] (aT (MM.right vs ds)) := by
  refine Gv.mk (go__law_plain ?_)
  unfold b__law_plain
  repeat sizeOf_list_dec
  refine u__law_plain_0 (law_kept_ok hv hj []) ?_
  repeat sizeOf_list_dec
  rfl
end K70
namespace K70
open PySem PySem.Spec PyProof.Rows L2 DL
local macro_rules
  | `(tactic| sizeOf_list_dec) => `(tactic| first
    | with_reducible refine ynx_nx ?_ | with_reducible refine ynx_rt ?_ | with_reducible refine yss_cons ?_ | with_reducible refine yr_const ?_ | with_reducible refine ya_cons ?_ | with_reducible refine ya_nil ?_ | with_reducible refine yr_bin ?_ | with_reducible refine yr_ix ?_ | with_reducible refine yr_call ?_ | with_reducible refine yr_bi ?_ | with_reducible refine yset0 ?_ | with_reducible refine yset1 ?_
    | with_reducible refine yset2 ?_ | with_reducible refine yset3 ?_ | with_reducible refine yset4 ?_ | with_reducible refine yset5 ?_ | with_reducible refine yset6 ?_ | with_reducible refine yset7 ?_ | with_reducible refine yset8 ?_ | with_reducible refine yset9 ?_ | with_reducible refine yset10 ?_ | with_reducible refine yset11 ?_ | with_reducible refine yset12 ?_ | with_reducible refine yset13 ?_
    | with_reducible refine yset14 ?_ | with_reducible refine yset15 ?_ | with_reducible refine yset16 ?_ | with_reducible refine yset17 ?_ | with_reducible refine yset18 ?_ | with_reducible refine yset19 ?_ | with_reducible refine ys_ife ?_ | with_reducible refine yb_cmp ?_ | with_reducible refine yb_val ?_ | with_reducible refine yb_not ?_ | with_reducible refine yb_bop ?_ | with_reducible refine yb_and ?_
    | with_reducible refine yb_or ?_ | with_reducible refine yb_1 ?_ | with_reducible refine yb_chain ?_ | with_reducible refine yb_yes ?_ | with_reducible refine yo_add ?_ | with_reducible refine yo_sub ?_ | with_reducible refine yc_lt ?_ | with_reducible refine yc_le ?_ | with_reducible refine yc_gt ?_ | with_reducible refine yc_ge ?_ | with_reducible refine yc_eqi ?_ | with_reducible refine yc_nei ?_
    | with_reducible refine Br.t ?_ | with_reducible refine Br.f ?_ | with_reducible refine Br.not ?_ | with_reducible refine yr_tup ?_ | with_reducible refine yr_lst ?_ | with_reducible refine yr_neg ?_ | with_reducible refine yr_cmp ?_ | with_reducible refine yr_chain ?_ | with_reducible refine yr_not ?_ | with_reducible refine yr_bop ?_ | with_reducible refine yr_and ?_ | with_reducible refine yr_or ?_
    | with_reducible refine yr_bop1 ?_ | with_reducible refine yr_ifx ?_ | with_reducible refine yr_glob ?_ | with_reducible refine ys_ret ?_ | with_reducible refine ys_expr ?_ | with_reducible refine ys_par ?_ | with_reducible refine ys_retN ?_ | with_reducible refine ys_pass ?_ | with_reducible refine ys_brk ?_ | with_reducible refine ys_set ?_ | with_reducible refine yss_nil ?_ | with_reducible refine ys_for ?_
    | with_reducible refine yfin_rt ?_ | with_reducible refine yfin_nx ?_ | with_reducible refine ywp_nx ?_ | with_reducible refine ylp_nx ?_ | with_reducible refine ylp_rt ?_ | with_reducible refine ylp_bk ?_ | with_reducible refine ynx_bk ?_ | with_reducible refine yc_isb ?_ | with_reducible refine yc_isnb ?_ | with_reducible refine yc_isn_n ?_ | with_reducible refine yc_isn_i ?_ | with_reducible refine yc_isn_t ?_
    | with_reducible refine yc_isnn_n ?_ | with_reducible refine yc_isnn_i ?_ | with_reducible refine yc_isnn_t ?_ | with_reducible refine yt_bl ?_ | with_reducible refine yt_int ?_ | with_reducible refine yt_non ?_ | with_reducible refine yt_tup ?_ | with_reducible refine yt_lst ?_ | with_reducible refine yn_int ?_ | with_reducible refine yn_intB ?_ | with_reducible refine yn_max2 ?_ | with_reducible refine yn_min2 ?_
    | with_reducible refine yn_lenT ?_ | with_reducible refine yn_lenL ?_ | with_reducible refine yn_lenR ?_ | with_reducible refine yn_tupL ?_ | with_reducible refine yn_isi_int_int ?_ | with_reducible refine yn_isi_int_bool ?_ | with_reducible refine yn_isi_bool_int ?_ | with_reducible refine yn_isi_bool_bool ?_ | with_reducible refine yn_isi_tup_tuple ?_ | with_reducible refine yn_isi_int_tuple ?_
    | with_reducible refine yn_isi_str_str ?_ | with_reducible refine yn_isi_int_str ?_ | with_reducible refine yn_isi_str_int ?_ | with_reducible refine yn_isi_tup_int ?_ | with_reducible refine yn_isi_tup_str ?_ | with_reducible refine yn_isi_str_tuple ?_ | with_reducible refine yn_isi_non_tuple ?_ | with_reducible refine yn_isi_non_int ?_ | with_reducible refine yg_add ?_ | with_reducible refine yg_sub ?_
    | with_reducible refine yr_mt ?_ | with_reducible refine yr_comp ?_ | with_reducible refine yr_lrange ?_ | with_reducible refine yr_rep ?_ | with_reducible refine yr_frz ?_ | with_reducible refine yr_dict ?_ | with_reducible refine yi_items ?_ | with_reducible refine yi_dct ?_ | with_reducible refine yi_rtp ?_ | with_reducible refine yi_enRT ?_ | with_reducible refine yt_rtp ?_ | with_reducible refine yc_isn_rt ?_
    | with_reducible refine yc_isnn_rt ?_ | with_reducible refine ysq_rtp ?_ | with_reducible refine yn_lenRT ?_ | with_reducible refine yn_isi_rtp_tuple ?_ | with_reducible refine yr_slice00 ?_ | with_reducible refine yr_slice10 ?_ | with_reducible refine yr_slice01 ?_ | with_reducible refine yr_slice11 ?_ | with_reducible refine ysl_tup ?_ | with_reducible refine ysl_lst ?_ | with_reducible refine ysl_rol ?_
    | with_reducible refine yi_seq ?_ | with_reducible refine yi_tup ?_ | with_reducible refine yi_lst ?_ | with_reducible refine yi_rol ?_ | with_reducible refine yi_rng ?_ | with_reducible refine yi_enum ?_ | with_reducible refine yi_enT ?_ | with_reducible refine yi_enL ?_ | with_reducible refine yi_rng3 ?_ | with_reducible refine yr_tupS ?_ | with_reducible refine yr_lstS ?_ | with_reducible refine yas_nil ?_
    | with_reducible refine yas_one ?_ | with_reducible refine yas_star ?_ | with_reducible refine ysq_tup ?_ | with_reducible refine ysq_lst ?_ | with_reducible refine yi_zip ?_ | with_reducible refine yi_zipT ?_ | with_reducible refine yi_zipTL ?_ | with_reducible refine yi_zipLT ?_ | with_reducible refine yi_enz ?_ | with_reducible refine yi_enzT ?_ | with_reducible refine ex_int ?_
    | ((with_reducible apply yr_var); rfl) | ((with_reducible apply Br.yes); omega) | ((with_reducible apply Br.nay); omega) | ((with_reducible apply yix_tup); rfl) | ((with_reducible apply yix_lst); rfl) | ((with_reducible apply yix_rol); rfl) | ((with_reducible apply yix_rtp); rfl) | ((with_reducible apply yo_mul); assumption)
    | ((with_reducible apply yo_mod); (first | assumption | omega)) | ((with_reducible apply yo_div); (first | assumption | exact divOk_of (by omega) (by omega))) | ((with_reducible apply yo_pow); assumption) | ((with_reducible apply ytp); rfl; rfl) | ((with_reducible apply ynl_f); exact few rfl; rfl)
    | ((with_reducible apply ynl_t); exact few rfl) | ((with_reducible apply ys_asgT); skip) | ((with_reducible apply ex_eq); rfl) | ((with_reducible apply yi_rng1); omega))
/-! ### late deeds -/
def lateO (i : Nat) : List MM.Pr → Option Nat
  | [] => none
  | x :: r => if x.2 > (i : Int) then some (i + 1) else lateO (i + 1) r
def natO : Option Nat → D
  | none => .non
  | some k => .int (k : Int)
theorem late_none : ∀ {h : List MM.Pr} {i : Nat}, lateO i h = none ↔ ∀ (j : Nat) x, h[j]? = some x → x.2 ≤ ((i + j : Nat) : Int)
  | [], i => ⟨fun _ j x e => by simp at e, fun _ => rfl⟩
  | y :: r, i => by
    show (if y.2 > (i : Int) then some (i + 1) else lateO (i + 1) r) = none ↔ _
    by_cases h : y.2 > (i : Int)
    · rw [if_pos h]
      refine ⟨fun e => by simp at e, fun q => ?_⟩
      have := q 0 y rfl
      omega
    · rw [if_neg h, late_none]
      constructor
      · intro q j x e
        cases j with
        | zero =>
          have : y = x := by simpa using e
          subst this
          omega
        | succ j =>
          have := q j x (by simpa using e)
          rw [show i + (j + 1) = i + 1 + j by omega]
          exact this
      · intro q j x e
        have := q (j + 1) x (by simpa using e)
        rw [show i + 1 + j = i + (j + 1) by omega]
        exact this
theorem value_behind_ok (d : MM.Dd) (x : MM.Pr) : Gv d_value_behind [dD d, pD x] (.int (MM.vb d x)) := by
  refine Gv.mk (go_value_behind ?_)
  unfold b_value_behind
  cases d with
  | rd p =>
    unfold dD
    repeat sizeOf_list_dec
    refine e_rr ?_
    repeat sizeOf_list_dec
    rfl
  | pt p v =>
    unfold dD
    repeat sizeOf_list_dec
    refine e_pr ?_
    repeat sizeOf_list_dec
    rfl
theorem late_ok {ds : List MM.Dd} {a : List MM.Pr × List MM.Pr} : Gv d_late_deed [jT ds, aT a, .non] (natO (lateO 0 a.1)) := by
  refine Gv.mk (go_late_deed ?_)
  unfold b_late_deed
  repeat sizeOf_list_dec
  refine yl_for (fun i env S => ∃ a3 a4 a5, lateO 0 a.1 = lateO i (a.1.drop i) ∧ env = [some (.d (jT ds)), some (.d (aT a)), some (.d .non), a3, a4, a5] ∧ S = []) ⟨_, _, _, rfl, rfl, rfl⟩ (fun _ _ _ _ => rfl) ?_ ?_
  · rintro i x env S hx ⟨a3, a4, a5, he, rfl, rfl⟩
    obtain ⟨x, hx', rfl⟩ := enum_at pD hx
    rw [Nat.zero_add]
    refine yl_turn (env' := [some (.d (jT ds)), some (.d (aT a)), some (.d .non), some (.d (.int (i : Nat))), some (.d (.int x.1)), some (.d (.int x.2))]) rfl ?_
    obtain ⟨hi, hx2⟩ := List.getElem?_eq_some_iff.mp hx'
    rw [List.drop_eq_getElem_cons hi, hx2] at he
    have he : lateO 0 a.1 = if x.2 > (i : Int) then some (i + 1) else lateO (i + 1) (a.1.drop (i + 1)) := he
    by_cases h : x.2 > (i : Int)
    · rw [if_pos h] at he
      repeat sizeOf_list_dec
      rw [he]
      rfl
    · rw [if_neg h] at he
      repeat sizeOf_list_dec
      exact ⟨_, _, _, he, rfl, rfl⟩
  · rintro env S ⟨a3, a4, a5, he, rfl, rfl⟩
    have he : lateO 0 a.1 = lateO (enumW 0 (a.1.map pD)).length (a.1.drop (enumW 0 (a.1.map pD)).length) := he
    rw [enum_len, List.drop_length] at he
    rw [he]
    repeat sizeOf_list_dec
    rfl
/-! ### piles -/
abbrev tD (t : MM.Tr) : D := .tup [.int t.1, .int t.2.1, .int t.2.2]
abbrev tL (l : List MM.Tr) : Ob := .lst (l.map fun t => W.d (tD t))
theorem tl_ini : ∀ (vs : List Int) (k : Nat), (vs.zipIdx k).map (fun p => W.d (.tup [.int (p.2 : Nat), .int p.1, .int 0])) = (MM.tl k (MM.ini vs)).map fun t => W.d (tD t)
  | [], _ => rfl
  | v :: vs, k => by
    rw [List.zipIdx_cons, List.map_cons, tl_ini vs (k + 1)]
    rfl
theorem tl_enc : ∀ (h : List MM.Pr) (k : Nat), (h.zipIdx k).map (fun p => D.tup [.int (p.2 : Nat), .int p.1.1, .int p.1.2]) = (MM.tl k h).map tD
  | [], _ => rfl
  | v :: vs, k => by
    rw [List.zipIdx_cons, List.map_cons, tl_enc vs (k + 1)]
    rfl
theorem tl_len : ∀ (h : List MM.Pr) (k : Nat), (MM.tl k h).length = h.length
  | [], _ => rfl
  | v :: vs, k => by
    show (_ :: MM.tl (k + 1) vs).length = _
    rw [List.length_cons, tl_len vs (k + 1), List.length_cons]
theorem zipP_emb {α β : Type} (f : α → D) (g : β → D) : ∀ (xs : List α) (ys : List β), zipP (xs.map f) (ys.map g) = (xs.zip ys).map fun q => .tup [f q.1, g q.2]
  | [], _ => by cases ‹List β› <;> rfl
  | _ :: _, [] => rfl
  | x :: xs, y :: ys => by
    show _ :: zipP (xs.map f) (ys.map g) = _
    rw [zipP_emb f g xs ys]
    rfl
theorem pj_len : ∀ (ds : List MM.Dd) (xs : List MM.Pr) (j : Nat), (MM.pj j ds xs).length ≤ ds.length
  | [], _, _ => Nat.le_refl _
  | _ :: _, [], _ => Nat.zero_le _
  | d :: ds, x :: xs, j => by
    have := pj_len ds xs (j + 1)
    show (_ :: MM.pj (j + 1) ds xs).length ≤ _
    rw [List.length_cons, List.length_cons]
    omega
theorem tj_len : ∀ (ds : List MM.Dd) (xs : List MM.Pr), (MM.tj ds xs).length ≤ ds.length
  | [], _ => Nat.le_refl _
  | _ :: _, [] => Nat.zero_le _
  | d :: ds, x :: xs => by
    have := tj_len ds xs
    show (_ :: MM.tj ds xs).length ≤ _
    rw [List.length_cons, List.length_cons]
    omega
/-- how far the piles are -/
structure Pil (vs : List Int) (ds : List MM.Dd) (told : List MM.Pr) (i : Nat) (A B : List MM.Tr) : Prop where
  a : MM.puts vs ds told = A ++ MM.pj i (ds.drop i) (told.drop i)
  b : MM.tj ds told = B ++ MM.tj (ds.drop i) (told.drop i)
  la : A.length ≤ vs.length + i
  lb : B.length ≤ i
theorem Pil.start (vs : List Int) (ds : List MM.Dd) (told : List MM.Pr) : Pil vs ds told 0 (MM.tl 0 (MM.ini vs)) [] := ⟨rfl, rfl, by rw [tl_len, MM.ini_len]; omega, Nat.le_refl _⟩
theorem Pil.next {vs : List Int} {ds : List MM.Dd} {told : List MM.Pr} {i : Nat} {A B : List MM.Tr} {d : MM.Dd} {x : MM.Pr} (p : Pil vs ds told i A B) (e1 : ds[i]? = some d) (e2 : told[i]? = some x) :
    Pil vs ds told (i + 1) (A ++ [((d.pl : Int), MM.vb d x, ((i + 1 : Nat) : Int))]) (B ++ [((d.pl : Int), x.1, x.2)]) := by
  obtain ⟨h1, r1⟩ := List.getElem?_eq_some_iff.mp e1
  obtain ⟨h2, r2⟩ := List.getElem?_eq_some_iff.mp e2
  refine ⟨?_, ?_, by rw [List.length_append]; have := p.la; simp; omega, by rw [List.length_append]; have := p.lb; simp; omega⟩
  · rw [p.a, List.drop_eq_getElem_cons h1, List.drop_eq_getElem_cons h2, r1, r2, List.append_assoc]
    rfl
  · rw [p.b, List.drop_eq_getElem_cons h1, List.drop_eq_getElem_cons h2, r1, r2, List.append_assoc]
    rfl
theorem Pil.fin {vs : List Int} {ds : List MM.Dd} {told : List MM.Pr} {A B : List MM.Tr} (p : Pil vs ds told ds.length A B) : A = MM.puts vs ds told ∧ B = MM.tj ds told := by
  have a := p.a
  have b := p.b
  rw [List.drop_length] at a b
  have a : _ = A ++ [] := a
  have b : _ = B ++ [] := b
  rw [List.append_nil] at a b
  exact ⟨a.symm, b.symm⟩
theorem dD_1 {d : MM.Dd} {S : Store} {Q : W → Store → Prop} (q : Q (.d (.int (d.pl : Int))) S) : Ok (evIx (.d (dD d)) (.d (.int 1)) S) Q := by
  cases d <;> exact yix_tup rfl q
theorem piles_ok {vs : List Int} {ds : List MM.Dd} {a : List MM.Pr × List MM.Pr} (hv : Vs vs) (hj : Jb vs.length ds) (ha : An vs.length ds.length a) : Gv d_piles_of [rT vs, jT ds, aT a] (.tup [.lst ((MM.puts vs ds a.1).map tD), .lst ((MM.taken ds a.1 a.2).map tD)]) := by
  have l2 := hv.l2
  have l3 := hj.l
  have ht := ha.t
  have hl := ha.l
  refine Gv.mk (go_piles_of ?_)
  unfold b_piles_of
  repeat sizeOf_list_dec
  refine yc_all (emb := fun p : Int × Nat => .tup [.int (p.2 : Nat), .int p.1]) (g := fun p => .tup [.int (p.2 : Nat), .int p.1, .int 0]) (k := fun _ => true) (xs := vs.zipIdx) (by rw [enumW_emb, List.map_map]; rfl) rfl (by rw [List.length_zipIdx]; unfold lineS; omega) (fun v _ => ?_) ?_
  · refine yr_turn rfl (yb_yes (Br.t ?_))
    repeat sizeOf_list_dec
    exact ⟨rfl, rfl⟩
  rw [fil_all, tl_ini]
  refine ynl_t (by rw [List.length_map, tl_len, MM.ini_len]; unfold lineS; omega) ?_
  repeat sizeOf_list_dec
  rw [zipP_emb]
  refine yl_for (fun i env S => ∃ A B a5 a6 a7 a8 a9, Pil vs ds a.1 i A B ∧ env = [some (.d (rT vs)), some (.d (jT ds)), some (.d (aT a)), some (.l 0), some (.l 1), a5, a6, a7, a8, a9] ∧ S = [tL A, tL B]) ⟨_, _, _, _, _, _, _, Pil.start .., rfl, rfl⟩ (fun _ _ _ _ => rfl) ?_ ?_
  · rintro i x env S hx ⟨A, B, a5, a6, a7, a8, a9, hp, rfl, rfl⟩
    obtain ⟨q, hq, rfl⟩ := enum_at _ hx
    rw [Nat.zero_add]
    rw [List.getElem?_zip_eq_some] at hq
    obtain ⟨q1, q2⟩ := hq
    obtain ⟨d, y⟩ := q
    have hi : i < ds.length := (List.getElem?_eq_some_iff.mp q1).1
    have nx := hp.next q1 q2
    have la := hp.la
    have lb := hp.lb
    refine yl_turn (env' := [some (.d (rT vs)), some (.d (jT ds)), some (.d (aT a)), some (.l 0), some (.l 1), some (.d (.int (i : Nat))), some (.d (dD d)), some (.d (pD y)), a8, a9]) rfl ?_
    repeat sizeOf_list_dec
    refine ⟨ym_is rfl rfl, ?_⟩
    repeat sizeOf_list_dec
    refine dD_1 ?_
    repeat sizeOf_list_dec
    refine ym_append (n := 1) rfl (by rw [List.length_map]; unfold lineS; omega) ?_
    repeat sizeOf_list_dec
    refine ⟨ym_is rfl rfl, ?_⟩
    repeat sizeOf_list_dec
    refine dD_1 ?_
    repeat sizeOf_list_dec
    refine u_piles_of_0 (value_behind_ok d y) ?_
    repeat sizeOf_list_dec
    refine ym_append (n := 0) rfl (by rw [List.length_map]; unfold lineS; omega) ?_
    repeat sizeOf_list_dec
    refine ⟨_, _, _, _, _, _, _, nx, rfl, ?_⟩
    show [Ob.lst _, Ob.lst _] = [Ob.lst _, Ob.lst _]
    rw [List.map_append, List.map_append]
    rfl
  · rintro env S ⟨A, B, a5, a6, a7, a8, a9, hp, rfl, rfl⟩
    have e : (enumW 0 ((ds.zip a.1).map fun q => D.tup [dD q.1, pD q.2])).length = ds.length := by rw [enum_len, List.length_zip, ht, Nat.min_self]
    have hp : Pil vs ds a.1 (enumW 0 ((ds.zip a.1).map fun q => D.tup [dD q.1, pD q.2])).length A B := hp
    rw [e] at hp
    obtain ⟨rfl, rfl⟩ := hp.fin
    have la := hp.la
    have lb := hp.lb
    repeat sizeOf_list_dec
    refine ⟨ym_is rfl rfl, ?_⟩
    repeat sizeOf_list_dec
    rw [enumW_emb]
    refine yc_mapE (fun p : MM.Pr × Nat => D.tup [.int (p.2 : Nat), pD p.1]) (fun p => .tup [.int (p.2 : Nat), .int p.1.1, .int p.1.2]) (xs := a.2.zipIdx) (by rw [List.length_zipIdx]; unfold lineS; omega) (fun p _ => ?_) ?_
    · refine yr_turn rfl ?_
      repeat sizeOf_list_dec
      exact ⟨rfl, rfl⟩
    · rw [tl_enc]
      repeat sizeOf_list_dec
      refine ym_extend (n := 1) rfl (by rw [List.length_map, List.length_map, tl_len]; unfold lineS; omega) ?_
      repeat sizeOf_list_dec
      refine yfrz (n := 0) (ds := (MM.puts vs ds a.1).map tD) (by show some (Ob.lst _) = some (Ob.lst _); rw [List.map_map]; rfl) ?_
      repeat sizeOf_list_dec
      refine yfrz (n := 1) (ds := (MM.taken ds a.1 a.2).map tD) (by show some (Ob.lst _) = some (Ob.lst _); unfold MM.taken; rw [List.map_append, List.map_append, List.map_map, List.map_map]; rfl) ?_
      repeat sizeOf_list_dec
      rfl
end K70
namespace K70
open PySem PySem.Spec PyProof.Rows L2 DL
local macro_rules
  | `(tactic| sizeOf_list_dec) => `(tactic| first
    | with_reducible refine ynx_nx ?_ | with_reducible refine ynx_rt ?_ | with_reducible refine yss_cons ?_ | with_reducible refine yr_const ?_ | with_reducible refine ya_cons ?_ | with_reducible refine ya_nil ?_ | with_reducible refine yr_bin ?_ | with_reducible refine yr_ix ?_ | with_reducible refine yr_call ?_ | with_reducible refine yr_bi ?_ | with_reducible refine yset0 ?_ | with_reducible refine yset1 ?_
    | with_reducible refine yset2 ?_ | with_reducible refine yset3 ?_ | with_reducible refine yset4 ?_ | with_reducible refine yset5 ?_ | with_reducible refine yset6 ?_ | with_reducible refine yset7 ?_ | with_reducible refine yset8 ?_ | with_reducible refine yset9 ?_ | with_reducible refine yset10 ?_ | with_reducible refine yset11 ?_ | with_reducible refine yset12 ?_ | with_reducible refine yset13 ?_
    | with_reducible refine yset14 ?_ | with_reducible refine yset15 ?_ | with_reducible refine yset16 ?_ | with_reducible refine yset17 ?_ | with_reducible refine yset18 ?_ | with_reducible refine yset19 ?_ | with_reducible refine ys_ife ?_ | with_reducible refine yb_cmp ?_ | with_reducible refine yb_val ?_ | with_reducible refine yb_not ?_ | with_reducible refine yb_bop ?_ | with_reducible refine yb_and ?_
    | with_reducible refine yb_or ?_ | with_reducible refine yb_1 ?_ | with_reducible refine yb_chain ?_ | with_reducible refine yb_yes ?_ | with_reducible refine yo_add ?_ | with_reducible refine yo_sub ?_ | with_reducible refine yc_lt ?_ | with_reducible refine yc_le ?_ | with_reducible refine yc_gt ?_ | with_reducible refine yc_ge ?_ | with_reducible refine yc_eqi ?_ | with_reducible refine yc_nei ?_
    | with_reducible refine Br.t ?_ | with_reducible refine Br.f ?_ | with_reducible refine Br.not ?_ | with_reducible refine yr_tup ?_ | with_reducible refine yr_lst ?_ | with_reducible refine yr_neg ?_ | with_reducible refine yr_cmp ?_ | with_reducible refine yr_chain ?_ | with_reducible refine yr_not ?_ | with_reducible refine yr_bop ?_ | with_reducible refine yr_and ?_ | with_reducible refine yr_or ?_
    | with_reducible refine yr_bop1 ?_ | with_reducible refine yr_ifx ?_ | with_reducible refine yr_glob ?_ | with_reducible refine ys_ret ?_ | with_reducible refine ys_expr ?_ | with_reducible refine ys_par ?_ | with_reducible refine ys_retN ?_ | with_reducible refine ys_pass ?_ | with_reducible refine ys_brk ?_ | with_reducible refine ys_set ?_ | with_reducible refine yss_nil ?_ | with_reducible refine ys_for ?_
    | with_reducible refine yfin_rt ?_ | with_reducible refine yfin_nx ?_ | with_reducible refine ywp_nx ?_ | with_reducible refine ylp_nx ?_ | with_reducible refine ylp_rt ?_ | with_reducible refine ylp_bk ?_ | with_reducible refine ynx_bk ?_ | with_reducible refine yc_isb ?_ | with_reducible refine yc_isnb ?_ | with_reducible refine yc_isn_n ?_ | with_reducible refine yc_isn_i ?_ | with_reducible refine yc_isn_t ?_
    | with_reducible refine yc_isnn_n ?_ | with_reducible refine yc_isnn_i ?_ | with_reducible refine yc_isnn_t ?_ | with_reducible refine yt_bl ?_ | with_reducible refine yt_int ?_ | with_reducible refine yt_non ?_ | with_reducible refine yt_tup ?_ | with_reducible refine yt_lst ?_ | with_reducible refine yn_int ?_ | with_reducible refine yn_intB ?_ | with_reducible refine yn_max2 ?_ | with_reducible refine yn_min2 ?_
    | with_reducible refine yn_lenT ?_ | with_reducible refine yn_lenL ?_ | with_reducible refine yn_lenR ?_ | with_reducible refine yn_tupL ?_ | with_reducible refine yn_isi_int_int ?_ | with_reducible refine yn_isi_int_bool ?_ | with_reducible refine yn_isi_bool_int ?_ | with_reducible refine yn_isi_bool_bool ?_ | with_reducible refine yn_isi_tup_tuple ?_ | with_reducible refine yn_isi_int_tuple ?_
    | with_reducible refine yn_isi_str_str ?_ | with_reducible refine yn_isi_int_str ?_ | with_reducible refine yn_isi_str_int ?_ | with_reducible refine yn_isi_tup_int ?_ | with_reducible refine yn_isi_tup_str ?_ | with_reducible refine yn_isi_str_tuple ?_ | with_reducible refine yn_isi_non_tuple ?_ | with_reducible refine yn_isi_non_int ?_ | with_reducible refine yg_add ?_ | with_reducible refine yg_sub ?_
    | with_reducible refine yr_mt ?_ | with_reducible refine yr_comp ?_ | with_reducible refine yr_lrange ?_ | with_reducible refine yr_rep ?_ | with_reducible refine yr_frz ?_ | with_reducible refine yr_dict ?_ | with_reducible refine yi_items ?_ | with_reducible refine yi_dct ?_ | with_reducible refine yi_rtp ?_ | with_reducible refine yi_enRT ?_ | with_reducible refine yt_rtp ?_ | with_reducible refine yc_isn_rt ?_
    | with_reducible refine yc_isnn_rt ?_ | with_reducible refine ysq_rtp ?_ | with_reducible refine yn_lenRT ?_ | with_reducible refine yn_isi_rtp_tuple ?_ | with_reducible refine yr_slice00 ?_ | with_reducible refine yr_slice10 ?_ | with_reducible refine yr_slice01 ?_ | with_reducible refine yr_slice11 ?_ | with_reducible refine ysl_tup ?_ | with_reducible refine ysl_lst ?_ | with_reducible refine ysl_rol ?_
    | with_reducible refine yi_seq ?_ | with_reducible refine yi_tup ?_ | with_reducible refine yi_lst ?_ | with_reducible refine yi_rol ?_ | with_reducible refine yi_rng ?_ | with_reducible refine yi_enum ?_ | with_reducible refine yi_enT ?_ | with_reducible refine yi_enL ?_ | with_reducible refine yi_rng3 ?_ | with_reducible refine yr_tupS ?_ | with_reducible refine yr_lstS ?_ | with_reducible refine yas_nil ?_
    | with_reducible refine yas_one ?_ | with_reducible refine yas_star ?_ | with_reducible refine ysq_tup ?_ | with_reducible refine ysq_lst ?_ | with_reducible refine yi_zip ?_ | with_reducible refine yi_zipT ?_ | with_reducible refine yi_zipTL ?_ | with_reducible refine yi_zipLT ?_ | with_reducible refine yi_enz ?_ | with_reducible refine yi_enzT ?_ | with_reducible refine ex_int ?_
    | ((with_reducible apply yr_var); rfl) | ((with_reducible apply Br.yes); omega) | ((with_reducible apply Br.nay); omega) | ((with_reducible apply yix_tup); rfl) | ((with_reducible apply yix_lst); rfl) | ((with_reducible apply yix_rol); rfl) | ((with_reducible apply yix_rtp); rfl) | ((with_reducible apply yo_mul); assumption)
    | ((with_reducible apply yo_mod); (first | assumption | omega)) | ((with_reducible apply yo_div); (first | assumption | exact divOk_of (by omega) (by omega))) | ((with_reducible apply yo_pow); assumption) | ((with_reducible apply ytp); rfl; rfl) | ((with_reducible apply ynl_f); exact few rfl; rfl)
    | ((with_reducible apply ynl_t); exact few rfl) | ((with_reducible apply ys_asgT); skip) | ((with_reducible apply ex_eq); rfl) | ((with_reducible apply yi_rng1); omega))
/-! ### a dict that counts -/
abbrev Es := List (MM.Tr × Int)
abbrev dE (es : Es) : Ob := .dic true (es.map fun e => (tD e.1, W.d (.int e.2)))
def mget (es : Es) (t : MM.Tr) : Option Int := (es.find? fun e => decide (e.1 = t)).map (·.2)
def mput (es : Es) (t : MM.Tr) (v : Int) : Es := if es.any (fun e => decide (e.1 = t)) = true then es.map fun e => if e.1 = t then (e.1, v) else e else es ++ [(t, v)]
theorem same_tD (a b : MM.Tr) : sameD (tD a) (tD b) = decide (a = b) := by
  obtain ⟨a1, a2, a3⟩ := a
  obtain ⟨b1, b2, b3⟩ := b
  show (decide (a1 = b1) && (decide (a2 = b2) && (decide (a3 = b3) && true))) = _
  rw [Bool.eq_iff_iff]
  simp
theorem dget_enc (t : MM.Tr) : ∀ es : Es, dget (es.map fun e => (tD e.1, W.d (.int e.2))) (tD t) = (mget es t).map fun v => W.d (.int v)
  | [] => rfl
  | e :: es => by
    have ih := dget_enc t es
    unfold dget mget at ih ⊢
    rw [List.map_cons, List.find?_cons, List.find?_cons]
    show Option.map _ (match sameD (tD e.1) (tD t) with | true => _ | false => _) = _
    rw [same_tD]
    by_cases h : e.1 = t
    · rw [decide_eq_true h]; rfl
    · rw [decide_eq_false h]; exact ih
theorem dput_enc (t : MM.Tr) (v : Int) (es : Es) : dput (es.map fun e => (tD e.1, W.d (.int e.2))) (tD t) (.d (.int v)) = (mput es t v).map fun e => (tD e.1, W.d (.int e.2)) := by
  unfold dput mput
  have e1 : (es.map fun e => (tD e.1, W.d (D.int e.2))).any (fun e => sameD e.1 (tD t)) = es.any fun e => decide (e.1 = t) := by
    rw [List.any_map]
    congr 1
    funext e
    exact same_tD e.1 t
  rw [e1]
  split
  · rw [List.map_map, List.map_map]
    refine List.map_congr_left fun e _ => ?_
    show (if sameD (tD e.1) (tD t) = true then _ else _) = _
    rw [same_tD]
    by_cases h : e.1 = t
    · rw [if_pos (decide_eq_true h)]
      show _ = (tD (if e.1 = t then (e.1, v) else e).1, W.d (.int (if e.1 = t then (e.1, v) else e).2))
      rw [if_pos h]
    · rw [if_neg (by rw [decide_eq_false h]; decide)]
      show _ = (tD (if e.1 = t then (e.1, v) else e).1, W.d (.int (if e.1 = t then (e.1, v) else e).2))
      rw [if_neg h]
  · rw [List.map_append]
    rfl
theorem mput_len (es : Es) (t : MM.Tr) (v : Int) : (mput es t v).length ≤ es.length + 1 := by
  unfold mput
  split
  · rw [List.length_map]; omega
  · rw [List.length_append]; exact Nat.le_refl _
theorem mput_keys (es : Es) (t : MM.Tr) (v : Int) (h : (es.map (·.1)).Nodup) : ((mput es t v).map (·.1)).Nodup := by
  unfold mput
  split
  · rw [List.map_map]
    have : es.map ((·.1) ∘ fun e => if e.1 = t then (e.1, v) else e) = es.map (·.1) := List.map_congr_left fun e _ => by
      show (if e.1 = t then (e.1, v) else e).1 = e.1
      split <;> rfl
    rw [this]
    exact h
  · rename_i hn
    rw [List.map_append]
    refine List.nodup_append.mpr ⟨h, by simp, fun a ha b hb => ?_⟩
    rw [List.map_cons, List.map_nil, List.mem_singleton] at hb
    rw [hb]
    rintro rfl
    obtain ⟨e, he, h1⟩ := List.mem_map.mp ha
    exact hn (List.any_eq_true.mpr ⟨e, he, decide_eq_true h1⟩)
theorem find_same (t : MM.Tr) (v : Int) : ∀ es : Es, es.any (fun e => decide (e.1 = t)) = true → (es.map fun e => if e.1 = t then (e.1, v) else e).find? (fun e => decide (e.1 = t)) = some (t, v)
  | [], h => by simp at h
  | e :: es, h => by
    rw [List.map_cons, List.find?_cons]
    by_cases he : e.1 = t
    · rw [if_pos he]
      show (match decide (e.1 = t) with | true => some (e.1, v) | false => _) = _
      rw [decide_eq_true he, he]
    · rw [if_neg he, decide_eq_false he]
      refine find_same t v es ?_
      rw [List.any_cons, decide_eq_false he, Bool.false_or] at h
      exact h
theorem find_other (t u : MM.Tr) (v : Int) (hu : u ≠ t) : ∀ es : Es, (es.map fun e => if e.1 = t then (e.1, v) else e).find? (fun e => decide (e.1 = u)) = es.find? (fun e => decide (e.1 = u))
  | [] => rfl
  | e :: es => by
    rw [List.map_cons, List.find?_cons, List.find?_cons]
    by_cases he : e.1 = t
    · rw [if_pos he]
      have : e.1 ≠ u := by rw [he]; exact hu.symm
      show (match decide (e.1 = u) with | true => some (e.1, v) | false => _) = _
      rw [decide_eq_false this]
      exact find_other t u v hu es
    · rw [if_neg he]
      rw [find_other t u v hu es]
theorem mget_mput (es : Es) (t u : MM.Tr) (v : Int) : mget (mput es t v) u = if u = t then some v else mget es u := by
  unfold mget mput
  split
  · rename_i h
    by_cases hu : u = t
    · subst hu
      rw [if_pos rfl, find_same u v es h]
      rfl
    · rw [if_neg hu, find_other t u v hu]
  · rename_i h
    rw [List.find?_append]
    by_cases hu : u = t
    · subst hu
      have : es.find? (fun e => decide (e.1 = u)) = none := by
        rw [List.find?_eq_none]
        intro e he hd
        exact h (List.any_eq_true.mpr ⟨e, he, hd⟩)
      rw [if_pos rfl, this]
      simp
    · rw [if_neg hu]
      have : [(t, v)].find? (fun e => decide (e.1 = u)) = none := by
        rw [List.find?_eq_none]
        intro e he hd
        rw [List.mem_singleton.mp he] at hd
        exact hu (of_decide_eq_true hd).symm
      rw [this, Option.or_none]
theorem mem_mget {es : Es} (h : (es.map (·.1)).Nodup) (t : MM.Tr) (v : Int) : (t, v) ∈ es ↔ mget es t = some v := by
  induction es with
  | nil => simp [mget]
  | cons e es ih =>
    rw [List.map_cons, List.nodup_cons] at h
    unfold mget at ih ⊢
    rw [List.find?_cons]
    by_cases he : e.1 = t
    · rw [decide_eq_true he]
      show _ ↔ some e.2 = some v
      constructor
      · intro hm
        rcases List.mem_cons.mp hm with hm | hm
        · rw [← hm]
        · exact absurd (List.mem_map.mpr ⟨_, hm, rfl⟩) (by rw [← he] ; exact h.1)
      · intro hv
        have : e = (t, v) := by rw [← he, ← Option.some.inj hv]
        rw [this]
        exact List.mem_cons_self ..
    · rw [decide_eq_false he]
      show _ ↔ (es.find? _).map _ = some v
      rw [← ih h.2]
      constructor
      · intro hm
        rcases List.mem_cons.mp hm with hm | hm
        · rw [← hm] at he; exact absurd rfl he
        · exact hm
      · exact fun hm => List.mem_cons_of_mem _ hm
def val (es : Es) (t : MM.Tr) : Int := (mget es t).getD 0
structure Cnt (es : Es) (n : Nat) (f : MM.Tr → Int) : Prop where
  nd : (es.map (·.1)).Nodup
  l : es.length ≤ n
  v : ∀ t, val es t = f t
theorem Cnt.next {es : Es} {n : Nat} {f : MM.Tr → Int} (c : Cnt es n f) (t : MM.Tr) (k : Int) : Cnt (mput es t (val es t + k)) (n + 1) fun u => f u + if u = t then k else 0 := by
  refine ⟨mput_keys _ _ _ c.nd, Nat.le_trans (mput_len ..) (Nat.succ_le_succ c.l), fun u => ?_⟩
  unfold val
  rw [mget_mput]
  by_cases h : u = t
  · subst h
    rw [if_pos rfl, if_pos rfl]
    show val es u + k = _
    rw [c.v]
  · rw [if_neg h, if_neg h]
    show val es u = _
    rw [c.v, Int.add_zero]
/-- those that stand not as often in one pile as in the other -/
def unl (es : Es) : List MM.Tr := (es.filter fun e => decide (e.2 ≠ 0)).map (·.1)
theorem mem_unl {es : Es} {n : Nat} {f : MM.Tr → Int} (c : Cnt es n f) (t : MM.Tr) : t ∈ unl es ↔ f t ≠ 0 := by
  unfold unl
  rw [← c.v]
  unfold val
  constructor
  · intro h
    obtain ⟨e, he, rfl⟩ := List.mem_map.mp h
    obtain ⟨h1, h2⟩ := List.mem_filter.mp he
    have := (mem_mget c.nd e.1 e.2).mp h1
    rw [this]
    exact of_decide_eq_true h2
  · intro h
    cases e : mget es t with
    | none => rw [e] at h; exact absurd rfl h
    | some v =>
      rw [e] at h
      refine List.mem_map.mpr ⟨(t, v), List.mem_filter.mpr ⟨(mem_mget c.nd t v).mpr e, decide_eq_true h⟩, rfl⟩
def minO : List MM.Tr → D
  | [] => .non
  | t :: r => minW (tD t) (r.map tD)
theorem minW_mem : ∀ (r : List D) (a : D), minW a r ∈ a :: r
  | [], a => List.mem_singleton.mpr rfl
  | b :: r, a => by
    have : minW a (b :: r) = minW (if ltD b a = true then b else a) r := rfl
    rw [this]
    have ih := minW_mem r (if ltD b a = true then b else a)
    rcases List.mem_cons.mp ih with h | h
    · rw [h]
      split
      · exact List.mem_cons_of_mem _ (List.mem_cons_self ..)
      · exact List.mem_cons_self ..
    · exact List.mem_cons_of_mem _ (List.mem_cons_of_mem _ h)
theorem minO_mem {l : List MM.Tr} (h : l ≠ []) : ∃ t, t ∈ l ∧ minO l = tD t := by
  cases l with
  | nil => exact absurd rfl h
  | cons t r =>
    have hm := minW_mem (r.map tD) (tD t)
    rw [← List.map_cons] at hm
    obtain ⟨u, hu, e⟩ := List.mem_map.mp hm
    exact ⟨u, hu, e.symm⟩
theorem shs_tD (n : Nat) : ∀ l : List MM.Tr, shs (n + 1) (l.map tD) = true
  | [] => rfl
  | t :: l => by
    show (sh (n + 1) (tD t) && shs (n + 1) (l.map tD)) = true
    rw [shs_tD n l, show sh (n + 1) (tD t) = (sh n (.int t.1) && (sh n (.int t.2.1) && (sh n (.int t.2.2) && true))) from rfl, sh_int, sh_int, sh_int]
    rfl
theorem noLs_tD : ∀ l : List MM.Tr, noLs (l.map tD) = true
  | [] => rfl
  | t :: l => by
    show (noL (tD t) && noLs (l.map tD)) = true
    rw [noLs_tD l]
    rfl
theorem likes_tD (l : List MM.Tr) : likes (l.map tD) = true := by
  refine List.all_eq_true.mpr fun x hx => List.all_eq_true.mpr fun y hy => ?_
  obtain ⟨a, _, rfl⟩ := List.mem_map.mp hx
  obtain ⟨b, _, rfl⟩ := List.mem_map.mp hy
  rfl
theorem yn_minT {t : MM.Tr} {r : List MM.Tr} {S : Store} {Q : W → Store → Prop} (q : Q (.d (minO (t :: r))) S) : Ok (evBi .min [.d (.lst ((t :: r).map tD))] S) Q := by
  refine .eqn (a := .d (minO (t :: r))) (S := S) ?_ q
  show biMin (.d (.lst ((t :: r).map tD))) S = _
  have h1 : (lseq S (.d (.lst ((t :: r).map tD)))).bind intsOf = none := rfl
  have h2 : (lseq S (.d (.lst ((t :: r).map tD)))).bind pures = some (tD t :: r.map tD) := pures_map ((t :: r).map tD)
  have h3 : (shs 59 (tD t :: r.map tD) && noLs (tD t :: r.map tD) && likes (tD t :: r.map tD) && (tD t :: r.map tD).all fun x => !isNonD x) = true := by
    rw [← List.map_cons, shs_tD, noLs_tD, likes_tD, List.all_map]
    show ((t :: r).all fun _ => true) = true
    simp
  unfold biMin
  rw [h1, h2]
  simp only
  rw [if_pos h3]
  rfl
def cntF (P T : List MM.Tr) (t : MM.Tr) : Int := (P.count t : Int) - (T.count t : Int)
theorem count_take {P : List MM.Tr} {i : Nat} {t : MM.Tr} (h : P[i]? = some t) (u : MM.Tr) : ((P.take (i + 1)).count u : Int) = ((P.take i).count u : Int) + if u = t then 1 else 0 := by
  rw [List.take_add_one, h, List.count_append]
  show ((_ + List.count u [t] : Nat) : Int) = _
  rw [List.count_singleton]
  by_cases e : u = t
  · subst e; simp
  · have : ¬ t = u := fun z => e z.symm
    simp [e, this]
theorem least_unlike_ok {P T : List MM.Tr} (hP : P.length ≤ 200) (hT : T.length ≤ 200) : ∃ es : Es, Cnt es 400 (cntF P T) ∧ Gv d_least_unlike [.lst (P.map tD), .lst (T.map tD)] (minO (unl es)) := by
  have main : Ok (d_least_unlike [.d (.lst (P.map tD)), .d (.lst (T.map tD))] []) fun w _ => ∃ es : Es, Cnt es 400 (cntF P T) ∧ w = .d (minO (unl es)) := by
    refine go_least_unlike ?_
    unfold b_least_unlike
    repeat sizeOf_list_dec
    refine yl_for (fun i env S => ∃ es a3 a4 a5, Cnt es i (fun t => ((P.take i).count t : Int)) ∧ env = [some (.d (.lst (P.map tD))), some (.d (.lst (T.map tD))), some (.l 0), a3, a4, a5] ∧ S = [dE es]) ⟨[], _, _, _, ⟨List.nodup_nil, Nat.le_refl _, fun _ => rfl⟩, rfl, rfl⟩ (fun _ _ _ _ => rfl) ?_ ?_
    · rintro i x env S hx ⟨es, a3, a4, a5, c, rfl, rfl⟩
      have hx : ((P.map tD).map W.d)[i]? = some x := hx
      rw [List.map_map, List.getElem?_map] at hx
      obtain ⟨t, ht, rfl⟩ := map_of hx
      have hi : i < P.length := (List.getElem?_eq_some_iff.mp ht).1
      have cl := c.l
      have nx := c.next t 1
      refine yl_turn (env' := [some (.d (.lst (P.map tD))), some (.d (.lst (T.map tD))), some (.l 0), some (.d (tD t)), a4, a5]) rfl ?_
      repeat sizeOf_list_dec
      refine ⟨mtIs_dic rfl, ?_⟩
      repeat sizeOf_list_dec
      refine ymg_get rfl rfl ?_
      rw [dget_enc]
      have e : ((mget es t).map fun v => W.d (.int v)).getD (.d (.int 0)) = .d (.int (val es t)) := by
        unfold val
        cases mget es t <;> rfl
      rw [e]
      repeat sizeOf_list_dec
      refine ⟨_, set_dic rfl rfl (by rw [List.length_map]; unfold lineS; omega), ?_⟩
      rw [dput_enc]
      repeat sizeOf_list_dec
      refine ⟨_, _, _, _, ⟨nx.nd, nx.l, fun u => ?_⟩, rfl, rfl⟩
      rw [nx.v, count_take ht]
    · rintro env S ⟨es, a3, a4, a5, c, rfl, rfl⟩
      have c : Cnt es ((P.map tD).map W.d).length (fun t => ((P.take ((P.map tD).map W.d).length).count t : Int)) := c
      rw [List.length_map, List.length_map, List.take_length] at c
      repeat sizeOf_list_dec
      refine yl_for (fun i env S => ∃ es a3 a4 a5, Cnt es (P.length + i) (fun t => (P.count t : Int) - ((T.take i).count t : Int)) ∧ env = [some (.d (.lst (P.map tD))), some (.d (.lst (T.map tD))), some (.l 0), a3, a4, a5] ∧ S = [dE es]) ⟨es, _, _, _, ⟨c.nd, c.l, fun t => by rw [c.v, List.take_zero, List.count_nil]; simp⟩, rfl, rfl⟩ (fun _ _ _ _ => rfl) ?_ ?_
      · rintro i x env S hx ⟨es, a3, a4, a5, c, rfl, rfl⟩
        have hx : ((T.map tD).map W.d)[i]? = some x := hx
        rw [List.map_map, List.getElem?_map] at hx
        obtain ⟨t, ht, rfl⟩ := map_of hx
        have hi : i < T.length := (List.getElem?_eq_some_iff.mp ht).1
        have cl := c.l
        have nx := c.next t (-1)
        refine yl_turn (env' := [some (.d (.lst (P.map tD))), some (.d (.lst (T.map tD))), some (.l 0), some (.d (tD t)), a4, a5]) rfl ?_
        repeat sizeOf_list_dec
        refine ⟨mtIs_dic rfl, ?_⟩
        repeat sizeOf_list_dec
        refine ymg_get rfl rfl ?_
        rw [dget_enc]
        have e : ((mget es t).map fun v => W.d (.int v)).getD (.d (.int 0)) = .d (.int (val es t)) := by
          unfold val
          cases mget es t <;> rfl
        rw [e]
        repeat sizeOf_list_dec
        refine ⟨_, set_dic rfl rfl (by rw [List.length_map]; unfold lineS; omega), ?_⟩
        rw [dput_enc]
        repeat sizeOf_list_dec
        refine ⟨_, _, _, _, ⟨nx.nd, nx.l, fun u => ?_⟩, rfl, rfl⟩
        have := nx.v u
        rw [this, count_take ht]
        split <;> omega
      · rintro env S ⟨es, a3, a4, a5, c, rfl, rfl⟩
        have c : Cnt es (P.length + ((T.map tD).map W.d).length) (fun t => (P.count t : Int) - ((T.take ((T.map tD).map W.d).length).count t : Int)) := c
        rw [List.length_map, List.length_map, List.take_length] at c
        have cl := c.l
        repeat sizeOf_list_dec
        refine yfrz_dic (n := 0) (ds := es.map fun e => .int e.2) rfl (by rw [List.map_map, List.map_map]; rfl) ?_
        repeat sizeOf_list_dec
        refine yc_all (emb := fun e : MM.Tr × Int => .tup [tD e.1, .int e.2]) (g := fun e => tD e.1) (k := fun e => decide (e.2 ≠ 0)) (xs := es) (by rw [List.map_map]; exact zipW_same _ _ _) rfl (by unfold lineS; omega) (fun e _ => ?_) ?_
        · refine yr_turn rfl ?_
          repeat sizeOf_list_dec
          by_cases h : e.2 = 0
          · refine Br.yes h ?_
            exact ⟨by rw [if_neg (by simpa using h)], rfl⟩
          · refine Br.nay h ?_
            repeat sizeOf_list_dec
            exact ⟨by rw [if_pos (by simpa using h)], rfl⟩
        · have hfl : (es.filter fun e => decide (e.2 ≠ 0)).length ≤ es.length := List.length_filter_le _ _
          refine ynl_f (by rw [List.length_map]; unfold lineS; omega) (pures_mapE (fun e : MM.Tr × Int => tD e.1) _) ?_
          have eu : (es.filter fun e => decide (e.2 ≠ 0)).map (fun e => tD e.1) = (unl es).map tD := by
            unfold unl
            rw [List.map_map]
            rfl
          rw [eu]
          have c' : Cnt es 400 (cntF P T) := ⟨c.nd, by omega, c.v⟩
          repeat sizeOf_list_dec
          cases hu : unl es with
          | nil =>
            refine Br.is rfl ?_
            repeat sizeOf_list_dec
            exact ⟨es, c', by rw [hu]; rfl⟩
          | cons t r =>
            refine Br.no rfl ?_
            repeat sizeOf_list_dec
            refine yn_minT ?_
            repeat sizeOf_list_dec
            exact ⟨es, c', by rw [hu]⟩
  obtain ⟨w, S, e, es, c, rfl⟩ := main
  exact ⟨es, c, ⟨S, e⟩⟩
end K70
namespace K70
open PySem PySem.Spec PyProof.Rows L2 DL
local macro_rules
  | `(tactic| sizeOf_list_dec) => `(tactic| first
    | with_reducible refine ynx_nx ?_ | with_reducible refine ynx_rt ?_ | with_reducible refine yss_cons ?_ | with_reducible refine yr_const ?_ | with_reducible refine ya_cons ?_ | with_reducible refine ya_nil ?_ | with_reducible refine yr_bin ?_ | with_reducible refine yr_ix ?_ | with_reducible refine yr_call ?_ | with_reducible refine yr_bi ?_ | with_reducible refine yset0 ?_ | with_reducible refine yset1 ?_
    | with_reducible refine yset2 ?_ | with_reducible refine yset3 ?_ | with_reducible refine yset4 ?_ | with_reducible refine yset5 ?_ | with_reducible refine yset6 ?_ | with_reducible refine yset7 ?_ | with_reducible refine yset8 ?_ | with_reducible refine yset9 ?_ | with_reducible refine yset10 ?_ | with_reducible refine yset11 ?_ | with_reducible refine yset12 ?_ | with_reducible refine yset13 ?_
    | with_reducible refine yset14 ?_ | with_reducible refine yset15 ?_ | with_reducible refine yset16 ?_ | with_reducible refine yset17 ?_ | with_reducible refine yset18 ?_ | with_reducible refine yset19 ?_ | with_reducible refine ys_ife ?_ | with_reducible refine yb_cmp ?_ | with_reducible refine yb_val ?_ | with_reducible refine yb_not ?_ | with_reducible refine yb_bop ?_ | with_reducible refine yb_and ?_
    | with_reducible refine yb_or ?_ | with_reducible refine yb_1 ?_ | with_reducible refine yb_chain ?_ | with_reducible refine yb_yes ?_ | with_reducible refine yo_add ?_ | with_reducible refine yo_sub ?_ | with_reducible refine yc_lt ?_ | with_reducible refine yc_le ?_ | with_reducible refine yc_gt ?_ | with_reducible refine yc_ge ?_ | with_reducible refine yc_eqi ?_ | with_reducible refine yc_nei ?_
    | with_reducible refine Br.t ?_ | with_reducible refine Br.f ?_ | with_reducible refine Br.not ?_ | with_reducible refine yr_tup ?_ | with_reducible refine yr_lst ?_ | with_reducible refine yr_neg ?_ | with_reducible refine yr_cmp ?_ | with_reducible refine yr_chain ?_ | with_reducible refine yr_not ?_ | with_reducible refine yr_bop ?_ | with_reducible refine yr_and ?_ | with_reducible refine yr_or ?_
    | with_reducible refine yr_bop1 ?_ | with_reducible refine yr_ifx ?_ | with_reducible refine yr_glob ?_ | with_reducible refine ys_ret ?_ | with_reducible refine ys_expr ?_ | with_reducible refine ys_par ?_ | with_reducible refine ys_retN ?_ | with_reducible refine ys_pass ?_ | with_reducible refine ys_brk ?_ | with_reducible refine ys_set ?_ | with_reducible refine yss_nil ?_ | with_reducible refine ys_for ?_
    | with_reducible refine yfin_rt ?_ | with_reducible refine yfin_nx ?_ | with_reducible refine ywp_nx ?_ | with_reducible refine ylp_nx ?_ | with_reducible refine ylp_rt ?_ | with_reducible refine ylp_bk ?_ | with_reducible refine ynx_bk ?_ | with_reducible refine yc_isb ?_ | with_reducible refine yc_isnb ?_ | with_reducible refine yc_isn_n ?_ | with_reducible refine yc_isn_i ?_ | with_reducible refine yc_isn_t ?_
    | with_reducible refine yc_isnn_n ?_ | with_reducible refine yc_isnn_i ?_ | with_reducible refine yc_isnn_t ?_ | with_reducible refine yt_bl ?_ | with_reducible refine yt_int ?_ | with_reducible refine yt_non ?_ | with_reducible refine yt_tup ?_ | with_reducible refine yt_lst ?_ | with_reducible refine yn_int ?_ | with_reducible refine yn_intB ?_ | with_reducible refine yn_max2 ?_ | with_reducible refine yn_min2 ?_
    | with_reducible refine yn_lenT ?_ | with_reducible refine yn_lenL ?_ | with_reducible refine yn_lenR ?_ | with_reducible refine yn_tupL ?_ | with_reducible refine yn_isi_int_int ?_ | with_reducible refine yn_isi_int_bool ?_ | with_reducible refine yn_isi_bool_int ?_ | with_reducible refine yn_isi_bool_bool ?_ | with_reducible refine yn_isi_tup_tuple ?_ | with_reducible refine yn_isi_int_tuple ?_
    | with_reducible refine yn_isi_str_str ?_ | with_reducible refine yn_isi_int_str ?_ | with_reducible refine yn_isi_str_int ?_ | with_reducible refine yn_isi_tup_int ?_ | with_reducible refine yn_isi_tup_str ?_ | with_reducible refine yn_isi_str_tuple ?_ | with_reducible refine yn_isi_non_tuple ?_ | with_reducible refine yn_isi_non_int ?_ | with_reducible refine yg_add ?_ | with_reducible refine yg_sub ?_
    | with_reducible refine yr_mt ?_ | with_reducible refine yr_comp ?_ | with_reducible refine yr_lrange ?_ | with_reducible refine yr_rep ?_ | with_reducible refine yr_frz ?_ | with_reducible refine yr_dict ?_ | with_reducible refine yi_items ?_ | with_reducible refine yi_dct ?_ | with_reducible refine yi_rtp ?_ | with_reducible refine yi_enRT ?_ | with_reducible refine yt_rtp ?_ | with_reducible refine yc_isn_rt ?_
    | with_reducible refine yc_isnn_rt ?_ | with_reducible refine ysq_rtp ?_ | with_reducible refine yn_lenRT ?_ | with_reducible refine yn_isi_rtp_tuple ?_ | with_reducible refine yr_slice00 ?_ | with_reducible refine yr_slice10 ?_ | with_reducible refine yr_slice01 ?_ | with_reducible refine yr_slice11 ?_ | with_reducible refine ysl_tup ?_ | with_reducible refine ysl_lst ?_ | with_reducible refine ysl_rol ?_
    | with_reducible refine yi_seq ?_ | with_reducible refine yi_tup ?_ | with_reducible refine yi_lst ?_ | with_reducible refine yi_rol ?_ | with_reducible refine yi_rng ?_ | with_reducible refine yi_enum ?_ | with_reducible refine yi_enT ?_ | with_reducible refine yi_enL ?_ | with_reducible refine yi_rng3 ?_ | with_reducible refine yr_tupS ?_ | with_reducible refine yr_lstS ?_ | with_reducible refine yas_nil ?_
    | with_reducible refine yas_one ?_ | with_reducible refine yas_star ?_ | with_reducible refine ysq_tup ?_ | with_reducible refine ysq_lst ?_ | with_reducible refine yi_zip ?_ | with_reducible refine yi_zipT ?_ | with_reducible refine yi_zipTL ?_ | with_reducible refine yi_zipLT ?_ | with_reducible refine yi_enz ?_ | with_reducible refine yi_enzT ?_ | with_reducible refine ex_int ?_
    | ((with_reducible apply yr_var); rfl) | ((with_reducible apply Br.yes); omega) | ((with_reducible apply Br.nay); omega) | ((with_reducible apply yix_tup); rfl) | ((with_reducible apply yix_lst); rfl) | ((with_reducible apply yix_rol); rfl) | ((with_reducible apply yix_rtp); rfl) | ((with_reducible apply yo_mul); assumption)
    | ((with_reducible apply yo_mod); (first | assumption | omega)) | ((with_reducible apply yo_div); (first | assumption | exact divOk_of (by omega) (by omega))) | ((with_reducible apply yo_pow); assumption) | ((with_reducible apply ytp); rfl; rfl) | ((with_reducible apply ynl_f); exact few rfl; rfl)
    | ((with_reducible apply ynl_t); exact few rfl) | ((with_reducible apply ys_asgT); skip) | ((with_reducible apply ex_eq); rfl) | ((with_reducible apply yi_rng1); omega))
/-! ### tallies -/
def talD (a : List MM.Pr × List MM.Pr) (es : Es) : D := match lateO 0 a.1 with
  | some k => .tup [.str "late", .int (k : Int)]
  | none => match unl es with
    | [] => .rtp [.str "let"]
    | t :: r => .tup [.str "unlike", minO (t :: r)]
theorem puts_len {vs : List Int} {ds : List MM.Dd} {told : List MM.Pr} : (MM.puts vs ds told).length ≤ vs.length + ds.length := by
  have := pj_len ds told 0
  unfold MM.puts
  rw [List.length_append, tl_len, MM.ini_len]
  omega
theorem taken_len {ds : List MM.Dd} {told last : List MM.Pr} : (MM.taken ds told last).length ≤ ds.length + last.length := by
  have := tj_len ds told
  unfold MM.taken
  rw [List.length_append, tl_len]
  omega
theorem tallies_ok {vs : List Int} {ds : List MM.Dd} {a : List MM.Pr × List MM.Pr} (hv : Vs vs) (hj : Jb vs.length ds) (ha : An vs.length ds.length a) :
    ∃ es : Es, Cnt es 400 (cntF (MM.puts vs ds a.1) (MM.taken ds a.1 a.2)) ∧ Gv d_tallies [rT vs, jT ds, aT a] (talD a es) := by
  have l2 := hv.l2
  have l3 := hj.l
  have h1 := @puts_len vs ds a.1
  have h2 := @taken_len ds a.1 a.2
  have h3 := ha.l
  obtain ⟨es, c, hes⟩ := least_unlike_ok (P := MM.puts vs ds a.1) (T := MM.taken ds a.1 a.2) (by omega) (by omega)
  refine ⟨es, c, Gv.mk (go_tallies ?_)⟩
  unfold b_tallies
  repeat sizeOf_list_dec
  refine u_tallies_0 (answers_ok hv hj ha) ?_
  repeat sizeOf_list_dec
  refine u_tallies_1 late_ok ?_
  unfold talD
  cases hl : lateO 0 a.1 with
  | some k =>
    unfold natO
    repeat sizeOf_list_dec
    rfl
  | none =>
    unfold natO
    repeat sizeOf_list_dec
    refine u_tallies_2 (piles_ok hv hj ha) ?_
    repeat sizeOf_list_dec
    refine u_tallies_3 hes ?_
    repeat sizeOf_list_dec
    cases hu : unl es with
    | nil =>
      show Ok (evCmp .Is (.d .non) (.d .non) _) _
      repeat sizeOf_list_dec
      rfl
    | cons t r =>
      obtain ⟨u, _, e⟩ := minO_mem (l := t :: r) (List.cons_ne_nil _ _)
      rw [e]
      repeat sizeOf_list_dec
      show W.d (.tup [.str "unlike", tD u]) = W.d (.tup [.str "unlike", minO (t :: r)])
      rw [e]
theorem unl_nil {es : Es} {P T : List MM.Tr} (c : Cnt es 400 (cntF P T)) : unl es = [] ↔ ∀ t, P.count t = T.count t := by
  constructor
  · intro h t
    have := mem_unl c t
    rw [h] at this
    have h2 : ¬ (cntF P T t ≠ 0) := fun z => by simpa using this.mpr z
    unfold cntF at h2
    omega
  · intro h
    refine List.eq_nil_iff_forall_not_mem.mpr fun t ht => ?_
    have := (mem_unl c t).mp ht
    unfold cntF at this
    have := h t
    omega
theorem tal_let {vs : List Int} {ds : List MM.Dd} {a : List MM.Pr × List MM.Pr} (hj : Jb vs.length ds) (ha : An vs.length ds.length a) {es : Es} (c : Cnt es 400 (cntF (MM.puts vs ds a.1) (MM.taken ds a.1 a.2))) :
    (lateO 0 a.1 = none ∧ unl es = []) ↔ a = MM.right vs ds := by
  have h := MM.tallies_iff (vs := vs) (ds := ds) (told := a.1) (last := a.2) (fun d hd => (hj.r d hd).lt) ha.t ha.l
  rw [unl_nil c, late_none]
  simp only [Nat.zero_add]
  exact h
theorem tal_sh {a : List MM.Pr × List MM.Pr} {es : Es} : sh 60 (talD a es) = true := by
  unfold talD
  split
  · show (strF _ && (sh 59 (.int _) && true)) = true
    rw [sF "late", sh_int]
    rfl
  · split
    · show (strF _ && true) = true
      rw [sF "let"]
      rfl
    · rename_i t r _
      obtain ⟨u, _, e⟩ := minO_mem (l := t :: r) (List.cons_ne_nil _ _)
      rw [e]
      show (strF _ && (sh 59 (tD u) && true)) = true
      rw [sF "unlike", show sh 59 (tD u) = (sh 58 (.int u.1) && (sh 58 (.int u.2.1) && (sh 58 (.int u.2.2) && true))) from rfl, sh_int, sh_int, sh_int]
      rfl
theorem tal_deq {a : List MM.Pr × List MM.Pr} {es : Es} : deq (talD a es) (.tup [.str "let"]) = decide (lateO 0 a.1 = none ∧ unl es = []) := by
  unfold talD
  cases hl : lateO 0 a.1 with
  | some k =>
    rw [decide_eq_false (by simp)]
    show (deq (.str "late") (.str "let") && deqs [.int (k : Int)] []) = false
    rw [show deq (.str "late") (.str "let") = false by decide +kernel]
    rfl
  | none =>
    cases hu : unl es with
    | nil =>
      rw [decide_eq_true (by simp)]
      show (deq (.str "let") (.str "let") && true) = true
      rw [show deq (.str "let") (.str "let") = true by decide +kernel]
      rfl
    | cons t r =>
      rw [decide_eq_false (by simp)]
      show (deq (.str "unlike") (.str "let") && deqs [minO (t :: r)] []) = false
      rw [show deq (.str "unlike") (.str "let") = false by decide +kernel]
      rfl
/-! ### what is drawn -/
theorem take_ok {u : Nat} (hu : 0 < u) (hu2 : u < 2 ^ 60) : Pf d__law_take [.int u] 1 (fun y => ∃ r : Nat, r < u ∧ y = .int r) :=
  take_any (a := 100307) (b := 1331) (m := 10149) (n := 369) (d := 173) (by decide) (by decide) (by decide) (by decide) (by decide) (by decide) (by decide) (by decide) (by decide) (by decide) hu hu2
theorem of_ok {ds : List D} (h0 : ds ≠ []) (h1 : ds.length < 2 ^ 59) : Pf d__law_of [.lst ds] 1 (fun y => y ∈ ds) :=
  of_any (den := d__law_take) (fun u o s c => fnsC (c := ⟨"_law_take", 2, 2, [], [0, 1], d__law_take⟩) rfl _ _) (fun u h h2 => take_ok h h2) h0 h1
theorem of_okT {ds : List D} (h0 : ds ≠ []) (h1 : ds.length < 2 ^ 59) : Pf d__law_of [.tup ds] 1 (fun y => y ∈ ds) :=
  of_anyT (den := d__law_take) (fun u o s c => fnsC (c := ⟨"_law_take", 2, 2, [], [0, 1], d__law_take⟩) rfl _ _) (fun u h h2 => take_ok h h2) h0 h1
theorem ints_of {p : Nat} : ∀ {ys : List D}, (∀ y ∈ ys, ∃ x : Int, y = .int x ∧ 0 ≤ x ∧ x < p) → ∃ v : List Int, ys = v.map .int ∧ v.length = ys.length ∧ ∀ x ∈ v, 0 ≤ x ∧ x < p
  | [], _ => ⟨[], rfl, rfl, fun _ h => (nomatch h)⟩
  | y :: ys, h => by
    obtain ⟨x, rfl, hx⟩ := h y (List.mem_cons_self ..)
    obtain ⟨v, rfl, hl, hv⟩ := ints_of (fun z hz => h z (List.mem_cons_of_mem _ hz)) (ys := ys)
    refine ⟨x :: v, rfl, by simp, fun z hz => ?_⟩
    rcases List.mem_cons.mp hz with rfl | hz
    · exact hx
    · exact hv z hz
theorem values_pf : Pf d__law_values [.int 6] 20 (fun y => ∃ vs, y = rT vs ∧ Vs vs ∧ vs.length ≤ 6) := by
  intro k o s c pt hk
  refine go__law_values ?_
  unfold b__law_values
  repeat sizeOf_list_dec
  refine v__law_values_0 (take_ok (u := 6) (by decide) (by decide)) pt (by omega) ?_
  rintro y o1 c1 ⟨t, ht, rfl⟩ p1
  repeat sizeOf_list_dec
  refine v__law_values_0 (take_ok (u := 7) (by decide) (by decide)) p1 (by omega) ?_
  rintro y o2 c2 ⟨t2, ht2, rfl⟩ p2
  repeat sizeOf_list_dec
  rw [show (1 : Int) + (t : Int) = ((1 + t : Nat) : Int) by omega]
  refine yi_rng1 (n := 1 + t) (by omega) ?_
  have hl : (rangeL 0 ((1 + t : Nat) : Int)).length = 1 + t := range_length _
  refine yc_draw (ws := rangeL 0 ((1 + t : Nat) : Int)) (R := fun y => ∃ x : Int, y = .int x ∧ 0 ≤ x ∧ x < (7 : Nat)) (d := 1) p2 (by rw [hl]; omega) (by rw [hl]; unfold lineS; omega) (fun w hw k o c pt hk => ?_) ?_
  · refine yr_turn rfl (yb_yes (Br.t ?_))
    repeat sizeOf_list_dec
    refine v__law_values_1 (of_ok (by simp) (by simp)) pt hk ?_
    rintro y o8 c8 hy p8
    have hy : ∃ x : Int, y = .int x ∧ 0 ≤ x ∧ x < (7 : Nat) := by
      simp only [List.mem_cons, List.not_mem_nil, or_false] at hy
      rcases hy with rfl | rfl | rfl | rfl | rfl
      · exact ⟨0, rfl, by omega, by omega⟩
      · exact ⟨1, rfl, by omega, by omega⟩
      · exact ⟨2, rfl, by omega, by omega⟩
      · exact ⟨5, rfl, by omega, by omega⟩
      · exact ⟨_, rfl, by omega, by omega⟩
    obtain ⟨x, rfl, h0, h1⟩ := hy
    repeat sizeOf_list_dec
    exact ⟨_, o8, c8, rfl, rfl, ⟨x, rfl, h0, h1⟩, p8⟩
  · intro ys o2 c2 hys hRy p2
    rw [hl] at hys p2
    obtain ⟨v, rfl, hvl, hv⟩ := ints_of hRy
    rw [hys] at hvl
    repeat sizeOf_list_dec
    exact ⟨_, _, _, _, rfl, rfl, ⟨v, rfl, ⟨by omega, by omega, fun x hx => by have := hv x hx; omega⟩, by omega⟩, p2.up (by omega)⟩
theorem job_pf {n m : Nat} (hn : 1 ≤ n) (hn2 : n ≤ 16) (hm : m ≤ 20) : Pf d__law_job [.int n, .int m] 200 (fun y => ∃ ds, y = jT ds ∧ Jb n ds ∧ ds.length ≤ 20) := by
  intro k o s c pt hk
  refine go__law_job ?_
  unfold b__law_job
  repeat sizeOf_list_dec
  refine v__law_job_0 (take_ok (u := n) (by omega) (by omega)) pt (by omega) ?_
  rintro y o1 c1 ⟨lv, hlv, rfl⟩ p1
  repeat sizeOf_list_dec
  rw [show (m : Int) + 1 = ((m + 1 : Nat) : Int) by omega]
  refine v__law_job_0 (take_ok (u := m + 1) (by omega) (by omega)) p1 (by omega) ?_
  rintro y o2 c2 ⟨laps, hlaps, rfl⟩ p2
  repeat sizeOf_list_dec
  have hl : (rangeL 0 (laps : Int)).length = laps := range_length _
  refine yl_for (fun i env S => ∃ (o c : Int) (ds : List MM.Dd) (a5 a6 : Option W), ds.length = i ∧ (∀ d ∈ ds, OkD n d) ∧ Pot (k + 2 + i * 4) o s c ∧ env = [some (.l 0), some (.d (.int n)), some (.d (.int m)), some (.l 1), some (.d (.int lv)), a5, a6] ∧ S = [P o s c, .lst (ds.map fun d => W.d (dD d))]) ⟨o2, c2, [], _, _, rfl, fun _ h => (nomatch h), p2.up (by omega), rfl, rfl⟩ (fun _ _ _ _ => rfl) ?_ ?_
  · rintro i x env S hx ⟨o, c, dz, a5, a6, hdl, hds, pt, rfl, rfl⟩
    obtain ⟨hi, rfl⟩ := range_at hx
    have fin : ∀ (d : MM.Dd) (o' c' : Int) (a6 : Option W), OkD n d → Pot (k + 2 + i * 4 + 4) o' s c' → ∃ (o c : Int) (ds : List MM.Dd) (a5 b6 : Option W), ds.length = i + 1 ∧ (∀ d ∈ ds, OkD n d) ∧ Pot (k + 2 + (i + 1) * 4) o s c ∧ [some (.l 0), some (.d (.int n)), some (.d (.int m)), some (.l 1), some (.d (.int lv)), some (.d (.int (i : Nat))), a6] = [some (.l 0), some (.d (.int n)), some (.d (.int m)), some (.l 1), some (.d (.int lv)), a5, b6] ∧ [P o' s c', .lst (dz.map (fun d => W.d (dD d)) ++ [W.d (dD d)])] = [P o s c, .lst (ds.map fun d => W.d (dD d))] := by
      intro d o' c' a6 hd p'
      refine ⟨o', c', dz ++ [d], _, _, by rw [List.length_append, hdl]; rfl, fun e he => ?_, by rw [show k + 2 + (i + 1) * 4 = k + 2 + i * 4 + 4 by omega]; exact p', rfl, by rw [List.map_append]; rfl⟩
      rcases List.mem_append.mp he with he | he
      · exact hds e he
      · rw [List.mem_singleton.mp he]; exact hd
    have hdl2 : dz.length < lineS := by unfold lineS; omega
    refine yl_turn (env' := [some (.l 0), some (.d (.int n)), some (.d (.int m)), some (.l 1), some (.d (.int lv)), some (.d (.int (i : Nat))), a6]) rfl ?_
    have rest : ∀ (pl : Nat) (o c : Int), pl < n → Pot (k + 2 + i * 4 + 2) o s c → Ok (evSs (fnsOf t__law_job) [(.ife (.cmp .Lt (.call 0 [(.var 0), (.const (.int 5))]) (.const (.int 3))) [(.expr (.mt .append (.var 3) [(.tup [(.const (.str "read")), (.bi .int [(.var 6)])])]))] [(.expr (.mt .append (.var 3) [(.tup [(.const (.str "put")), (.bi .int [(.var 6)]), (.bi .int [(.call 1 [(.var 0), (.lst false [(.const (.int 0)), (.const (.int 1)), (.const (.int 2)), (.const (.int 3)), (.const (.int 5)), (.const (.int 6))])])])])]))])] [some (.l 0), some (.d (.int n)), some (.d (.int m)), some (.l 1), some (.d (.int lv)), some (.d (.int (i : Nat))), some (.d (.int (pl : Nat)))] [P o s c, .lst (dz.map fun d => W.d (dD d))])
        (Lp (fun env S => ∃ (o c : Int) (ds : List MM.Dd) (a5 a6 : Option W), ds.length = i + 1 ∧ (∀ d ∈ ds, OkD n d) ∧ Pot (k + 2 + (i + 1) * 4) o s c ∧ env = [some (.l 0), some (.d (.int n)), some (.d (.int m)), some (.l 1), some (.d (.int lv)), a5, a6] ∧ S = [P o s c, .lst (ds.map fun d => W.d (dD d))]) (Nx (fnsOf t__law_job) [(.ret (.bi .tuple [(.var 3)]))] (DL.Fin fun w S' => ∃ y o' c' r', w = .d y ∧ S' = P o' s c' :: r' ∧ (∃ ds, y = jT ds ∧ Jb n ds ∧ ds.length ≤ 20) ∧ Pot (k + 200) o' s c'))) := by
      intro pl o c hpl pt
      repeat sizeOf_list_dec
      refine v__law_job_0 (take_ok (u := 5) (by decide) (by decide)) pt (by omega) ?_
      rintro y o3 c3 ⟨w, hw, rfl⟩ p3
      repeat sizeOf_list_dec
      by_cases hw3 : (w : Int) < 3
      · refine Br.yes hw3 ?_
        repeat sizeOf_list_dec
        refine ⟨ym_is rfl rfl, ?_⟩
        repeat sizeOf_list_dec
        refine ym_append (n := 1) rfl (by rw [List.length_map]; exact hdl2) ?_
        repeat sizeOf_list_dec
        exact fin (.rd pl) o3 c3 _ hpl (p3.up (by omega))
      · refine Br.nay hw3 ?_
        repeat sizeOf_list_dec
        refine ⟨ym_is rfl rfl, ?_⟩
        repeat sizeOf_list_dec
        refine v__law_job_1 (of_ok (by simp) (by simp)) p3 (by omega) ?_
        rintro y o4 c4 hy p4
        obtain ⟨x, rfl, h0, h1⟩ : ∃ x : Int, y = .int x ∧ 0 ≤ x ∧ x < 7 := by
          simp only [List.mem_cons, List.not_mem_nil, or_false] at hy
          rcases hy with rfl | rfl | rfl | rfl | rfl | rfl <;> exact ⟨_, rfl, by decide, by decide⟩
        repeat sizeOf_list_dec
        refine ym_append (n := 1) rfl (by rw [List.length_map]; exact hdl2) ?_
        repeat sizeOf_list_dec
        exact fin (.pt pl x) o4 c4 _ ⟨hpl, h0, by omega⟩ p4
    iterate 2 sizeOf_list_dec
    repeat sizeOf_list_dec
    refine v__law_job_0 (take_ok (u := 3) (by decide) (by decide)) pt (by omega) ?_
    rintro y o3 c3 ⟨w, hw, rfl⟩ p3
    repeat sizeOf_list_dec
    by_cases hw3 : (w : Int) = 0
    · refine Br.yes hw3 ?_
      iterate 2 sizeOf_list_dec
      exact rest lv o3 c3 hlv (p3.up (by omega))
    · refine Br.nay hw3 ?_
      repeat sizeOf_list_dec
      refine v__law_job_0 (take_ok (u := n) (by omega) (by omega)) p3 (by omega) ?_
      rintro y o4 c4 ⟨pl, hpl, rfl⟩ p4
      iterate 1 sizeOf_list_dec
      exact rest pl o4 c4 hpl p4
  · rintro env S ⟨o, c, ds, a5, a6, hdl, hds, pt, rfl, rfl⟩
    have hdl : ds.length = (rangeL 0 (laps : Int)).length := hdl
    have pt : Pot (k + 2 + (rangeL 0 (laps : Int)).length * 4) o s c := pt
    rw [hl] at hdl pt
    repeat sizeOf_list_dec
    refine yn_tupP (n := 1) (xs := ds.map dD) (by rw [List.map_map]; rfl) ?_
    repeat sizeOf_list_dec
    exact ⟨_, _, _, _, rfl, rfl, ⟨ds, rfl, ⟨by omega, hds⟩, by omega⟩, pt.up (by omega)⟩
end K70
namespace K70
open PySem PySem.Spec PyProof.Rows L2 DL
local macro_rules
  | `(tactic| sizeOf_list_dec) => `(tactic| first
    | with_reducible refine ynx_nx ?_ | with_reducible refine ynx_rt ?_ | with_reducible refine yss_cons ?_ | with_reducible refine yr_const ?_ | with_reducible refine ya_cons ?_ | with_reducible refine ya_nil ?_ | with_reducible refine yr_bin ?_ | with_reducible refine yr_ix ?_ | with_reducible refine yr_call ?_ | with_reducible refine yr_bi ?_ | with_reducible refine yset0 ?_ | with_reducible refine yset1 ?_
    | with_reducible refine yset2 ?_ | with_reducible refine yset3 ?_ | with_reducible refine yset4 ?_ | with_reducible refine yset5 ?_ | with_reducible refine yset6 ?_ | with_reducible refine yset7 ?_ | with_reducible refine yset8 ?_ | with_reducible refine yset9 ?_ | with_reducible refine yset10 ?_ | with_reducible refine yset11 ?_ | with_reducible refine yset12 ?_ | with_reducible refine yset13 ?_
    | with_reducible refine yset14 ?_ | with_reducible refine yset15 ?_ | with_reducible refine yset16 ?_ | with_reducible refine yset17 ?_ | with_reducible refine yset18 ?_ | with_reducible refine yset19 ?_ | with_reducible refine ys_ife ?_ | with_reducible refine yb_cmp ?_ | with_reducible refine yb_val ?_ | with_reducible refine yb_not ?_ | with_reducible refine yb_bop ?_ | with_reducible refine yb_and ?_
    | with_reducible refine yb_or ?_ | with_reducible refine yb_1 ?_ | with_reducible refine yb_chain ?_ | with_reducible refine yb_yes ?_ | with_reducible refine yo_add ?_ | with_reducible refine yo_sub ?_ | with_reducible refine yc_lt ?_ | with_reducible refine yc_le ?_ | with_reducible refine yc_gt ?_ | with_reducible refine yc_ge ?_ | with_reducible refine yc_eqi ?_ | with_reducible refine yc_nei ?_
    | with_reducible refine Br.t ?_ | with_reducible refine Br.f ?_ | with_reducible refine Br.not ?_ | with_reducible refine yr_tup ?_ | with_reducible refine yr_lst ?_ | with_reducible refine yr_neg ?_ | with_reducible refine yr_cmp ?_ | with_reducible refine yr_chain ?_ | with_reducible refine yr_not ?_ | with_reducible refine yr_bop ?_ | with_reducible refine yr_and ?_ | with_reducible refine yr_or ?_
    | with_reducible refine yr_bop1 ?_ | with_reducible refine yr_ifx ?_ | with_reducible refine yr_glob ?_ | with_reducible refine ys_ret ?_ | with_reducible refine ys_expr ?_ | with_reducible refine ys_par ?_ | with_reducible refine ys_retN ?_ | with_reducible refine ys_pass ?_ | with_reducible refine ys_brk ?_ | with_reducible refine ys_set ?_ | with_reducible refine yss_nil ?_ | with_reducible refine ys_for ?_
    | with_reducible refine yfin_rt ?_ | with_reducible refine yfin_nx ?_ | with_reducible refine ywp_nx ?_ | with_reducible refine ylp_nx ?_ | with_reducible refine ylp_rt ?_ | with_reducible refine ylp_bk ?_ | with_reducible refine ynx_bk ?_ | with_reducible refine yc_isb ?_ | with_reducible refine yc_isnb ?_ | with_reducible refine yc_isn_n ?_ | with_reducible refine yc_isn_i ?_ | with_reducible refine yc_isn_t ?_
    | with_reducible refine yc_isnn_n ?_ | with_reducible refine yc_isnn_i ?_ | with_reducible refine yc_isnn_t ?_ | with_reducible refine yt_bl ?_ | with_reducible refine yt_int ?_ | with_reducible refine yt_non ?_ | with_reducible refine yt_tup ?_ | with_reducible refine yt_lst ?_ | with_reducible refine yn_int ?_ | with_reducible refine yn_intB ?_ | with_reducible refine yn_max2 ?_ | with_reducible refine yn_min2 ?_
    | with_reducible refine yn_lenT ?_ | with_reducible refine yn_lenL ?_ | with_reducible refine yn_lenR ?_ | with_reducible refine yn_tupL ?_ | with_reducible refine yn_isi_int_int ?_ | with_reducible refine yn_isi_int_bool ?_ | with_reducible refine yn_isi_bool_int ?_ | with_reducible refine yn_isi_bool_bool ?_ | with_reducible refine yn_isi_tup_tuple ?_ | with_reducible refine yn_isi_int_tuple ?_
    | with_reducible refine yn_isi_str_str ?_ | with_reducible refine yn_isi_int_str ?_ | with_reducible refine yn_isi_str_int ?_ | with_reducible refine yn_isi_tup_int ?_ | with_reducible refine yn_isi_tup_str ?_ | with_reducible refine yn_isi_str_tuple ?_ | with_reducible refine yn_isi_non_tuple ?_ | with_reducible refine yn_isi_non_int ?_ | with_reducible refine yg_add ?_ | with_reducible refine yg_sub ?_
    | with_reducible refine yr_mt ?_ | with_reducible refine yr_comp ?_ | with_reducible refine yr_lrange ?_ | with_reducible refine yr_rep ?_ | with_reducible refine yr_frz ?_ | with_reducible refine yr_dict ?_ | with_reducible refine yi_items ?_ | with_reducible refine yi_dct ?_ | with_reducible refine yi_rtp ?_ | with_reducible refine yi_enRT ?_ | with_reducible refine yt_rtp ?_ | with_reducible refine yc_isn_rt ?_
    | with_reducible refine yc_isnn_rt ?_ | with_reducible refine ysq_rtp ?_ | with_reducible refine yn_lenRT ?_ | with_reducible refine yn_isi_rtp_tuple ?_ | with_reducible refine yr_slice00 ?_ | with_reducible refine yr_slice10 ?_ | with_reducible refine yr_slice01 ?_ | with_reducible refine yr_slice11 ?_ | with_reducible refine ysl_tup ?_ | with_reducible refine ysl_lst ?_ | with_reducible refine ysl_rol ?_
    | with_reducible refine yi_seq ?_ | with_reducible refine yi_tup ?_ | with_reducible refine yi_lst ?_ | with_reducible refine yi_rol ?_ | with_reducible refine yi_rng ?_ | with_reducible refine yi_enum ?_ | with_reducible refine yi_enT ?_ | with_reducible refine yi_enL ?_ | with_reducible refine yi_rng3 ?_ | with_reducible refine yr_tupS ?_ | with_reducible refine yr_lstS ?_ | with_reducible refine yas_nil ?_
    | with_reducible refine yas_one ?_ | with_reducible refine yas_star ?_ | with_reducible refine ysq_tup ?_ | with_reducible refine ysq_lst ?_ | with_reducible refine yi_zip ?_ | with_reducible refine yi_zipT ?_ | with_reducible refine yi_zipTL ?_ | with_reducible refine yi_zipLT ?_ | with_reducible refine yi_enz ?_ | with_reducible refine yi_enzT ?_ | with_reducible refine ex_int ?_
    | ((with_reducible apply yr_var); rfl) | ((with_reducible apply Br.yes); omega) | ((with_reducible apply Br.nay); omega) | ((with_reducible apply yix_tup); rfl) | ((with_reducible apply yix_lst); rfl) | ((with_reducible apply yix_rol); rfl) | ((with_reducible apply yix_rtp); rfl) | ((with_reducible apply yo_mul); assumption)
    | ((with_reducible apply yo_mod); (first | assumption | omega)) | ((with_reducible apply yo_div); (first | assumption | exact divOk_of (by omega) (by omega))) | ((with_reducible apply yo_pow); assumption) | ((with_reducible apply ytp); rfl; rfl) | ((with_reducible apply ynl_f); exact few rfl; rfl)
    | ((with_reducible apply ynl_t); exact few rfl) | ((with_reducible apply ys_asgT); skip) | ((with_reducible apply ex_eq); rfl) | ((with_reducible apply yi_rng1); omega))
def Pk0 (x : MM.Pr) : Prop := 0 ≤ x.1 ∧ x.1 < 1000003 ∧ 0 ≤ x.2 ∧ x.2 < 100
theorem Pk0.up {x : MM.Pr} (h : Pk0 x) : Pk x := by unfold Pk0 at h; unfold Pk; omega
theorem run_pk {n : Nat} (lost : List Nat) : ∀ {ds : List MM.Dd} {j : Nat} {h : List MM.Pr}, (∀ d ∈ ds, OkD n d) → (∀ x ∈ h, Pk0 x) → j + ds.length < 99 → (∀ x ∈ (MM.run lost j ds h).1, Pk0 x) ∧ ∀ x ∈ (MM.run lost j ds h).2, Pk0 x
  | [], j, h, _, hh, _ => ⟨fun _ z => (nomatch z), hh⟩
  | d :: ds, j, h, hd, hh, hj => by
    have hx : Pk0 (h.getD d.pl (0, 0)) := by
      rw [List.getD_eq_getElem?_getD]
      cases e : h[d.pl]? with
      | none => exact ⟨by decide, by decide, by decide, by decide⟩
      | some x => exact hh x (List.mem_of_getElem? e)
    have hv : 0 ≤ MM.kv lost j d (h.getD d.pl (0, 0)) ∧ MM.kv lost j d (h.getD d.pl (0, 0)) < 1000003 := by
      have hdd := hd d (List.mem_cons_self ..)
      cases d with
      | rd p => exact ⟨hx.1, hx.2.1⟩
      | pt p v =>
        show 0 ≤ (if j ∈ lost then _ else v) ∧ (if j ∈ lost then _ else v) < 1000003
        by_cases hm : j ∈ lost
        · rw [if_pos hm]; exact ⟨hx.1, hx.2.1⟩
        · rw [if_neg hm]; exact hdd.2
    have hl : j + 1 + ds.length < 99 := by rw [List.length_cons] at hj; omega
    obtain ⟨a, b⟩ := run_pk lost (ds := ds) (j := j + 1) (h := h.set d.pl (MM.kv lost j d (h.getD d.pl (0, 0)), ((j + 1 : Nat) : Int))) (fun e he => hd e (List.mem_cons_of_mem _ he)) (fun x hx2 => by
      rcases List.mem_or_eq_of_mem_set hx2 with z | rfl
      · exact hh x z
      · exact ⟨hv.1, hv.2, by show (0 : Int) ≤ ((j + 1 : Nat) : Int); omega, by show ((j + 1 : Nat) : Int) < 100; omega⟩) hl
    refine ⟨fun x hx2 => ?_, b⟩
    rcases List.mem_cons.mp hx2 with rfl | z
    · exact hx
    · exact a x z
structure An0 (n m : Nat) (a : List MM.Pr × List MM.Pr) : Prop where
  t : a.1.length = m
  l : a.2.length = n
  pt : ∀ x ∈ a.1, Pk0 x
  pl : ∀ x ∈ a.2, Pk0 x
theorem An0.up {n m : Nat} {a : List MM.Pr × List MM.Pr} (h : An0 n m a) : An n m a := ⟨h.t, h.l, fun x hx => (h.pt x hx).up, fun x hx => (h.pl x hx).up⟩
theorem ini_pk {vs : List Int} (h : Vs vs) : ∀ x ∈ MM.ini vs, Pk0 x := fun x hx => by
  obtain ⟨v, hv, rfl⟩ := List.mem_map.mp hx
  have := h.r v hv
  exact ⟨this.1, this.2, Int.le_refl 0, by show (0 : Int) < 100; decide⟩
theorem run_an {vs : List Int} {ds : List MM.Dd} (hv : Vs vs) (hj : Jb vs.length ds) (lost : List Nat) : An0 vs.length ds.length (MM.run lost 0 ds (MM.ini vs)) := by
  obtain ⟨a, b⟩ := MM.run_len lost ds 0 (MM.ini vs)
  have l3 := hj.l
  obtain ⟨c, d⟩ := run_pk lost hj.r (ini_pk hv) (j := 0) (by omega)
  exact ⟨a, by rw [b, MM.ini_len], c, d⟩
theorem changed_ok {h : List MM.Pr} {j : Nat} {x : MM.Pr} (hj : j < h.length) (hl : h.length < 1000) : Gv d__law_changed [pT h, .int j, pD x] (pT (h.set j x)) := by
  have hlen : (h.map pD).length = h.length := List.length_map _
  refine Gv.mk (go__law_changed ?_)
  unfold b__law_changed
  repeat sizeOf_list_dec
  rw [cut_to (by omega)]
  refine yo_addT (by simp; unfold lineS; omega) ?_
  repeat sizeOf_list_dec
  rw [cut_from (by omega)]
  refine yo_addT (by simp; unfold lineS; omega) ?_
  repeat sizeOf_list_dec
  have e : (h.map pD).take j ++ [pD x] ++ (h.map pD).drop (j + 1) = (h.set j x).map pD := by
    rw [cut_set (by omega), List.map_set]
  show W.d (.tup _) = W.d (.tup _)
  rw [e]
theorem pk_mk {a b : Int} (h : 0 ≤ a ∧ a < 2000000 ∧ 0 ≤ b ∧ b < 2000000) : ∃ z, D.tup [.int a, .int b] = pD z ∧ Pk z := ⟨(a, b), rfl, h⟩
theorem near_pf {x : MM.Pr} {n : Nat} (hx : Pk0 x) (hn : n ≤ 100) : Pf d__law_pair_near [pD x, .int n] 1 (fun y => ∃ z, y = pD z ∧ Pk z) := by
  intro k o s c pt hk
  obtain ⟨h1, h2, h3, h4⟩ := hx
  refine go__law_pair_near ?_
  unfold b__law_pair_near
  repeat sizeOf_list_dec
  refine yo_addL (by show 4 + 4 ≤ lineS; unfold lineS; omega) ?_
  repeat sizeOf_list_dec
  refine yo_addL (by show 8 + 1 ≤ lineS; unfold lineS; omega) ?_
  repeat sizeOf_list_dec
  refine v__law_pair_near_0 (of_ok (by simp) (by simp)) pt hk ?_
  intro y o1 c1 hy p1
  have : ∃ z, y = pD z ∧ Pk z := by
    simp only [List.cons_append, List.nil_append, List.mem_cons, List.not_mem_nil, or_false] at hy
    rcases hy with rfl | rfl | rfl | rfl | rfl | rfl | rfl | rfl | rfl <;> refine pk_mk ⟨?_, ?_, ?_, ?_⟩ <;> (repeat' split) <;> omega
  repeat sizeOf_list_dec
  exact ⟨_, _, _, _, rfl, rfl, this, p1⟩
theorem shs_dD (n : Nat) : ∀ l : List MM.Dd, shs (n + 1) (l.map dD) = true
  | [] => rfl
  | d :: l => by
    show (sh (n + 1) (dD d) && shs (n + 1) (l.map dD)) = true
    rw [shs_dD n l]
    cases d with
    | rd p =>
      show ((strF _ && (sh n (.int _) && true)) && true) = true
      rw [sF "read", sh_int]
      rfl
    | pt p v =>
      show ((strF _ && (sh n (.int _) && (sh n (.int _) && true))) && true) = true
      rw [sF "put", sh_int, sh_int]
      rfl
theorem ne_job {ds : List MM.Dd} {S : Store} {Q : Bool → Store → Prop} (q : Q (!ds.isEmpty) S) : Ok (evCmp .NotEq (.d (jT ds)) (.d (.tup [])) S) Q := by
  refine yc_ne (show sh 60 (jT ds) = true from shs_dD 58 ds) rfl ?_
  have : deq (jT ds) (.tup []) = ds.isEmpty := by cases ds <;> rfl
  rw [this]
  exact q
theorem set_an {n m : Nat} {a : List MM.Pr × List MM.Pr} (h : An n m a) (j : Nat) {z : MM.Pr} (hz : Pk z) : An n m (a.1.set j z, a.2) :=
  ⟨by rw [List.length_set]; exact h.t, h.l, fun x hx => by
    rcases List.mem_or_eq_of_mem_set hx with q | rfl
    · exact h.pt x q
    · exact hz, h.pl⟩
theorem set_anL {n m : Nat} {a : List MM.Pr × List MM.Pr} (h : An n m a) (j : Nat) {z : MM.Pr} (hz : Pk z) : An n m (a.1, a.2.set j z) :=
  ⟨h.t, by rw [List.length_set]; exact h.l, h.pt, fun x hx => by
    rcases List.mem_or_eq_of_mem_set hx with q | rfl
    · exact h.pl x q
    · exact hz⟩
theorem lie_pf {vs : List Int} {ds : List MM.Dd} (hv : Vs vs) (hj : Jb vs.length ds) : Pf d__law_lie [rT vs, jT ds] 100 (fun y => ∃ a, y = aT a ∧ An vs.length ds.length a) := by
  intro k o s c pt hk
  have l1 := hv.l1
  have l2 := hv.l2
  have l3 := hj.l
  have hl2 : (ds.map dD).length = ds.length := List.length_map _
  have fin : ∀ {a : List MM.Pr × List MM.Pr} {o c : Int} {n : Nat}, An vs.length ds.length a → Pot n o s c → n ≤ k + 100 → ∃ y o' c' r', W.d (aT a) = W.d y ∧ [P o s c] = P o' s c' :: r' ∧ (∃ a, y = aT a ∧ An vs.length ds.length a) ∧ Pot (k + 100) o' s c' := fun ha p hn => ⟨_, _, _, [], rfl, rfl, ⟨_, rfl, ha⟩, p.up hn⟩
  let G : W → Store → Prop := fun w S' => ∃ y o' c' r', w = W.d y ∧ S' = P o' s c' :: r' ∧ (∃ a, y = aT a ∧ An vs.length ds.length a) ∧ Pot (k + 100) o' s c'
  let ge : List MM.Pr × List MM.Pr → Nat → Ev := fun a w => [some (.l 0), some (.d (rT vs)), some (.d (jT ds)), some (.d (pT a.1)), some (.d (pT a.2)), some (.d (.int w)), none, none]
  have r7 : ∀ (a : List MM.Pr × List MM.Pr) (w : Nat) (o c : Int), An0 vs.length ds.length a → Pot (k + 62) o s c → Ok (evSs (fnsOf t__law_lie) (b__law_lie.drop 7) (ge a w) [P o s c]) (DL.Fin G) := by
    intro a w o c ha pt
    have ht := ha.t
    have hl := ha.l
    have hla : (a.2.map pD).length = vs.length := by rw [List.length_map]; exact hl
    unfold b__law_lie
    simp only [List.drop_succ_cons, List.drop_zero]
    repeat sizeOf_list_dec
    rw [hla]
    refine v__law_lie_1 (take_ok (u := vs.length) (by omega) (by omega)) pt (by omega) ?_
    rintro y o1 c1 ⟨r, hr, rfl⟩ p1
    have hrl : r < a.2.length := by omega
    have e1 : a.2[r]? = some a.2[r] := List.getElem?_eq_getElem hrl
    repeat sizeOf_list_dec
    refine yix_tup (at_emb pD e1) ?_
    repeat sizeOf_list_dec
    rw [hl2]
    refine v__law_lie_4 (near_pf (ha.pl _ (List.getElem_mem hrl)) (n := ds.length) (by omega)) p1 (by omega) ?_
    rintro y o2 c2 ⟨z, rfl, hz⟩ p2
    repeat sizeOf_list_dec
    refine v__law_lie_5 (of_okT (ds := a.2.map pD) (by intro e; rw [e] at hla; simp at hla; omega) (by omega)) p2 (by omega) ?_
    intro y o3 c3 hy p3
    obtain ⟨z2, hz2, rfl⟩ := List.mem_map.mp hy
    repeat sizeOf_list_dec
    refine v__law_lie_5 (of_ok (by simp) (by simp)) p3 (by omega) ?_
    intro y o4 c4 hy p4
    obtain ⟨z3, rfl, hz3⟩ : ∃ z, y = pD z ∧ Pk z := by
      simp only [List.mem_cons, List.not_mem_nil, or_false] at hy
      rcases hy with rfl | rfl
      · exact ⟨_, rfl, hz⟩
      · exact ⟨_, rfl, (ha.pl _ hz2).up⟩
    repeat sizeOf_list_dec
    refine u__law_lie_3 (changed_ok (x := z3) hrl (by omega)) ?_
    repeat sizeOf_list_dec
    exact fin (set_anL ha.up r hz3) p4 (by omega)
  have r6 : ∀ (a : List MM.Pr × List MM.Pr) (w : Nat) (o c : Int), An0 vs.length ds.length a → Pot (k + 62) o s c → Ok (evSs (fnsOf t__law_lie) (b__law_lie.drop 6) (ge a w) [P o s c]) (DL.Fin G) := by
    intro a w o c ha pt
    have ht := ha.t
    have hta : (a.1.map pD).length = ds.length := by rw [List.length_map]; exact ht
    have next := r7 a w o c ha pt
    unfold b__law_lie at next ⊢
    simp only [List.drop_succ_cons, List.drop_zero] at next ⊢
    repeat sizeOf_list_dec
    refine Br.dec (fun h => ?_) (fun h => by (first | exact next | ((iterate 1 sizeOf_list_dec); exact next) | ((iterate 2 sizeOf_list_dec); exact next) | ((iterate 3 sizeOf_list_dec); exact next) | ((iterate 4 sizeOf_list_dec); exact next) | ((iterate 5 sizeOf_list_dec); exact next) | ((iterate 6 sizeOf_list_dec); exact next)))
    refine ne_job ?_
    cases hd : ds.isEmpty with
    | true => (first | exact next | ((iterate 1 sizeOf_list_dec); exact next) | ((iterate 2 sizeOf_list_dec); exact next) | ((iterate 3 sizeOf_list_dec); exact next) | ((iterate 4 sizeOf_list_dec); exact next) | ((iterate 5 sizeOf_list_dec); exact next) | ((iterate 6 sizeOf_list_dec); exact next))
    | false =>
      have hd0 : 0 < ds.length := List.length_pos_iff.mpr (by intro e; rw [e] at hd; cases hd)
      refine Br.t ?_
      repeat sizeOf_list_dec
      rw [hta]
      refine v__law_lie_1 (take_ok (u := ds.length) (by omega) (by omega)) pt (by omega) ?_
      rintro y o1 c1 ⟨r, hr, rfl⟩ p1
      repeat sizeOf_list_dec
      rw [hta]
      refine v__law_lie_1 (take_ok (u := ds.length) (by omega) (by omega)) p1 (by omega) ?_
      rintro y o2 c2 ⟨r2, hr2, rfl⟩ p2
      have e1 : a.1[r]? = some (a.1[r]'(by omega)) := List.getElem?_eq_getElem (by omega)
      have e2 : a.1[r2]? = some (a.1[r2]'(by omega)) := List.getElem?_eq_getElem (by omega)
      repeat sizeOf_list_dec
      refine yix_tup (at_emb pD e2) ?_
      repeat sizeOf_list_dec
      refine u__law_lie_3 (changed_ok (h := a.1) (j := r) (x := a.1[r2]'(by omega)) (by omega) (by omega)) ?_
      repeat sizeOf_list_dec
      refine yix_tup (at_emb pD e1) ?_
      repeat sizeOf_list_dec
      refine u__law_lie_3 (changed_ok (j := r2) (x := a.1[r]'(by omega)) (by rw [List.length_set]; omega) (by rw [List.length_set]; omega)) ?_
      repeat sizeOf_list_dec
      exact fin (set_an (set_an ha.up r (ha.pt _ (List.getElem_mem _)).up) r2 (ha.pt _ (List.getElem_mem _)).up) p2 (by omega)
  have r5 : ∀ (a : List MM.Pr × List MM.Pr) (w : Nat) (o c : Int), An0 vs.length ds.length a → Pot (k + 62) o s c → Ok (evSs (fnsOf t__law_lie) (b__law_lie.drop 5) (ge a w) [P o s c]) (DL.Fin G) := by
    intro a w o c ha pt
    have ht := ha.t
    have hta : (a.1.map pD).length = ds.length := by rw [List.length_map]; exact ht
    have next := r6 a w o c ha pt
    unfold b__law_lie at next ⊢
    simp only [List.drop_succ_cons, List.drop_zero] at next ⊢
    repeat sizeOf_list_dec
    refine Br.dec (fun h => ?_) (fun h => by (first | exact next | ((iterate 1 sizeOf_list_dec); exact next) | ((iterate 2 sizeOf_list_dec); exact next) | ((iterate 3 sizeOf_list_dec); exact next) | ((iterate 4 sizeOf_list_dec); exact next) | ((iterate 5 sizeOf_list_dec); exact next) | ((iterate 6 sizeOf_list_dec); exact next)))
    refine ne_job ?_
    cases hd : ds.isEmpty with
    | true => (first | exact next | ((iterate 1 sizeOf_list_dec); exact next) | ((iterate 2 sizeOf_list_dec); exact next) | ((iterate 3 sizeOf_list_dec); exact next) | ((iterate 4 sizeOf_list_dec); exact next) | ((iterate 5 sizeOf_list_dec); exact next) | ((iterate 6 sizeOf_list_dec); exact next))
    | false =>
      have hd0 : 0 < ds.length := List.length_pos_iff.mpr (by intro e; rw [e] at hd; cases hd)
      refine Br.t ?_
      repeat sizeOf_list_dec
      rw [hta]
      refine v__law_lie_1 (take_ok (u := ds.length) (by omega) (by omega)) pt (by omega) ?_
      rintro y o1 c1 ⟨r, hr, rfl⟩ p1
      obtain ⟨d, hd1, hdk⟩ : ∃ d, ds[r]? = some d ∧ OkD vs.length d := ⟨ds[r], List.getElem?_eq_getElem hr, hj.r _ (List.getElem_mem hr)⟩
      have hp := hdk.lt
      have ev : vs[d.pl]? = some (vs[d.pl]'hp) := List.getElem?_eq_getElem hp
      have hv0 := hv.r _ (List.getElem_mem hp)
      repeat sizeOf_list_dec
      refine yix_tup (at_emb dD hd1) ?_
      repeat sizeOf_list_dec
      refine dD_1 ?_
      repeat sizeOf_list_dec
      refine yix_tup (at_emb D.int ev) ?_
      repeat sizeOf_list_dec
      refine v__law_lie_5 (of_okT (ds := a.1.map pD) (by intro e; rw [e] at hta; simp at hta; omega) (by omega)) p1 (by omega) ?_
      intro y o3 c3 hy p3
      obtain ⟨z2, hz2, rfl⟩ := List.mem_map.mp hy
      repeat sizeOf_list_dec
      refine v__law_lie_5 (of_ok (by simp) (by simp)) p3 (by omega) ?_
      intro y o4 c4 hy p4
      obtain ⟨z3, rfl, hz3⟩ : ∃ z, y = pD z ∧ Pk z := by
        simp only [List.mem_cons, List.not_mem_nil, or_false] at hy
        rcases hy with rfl | rfl
        · exact ⟨(_, _), rfl, hv0.1, by show _ < (2000000 : Int); omega, Int.le_refl 0, by show (0 : Int) < 2000000; decide⟩
        · exact ⟨_, rfl, (ha.pt _ hz2).up⟩
      repeat sizeOf_list_dec
      refine u__law_lie_3 (changed_ok (x := z3) (show r < a.1.length by omega) (by omega)) ?_
      repeat sizeOf_list_dec
      exact fin (set_an ha.up r hz3) p4 (by omega)
  have r4 : ∀ (a : List MM.Pr × List MM.Pr) (w : Nat) (o c : Int), An0 vs.length ds.length a → Pot (k + 62) o s c → Ok (evSs (fnsOf t__law_lie) (b__law_lie.drop 4) (ge a w) [P o s c]) (DL.Fin G) := by
    intro a w o c ha pt
    have ht := ha.t
    have hta : (a.1.map pD).length = ds.length := by rw [List.length_map]; exact ht
    have next := r5 a w o c ha pt
    unfold b__law_lie at next ⊢
    simp only [List.drop_succ_cons, List.drop_zero] at next ⊢
    repeat sizeOf_list_dec
    refine yc_inT rfl rfl ?_
    refine Br.by (fun h => ?_) (fun h => by (first | exact next | ((iterate 1 sizeOf_list_dec); exact next) | ((iterate 2 sizeOf_list_dec); exact next) | ((iterate 3 sizeOf_list_dec); exact next) | ((iterate 4 sizeOf_list_dec); exact next) | ((iterate 5 sizeOf_list_dec); exact next) | ((iterate 6 sizeOf_list_dec); exact next)))
    repeat sizeOf_list_dec
    refine ne_job ?_
    cases hd : ds.isEmpty with
    | true => (first | exact next | ((iterate 1 sizeOf_list_dec); exact next) | ((iterate 2 sizeOf_list_dec); exact next) | ((iterate 3 sizeOf_list_dec); exact next) | ((iterate 4 sizeOf_list_dec); exact next) | ((iterate 5 sizeOf_list_dec); exact next) | ((iterate 6 sizeOf_list_dec); exact next))
    | false =>
      have hd0 : 0 < ds.length := List.length_pos_iff.mpr (by intro e; rw [e] at hd; cases hd)
      refine Br.t ?_
      repeat sizeOf_list_dec
      rw [hta]
      refine v__law_lie_1 (take_ok (u := ds.length) (by omega) (by omega)) pt (by omega) ?_
      rintro y o1 c1 ⟨r, hr, rfl⟩ p1
      have hra : r < a.1.length := by omega
      repeat sizeOf_list_dec
      refine yix_tup (at_emb pD (List.getElem?_eq_getElem hra)) ?_
      repeat sizeOf_list_dec
      rw [show (r : Int) + 1 = ((r + 1 : Nat) : Int) by omega]
      refine v__law_lie_4 (near_pf (ha.pt _ (List.getElem_mem hra)) (n := r + 1) (by omega)) p1 (by omega) ?_
      rintro y o2 c2 ⟨z, rfl, hz⟩ p2
      repeat sizeOf_list_dec
      refine u__law_lie_3 (changed_ok (x := z) hra (by omega)) ?_
      repeat sizeOf_list_dec
      exact fin (set_an ha.up r hz) p2 (by omega)
  have r3 : ∀ (a : List MM.Pr × List MM.Pr) (w : Nat) (o c : Int), An0 vs.length ds.length a → Pot (k + 62) o s c → Ok (evSs (fnsOf t__law_lie) (b__law_lie.drop 3) (ge a w) [P o s c]) (DL.Fin G) := by
    intro a w o c ha pt
    have next := r4 a w o c ha pt
    unfold b__law_lie at next ⊢
    simp only [List.drop_succ_cons, List.drop_zero] at next ⊢
    repeat sizeOf_list_dec
    refine Br.dec (fun h => ?_) (fun h => ?_)
    · repeat sizeOf_list_dec
      exact fin ha.up pt (by omega)
    · repeat sizeOf_list_dec
      refine Br.dec (fun h => ?_) (fun h => by (first | exact next | ((iterate 1 sizeOf_list_dec); exact next) | ((iterate 2 sizeOf_list_dec); exact next) | ((iterate 3 sizeOf_list_dec); exact next) | ((iterate 4 sizeOf_list_dec); exact next) | ((iterate 5 sizeOf_list_dec); exact next) | ((iterate 6 sizeOf_list_dec); exact next)))
      repeat sizeOf_list_dec
      exact fin ha.up pt (by omega)
  refine go__law_lie ?_
  unfold b__law_lie
  repeat sizeOf_list_dec
  rw [hl2]
  have hrl : (rangeL 0 (ds.length : Int)).length = ds.length := range_length _
  refine yc_drawF (ws := rangeL 0 (ds.length : Int)) (R := fun y => ∃ r : Nat, y = .int r) (d := 1) pt (by rw [hrl]; omega) (by rw [hrl]; unfold lineS; omega) (fun w hw k o c pt hk => ?_) ?_
  · obtain ⟨i, hi, rfl⟩ := range_mem hw
    refine yr_turn rfl ?_
    repeat sizeOf_list_dec
    refine v__law_lie_1 (take_ok (u := 4) (by decide) (by decide)) pt hk ?_
    rintro y o8 c8 ⟨t, ht, rfl⟩ p8
    repeat sizeOf_list_dec
    refine Br.dec (fun h => ?_) (fun h => ?_)
    · repeat sizeOf_list_dec
      exact ⟨o8, c8, .inr ⟨_, rfl, i, rfl⟩, rfl, p8⟩
    · exact ⟨o8, c8, .inl rfl, rfl, p8⟩
  · intro ys o2 c2 _ hRy p2
    rw [hrl] at p2
    obtain ⟨lost, rfl⟩ := nats_of hRy
    repeat sizeOf_list_dec
    refine u__law_lie_0 (law_kept_ok hv hj lost) ?_
    repeat sizeOf_list_dec
    refine v__law_lie_1 (take_ok (u := 8) (by decide) (by decide)) p2 (by omega) ?_
    rintro y o3 c3 ⟨w, hw, rfl⟩ p3
    repeat sizeOf_list_dec
    refine Br.dec (fun h => ?_) (fun h => ?_)
    · repeat sizeOf_list_dec
      refine u__law_lie_2 (law_plain_ok hv hj) ?_
      repeat sizeOf_list_dec
      refine Br.dec (fun h0 => ?_) (fun h0 => ?_)
      · repeat sizeOf_list_dec
        exact fin (run_an hv hj []).up p3 (by omega)
      · have next := r4 (MM.right vs ds) w o3 c3 (run_an hv hj []) (p3.up (by omega))
        (first | exact next | ((iterate 1 sizeOf_list_dec); exact next) | ((iterate 2 sizeOf_list_dec); exact next) | ((iterate 3 sizeOf_list_dec); exact next) | ((iterate 4 sizeOf_list_dec); exact next) | ((iterate 5 sizeOf_list_dec); exact next) | ((iterate 6 sizeOf_list_dec); exact next))
    · have next := r3 (MM.run lost 0 ds (MM.ini vs)) w o3 c3 (run_an hv hj lost) (p3.up (by omega))
      (first | exact next | ((iterate 1 sizeOf_list_dec); exact next) | ((iterate 2 sizeOf_list_dec); exact next) | ((iterate 3 sizeOf_list_dec); exact next) | ((iterate 4 sizeOf_list_dec); exact next) | ((iterate 5 sizeOf_list_dec); exact next) | ((iterate 6 sizeOf_list_dec); exact next))
end K70
namespace K70
open PySem PySem.Spec PyProof.Rows L2 DL
local macro_rules
  | `(tactic| sizeOf_list_dec) => `(tactic| first
    | with_reducible refine ynx_nx ?_ | with_reducible refine ynx_rt ?_ | with_reducible refine yss_cons ?_ | with_reducible refine yr_const ?_ | with_reducible refine ya_cons ?_ | with_reducible refine ya_nil ?_ | with_reducible refine yr_bin ?_ | with_reducible refine yr_ix ?_ | with_reducible refine yr_call ?_ | with_reducible refine yr_bi ?_ | with_reducible refine yset0 ?_ | with_reducible refine yset1 ?_
    | with_reducible refine yset2 ?_ | with_reducible refine yset3 ?_ | with_reducible refine yset4 ?_ | with_reducible refine yset5 ?_ | with_reducible refine yset6 ?_ | with_reducible refine yset7 ?_ | with_reducible refine yset8 ?_ | with_reducible refine yset9 ?_ | with_reducible refine yset10 ?_ | with_reducible refine yset11 ?_ | with_reducible refine yset12 ?_ | with_reducible refine yset13 ?_
    | with_reducible refine yset14 ?_ | with_reducible refine yset15 ?_ | with_reducible refine yset16 ?_ | with_reducible refine yset17 ?_ | with_reducible refine yset18 ?_ | with_reducible refine yset19 ?_ | with_reducible refine ys_ife ?_ | with_reducible refine yb_cmp ?_ | with_reducible refine yb_val ?_ | with_reducible refine yb_not ?_ | with_reducible refine yb_bop ?_ | with_reducible refine yb_and ?_
    | with_reducible refine yb_or ?_ | with_reducible refine yb_1 ?_ | with_reducible refine yb_chain ?_ | with_reducible refine yb_yes ?_ | with_reducible refine yo_add ?_ | with_reducible refine yo_sub ?_ | with_reducible refine yc_lt ?_ | with_reducible refine yc_le ?_ | with_reducible refine yc_gt ?_ | with_reducible refine yc_ge ?_ | with_reducible refine yc_eqi ?_ | with_reducible refine yc_nei ?_
    | with_reducible refine Br.t ?_ | with_reducible refine Br.f ?_ | with_reducible refine Br.not ?_ | with_reducible refine yr_tup ?_ | with_reducible refine yr_lst ?_ | with_reducible refine yr_neg ?_ | with_reducible refine yr_cmp ?_ | with_reducible refine yr_chain ?_ | with_reducible refine yr_not ?_ | with_reducible refine yr_bop ?_ | with_reducible refine yr_and ?_ | with_reducible refine yr_or ?_
    | with_reducible refine yr_bop1 ?_ | with_reducible refine yr_ifx ?_ | with_reducible refine yr_glob ?_ | with_reducible refine ys_ret ?_ | with_reducible refine ys_expr ?_ | with_reducible refine ys_par ?_ | with_reducible refine ys_retN ?_ | with_reducible refine ys_pass ?_ | with_reducible refine ys_brk ?_ | with_reducible refine ys_set ?_ | with_reducible refine yss_nil ?_ | with_reducible refine ys_for ?_
    | with_reducible refine yfin_rt ?_ | with_reducible refine yfin_nx ?_ | with_reducible refine ywp_nx ?_ | with_reducible refine ylp_nx ?_ | with_reducible refine ylp_rt ?_ | with_reducible refine ylp_bk ?_ | with_reducible refine ynx_bk ?_ | with_reducible refine yc_isb ?_ | with_reducible refine yc_isnb ?_ | with_reducible refine yc_isn_n ?_ | with_reducible refine yc_isn_i ?_ | with_reducible refine yc_isn_t ?_
    | with_reducible refine yc_isnn_n ?_ | with_reducible refine yc_isnn_i ?_ | with_reducible refine yc_isnn_t ?_ | with_reducible refine yt_bl ?_ | with_reducible refine yt_int ?_ | with_reducible refine yt_non ?_ | with_reducible refine yt_tup ?_ | with_reducible refine yt_lst ?_ | with_reducible refine yn_int ?_ | with_reducible refine yn_intB ?_ | with_reducible refine yn_max2 ?_ | with_reducible refine yn_min2 ?_
    | with_reducible refine yn_lenT ?_ | with_reducible refine yn_lenL ?_ | with_reducible refine yn_lenR ?_ | with_reducible refine yn_tupL ?_ | with_reducible refine yn_isi_int_int ?_ | with_reducible refine yn_isi_int_bool ?_ | with_reducible refine yn_isi_bool_int ?_ | with_reducible refine yn_isi_bool_bool ?_ | with_reducible refine yn_isi_tup_tuple ?_ | with_reducible refine yn_isi_int_tuple ?_
    | with_reducible refine yn_isi_str_str ?_ | with_reducible refine yn_isi_int_str ?_ | with_reducible refine yn_isi_str_int ?_ | with_reducible refine yn_isi_tup_int ?_ | with_reducible refine yn_isi_tup_str ?_ | with_reducible refine yn_isi_str_tuple ?_ | with_reducible refine yn_isi_non_tuple ?_ | with_reducible refine yn_isi_non_int ?_ | with_reducible refine yg_add ?_ | with_reducible refine yg_sub ?_
    | with_reducible refine yr_mt ?_ | with_reducible refine yr_comp ?_ | with_reducible refine yr_lrange ?_ | with_reducible refine yr_rep ?_ | with_reducible refine yr_frz ?_ | with_reducible refine yr_dict ?_ | with_reducible refine yi_items ?_ | with_reducible refine yi_dct ?_ | with_reducible refine yi_rtp ?_ | with_reducible refine yi_enRT ?_ | with_reducible refine yt_rtp ?_ | with_reducible refine yc_isn_rt ?_
    | with_reducible refine yc_isnn_rt ?_ | with_reducible refine ysq_rtp ?_ | with_reducible refine yn_lenRT ?_ | with_reducible refine yn_isi_rtp_tuple ?_ | with_reducible refine yr_slice00 ?_ | with_reducible refine yr_slice10 ?_ | with_reducible refine yr_slice01 ?_ | with_reducible refine yr_slice11 ?_ | with_reducible refine ysl_tup ?_ | with_reducible refine ysl_lst ?_ | with_reducible refine ysl_rol ?_
    | with_reducible refine yi_seq ?_ | with_reducible refine yi_tup ?_ | with_reducible refine yi_lst ?_ | with_reducible refine yi_rol ?_ | with_reducible refine yi_rng ?_ | with_reducible refine yi_enum ?_ | with_reducible refine yi_enT ?_ | with_reducible refine yi_enL ?_ | with_reducible refine yi_rng3 ?_ | with_reducible refine yr_tupS ?_ | with_reducible refine yr_lstS ?_ | with_reducible refine yas_nil ?_
    | with_reducible refine yas_one ?_ | with_reducible refine yas_star ?_ | with_reducible refine ysq_tup ?_ | with_reducible refine ysq_lst ?_ | with_reducible refine yi_zip ?_ | with_reducible refine yi_zipT ?_ | with_reducible refine yi_zipTL ?_ | with_reducible refine yi_zipLT ?_ | with_reducible refine yi_enz ?_ | with_reducible refine yi_enzT ?_ | with_reducible refine ex_int ?_
    | ((with_reducible apply yr_var); rfl) | ((with_reducible apply Br.yes); omega) | ((with_reducible apply Br.nay); omega) | ((with_reducible apply yix_tup); rfl) | ((with_reducible apply yix_lst); rfl) | ((with_reducible apply yix_rol); rfl) | ((with_reducible apply yix_rtp); rfl) | ((with_reducible apply yo_mul); assumption)
    | ((with_reducible apply yo_mod); (first | assumption | omega)) | ((with_reducible apply yo_div); (first | assumption | exact divOk_of (by omega) (by omega))) | ((with_reducible apply yo_pow); assumption) | ((with_reducible apply ytp); rfl; rfl) | ((with_reducible apply ynl_f); exact few rfl; rfl)
    | ((with_reducible apply ynl_t); exact few rfl) | ((with_reducible apply ys_asgT); skip) | ((with_reducible apply ex_eq); rfl) | ((with_reducible apply yi_rng1); omega))
/-! ### the least one -/
def ltP (a b : MM.Tr) : Prop := a.1 < b.1 ∨ (a.1 = b.1 ∧ (a.2.1 < b.2.1 ∨ (a.2.1 = b.2.1 ∧ a.2.2 < b.2.2)))
instance (a b : MM.Tr) : Decidable (ltP a b) := by unfold ltP; infer_instance
theorem ltD_tD (a b : MM.Tr) : ltD (tD a) (tD b) = decide (ltP a b) := by
  obtain ⟨a1, a2, a3⟩ := a
  obtain ⟨b1, b2, b3⟩ := b
  have blt : ∀ x y : Int, PySem.W.dataLt (.int x) (.int y) = decide (x < y) := fun x y => by
    show PyProof.Rows.lexLt itemOrd [.inl x] [.inl y] = _
    by_cases h : x = y
    · subst h
      rw [lex_self]
      simp [PyProof.Rows.lexLt]
    · rw [lex_diff (O := itemOrd) (show (.inl x : Int ⊕ List Nat) ≠ .inl y from fun z => h (Sum.inl.inj z))]
      rfl
  have nl : ∀ {x y : Int}, x ≠ y → (.inl x : Int ⊕ List Nat) ≠ .inl y := fun h z => h (Sum.inl.inj z)
  show PyProof.Rows.lexLt itemOrd [.inl 1, .inl a1, .inl 1, .inl a2, .inl 1, .inl a3, .inl 0] [.inl 1, .inl b1, .inl 1, .inl b2, .inl 1, .inl b3, .inl 0] = _
  rw [lex_self]
  by_cases h1 : a1 = b1
  · subst h1
    rw [lex_self, lex_self]
    by_cases h2 : a2 = b2
    · subst h2
      rw [lex_self, lex_self]
      by_cases h3 : a3 = b3
      · subst h3
        rw [lex_self, lex_self]
        have : ¬ ltP (a1, a2, a3) (a1, a2, a3) := by unfold ltP; simp
        rw [decide_eq_false this]
        rfl
      · rw [lex_diff (O := itemOrd) (nl h3)]
        show decide (a3 < b3) = _
        exact decide_eq_decide.mpr (by unfold ltP; simp)
    · rw [lex_diff (O := itemOrd) (nl h2)]
      show decide (a2 < b2) = _
      exact decide_eq_decide.mpr (by unfold ltP; simp; omega)
  · rw [lex_diff (O := itemOrd) (nl h1)]
    show decide (a1 < b1) = _
    exact decide_eq_decide.mpr (by unfold ltP; simp; omega)
def minTr (a : MM.Tr) (r : List MM.Tr) : MM.Tr := r.foldl (fun m y => if ltP y m then y else m) a
theorem minW_tD : ∀ (r : List MM.Tr) (a : MM.Tr), minW (tD a) (r.map tD) = tD (minTr a r)
  | [], _ => rfl
  | b :: r, a => by
    show minW (if ltD (tD b) (tD a) = true then tD b else tD a) (r.map tD) = tD (minTr (if ltP b a then b else a) r)
    rw [← minW_tD r, ltD_tD]
    by_cases h : ltP b a
    · rw [if_pos (decide_eq_true h), if_pos h]
    · rw [if_neg (by rw [decide_eq_false h]; decide), if_neg h]
theorem min_spec : ∀ (r : List MM.Tr) (a : MM.Tr), minTr a r ∈ a :: r ∧ ∀ y ∈ a :: r, ¬ ltP y (minTr a r)
  | [], a => ⟨List.mem_singleton.mpr rfl, fun y hy => by
      rw [List.mem_singleton.mp hy]
      show ¬ ltP a a
      unfold ltP
      omega⟩
  | b :: r, a => by
    have e : minTr a (b :: r) = minTr (if ltP b a then b else a) r := rfl
    rw [e]
    obtain ⟨h1, h2⟩ := min_spec r (if ltP b a then b else a)
    obtain ⟨m, hm⟩ : ∃ m, minTr (if ltP b a then b else a) r = m := ⟨_, rfl⟩
    rw [hm] at h1 h2 ⊢
    have h0 := h2 _ (List.mem_cons_self ..)
    constructor
    · rcases List.mem_cons.mp h1 with h | h
      · rw [h]
        split
        · exact List.mem_cons_of_mem _ (List.mem_cons_self ..)
        · exact List.mem_cons_self ..
      · exact List.mem_cons_of_mem _ (List.mem_cons_of_mem _ h)
    · intro y hy
      rcases List.mem_cons.mp hy with rfl | hy
      · split at h0
        · rename_i hb
          unfold ltP at *
          omega
        · exact h0
      · rcases List.mem_cons.mp hy with rfl | hy
        · split at h0
          · exact h0
          · rename_i hb
            unfold ltP at *
            omega
        · exact h2 y (List.mem_cons_of_mem _ hy)
theorem minO_same {l l' : List MM.Tr} (h : ∀ t, t ∈ l ↔ t ∈ l') : minO l = minO l' := by
  cases l with
  | nil =>
    cases l' with
    | nil => rfl
    | cons t r => exact absurd ((h t).mpr (List.mem_cons_self ..)) (by simp)
  | cons t r =>
    cases l' with
    | nil => exact absurd ((h t).mp (List.mem_cons_self ..)) (by simp)
    | cons t' r' =>
      show minW (tD t) (r.map tD) = minW (tD t') (r'.map tD)
      rw [minW_tD, minW_tD]
      obtain ⟨a1, a2⟩ := min_spec r t
      obtain ⟨b1, b2⟩ := min_spec r' t'
      have c1 := a2 _ ((h _).mpr b1)
      have c2 := b2 _ ((h _).mp a1)
      generalize minTr t r = x at c1 c2 ⊢
      generalize minTr t' r' = y at c1 c2 ⊢
      obtain ⟨x1, x2, x3⟩ := x
      obtain ⟨y1, y2, y3⟩ := y
      unfold ltP at c1 c2
      simp only at c1 c2
      have e1 : x1 = y1 := by omega
      have e2 : x2 = y2 := by omega
      have e3 : x3 = y3 := by omega
      rw [e1, e2, e3]
/-! ### this law's own piles -/
theorem deq_tD (a b : MM.Tr) : deq (tD a) (tD b) = decide (a = b) := by
  obtain ⟨a1, a2, a3⟩ := a
  obtain ⟨b1, b2, b3⟩ := b
  show (decide (a1 = b1) && (decide (a2 = b2) && (decide (a3 = b3) && true))) = _
  rw [Bool.eq_iff_iff]
  simp
theorem count_tD (t : MM.Tr) : ∀ l : List MM.Tr, (l.map tD).countP (fun y => deq y (tD t)) = l.count t
  | [] => rfl
  | x :: l => by
    rw [List.map_cons, List.countP_cons, count_tD t l, List.count_cons, deq_tD]
    by_cases h : x = t
    · simp [h]
    · simp [h]
theorem ym_countT {l : List MM.Tr} {t : MM.Tr} {S : Store} {Q : W → Store → Prop} (q : Q (.d (.int (l.count t : Nat))) S) : Ok (evMt .count (.d (.lst (l.map tD))) [.d (tD t)] S) Q := by
  refine .eqn (a := .d (.int (l.count t : Nat))) (S := S) ?_ q
  have h1 : (lseq S (.d (.lst (l.map tD)))).bind pures = some (l.map tD) := pures_map _
  have h2 : (sh 59 (tD t) && shs 59 (l.map tD)) = true := by
    rw [shs_tD, show sh 59 (tD t) = (sh 58 (.int t.1) && (sh 58 (.int t.2.1) && (sh 58 (.int t.2.2) && true))) from rfl, sh_int, sh_int, sh_int]
    rfl
  show mtCount (.d (.lst (l.map tD))) (.d (tD t)) S = _
  unfold mtCount
  simp only [h1, Out.of_some, Out.bind_ok]
  rw [if_pos h2, count_tD]
theorem law_piles_ok {vs : List Int} {ds : List MM.Dd} {a : List MM.Pr × List MM.Pr} (hv : Vs vs) (hj : Jb vs.length ds) (ha : An vs.length ds.length a) : Gv d__law_piles [rT vs, jT ds, aT a] (.tup [.lst ((MM.puts vs ds a.1).map tD), .lst ((MM.taken ds a.1 a.2).map tD)]) := by
  have l2 := hv.l2
  have l3 := hj.l
  have ht := ha.t
  have hl := ha.l
  refine Gv.mk (go__law_piles ?_)
  unfold b__law_piles
  repeat sizeOf_list_dec
  refine yc_all (emb := fun p : Int × Nat => .tup [.int (p.2 : Nat), .int p.1]) (g := fun p => .tup [.int (p.2 : Nat), .int p.1, .int 0]) (k := fun _ => true) (xs := vs.zipIdx) (by rw [enumW_emb, List.map_map]; rfl) rfl (by rw [List.length_zipIdx]; unfold lineS; omega) (fun v _ => ?_) ?_
  · refine yr_turn rfl (yb_yes (Br.t ?_))
    repeat sizeOf_list_dec
    exact ⟨rfl, rfl⟩
  rw [fil_all, tl_ini]
  refine ynl_t (by rw [List.length_map, tl_len, MM.ini_len]; unfold lineS; omega) ?_
  repeat sizeOf_list_dec
  refine yl_for (fun i env S => ∃ A B a5 a6 a7 a8 a9 a10, Pil vs ds a.1 i A B ∧ env = [some (.d (rT vs)), some (.d (jT ds)), some (.d (aT a)), some (.l 0), some (.l 1), a5, a6, a7, a8, a9, a10] ∧ S = [tL A, tL B]) ⟨_, _, _, _, _, _, _, _, Pil.start .., rfl, rfl⟩ (fun _ _ _ _ => rfl) ?_ ?_
  · rintro i x env S hx ⟨A, B, a5, a6, a7, a8, a9, a10, hp, rfl, rfl⟩
    obtain ⟨d, q1, rfl⟩ := enum_at dD hx
    rw [Nat.zero_add]
    have hi : i < ds.length := (List.getElem?_eq_some_iff.mp q1).1
    obtain ⟨y, q2⟩ : ∃ y, a.1[i]? = some y := ⟨a.1[i]'(by omega), List.getElem?_eq_getElem _⟩
    have nx := hp.next q1 q2
    have la := hp.la
    have lb := hp.lb
    refine yl_turn (env' := [some (.d (rT vs)), some (.d (jT ds)), some (.d (aT a)), some (.l 0), some (.l 1), some (.d (.int (i : Nat))), some (.d (dD d)), a7, a8, a9, a10]) rfl ?_
    repeat sizeOf_list_dec
    refine yix_tup (at_emb pD q2) ?_
    repeat sizeOf_list_dec
    refine ⟨ym_is rfl rfl, ?_⟩
    repeat sizeOf_list_dec
    refine dD_1 ?_
    repeat sizeOf_list_dec
    refine ym_append (n := 1) rfl (by rw [List.length_map]; unfold lineS; omega) ?_
    repeat sizeOf_list_dec
    refine ⟨ym_is rfl rfl, ?_⟩
    repeat sizeOf_list_dec
    refine dD_1 ?_
    have last : ∀ b7 b8, ∃ A2 B2 c5 c6 c7 c8 c9 c10, Pil vs ds a.1 (i + 1) A2 B2 ∧ [some (.d (rT vs)), some (.d (jT ds)), some (.d (aT a)), some (.l 0), some (.l 1), some (.d (.int (i : Nat))), some (.d (dD d)), b7, b8, a9, a10] = [some (.d (rT vs)), some (.d (jT ds)), some (.d (aT a)), some (.l 0), some (.l 1), c5, c6, c7, c8, c9, c10] ∧ [tL (A ++ [((d.pl : Int), MM.vb d y, ((i + 1 : Nat) : Int))]), tL (B ++ [((d.pl : Int), y.1, y.2)])] = [tL A2, tL B2] := fun b7 b8 => ⟨_, _, _, _, _, _, _, _, nx, rfl, rfl⟩
    have eS : ∀ v : Int, [Ob.lst (A.map (fun t => W.d (tD t)) ++ [W.d (D.tup [.int (d.pl : Int), .int v, .int ((i : Int) + 1)])]), Ob.lst (B.map (fun t => W.d (tD t)) ++ [W.d (D.tup [.int (d.pl : Int), .int y.1, .int y.2])])] = [tL (A ++ [((d.pl : Int), v, ((i + 1 : Nat) : Int))]), tL (B ++ [((d.pl : Int), y.1, y.2)])] := fun v => by
      show [Ob.lst _, Ob.lst _] = [Ob.lst _, Ob.lst _]
      rw [List.map_append, List.map_append]
      rfl
    cases d with
    | rd p =>
      unfold dD
      repeat sizeOf_list_dec
      refine e_rp ?_
      repeat sizeOf_list_dec
      refine ym_append (n := 0) rfl (by rw [List.length_map]; unfold lineS; omega) ?_
      repeat sizeOf_list_dec
      refine ⟨_, _, _, _, _, _, _, _, nx, rfl, ?_⟩
      exact eS y.1
    | pt p v =>
      unfold dD
      repeat sizeOf_list_dec
      refine e_pp ?_
      repeat sizeOf_list_dec
      refine ym_append (n := 0) rfl (by rw [List.length_map]; unfold lineS; omega) ?_
      repeat sizeOf_list_dec
      refine ⟨_, _, _, _, _, _, _, _, nx, rfl, ?_⟩
      exact eS v
  · rintro env S ⟨A, B, a5, a6, a7, a8, a9, a10, hp, rfl, rfl⟩
    have hp : Pil vs ds a.1 (enumW 0 (ds.map dD)).length A B := hp
    rw [enum_len] at hp
    obtain ⟨rfl, rfl⟩ := hp.fin
    have la := hp.la
    have lb := hp.lb
    repeat sizeOf_list_dec
    refine ⟨ym_is rfl rfl, ?_⟩
    repeat sizeOf_list_dec
    rw [enumW_emb]
    refine yc_mapE (fun p : MM.Pr × Nat => D.tup [.int (p.2 : Nat), pD p.1]) (fun p => .tup [.int (p.2 : Nat), .int p.1.1, .int p.1.2]) (xs := a.2.zipIdx) (by rw [List.length_zipIdx]; unfold lineS; omega) (fun p _ => ?_) ?_
    · refine yr_turn rfl ?_
      repeat sizeOf_list_dec
      exact ⟨rfl, rfl⟩
    · rw [tl_enc]
      repeat sizeOf_list_dec
      refine ym_extend (n := 1) rfl (by rw [List.length_map, List.length_map, tl_len]; unfold lineS; omega) ?_
      repeat sizeOf_list_dec
      refine yfrz (n := 0) (ds := (MM.puts vs ds a.1).map tD) (by show some (Ob.lst _) = some (Ob.lst _); rw [List.map_map]; rfl) ?_
      repeat sizeOf_list_dec
      refine yfrz (n := 1) (ds := (MM.taken ds a.1 a.2).map tD) (by show some (Ob.lst _) = some (Ob.lst _); unfold MM.taken; rw [List.map_append, List.map_append, List.map_map, List.map_map]; rfl) ?_
      repeat sizeOf_list_dec
      rfl
def unl2 (P T : List MM.Tr) : List MM.Tr := (P ++ T).filter fun t => !decide (P.count t = T.count t)
theorem mem_unl2 {P T : List MM.Tr} (t : MM.Tr) : t ∈ unl2 P T ↔ P.count t ≠ T.count t := by
  unfold unl2
  rw [List.mem_filter, List.mem_append]
  constructor
  · rintro ⟨_, h⟩
    simpa using h
  · intro h
    refine ⟨?_, by simpa using h⟩
    by_cases h1 : t ∈ P
    · exact .inl h1
    · by_cases h2 : t ∈ T
      · exact .inr h2
      · rw [List.count_eq_zero.mpr h1, List.count_eq_zero.mpr h2] at h
        exact absurd rfl h
theorem same_unl {es : Es} {P T : List MM.Tr} (c : Cnt es 400 (cntF P T)) (t : MM.Tr) : t ∈ unl es ↔ t ∈ unl2 P T := by
  rw [mem_unl c, mem_unl2]
  unfold cntF
  omega
def dueD (P T : List MM.Tr) (h : List MM.Pr) : D := match lateO 0 h with
  | some k => .tup [.str "late", .int (k : Int)]
  | none => match unl2 P T with
    | [] => .tup [.str "let"]
    | t :: r => .tup [.str "unlike", minO (t :: r)]
theorem law_due_ok {vs : List Int} {ds : List MM.Dd} {a : List MM.Pr × List MM.Pr} (hv : Vs vs) (hj : Jb vs.length ds) (ha : An vs.length ds.length a) : Gv d__law_due [rT vs, jT ds, aT a] (dueD (MM.puts vs ds a.1) (MM.taken ds a.1 a.2) a.1) := by
  have l2 := hv.l2
  have l3 := hj.l
  have ht := ha.t
  have hl := ha.l
  have hjl : (ds.map dD).length = ds.length := List.length_map _
  have h1 := @puts_len vs ds a.1
  have h2 := @taken_len ds a.1 a.2
  obtain ⟨Pp, eP⟩ : ∃ Pp, MM.puts vs ds a.1 = Pp := ⟨_, rfl⟩
  obtain ⟨T, eT⟩ : ∃ T, MM.taken ds a.1 a.2 = T := ⟨_, rfl⟩
  have hpl := law_piles_ok hv hj ha
  rw [eP, eT] at hpl ⊢
  rw [eP] at h1
  rw [eT] at h2
  refine Gv.mk (go__law_due ?_)
  unfold b__law_due
  repeat sizeOf_list_dec
  rw [hjl]
  refine yl_for (fun i env S => ∃ a3 a4 a5 a6 a7, lateO 0 a.1 = lateO i (a.1.drop i) ∧ env = [some (.d (rT vs)), some (.d (jT ds)), some (.d (aT a)), a3, a4, a5, a6, a7] ∧ S = []) ⟨_, _, _, _, _, rfl, rfl, rfl⟩ (fun _ _ _ _ => rfl) ?_ ?_
  · rintro i x env S hx ⟨a3, a4, a5, a6, a7, he, rfl, rfl⟩
    obtain ⟨hi, rfl⟩ := range_at hx
    obtain ⟨x, hx2⟩ : ∃ y, a.1[i]? = some y := ⟨a.1[i]'(by omega), List.getElem?_eq_getElem _⟩
    obtain ⟨hi2, hx3⟩ := List.getElem?_eq_some_iff.mp hx2
    rw [List.drop_eq_getElem_cons hi2, hx3] at he
    have he : lateO 0 a.1 = if x.2 > (i : Int) then some (i + 1) else lateO (i + 1) (a.1.drop (i + 1)) := he
    refine yl_turn (env' := [some (.d (rT vs)), some (.d (jT ds)), some (.d (aT a)), some (.d (.int (i : Nat))), a4, a5, a6, a7]) rfl ?_
    repeat sizeOf_list_dec
    refine yix_tup (at_emb pD hx2) ?_
    repeat sizeOf_list_dec
    by_cases h : x.2 > (i : Int)
    · rw [if_pos h] at he
      refine Br.yes h ?_
      repeat sizeOf_list_dec
      unfold dueD
      rw [he]
      rfl
    · rw [if_neg h] at he
      refine Br.nay h ?_
      repeat sizeOf_list_dec
      exact ⟨_, _, _, _, _, he, rfl, rfl⟩
  · rintro env S ⟨a3, a4, a5, a6, a7, he, rfl, rfl⟩
    have he : lateO 0 a.1 = lateO (rangeL 0 (ds.length : Int)).length (a.1.drop (rangeL 0 (ds.length : Int)).length) := he
    rw [range_length, ← ht, List.drop_length] at he
    have he : lateO 0 a.1 = none := he
    repeat sizeOf_list_dec
    refine u__law_due_0 hpl ?_
    repeat sizeOf_list_dec
    refine yo_addL (by rw [List.length_map, List.length_map]; unfold lineS; omega) ?_
    rw [← List.map_append]
    repeat sizeOf_list_dec
    refine yc_filE tD tD (fun t => !decide (Pp.count t = T.count t)) (by rw [List.length_append]; unfold lineS; omega) (fun t _ => ?_) ?_
    · refine yr_turn rfl ?_
      repeat sizeOf_list_dec
      refine ⟨rfl, ?_⟩
      repeat sizeOf_list_dec
      refine ym_countT ?_
      repeat sizeOf_list_dec
      refine ⟨rfl, ?_⟩
      repeat sizeOf_list_dec
      refine ym_countT ?_
      repeat sizeOf_list_dec
      by_cases h : Pp.count t = T.count t
      · refine Br.yes (by omega) ?_
        exact ⟨by rw [decide_eq_true h]; rfl, rfl⟩
      · refine Br.nay (by omega) ?_
        repeat sizeOf_list_dec
        exact ⟨by rw [decide_eq_false h]; rfl, rfl⟩
    · have eu : (Pp ++ T).filter (fun t => !decide (Pp.count t = T.count t)) = unl2 Pp T := rfl
      rw [eu]
      repeat sizeOf_list_dec
      refine yc_ne (show sh 60 (.lst _) = true from shs_tD 58 _) rfl ?_
      unfold dueD
      rw [he]
      cases hu : unl2 Pp T with
      | nil =>
        refine Br.no rfl ?_
        repeat sizeOf_list_dec
        rfl
      | cons t r =>
        refine Br.is rfl ?_
        repeat sizeOf_list_dec
        refine yn_minT ?_
        obtain ⟨u, _, e⟩ := minO_mem (l := t :: r) (List.cons_ne_nil _ _)
        show Ok _ _
        repeat sizeOf_list_dec
        rfl
end K70
namespace K70
open PySem PySem.Spec PyProof.Rows L2 DL
local macro_rules
  | `(tactic| sizeOf_list_dec) => `(tactic| first
    | with_reducible refine ynx_nx ?_ | with_reducible refine ynx_rt ?_ | with_reducible refine yss_cons ?_ | with_reducible refine yr_const ?_ | with_reducible refine ya_cons ?_ | with_reducible refine ya_nil ?_ | with_reducible refine yr_bin ?_ | with_reducible refine yr_ix ?_ | with_reducible refine yr_call ?_ | with_reducible refine yr_bi ?_ | with_reducible refine yset0 ?_ | with_reducible refine yset1 ?_
    | with_reducible refine yset2 ?_ | with_reducible refine yset3 ?_ | with_reducible refine yset4 ?_ | with_reducible refine yset5 ?_ | with_reducible refine yset6 ?_ | with_reducible refine yset7 ?_ | with_reducible refine yset8 ?_ | with_reducible refine yset9 ?_ | with_reducible refine yset10 ?_ | with_reducible refine yset11 ?_ | with_reducible refine yset12 ?_ | with_reducible refine yset13 ?_
    | with_reducible refine yset14 ?_ | with_reducible refine yset15 ?_ | with_reducible refine yset16 ?_ | with_reducible refine yset17 ?_ | with_reducible refine yset18 ?_ | with_reducible refine yset19 ?_ | with_reducible refine ys_ife ?_ | with_reducible refine yb_cmp ?_ | with_reducible refine yb_val ?_ | with_reducible refine yb_not ?_ | with_reducible refine yb_bop ?_ | with_reducible refine yb_and ?_
    | with_reducible refine yb_or ?_ | with_reducible refine yb_1 ?_ | with_reducible refine yb_chain ?_ | with_reducible refine yb_yes ?_ | with_reducible refine yo_add ?_ | with_reducible refine yo_sub ?_ | with_reducible refine yc_lt ?_ | with_reducible refine yc_le ?_ | with_reducible refine yc_gt ?_ | with_reducible refine yc_ge ?_ | with_reducible refine yc_eqi ?_ | with_reducible refine yc_nei ?_
    | with_reducible refine Br.t ?_ | with_reducible refine Br.f ?_ | with_reducible refine Br.not ?_ | with_reducible refine yr_tup ?_ | with_reducible refine yr_lst ?_ | with_reducible refine yr_neg ?_ | with_reducible refine yr_cmp ?_ | with_reducible refine yr_chain ?_ | with_reducible refine yr_not ?_ | with_reducible refine yr_bop ?_ | with_reducible refine yr_and ?_ | with_reducible refine yr_or ?_
    | with_reducible refine yr_bop1 ?_ | with_reducible refine yr_ifx ?_ | with_reducible refine yr_glob ?_ | with_reducible refine ys_ret ?_ | with_reducible refine ys_expr ?_ | with_reducible refine ys_par ?_ | with_reducible refine ys_retN ?_ | with_reducible refine ys_pass ?_ | with_reducible refine ys_brk ?_ | with_reducible refine ys_set ?_ | with_reducible refine yss_nil ?_ | with_reducible refine ys_for ?_
    | with_reducible refine yfin_rt ?_ | with_reducible refine yfin_nx ?_ | with_reducible refine ywp_nx ?_ | with_reducible refine ylp_nx ?_ | with_reducible refine ylp_rt ?_ | with_reducible refine ylp_bk ?_ | with_reducible refine ynx_bk ?_ | with_reducible refine yc_isb ?_ | with_reducible refine yc_isnb ?_ | with_reducible refine yc_isn_n ?_ | with_reducible refine yc_isn_i ?_ | with_reducible refine yc_isn_t ?_
    | with_reducible refine yc_isnn_n ?_ | with_reducible refine yc_isnn_i ?_ | with_reducible refine yc_isnn_t ?_ | with_reducible refine yt_bl ?_ | with_reducible refine yt_int ?_ | with_reducible refine yt_non ?_ | with_reducible refine yt_tup ?_ | with_reducible refine yt_lst ?_ | with_reducible refine yn_int ?_ | with_reducible refine yn_intB ?_ | with_reducible refine yn_max2 ?_ | with_reducible refine yn_min2 ?_
    | with_reducible refine yn_lenT ?_ | with_reducible refine yn_lenL ?_ | with_reducible refine yn_lenR ?_ | with_reducible refine yn_tupL ?_ | with_reducible refine yn_isi_int_int ?_ | with_reducible refine yn_isi_int_bool ?_ | with_reducible refine yn_isi_bool_int ?_ | with_reducible refine yn_isi_bool_bool ?_ | with_reducible refine yn_isi_tup_tuple ?_ | with_reducible refine yn_isi_int_tuple ?_
    | with_reducible refine yn_isi_str_str ?_ | with_reducible refine yn_isi_int_str ?_ | with_reducible refine yn_isi_str_int ?_ | with_reducible refine yn_isi_tup_int ?_ | with_reducible refine yn_isi_tup_str ?_ | with_reducible refine yn_isi_str_tuple ?_ | with_reducible refine yn_isi_non_tuple ?_ | with_reducible refine yn_isi_non_int ?_ | with_reducible refine yg_add ?_ | with_reducible refine yg_sub ?_
    | with_reducible refine yr_mt ?_ | with_reducible refine yr_comp ?_ | with_reducible refine yr_lrange ?_ | with_reducible refine yr_rep ?_ | with_reducible refine yr_frz ?_ | with_reducible refine yr_dict ?_ | with_reducible refine yi_items ?_ | with_reducible refine yi_dct ?_ | with_reducible refine yi_rtp ?_ | with_reducible refine yi_enRT ?_ | with_reducible refine yt_rtp ?_ | with_reducible refine yc_isn_rt ?_
    | with_reducible refine yc_isnn_rt ?_ | with_reducible refine ysq_rtp ?_ | with_reducible refine yn_lenRT ?_ | with_reducible refine yn_isi_rtp_tuple ?_ | with_reducible refine yr_slice00 ?_ | with_reducible refine yr_slice10 ?_ | with_reducible refine yr_slice01 ?_ | with_reducible refine yr_slice11 ?_ | with_reducible refine ysl_tup ?_ | with_reducible refine ysl_lst ?_ | with_reducible refine ysl_rol ?_
    | with_reducible refine yi_seq ?_ | with_reducible refine yi_tup ?_ | with_reducible refine yi_lst ?_ | with_reducible refine yi_rol ?_ | with_reducible refine yi_rng ?_ | with_reducible refine yi_enum ?_ | with_reducible refine yi_enT ?_ | with_reducible refine yi_enL ?_ | with_reducible refine yi_rng3 ?_ | with_reducible refine yr_tupS ?_ | with_reducible refine yr_lstS ?_ | with_reducible refine yas_nil ?_
    | with_reducible refine yas_one ?_ | with_reducible refine yas_star ?_ | with_reducible refine ysq_tup ?_ | with_reducible refine ysq_lst ?_ | with_reducible refine yi_zip ?_ | with_reducible refine yi_zipT ?_ | with_reducible refine yi_zipTL ?_ | with_reducible refine yi_zipLT ?_ | with_reducible refine yi_enz ?_ | with_reducible refine yi_enzT ?_ | with_reducible refine ex_int ?_
    | ((with_reducible apply yr_var); rfl) | ((with_reducible apply Br.yes); omega) | ((with_reducible apply Br.nay); omega) | ((with_reducible apply yix_tup); rfl) | ((with_reducible apply yix_lst); rfl) | ((with_reducible apply yix_rol); rfl) | ((with_reducible apply yix_rtp); rfl) | ((with_reducible apply yo_mul); assumption)
    | ((with_reducible apply yo_mod); (first | assumption | omega)) | ((with_reducible apply yo_div); (first | assumption | exact divOk_of (by omega) (by omega))) | ((with_reducible apply yo_pow); assumption) | ((with_reducible apply ytp); rfl; rfl) | ((with_reducible apply ynl_f); exact few rfl; rfl)
    | ((with_reducible apply ynl_t); exact few rfl) | ((with_reducible apply ys_asgT); skip) | ((with_reducible apply ex_eq); rfl) | ((with_reducible apply yi_rng1); omega))
theorem deqs_pD : ∀ a b : List MM.Pr, deqs (a.map pD) (b.map pD) = decide (a = b)
  | [], [] => by simp [deqs]
  | [], _ :: _ => by simp [deqs]
  | _ :: _, [] => by simp [deqs]
  | x :: a, y :: b => by
    obtain ⟨x1, x2⟩ := x
    obtain ⟨y1, y2⟩ := y
    show ((decide (x1 = y1) && (decide (x2 = y2) && true)) && deqs (a.map pD) (b.map pD)) = _
    rw [deqs_pD a b]
    rw [Bool.eq_iff_iff]
    simp
theorem deq_aT (a b : List MM.Pr × List MM.Pr) : deq (aT a) (aT b) = decide (a = b) := by
  obtain ⟨a1, a2⟩ := a
  obtain ⟨b1, b2⟩ := b
  show (deqs (a1.map pD) (b1.map pD) && (deqs (a2.map pD) (b2.map pD) && true)) = _
  rw [deqs_pD, deqs_pD, Bool.eq_iff_iff]
  simp
theorem shs_pD (n : Nat) : ∀ l : List MM.Pr, shs (n + 1) (l.map pD) = true
  | [] => rfl
  | x :: l => by
    show ((sh n (.int x.1) && (sh n (.int x.2) && true)) && shs (n + 1) (l.map pD)) = true
    rw [shs_pD n l, sh_int, sh_int]
    rfl
theorem sh_aT (a : List MM.Pr × List MM.Pr) : sh 60 (aT a) = true := by
  show (shs 58 (a.1.map pD) && (shs 58 (a.2.map pD) && true)) = true
  rw [shs_pD, shs_pD]
  rfl
def Tk (t : MM.Tr) : Prop := 0 ≤ t.1 ∧ t.1 < 2 ^ 60 ∧ 0 ≤ t.2.1 ∧ t.2.1 < 2 ^ 60 ∧ 0 ≤ t.2.2 ∧ t.2.2 < 2 ^ 60
theorem tl_tk : ∀ {h : List MM.Pr} {k : Nat}, (∀ x ∈ h, Pk x) → k + h.length < 2 ^ 50 → ∀ t ∈ MM.tl k h, Tk t
  | [], _, _, _, t, ht => nomatch ht
  | x :: h, k, hp, hk, t, ht => by
    rw [List.length_cons] at hk
    rcases List.mem_cons.mp ht with rfl | ht
    · obtain ⟨p1, p2, p3, p4⟩ := hp x (List.mem_cons_self ..)
      refine ⟨by show (0 : Int) ≤ (k : Int); omega, by show (k : Int) < 2 ^ 60; omega, p1, by show x.1 < 2 ^ 60; omega, p3, by show x.2 < 2 ^ 60; omega⟩
    · exact tl_tk (fun y hy => hp y (List.mem_cons_of_mem _ hy)) (by omega) t ht
theorem tj_tk {n : Nat} (hn : n < 1000) : ∀ {ds : List MM.Dd} {h : List MM.Pr}, (∀ d ∈ ds, OkD n d) → (∀ x ∈ h, Pk x) → ∀ t ∈ MM.tj ds h, Tk t
  | [], _, _, _, t, ht => by simp [MM.tj] at ht
  | _ :: _, [], _, _, t, ht => by simp [MM.tj] at ht
  | d :: ds, x :: h, hd, hp, t, ht => by
    rcases List.mem_cons.mp ht with rfl | ht
    · obtain ⟨p1, p2, p3, p4⟩ := hp x (List.mem_cons_self ..)
      have := (hd d (List.mem_cons_self ..)).lt
      refine ⟨by show (0 : Int) ≤ (d.pl : Int); omega, by show (d.pl : Int) < 2 ^ 60; omega, p1, by show x.1 < 2 ^ 60; omega, p3, by show x.2 < 2 ^ 60; omega⟩
    · exact tj_tk hn (fun y hy => hd y (List.mem_cons_of_mem _ hy)) (fun y hy => hp y (List.mem_cons_of_mem _ hy)) t ht
theorem pj_tk {n : Nat} (hn : n < 1000) : ∀ {ds : List MM.Dd} {h : List MM.Pr} {j : Nat}, (∀ d ∈ ds, OkD n d) → (∀ x ∈ h, Pk x) → j + ds.length < 2 ^ 50 → ∀ t ∈ MM.pj j ds h, Tk t
  | [], _, _, _, _, _, t, ht => by simp [MM.pj] at ht
  | _ :: _, [], _, _, _, _, t, ht => by simp [MM.pj] at ht
  | d :: ds, x :: h, j, hd, hp, hj, t, ht => by
    rw [List.length_cons] at hj
    rcases List.mem_cons.mp ht with rfl | ht
    · obtain ⟨p1, p2, p3, p4⟩ := hp x (List.mem_cons_self ..)
      have hdd := hd d (List.mem_cons_self ..)
      have hl := hdd.lt
      have hv : 0 ≤ MM.vb d x ∧ MM.vb d x < 2 ^ 60 := by
        cases d with
        | rd p => exact ⟨p1, by show x.1 < 2 ^ 60; omega⟩
        | pt p v => exact ⟨hdd.2.1, by have := hdd.2.2; show v < 2 ^ 60; omega⟩
      refine ⟨by show (0 : Int) ≤ (d.pl : Int); omega, by show (d.pl : Int) < 2 ^ 60; omega, hv.1, hv.2, by show (0 : Int) ≤ ((j + 1 : Nat) : Int); omega, by show ((j + 1 : Nat) : Int) < 2 ^ 60; omega⟩
    · exact pj_tk hn (fun y hy => hd y (List.mem_cons_of_mem _ hy)) (fun y hy => hp y (List.mem_cons_of_mem _ hy)) (by omega) t ht
theorem unl_tk {vs : List Int} {ds : List MM.Dd} {a : List MM.Pr × List MM.Pr} (hv : Vs vs) (hj : Jb vs.length ds) (ha : An vs.length ds.length a) : ∀ t ∈ unl2 (MM.puts vs ds a.1) (MM.taken ds a.1 a.2), Tk t := by
  intro t ht
  have l2 := hv.l2
  have l3 := hj.l
  have hl := ha.l
  have ht := (List.mem_filter.mp ht).1
  unfold MM.puts MM.taken at ht
  rcases List.mem_append.mp ht with ht | ht
  · rcases List.mem_append.mp ht with ht | ht
    · exact tl_tk (fun x hx => (ini_pk hv x hx).up) (by rw [MM.ini_len]; omega) t ht
    · exact pj_tk (show vs.length < 1000 by omega) hj.r ha.pt (by omega) t ht
  · rcases List.mem_append.mp ht with ht | ht
    · exact tj_tk (show vs.length < 1000 by omega) hj.r ha.pt t ht
    · exact tl_tk ha.pl (by omega) t ht
theorem shw_due {P T : List MM.Tr} {h : List MM.Pr} (hl : h.length ≤ 100) (hk : ∀ t ∈ unl2 P T, Tk t) : shw (dueD P T h) = true := by
  unfold dueD
  cases e : lateO 0 h with
  | some k =>
    have lt : ∀ {h : List MM.Pr} {i k : Nat}, lateO i h = some k → k ≤ i + h.length := by
      intro h
      induction h with
      | nil => intro i k e; cases e
      | cons x h ih =>
        intro i k e
        have e : (if x.2 > (i : Int) then some (i + 1) else lateO (i + 1) h) = some k := e
        rw [List.length_cons]
        split at e
        · have := Option.some.inj e; omega
        · have := ih e; omega
    have hkl := lt e
    have e1 : (k : Int).natAbs < digitL := dig_s (by omega) (by omega)
    show shw (.tup [.str "late", .int (k : Int)]) = true
    unfold shw
    have h1 : strF (reprText "late") = true := by decide +kernel
    have h2 : (reprText "late").length ≤ 100 := by decide +kernel
    rw [show sh 60 (D.tup [.str "late", .int (k : Int)]) = true by show (strF _ && (sh 59 (.int (k : Int)) && true)) = true; rw [sF "late", sh_int]; rfl,
      show tells (D.tup [.str "late", .int (k : Int)]).py = true by show (true && (decide ((k : Int).natAbs < digitL) && true)) = true; rw [decide_eq_true e1]; rfl,
      show txOk (D.tup [.str "late", .int (k : Int)]) = true by show (strF (reprText "late") && true) = true; rw [h1]; rfl,
      decide_eq_true (show wt (D.tup [.str "late", .int (k : Int)]) ≤ lineS by show ((reprText "late").length + 2 + (4302 + 2 + 0)) + 3 ≤ lineS; unfold lineS; omega)]
    rfl
  | none =>
    cases hu : unl2 P T with
    | nil =>
      show shw (.tup [.str "let"]) = true
      decide +kernel
    | cons t r =>
      obtain ⟨u, hm, e⟩ := minO_mem (l := t :: r) (List.cons_ne_nil _ _)
      rw [← hu] at hm
      obtain ⟨t1, t2, t3, t4, t5, t6⟩ := hk u hm
      have e1 : u.1.natAbs < digitL := dig_s t1 (by omega)
      have e2 : u.2.1.natAbs < digitL := dig_s t3 (by omega)
      have e3 : u.2.2.natAbs < digitL := dig_s t5 (by omega)
      show shw (.tup [.str "unlike", minO (t :: r)]) = true
      rw [e]
      unfold shw
      have h1 : strF (reprText "unlike") = true := by decide +kernel
      have h2 : (reprText "unlike").length ≤ 100 := by decide +kernel
      rw [show sh 60 (D.tup [.str "unlike", tD u]) = true by show (strF _ && ((sh 58 (.int u.1) && (sh 58 (.int u.2.1) && (sh 58 (.int u.2.2) && true))) && true)) = true; rw [sF "unlike", sh_int, sh_int, sh_int]; rfl,
        show tells (D.tup [.str "unlike", tD u]).py = true by show (true && ((decide (u.1.natAbs < digitL) && (decide (u.2.1.natAbs < digitL) && (decide (u.2.2.natAbs < digitL) && true))) && true)) = true; rw [decide_eq_true e1, decide_eq_true e2, decide_eq_true e3]; rfl,
        show txOk (D.tup [.str "unlike", tD u]) = true by show (strF (reprText "unlike") && (true && true)) = true; rw [h1]; rfl,
        decide_eq_true (show wt (D.tup [.str "unlike", tD u]) ≤ lineS by show ((reprText "unlike").length + 2 + (((4302 + 2 + (4302 + 2 + (4302 + 2 + 0))) + 3) + 2 + 0)) + 3 ≤ lineS; unfold lineS; omega)]
      rfl
theorem tal_due {P T : List MM.Tr} {a : List MM.Pr × List MM.Pr} {es : Es} (c : Cnt es 400 (cntF P T)) : (talD a es).py = (dueD P T a.1).py ∧ sh 60 (dueD P T a.1) = true ∧ deq (dueD P T a.1) (.tup [.str "let"]) = decide (lateO 0 a.1 = none ∧ unl es = []) := by
  have hs := same_unl c
  unfold talD dueD
  cases hl : lateO 0 a.1 with
  | some k =>
    refine ⟨rfl, ?_, ?_⟩
    · show (strF _ && (sh 59 (.int _) && true)) = true
      rw [sF "late", sh_int]
      rfl
    · rw [decide_eq_false (by simp)]
      show (deq (.str "late") (.str "let") && deqs [.int (k : Int)] []) = false
      rw [show deq (.str "late") (.str "let") = false by decide +kernel]
      rfl
  | none =>
    have hm := minO_same hs
    cases hu : unl es with
    | nil =>
      have : unl2 P T = [] := List.eq_nil_iff_forall_not_mem.mpr fun t ht => by
        have := (hs t).mpr ht
        rw [hu] at this
        cases this
      rw [this]
      refine ⟨rfl, by decide +kernel, ?_⟩
      rw [decide_eq_true (by simp)]
      show (deq (.str "let") (.str "let") && true) = true
      rw [show deq (.str "let") (.str "let") = true by decide +kernel]
      rfl
    | cons t r =>
      cases hu2 : unl2 P T with
      | nil =>
        have := (hs t).mp (by rw [hu]; exact List.mem_cons_self ..)
        rw [hu2] at this
        cases this
      | cons t2 r2 =>
        rw [hu, hu2] at hm
        refine ⟨?_, ?_, ?_⟩
        · show (D.tup [.str "unlike", minO (t :: r)]).py = (D.tup [.str "unlike", minO (t2 :: r2)]).py
          rw [hm]
        · obtain ⟨u, _, e⟩ := minO_mem (l := t2 :: r2) (List.cons_ne_nil _ _)
          show sh 60 (.tup [.str "unlike", minO (t2 :: r2)]) = true
          rw [e]
          show (strF _ && ((sh 58 (.int u.1) && (sh 58 (.int u.2.1) && (sh 58 (.int u.2.2) && true))) && true)) = true
          rw [sF "unlike", sh_int, sh_int, sh_int]
          rfl
        · rw [decide_eq_false (by simp)]
          show (deq (.str "unlike") (.str "let") && deqs [minO (t2 :: r2)] []) = false
          rw [show deq (.str "unlike") (.str "let") = false by decide +kernel]
          rfl
theorem shw_py {x y : D} (h : x.py = y.py) (hx : sh 60 x = true) (ht : txOk x = true) (hw : wt x ≤ lineS) (hy : shw y = true) : shw x = true := by
  unfold shw at hy ⊢
  simp only [Bool.and_eq_true, decide_eq_true_eq] at hy ⊢
  exact ⟨⟨⟨hx, by rw [h]; exact hy.1.1.2⟩, ht⟩, hw⟩
theorem shw_tal {P T : List MM.Tr} {a : List MM.Pr × List MM.Pr} {es : Es} (c : Cnt es 400 (cntF P T)) (hy : shw (dueD P T a.1) = true) : shw (talD a es) = true := by
  refine shw_py (tal_due c).1 tal_sh ?_ ?_ hy
  · unfold talD
    split
    · show (strF (reprText "late") && true) = true
      decide +kernel
    · split
      · decide +kernel
      · rename_i t r _
        obtain ⟨u, _, e⟩ := minO_mem (l := t :: r) (List.cons_ne_nil _ _)
        rw [e]
        show (strF (reprText "unlike") && (true && true)) = true
        decide +kernel
  · unfold talD
    split
    · have h2 : (reprText "late").length ≤ 100 := by decide +kernel
      show ((reprText "late").length + 2 + (4302 + 2 + 0)) + 3 ≤ lineS
      unfold lineS
      omega
    · split
      · have h2 : (reprText "let").length ≤ 100 := by decide +kernel
        show ((reprText "let").length + 2 + 0) + 3 ≤ lineS
        unfold lineS
        omega
      · rename_i t r _
        obtain ⟨u, _, e⟩ := minO_mem (l := t :: r) (List.cons_ne_nil _ _)
        rw [e]
        have h2 : (reprText "unlike").length ≤ 100 := by decide +kernel
        show ((reprText "unlike").length + 2 + (((4302 + 2 + (4302 + 2 + (4302 + 2 + 0))) + 3) + 2 + 0)) + 3 ≤ lineS
        unfold lineS
        omega
theorem right_pf : Pf d__law_right [] 4000 (fun y => y = .bl true) := by
  intro k0 o s cc pt hk
  refine go__law_right ?_
  unfold b__law_right
  repeat sizeOf_list_dec
  refine yi_rng1 (n := 6) (by decide) ?_
  have hl6 : (rangeL 0 ((6 : Nat) : Int)).length = 6 := range_length 6
  refine yl_for (fun i env S => ∃ (o c : Int) (a1 a2 a3 a4 a5 : Option W), Pot (k0 + i * 400) o s c ∧ env = [some (.l 0), a1, a2, a3, a4, a5] ∧ S = [P o s c]) ⟨o, cc, _, _, _, _, _, pt.up (by omega), rfl, rfl⟩ (fun _ _ _ _ => rfl) ?_ ?_
  · rintro i x env S hx ⟨o, c, a1, a2, a3, a4, a5, pt, rfl, rfl⟩
    have hi : i < 6 := by
      have h9 : i < (rangeL 0 ((6 : Nat) : Int)).length := (List.getElem?_eq_some_iff.mp hx).1
      omega
    refine yl_turn (env' := [some (.l 0), some x, a2, a3, a4, a5]) rfl ?_
    repeat sizeOf_list_dec
    refine v__law_right_0 values_pf pt (by omega) ?_
    rintro y o1 c1 ⟨vs, rfl, hv, hv6⟩ p1
    have hvl : (vs.map D.int).length = vs.length := List.length_map _
    have l1 := hv.l1
    repeat sizeOf_list_dec
    rw [hvl]
    refine v__law_right_2 (of_ok (by simp) (by simp)) p1 (by omega) ?_
    intro y o2 c2 hy p2
    obtain ⟨m, rfl, hm⟩ : ∃ m : Nat, y = .int m ∧ m ≤ 20 := by
      simp only [List.mem_cons, List.not_mem_nil, or_false] at hy
      rcases hy with rfl | rfl | rfl | rfl
      · exact ⟨2, rfl, by decide⟩
      · exact ⟨5, rfl, by decide⟩
      · exact ⟨10, rfl, by decide⟩
      · exact ⟨20, rfl, by decide⟩
    repeat sizeOf_list_dec
    refine v__law_right_1 (job_pf (n := vs.length) (m := m) l1 (by omega) hm) p2 (by omega) ?_
    rintro y o3 c3 ⟨ds, rfl, hj, hj20⟩ p3
    repeat sizeOf_list_dec
    refine v__law_right_3 (lie_pf hv hj) p3 (by omega) ?_
    rintro y o4 c4 ⟨a, rfl, ha⟩ p4
    obtain ⟨es, ce, htal⟩ := tallies_ok hv hj ha
    have hlet := tal_let hj ha ce
    have hdue := law_due_ok hv hj ha
    have hsw : shw (dueD (MM.puts vs ds a.1) (MM.taken ds a.1 a.2) a.1) = true := shw_due (by rw [ha.t]; omega) (unl_tk hv hj ha)
    have hsw2 := shw_tal (a := a) ce hsw
    obtain ⟨g1, g2, g3⟩ := tal_due (a := a) ce
    have hpl := law_plain_ok hv hj
    have hra : An vs.length ds.length (MM.right vs ds) := (run_an hv hj []).up
    obtain ⟨es2, ce2, htal2⟩ := tallies_ok hv hj hra
    have hlet2 := (tal_let hj hra ce2).mpr rfl
    have et2 : talD (MM.right vs ds) es2 = .rtp [.str "let"] := by
      unfold talD
      rw [hlet2.1, hlet2.2]
    rw [et2] at htal2
    repeat sizeOf_list_dec
    refine u__law_right_4 hdue ?_
    repeat sizeOf_list_dec
    refine yc_eq g2 (by show (strF _ && true) = true; rw [sF "let"]; rfl) ?_
    rw [g3, show decide (lateO 0 a.1 = none ∧ unl es = []) = decide (a = MM.right vs ds) from decide_eq_decide.mpr hlet]
    repeat sizeOf_list_dec
    refine u__law_right_5 hpl ?_
    repeat sizeOf_list_dec
    refine yc_eq (sh_aT _) (sh_aT _) ?_
    rw [deq_aT]
    generalize decide (a = MM.right vs ds) = b
    repeat sizeOf_list_dec
    refine yc_ne rfl rfl ?_
    refine Br.no (by cases b <;> rfl) ?_
    repeat sizeOf_list_dec
    refine u__law_right_6 htal ?_
    repeat sizeOf_list_dec
    refine yn_repr hsw2 fun hs1 => ?_
    repeat sizeOf_list_dec
    refine yn_repr hsw fun hs2 => ?_
    rw [g1]
    refine .eqn (ne_str hs2) ?_
    repeat sizeOf_list_dec
    refine u__law_right_5 hpl ?_
    repeat sizeOf_list_dec
    refine u__law_right_7 htal2 ?_
    repeat sizeOf_list_dec
    refine yn_repr (by decide +kernel) fun hs3 => ?_
    repeat sizeOf_list_dec
    refine yn_repr (by decide +kernel) fun _ => ?_
    refine .eqn (ne_str hs3) ?_
    repeat sizeOf_list_dec
    exact ⟨o4, c4, _, _, _, _, _, p4.up (by omega), rfl, rfl⟩
  · rintro env S ⟨o, c, a1, a2, a3, a4, a5, pt, rfl, rfl⟩
    have pt : Pot (k0 + (rangeL 0 ((6 : Nat) : Int)).length * 400) o s c := pt
    rw [hl6] at pt
    repeat sizeOf_list_dec
    exact ⟨_, _, _, _, rfl, rfl, rfl, pt.up (by omega)⟩
theorem plain : ∀ ns : List Int, ns.length ≤ 63 → ∃ S, d_law [.d (.rol (ns.map .int))] [] = .ok (.d (.bl true)) S := fun ns _ =>
  law_any (c1 := 1999) (c2 := 1349) (c3 := 73877) (c4 := 8459) (c5 := 1143) (m := 2) (n := 4000) (right := d__law_right) ns (by decide) (by decide) (by decide) (by decide) (by decide)
    (fun x y => fnsC (c := ⟨"_law_cells", 2, 2, [], [0, 1], d__law_cells⟩) rfl _ _) (fun x y => fnsC (c := ⟨"_law_pot", 2, 2, [], [0, 1], d__law_pot⟩) rfl _ _) (fun o s c => fnsC (c := ⟨"_law_right", 1, 1, [], [0], d__law_right⟩) rfl _ _) right_pf
end K70
open PySem PySem.W PySem.Calls PyProof.Rows
theorem PySem.Challenge.cw_fewthrows_k70_whole_tallies_let_just_the_holds : PySem.Challenge.rw_fewthrows_k70_whole_tallies_let_just_the.Holds := by
  w_on; o_law
  refine HandSHeadRun.head_any (r := OpenLaw.row PySem.Challenge.rw_fewthrows_k70_whole_tallies_let_just_the) (q := view (OpenLaw.row PySem.Challenge.rw_fewthrows_k70_whole_tallies_let_just_the).prog [43]) (H := K70.hk) (ob := K70.ob) (M := 20000) (loose := K70.loose) (d := HandSHeadRun.topDef (OpenLaw.row PySem.Challenge.rw_fewthrows_k70_whole_tallies_let_just_the).prog 43) (kwd := []) K70.ob_eq
    (by kernel_rfl) (fun s => by kernel_rfl) K70.run (by kernel_rfl) (by kernel_rfl) (by kernel_rfl) (by rfl) (by first | assumption | decide +kernel) (by decide +kernel) ⟨rfl, rfl, rfl, rfl, rfl, by decide +kernel⟩ ?hw ?hc
  case hw => w_witness2
  case hc =>
    refine DL.walk_ofG (l := PySem.Challenge.rw_fewthrows_k70_whole_tallies_let_just_the) (n := 63) (k := 8) (x := "script") rfl (by decide) (by kernel_rfl) ⟨rfl, by decide, by decide⟩ ?F
    intro w mg fa h Y G hmg0
    obtain ⟨K, KX, c⟩ := Y
    have hmg : mg ("law" : PySem.Str) = some (.ref fa) := by
      have e : (HandSHeadRun.topDef (OpenLaw.row PySem.Challenge.rw_fewthrows_k70_whole_tallies_let_just_the).prog 43).name = ("law" : PySem.Str) := by kernel_rfl
      rw [← e]
      exact hmg0
    obtain ⟨fd, hb, hF⟩ := K70.facts (P := (PySem.Challenge.rw_fewthrows_k70_whole_tallies_let_just_the).prog) (w := w) KX G hmg c
    exact ⟨K, fd, _, KX, hb, fun H a ns hl hS => DL.law_sp K70.plain hl hS, hF⟩
