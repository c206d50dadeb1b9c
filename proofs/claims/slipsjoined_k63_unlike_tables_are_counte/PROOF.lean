import PyProof.Rows.All
import PyProof.EqLayable
import PyProof.StrBlockL
import HandS.ForMost
import HandS.ForExc
import HandS.ExcCtx
import HandS.HotCalls
import HandS.Wide
import HandS.TupAny
import HandS.IsInst
import HandS.ExcIs
import HandS.Conv
import HandS.Style
import HandS.Defaults
import HandS.Flow
import HandS.TryMany
import HandS.TupMul
import HandS.SortInts
import HandS.HeadHook2
import HandS.HeadEnd
import HandS.Head2
import HandS.SetFor
import HandS.Small
import KE.KStateDown
import HandS.HeadHook3
import PySem.Challenge.RW_slipsjoined_k63_unlike_tables_are_counte
section
/-! MP, part a: the meaning of mini-Python on plain data. -/
namespace MP
open PySem

abbrev Key := Sum Int Str
/-- plain data -/
inductive D where
  | non | bl (b : Bool) | int (i : Int) | str (s : Str) | tup (xs : List D) | tuq (xs : List D) | lst (xs : List D) | dic (ks : List Key) (vs : List D)
  deriving Inhabited
/-- the program's error classes -/
inductive EC where
  | JoinError | BadLetters | BadNumber | BadKind | BadRenaming | BadTable | BadChart | BadPlace | BadFilling | BadLot | BadPlan | BadNamed | BadRecord
  | BadMove | BadText | TooMany | Unlike | NoChart | NoPlan
  deriving DecidableEq, Inhabited
/-- what a name may hold: data; a tracked list; a list of one's own; the same while it is looked at; a caught error; the script -/
inductive Val where
  | d (x : D) | ref (n : Nat) | own (xs : List D) | snap (xs : List D) | ownT (ks : List (List Key)) (xs : List D) | exc (c : EC) (x : Option D) | scr (ns : List Int)
  deriving Inhabited
abbrev Env := List (Option Val)
/-- the tracked lists -/
abbrev S := List (List D)
inductive R (α : Type) where
  | ok (a : α) (s : S) | exn (c : EC) (x : Option D) (s : S) | stuck
abbrev ME := Env → S → R Val
abbrev MT := Env → S → R Bool
abbrev ML := Env → S → R (List Val)
/-- how a statement ends -/
inductive F where
  | nxt (e : Env) (s : S) | ret (v : Val) (s : S) | brk (e : Env) (s : S) | cnt (e : Env) (s : S) | exn (c : EC) (x : Option D) (e : Env) (s : S) | stuck
abbrev MS := Env → S → F

def R.bind {α β : Type} (r : R α) (f : α → S → R β) : R β := match r with
  | .ok a s => f a s
  | .exn c x s => .exn c x s
  | .stuck => .stuck
@[simp] theorem R.bind_ok {α β : Type} (a : α) (s : S) (f : α → S → R β) : (R.ok a s).bind f = f a s := rfl
@[simp] theorem R.bind_exn {α β : Type} (c : EC) (x : Option D) (s : S) (f : α → S → R β) : (R.exn c x s : R α).bind f = .exn c x s := rfl
@[simp] theorem R.bind_stuck {α β : Type} (f : α → S → R β) : (R.stuck : R α).bind f = .stuck := rfl
def R.of {α : Type} (o : Option α) (s : S) : R α := match o with
  | some a => .ok a s
  | none => .stuck
@[simp] theorem R.of_some {α : Type} (a : α) (s : S) : R.of (some a) s = .ok a s := rfl
@[simp] theorem R.of_none {α : Type} (s : S) : R.of (none : Option α) s = .stuck := rfl

/-! ### reading -/
def rd (s : S) : Val → Option D
  | .d x => some x
  | .own xs => some (.lst xs)
  | .snap xs => some (.lst xs)
  | .ref n => (s[n]?).map .lst
  | .ownT _ _ => none
  | .exc _ _ => none
  | .scr _ => none
@[simp] theorem rd_d (s : S) (x : D) : rd s (.d x) = some x := rfl
@[simp] theorem rd_own (s : S) (x : List D) : rd s (.own x) = some (.lst x) := rfl
@[simp] theorem rd_snap (s : S) (x : List D) : rd s (.snap x) = some (.lst x) := rfl
@[simp] theorem rd_ref (s : S) (n : Nat) : rd s (.ref n) = (s[n]?).map .lst := rfl

/-! ### operators on data -/
inductive Op where
  | add | sub | mul | fdiv | mod | pow | shl | shr | band | bor | bxor
  deriving DecidableEq
inductive Cmp where
  | lt | le | gt | ge | eq | ne | in_ | notin
  deriving DecidableEq
abbrev line : Nat := 16777216
def mulOk (i j : Int) : Bool := decide ((-(2 ^ 64) < i ∧ i < 2 ^ 64) ∨ (-(2 ^ 64) < j ∧ j < 2 ^ 64) ∨ (i.natAbs < 2 ^ 2000 ∧ j.natAbs < 2 ^ 2000))
def opI : Op → Int → Int → Option Int
  | .add, i, j => some (i + j)
  | .sub, i, j => some (i - j)
  | .mul, i, j => if mulOk i j then some (i * j) else none
  | .fdiv, i, j => if 0 < j ∧ j < 2 ^ 2000 then some (i / j) else none
  | .mod, i, j => if 0 < j then some (i % j) else none
  | .pow, i, j => if 0 ≤ j ∧ j ≤ 1000 ∧ i.natAbs < 2 ^ 64 then some (i ^ j.toNat) else none
  | .shl, i, j => if 0 ≤ j ∧ j ≤ 1000 ∧ i.natAbs < 2 ^ 64 then some (i * 2 ^ j.toNat) else none
  | .shr, i, j => if 0 ≤ j then some (i / 2 ^ j.toNat) else none
  | .band, i, j => some (Builtin.bitAnd i j)
  | .bor, i, j => some (Builtin.bitOr i j)
  | .bxor, i, j => some (Builtin.bitXor i j)
def opD (o : Op) (x y : D) : Option D := match x, y with
  | .int i, .int j => (opI o i j).map .int
  | .str a, .str b => if o = .add ∧ a.length + b.length ≤ line then some (.str (a ++ b)) else none
  | .tuq a, .tuq b => if o = .add ∧ a.length + b.length ≤ line then some (.tuq (a ++ b)) else none
  | .tup a, .tup b => if o = .add ∧ a.length + b.length ≤ line then some (.tup (a ++ b)) else none
  | .lst a, .lst b => if o = .add ∧ a.length + b.length ≤ line then some (.lst (a ++ b)) else none
  | .tup a, .int k => if o = .mul ∧ 2 ≤ k ∧ k ≤ 1000 ∧ a ≠ [] ∧ a.length ≤ 1000 then some (.tup (List.replicate k.toNat a).flatten) else none
  | .lst a, .int k => if o = .mul ∧ -(2 ^ 63) ≤ k ∧ k < 2 ^ 63 ∧ a.length * k.toNat ≤ line then some (.lst (List.replicate k.toNat a).flatten) else none
  | _, _ => none

/-! ### equality -/
mutual
def D.py : D → PyData
  | .non => .none
  | .bl b => .bool b
  | .int i => .int i
  | .str s => .str s
  | .tup xs => .tuple (D.pys xs)
  | .tuq xs => .tuple (D.pys xs)
  | .lst xs => .list (D.pys xs)
  | .dic _ _ => .dict []
def D.pys : List D → List PyData
  | [] => []
  | x :: xs => D.py x :: D.pys xs
end
def eqD (x y : D) : Option Bool := match x, y with
  | .non, .non => some true
  | .int i, .int j => some (i == j)
  | .bl i, .bl j => some (i == j)
  | .str i, .str j => some (i == j)
  | .non, .int _ => some false
  | .non, .bl _ => some false
  | .non, .str _ => some false
  | .int _, .non => some false
  | .bl _, .non => some false
  | .str _, .non => some false
  | .int _, .str _ => some false
  | .str _, .int _ => some false
  | .bl _, .str _ => some false
  | .str _, .bl _ => some false
  | x, y => if SeqAt.shaped x.py && SeqAt.shaped y.py then some (PyData.eqv x.py y.py) else none
def flat : D → Bool
  | .non => true
  | .bl _ => true
  | .int _ => true
  | .str _ => true
  | _ => false
def eqF : D → D → Bool
  | .non, .non => true
  | .bl a, .bl b => a == b
  | .bl a, .int b => (if a then 1 else 0) == b
  | .int a, .bl b => a == (if b then 1 else 0)
  | .int a, .int b => a == b
  | .str a, .str b => a == b
  | _, _ => false
def items : D → Option (List D)
  | .tup xs => some xs
  | .tuq xs => some xs
  | .lst xs => some xs
  | _ => none
def inD (x y : D) : Option Bool := match items y with
  | some xs => if flat x && xs.all flat then some (xs.any fun y => eqF y x) else none
  | none => none
def cmpD (o : Cmp) (x y : D) : Option Bool := match o with
  | .eq => eqD x y
  | .ne => (eqD x y).map (!·)
  | .in_ => inD x y
  | .notin => (inD x y).map (!·)
  | .lt => match x, y with
    | .int i, .int j => some (decide (i < j))
    | _, _ => none
  | .le => match x, y with
    | .int i, .int j => some (decide (i ≤ j))
    | _, _ => none
  | .gt => match x, y with
    | .int i, .int j => some (decide (j < i))
    | _, _ => none
  | .ge => match x, y with
    | .int i, .int j => some (decide (j ≤ i))
    | _, _ => none

/-! ### items, slices -/
def ixN (n : Nat) (i : Int) : Option Nat := if 0 ≤ i then (if i < n then some i.toNat else none) else if -(n : Int) ≤ i then some (i + n).toNat else none
def atI {α : Type} (xs : List α) (i : Int) : Option α := (ixN xs.length i).bind fun j => xs[j]?
def sIx (n d : Nat) : Option Int → Nat
  | none => d
  | some v => if v < 0 then (v + (n : Int)).toNat else min v.toNat n
def cut {α : Type} (xs : List α) (lo hi : Option Int) : List α := (xs.drop (sIx xs.length 0 lo)).take (sIx xs.length xs.length hi - sIx xs.length 0 lo)
def ixD (x y : D) : Option D := match x, y with
  | .tup xs, .int i => atI xs i
  | .lst xs, .int i => atI xs i
  | _, _ => none
def ixV (s : S) (x y : Val) : Option Val := match x, y with
  | .scr ns, .d (.int i) => (atI ns i).map fun k => .d (.int k)
  | x, .d y => match rd s x with
    | some x => (ixD x y).map .d
    | none => none
  | _, _ => none
def slD (x : D) (lo hi : Option Int) : Option D := match x with
  | .tup xs => some (.tup (cut xs lo hi))
  | .lst xs => some (.lst (cut xs lo hi))
  | _ => none
def revD : D → Option D
  | .tup xs => some (.tup xs.reverse)
  | .lst xs => some (.lst xs.reverse)
  | _ => none

/-! ### truth, built-ins -/
def truD : D → Option Bool
  | .non => some false
  | .bl b => some b
  | .int i => some (i != 0)
  | .str s => if s.length ≤ line then some ((s.length : Int) != 0) else none
  | .tup xs => some (!xs.isEmpty)
  | .tuq _ => none
  | .lst xs => some (!xs.isEmpty)
  | .dic _ _ => none
def truV (s : S) (v : Val) : Option Bool := match rd s v with
  | some x => truD x
  | none => none
/-- the types that isinstance may ask -/
inductive Ty where
  | int | bool | str | list | tuple | dict
  | ec (c : EC) | valueError
  deriving DecidableEq
def isTy : D → Ty → Bool
  | .int _, .int => true
  | .bl _, .int => true
  | .bl _, .bool => true
  | .str _, .str => true
  | .lst _, .list => true
  | .tup _, .tuple => true
  | .tuq _, .tuple => true
  | .dic _ _, .dict => true
  | _, _ => false
def isEx (c : EC) : Ty → Bool
  | .ec k => k == c || k == .JoinError
  | .valueError => true
  | _ => false
/-- a built-in class of data -/
def Ty.data : Ty → Bool
  | .ec _ => false
  | .valueError => false
  | _ => true
def isV (s : S) (v : Val) (t : Ty) : Option Bool := match v with
  | .exc c _ => if t.data then none else some (isEx c t)
  | v => if t.data then (rd s v).map (isTy · t) else none
def isVs (s : S) (v : Val) (ts : List Ty) : Option Bool := match v with
  | .exc c _ => if ts.any Ty.data then none else some (ts.any (isEx c))
  | v => if ts.all Ty.data then (rd s v).map fun x => ts.any (isTy x) else none
def intsD : List D → Option (List Int)
  | [] => some []
  | .int i :: r => (intsD r).map (i :: ·)
  | _ => none
def insI (i : Int) : List Int → List Int
  | [] => [i]
  | j :: r => if j < i then j :: insI i r else i :: j :: r
def sortI : List Int → List Int
  | [] => []
  | i :: r => insI i (sortI r)
def strsD : List D → Option (List Str)
  | [] => some []
  | .str i :: r => (strsD r).map (i :: ·)
  | _ => none
/-- built-ins of one value -/
inductive B1 where
  | len | int | bool | str | abs | tuple | list | sum | sorted | all | any | max | min
  deriving DecidableEq
def bools : List D → Option (List Bool)
  | [] => some []
  | .bl i :: r => (bools r).map (i :: ·)
  | _ => none
def maxI : List Int → Option Int
  | [] => none
  | i :: r => some (r.foldl (fun a b => if b > a then b else a) i)
def minI : List Int → Option Int
  | [] => none
  | i :: r => some (r.foldl (fun a b => if b < a then b else a) i)
def b1 (b : B1) (x : D) : Option D := match b with
  | .len => match x with
    | .str s => if s.length ≤ line then some (.int s.length) else none
    | .tup xs => some (.int xs.length)
    | .tuq xs => some (.int xs.length)
    | .lst xs => some (.int xs.length)
    | _ => none
  | .int => match x with
    | .int i => some (.int i)
    | .bl b => some (.int (if b then 1 else 0))
    | _ => none
  | .bool => match x with
    | .int i => some (.bl (i != 0))
    | .bl b => some (.bl b)
    | _ => none
  | .str => match x with
    | .int i => if i.natAbs.log2 < 1920 then some (.str (Str.ofString (toString i))) else none
    | _ => none
  | .abs => match x with
    | .int i => some (.int (if i < 0 then -i else i))
    | _ => none
  | .tuple => (items x).map .tup
  | .list => (items x).map .lst
  | .sum => match x with
    | .lst xs => (intsD xs).map fun ns => .int ns.sum
    | _ => none
  | .sorted => match items x with
    | some xs => (intsD xs).map fun ns => .lst ((sortI ns).map .int)
    | none => none
  | .all => match x with
    | .lst xs => (bools xs).map fun bs => .bl (bs.all id)
    | _ => none
  | .any => match x with
    | .lst xs => (bools xs).map fun bs => .bl (bs.any id)
    | _ => none
  | .max => match x with
    | .lst xs => match intsD xs with
      | some ns => (maxI ns).map .int
      | none => none
    | _ => none
  | .min => match x with
    | .lst xs => match intsD xs with
      | some ns => (minI ns).map .int
      | none => none
    | _ => none
def keyD : Key → D
  | .inl i => .int i
  | .inr z => .str z
def keysD (ks : List (List Key)) : List D := ks.map fun k => .tup (k.map keyD)
def b1V (b : B1) (s : S) (v : Val) : Option Val := match v with
  | .scr ns => if b = .len then some (.d (.int ns.length)) else none
  | .ownT ks _ => if b = .list then some (.d (.lst (keysD ks))) else none
  | v => match rd s v with
    | some x => (b1 b x).map .d
    | none => none

/-! ### expressions -/
def mCon (x : D) : ME := fun _ s => .ok (.d x) s
def mVar (i : Nat) : ME := fun e s => match e[i]? with
  | some (some (.own xs)) => .ok (.snap xs) s
  | some (some v) => .ok v s
  | _ => .stuck
/-- an expression's data -/
def mRd (a : ME) : Env → S → R D := fun e s => (a e s).bind fun v s => R.of (rd s v) s
def mBin (o : Op) (a b : ME) : ME := fun e s => (a e s).bind fun x s => (b e s).bind fun y s => match rd s x, rd s y with
  | some x, some y => R.of ((opD o x y).map .d) s
  | _, _ => .stuck
def mNeg (a : ME) : ME := fun e s => (a e s).bind fun x s => match x with
  | .d (.int i) => .ok (.d (.int (-i))) s
  | _ => .stuck
def mCmp (o : Cmp) (a b : ME) : MT := fun e s => (a e s).bind fun x s => (b e s).bind fun y s => match rd s x, rd s y with
  | some x, some y => R.of (cmpD o x y) s
  | _, _ => .stuck
/-- a < b < c -/
def mChain (o o' : Cmp) (a b c : ME) : MT := fun e s => (a e s).bind fun x s => (b e s).bind fun y s => match rd s x, rd s y with
  | some x, some y' => (R.of (cmpD o x y') s).bind fun k s => if k then (c e s).bind fun z s => (match rd s y, rd s z with
    | some y, some z => R.of (cmpD o' y z) s
    | _, _ => .stuck) else .ok false s
  | _, _ => .stuck
def mIsN (a : ME) : MT := fun e s => (a e s).bind fun x s => match x with
  | .d .non => .ok true s
  | .exc _ _ => .stuck
  | _ => .ok false s
def mNotN (a : ME) : MT := fun e s => (a e s).bind fun x s => match x with
  | .d .non => .ok false s
  | .exc _ _ => .stuck
  | _ => .ok true s
def mTru (a : ME) : MT := fun e s => (a e s).bind fun v s => R.of (truV s v) s
def mNot (t : MT) : MT := fun e s => (t e s).bind fun b s => .ok (!b) s
def mAnd (t u : MT) : MT := fun e s => (t e s).bind fun b s => if b then u e s else .ok false s
def mOr (t u : MT) : MT := fun e s => (t e s).bind fun b s => if b then .ok true s else u e s
/-- a test's value -/
def mBl (t : MT) : ME := fun e s => (t e s).bind fun b s => .ok (.d (.bl b)) s
def mAndV (a b : ME) : ME := fun e s => (a e s).bind fun v s => match v with
  | .d (.bl true) => b e s
  | .d (.bl false) => .ok (.d (.bl false)) s
  | _ => .stuck
def mOrV (a b : ME) : ME := fun e s => (a e s).bind fun v s => match v with
  | .d (.bl true) => .ok (.d (.bl true)) s
  | .d (.bl false) => b e s
  | _ => .stuck
def mIfE (t : MT) (a b : ME) : ME := fun e s => (t e s).bind fun k s => if k then a e s else b e s
def mNil : ML := fun _ s => .ok [] s
def mCons (a : ME) (r : ML) : ML := fun e s => (a e s).bind fun v s => (r e s).bind fun vs s => .ok (v :: vs) s
def datas : List Val → Option (List D)
  | [] => some []
  | .d x :: r => (datas r).map (x :: ·)
  | _ => none
def rds (s : S) : List Val → Option (List D)
  | [] => some []
  | v :: r => match rd s v with
    | some x => (rds s r).map (x :: ·)
    | none => none
def mTup (l : ML) : ME := fun e s => (l e s).bind fun vs s => match datas vs with
  | some xs => if xs.length ≤ line then .ok (.d (.tup xs)) s else .stuck
  | none => .stuck
/-- a tuple whose own dict is known to be none -/
def mTuq (l : ML) : ME := fun e s => (l e s).bind fun vs s => match datas vs with
  | some xs => if xs.length ≤ line then .ok (.d (.tuq xs)) s else .stuck
  | none => .stuck
def mLst (l : ML) : ME := fun e s => (l e s).bind fun vs s => match datas vs with
  | some xs => if xs.length ≤ line then .ok (.d (.lst xs)) s else .stuck
  | none => .stuck
def mDic0 : ME := fun _ s => .ok (.d (.dic [] [])) s
def mIx (a b : ME) : ME := fun e s => (a e s).bind fun x s => (b e s).bind fun y s => R.of (ixV s x y) s
def mOpt (a : Option ME) : Env → S → R (Option Int) := fun e s => match a with
  | none => .ok none s
  | some a => (a e s).bind fun x s => match x with
    | .d (.int i) => .ok (some i) s
    | _ => .stuck
def mSl (a : ME) (lo hi : Option ME) : ME := fun e s => (a e s).bind fun x s => (mOpt lo e s).bind fun l s => (mOpt hi e s).bind fun h s => match rd s x with
  | some x => R.of ((slD x l h).map .d) s
  | none => .stuck
def mRev (a : ME) : ME := fun e s => (a e s).bind fun x s => match rd s x with
  | some x => R.of ((revD x).map .d) s
  | none => .stuck
def mB1 (b : B1) (a : ME) : ME := fun e s => (a e s).bind fun x s => R.of (b1V b s x) s
def mMin2 (a b : ME) : ME := fun e s => (a e s).bind fun x s => (b e s).bind fun y s => match x, y with
  | .d (.int i), .d (.int j) => .ok (.d (.int (if j < i then j else i))) s
  | _, _ => .stuck
def mMax2 (a b : ME) : ME := fun e s => (a e s).bind fun x s => (b e s).bind fun y s => match x, y with
  | .d (.int i), .d (.int j) => .ok (.d (.int (if j > i then j else i))) s
  | _, _ => .stuck
def mIsI (a : ME) (t : Ty) : MT := fun e s => (a e s).bind fun x s => R.of (isV s x t) s
def mIsIs (a : ME) (ts : List Ty) : MT := fun e s => (a e s).bind fun x s => R.of (isVs s x ts) s
/-- the words of a written text -/
def mJoin (sep : ME) (a : ME) : ME := fun e s => (sep e s).bind fun z s => match z with
  | .d (.str z) => (a e s).bind fun x s => (match rd s x with
    | some x => (match items x with
      | some xs => (match strsD xs with
        | some ys => if (ys.map (·.length)).sum + ys.length * z.length ≤ line then .ok (.d (.str (Txt.join z ys))) s else .stuck
        | none => .stuck)
      | none => .stuck)
    | none => .stuck)
  | _ => .stuck
def mSplit (a b : ME) : ME := fun e s => (a e s).bind fun x s => match x with
  | .d (.str x) => (b e s).bind fun y s => (match y with
    | .d (.str y) => if (y.length == 0) = false ∧ x.length + 2 ≤ line ∧ (Txt.split x y).length ≤ line then .ok (.d (.lst ((Txt.split x y).map .str))) s else .stuck
    | _ => .stuck)
  | _ => .stuck
def mWords (a : ME) : ME := fun e s => (a e s).bind fun x s => match x with
  | .d (.str x) => if x.length + 2 ≤ line ∧ (Txt.words x).length ≤ line then .ok (.d (.lst ((Txt.words x).map .str))) s else .stuck
  | _ => .stuck

/-- x.count(i), ints -/
def mCount (a b : ME) : ME := fun e s => (a e s).bind fun x s => match x with
  | .d (.tuq xs) => (b e s).bind fun y s => (match y with
    | .d (.int i) => (match intsD xs with
      | some ns => .ok (.d (.int (ns.count i : Nat))) s
      | none => .stuck)
    | _ => .stuck)
  | _ => .stuck
/-- a table of the module, by texts -/
def mTab (kvs : List (Str × D)) (a : ME) : ME := fun e s => (a e s).bind fun x s => match x with
  | .d (.str z) => (match kvs.lookup z with
    | some y => .ok (.d y) s
    | none => .stuck)
  | _ => .stuck

/-! ### what is walked -/
abbrev MI := Env → S → R (List D)
def rangeI (lo : Int) : Nat → List D
  | 0 => []
  | n + 1 => .int lo :: rangeI (lo + 1) n
def mItV (a : ME) : MI := fun e s => (a e s).bind fun x s => match x with
  | .d x => R.of (items x) s
  | _ => .stuck
def rgOk (i j : Int) : Bool := decide (-(2 ^ 62) ≤ i ∧ i < 2 ^ 62 ∧ -(2 ^ 62) ≤ j ∧ j < 2 ^ 62 ∧ j - i ≤ line)
def mRg1 (a : ME) : MI := fun e s => (a e s).bind fun x s => match x with
  | .d (.int j) => if rgOk 0 j then .ok (rangeI 0 j.toNat) s else .stuck
  | _ => .stuck
def mRg2 (a b : ME) : MI := fun e s => (a e s).bind fun x s => (b e s).bind fun y s => match x, y with
  | .d (.int i), .d (.int j) => if rgOk i j then .ok (rangeI i (j - i).toNat) s else .stuck
  | _, _ => .stuck
/-- tuple(range(..)), list(range(..)) -/
def mTupI (i : MI) : ME := fun e s => (i e s).bind fun xs s => .ok (.d (.tup xs)) s
def mLstI (i : MI) : ME := fun e s => (i e s).bind fun xs s => .ok (.d (.lst xs)) s

/-! ### targets, comprehensions -/
/-- a target: a name; names that a tuple is parted to -/
inductive Tg where
  | nm (i : Nat) | tp (is : List Nat)
def tgSlots : Tg → List Nat
  | .nm i => [i]
  | .tp is => is
def setMany (e : Env) : List Nat → List D → Env
  | i :: is, x :: xs => setMany (e.set i (some (.d x))) is xs
  | _, _ => e
def tgSet (t : Tg) (x : D) (e : Env) : Option Env := match t with
  | .nm i => some (e.set i (some (.d x)))
  | .tp is => match x with
    | .tup xs => if xs.length = is.length then some (setMany e is xs) else none
    | _ => none
def wipe (e : Env) : List Nat → Env
  | [] => e
  | v :: vs => (wipe e vs).set v none
/-- the turns of a comprehension; e: the slots of its own names forgotten -/
def lcGo (e : Env) (tg : Tg) (t : MT) (m : ME) : List D → List D → S → R (List D)
  | [], acc, s => .ok acc s
  | x :: xs, acc, s => match tgSet tg x e with
    | some e2 => (match t e2 s with
      | .ok true s => (match m e2 s with
        | .ok (.d y) s => lcGo e tg t m xs (acc ++ [y]) s
        | _ => .stuck)
      | .ok false s => lcGo e tg t m xs acc s
      | _ => .stuck)
    | none => .stuck
def mLc (own : List Nat) (tg : Tg) (it : MI) (t : MT) (m : ME) : ME := fun e s => (it e s).bind fun xs s => (lcGo (wipe e own) tg t m xs [] s).bind fun ys s => .ok (.d (.lst ys)) s
def mYes : MT := fun _ s => .ok true s

/-! ### statements -/
def mSeq (a b : MS) : MS := fun e s => match a e s with
  | .nxt e s => b e s
  | r => r
def mPass : MS := fun e s => .nxt e s
def mBrk : MS := fun e s => .brk e s
def mCnt : MS := fun e s => .cnt e s
/-- on with the value of an expression -/
def R.go (r : R Val) (e : Env) (f : Val → S → F) : F := match r with
  | .ok v s => f v s
  | .exn c x s => .exn c x e s
  | .stuck => .stuck
def R.goT (r : R Bool) (e : Env) (f : Bool → S → F) : F := match r with
  | .ok v s => f v s
  | .exn c x s => .exn c x e s
  | .stuck => .stuck
@[simp] theorem R.go_ok (v : Val) (s : S) (e : Env) (f : Val → S → F) : (R.ok v s).go e f = f v s := rfl
@[simp] theorem R.go_exn (c : EC) (x : Option D) (s : S) (e : Env) (f : Val → S → F) : (R.exn c x s).go e f = .exn c x e s := rfl
@[simp] theorem R.go_stuck (e : Env) (f : Val → S → F) : R.stuck.go e f = .stuck := rfl
@[simp] theorem R.goT_ok (v : Bool) (s : S) (e : Env) (f : Bool → S → F) : (R.ok v s).goT e f = f v s := rfl
@[simp] theorem R.goT_exn (c : EC) (x : Option D) (s : S) (e : Env) (f : Bool → S → F) : (R.exn c x s).goT e f = .exn c x e s := rfl
@[simp] theorem R.goT_stuck (e : Env) (f : Bool → S → F) : R.stuck.goT e f = .stuck := rfl
/-- x = e -/
def mAsg (i : Nat) (a : ME) : MS := fun e s => (a e s).go e fun v s => match v with
  | .d x => .nxt (e.set i (some (.d x))) s
  | .ref n => .nxt (e.set i (some (.ref n))) s
  | _ => .stuck
/-- x = e, e a new list, x's own -/
def mAsgO (i : Nat) (a : ME) : MS := fun e s => (a e s).go e fun v s => match v with
  | .d (.lst xs) => .nxt (e.set i (some (.own xs))) s
  | _ => .stuck
/-- a, b = e (a tuple) -/
def mAsgT (is : List Nat) (a : ME) : MS := fun e s => (a e s).go e fun v s => match v with
  | .d x => (match tgSet (.tp is) x e with
    | some e => .nxt e s
    | none => .stuck)
  | _ => .stuck
/-- x += e, ints -/
def mAug (i : Nat) (o : Op) (a : ME) : MS := fun e s => match e[i]? with
  | some (some (.d (.int k))) => (a e s).go e fun v s => (match v with
    | .d (.int l) => (match opI o k l with
      | some m => .nxt (e.set i (some (.d (.int m)))) s
      | none => .stuck)
    | _ => .stuck)
  | _ => .stuck
def mIf (t : MT) (a b : MS) : MS := fun e s => (t e s).goT e fun k s => if k then a e s else b e s
def mExpr (a : ME) : MS := fun e s => (a e s).go e fun _ s => .nxt e s
def mRet (a : ME) : MS := fun e s => (a e s).go e fun v s => match v with
  | .d x => .ret (.d x) s
  | .ref n => .ret (.ref n) s
  | .snap xs => .ret (.d (.lst xs)) s
  | _ => .stuck
def frees : List Val → Option (List D)
  | [] => some []
  | .d x :: r => (frees r).map (x :: ·)
  | .snap xs :: r => (frees r).map (.lst xs :: ·)
  | _ => none
/-- return [..], tracked from now on -/
def mRetL (l : ML) : MS := fun e s => match l e s with
  | .ok vs s => (match frees vs with
    | some xs => if xs.length ≤ line then .ret (.ref s.length) (s ++ [xs]) else .stuck
    | none => .stuck)
  | .exn c x s => .exn c x e s
  | .stuck => .stuck
def mRetN : MS := fun _ s => .ret (.d .non) s
def mRaise (c : EC) : MS := fun e s => .exn c none e s
def mRaiseX (c : EC) (a : ME) : MS := fun e s => (a e s).go e fun v s => match v with
  | .d x => .exn c (some x) e s
  | _ => .stuck
def forGo (tg : Tg) (b : MS) : List D → Env → S → F
  | [], e, s => .nxt e s
  | x :: xs, e, s => match tgSet tg x e with
    | some e => (match b e s with
      | .nxt e s => forGo tg b xs e s
      | .cnt e s => forGo tg b xs e s
      | .brk e s => .nxt e s
      | r => r)
    | none => .stuck
def mFor (tg : Tg) (it : MI) (b : MS) : MS := fun e s => match it e s with
  | .ok xs s => forGo tg b xs e s
  | .exn c x s => .exn c x e s
  | .stuck => .stuck
def whileGo (t : MT) (b : MS) : Nat → Env → S → F
  | 0, _, _ => .stuck
  | n + 1, e, s => (t e s).goT e fun k s => if k then (match b e s with
      | .nxt e s => whileGo t b n e s
      | .cnt e s => whileGo t b n e s
      | .brk e s => .nxt e s
      | r => r) else .nxt e s
/-- x.append(e), x's own -/
def mApp (i : Nat) (a : ME) : MS := fun e s => match e[i]? with
  | some (some (.own xs)) => (a e s).go e fun v s => (match v with
    | .d x => if xs.length < line then .nxt (e.set i (some (.own (xs ++ [x])))) s else .stuck
    | _ => .stuck)
  | _ => .stuck
/-- x.extend(e), x's own -/
def mExt (i : Nat) (a : ME) : MS := fun e s => match e[i]? with
  | some (some (.own xs)) => (a e s).go e fun v s => (match rd s v with
    | some (.lst ys) => if xs.length + ys.length ≤ line then .nxt (e.set i (some (.own (xs ++ ys)))) s else .stuck
    | _ => .stuck)
  | _ => .stuck
def mClr (i : Nat) : MS := fun e s => match e[i]? with
  | some (some (.own _)) => .nxt (e.set i (some (.own []))) s
  | _ => .stuck
/-- x = {}, x's own -/
def mAsgE (i : Nat) : MS := fun e s => .nxt (e.set i (some (.ownT [] []))) s
def keyOfD : D → Option Key
  | .int i => some (.inl i)
  | .str z => some (.inr z)
  | _ => none
def keysOfD : List D → Option (List Key)
  | [] => some []
  | x :: r => match keyOfD x with
    | some k => (keysOfD r).map (k :: ·)
    | none => none
/-- a dict's entries after a store -/
def putT (ks : List (List Key)) (xs : List D) (k : List Key) (x : D) : List (List Key) × List D :=
  if ks.any (fun l => decide (l = k)) then (ks, (ks.zip xs).map fun q => if q.1 = k then x else q.2) else (ks ++ [k], xs ++ [x])
/-- x[tuple(e)] = v, x an own dict -/
def mSetT (i : Nat) (j a : ME) : MS := fun e s => (a e s).go e fun v s => match e[i]? with
  | some (some (.ownT ks xs)) => (j e s).go e fun k s => (match v, k with
    | .d x, .d (.lst ds) => (match keysOfD ds with
      | some k => if ks.length < line ∧ ds.length ≤ line then .nxt (e.set i (some (.ownT (putT ks xs k x).1 (putT ks xs k x).2))) s else .stuck
      | none => .stuck)
    | _, _ => .stuck)
  | _ => .stuck
/-- x[j] = e, x's own -/
def mSetO (i : Nat) (j a : ME) : MS := fun e s => (a e s).go e fun v s => match e[i]? with
  | some (some (.own xs)) => (j e s).go e fun k s => (match v, k with
    | .d x, .d (.int k) => (match ixN xs.length k with
      | some k => .nxt (e.set i (some (.own (xs.set k x)))) s
      | none => .stuck)
    | _, _ => .stuck)
  | _ => .stuck
/-- o[j] = e, o tracked -/
def mSetR (o j a : ME) : MS := fun e s => (a e s).go e fun v s => (o e s).go e fun r s => (j e s).go e fun k s => match v, r, k with
  | .d x, .ref n, .d (.int k) => (match s[n]? with
    | some xs => (match ixN xs.length k with
      | some k => .nxt e (s.set n (xs.set k x))
      | none => .stuck)
    | none => .stuck)
  | _, _, _ => .stuck
def unX (e : Env) : Env := e.map fun v => match v with
  | some (.exc _ _) => none
  | v => v
/-- try: body, except C as n: suite -/
def mTry (b : MS) (c : Ty) (n : Nat) (h : MS) : MS := fun e s => match b e s with
  | .exn k none e s => if isEx k c then (match h (e.set n (some (.exc k none))) s with
      | .nxt e s => .nxt ((unX e).set n none) s
      | .brk e s => .brk ((unX e).set n none) s
      | .cnt e s => .cnt ((unX e).set n none) s
      | .ret (.exc _ _) _ => .stuck
      | .ret v s => .ret v s
      | _ => .stuck) else .exn k none e s
  | .exn k (some x) e s => if isEx k c then .stuck else .exn k (some x) e s
  | r => r

/-! ### defs -/
inductive P where
  | ok (x : D) | fresh (xs : List D) | exn (c : EC) (x : Option D) | stuck
/-- what a def's name means: a def of data; a def that may turn the tracked lists; a def that is called while an error is handled -/
inductive FK where
  | pure (n : Nat) (f : List D → P) | eff (n : Nat) (f : List Val → S → R Val) | hot (n : Nat) (f : List Val → S → R Val) | none
mutual
def noL : D → Bool
  | .lst _ => false
  | .dic _ _ => false
  | .tup xs => noLs xs
  | .tuq xs => noLs xs
  | _ => true
def noLs : List D → Bool
  | [] => true
  | x :: xs => noL x && noLs xs
end
def initE (n : Nat) (vs : List Val) : Env := vs.map some ++ List.replicate (n - vs.length) none
def runP (n : Nat) (b : MS) (xs : List D) : P := match b (initE n (xs.map .d)) [] with
  | .ret (.ref n) s => (match s[n]? with
    | some xs => .fresh xs
    | none => .stuck)
  | .ret v s => (match rd s v with
    | some x => .ok x
    | none => .stuck)
  | .nxt _ _ => .ok .non
  | .exn c x _ _ => .exn c x
  | _ => .stuck
def runE (n : Nat) (b : MS) (vs : List Val) (s : S) : R Val := match b (initE n vs) s with
  | .ret v s => .ok v s
  | .nxt _ s => .ok (.d .non) s
  | .exn c x _ s => .exn c x s
  | _ => .stuck
def P.to (p : P) (s : S) : R Val := match p with
  | .ok x => .ok (.d x) s
  | .fresh xs => .ok (.d (.lst xs)) s
  | .exn c x => .exn c x s
  | .stuck => .stuck
def P.toL (p : P) (s : S) : R Val := match p with
  | .ok x => if noL x then .ok (.d x) s else .stuck
  | .fresh xs => if noLs xs then .ok (.d (.lst xs)) s else .stuck
  | .exn c none => .exn c none s
  | _ => .stuck
def frefs : List Val → Option (List Val)
  | [] => some []
  | .d x :: r => (frefs r).map (.d x :: ·)
  | .ref n :: r => (frefs r).map (.ref n :: ·)
  | .scr n :: r => (frefs r).map (.scr n :: ·)
  | _ => none
def isOwnV : Val → Bool
  | .own _ => true
  | .ownT _ _ => true
  | .snap _ => true
  | _ => false
def mCall (f : FK) (l : ML) : ME := fun e s => (l e s).bind fun vs s => match f with
  | .pure n f => if vs.length = n then (match datas vs with
    | some xs => (f xs).to s
    | none => match rds s vs with
      | some xs => (f xs).toL s
      | none => .stuck) else .stuck
  | .eff n f => if vs.length = n then (match frefs vs with
    | some vs => f vs s
    | none => .stuck) else .stuck
  | _ => .stuck
/-- a call within an except suite -/
def mHot (f : FK) (l : ML) : ME := fun e s => (l e s).bind fun vs s => match f with
  | .hot n f => if vs.length = n ∧ vs.all (fun v => !isOwnV v) then (match f vs s with
    | .ok v s => .ok v s
    | _ => .stuck) else .stuck
  | _ => .stuck
end MP
end

section
set_option Elab.async false
set_option linter.all false
set_option maxRecDepth 100000
set_option maxHeartbeats 4000000
/-! MP, part b: how data lie in the heap; what an expression's reading is. -/
namespace MP
open PySem PySem.Spec PyProof.Rows L2

/-! ### data in the heap -/
mutual
def Rep (K : PySem.W.Frag) (N : Addr → Prop) (H : Hp) : D → V → Prop
  | .non, v => v = .non
  | .bl b, v => v = .bl b
  | .int i, v => v = .int i
  | .str x, v => v = .str x
  | .tup xs, v => ∃ p vs, v = .ref p ∧ SqT K H p vs ∧ vs.length ≤ line ∧ Reps K N H xs vs
  | .tuq xs, v => ∃ p vs, v = .ref p ∧ (∃ o : Obj, o.dict = none ∧ H p = some (.frz o (.tup vs))) ∧ vs.length ≤ line ∧ Reps K N H xs vs
  | .lst xs, v => ∃ p vs, v = .ref p ∧ ¬ N p ∧ H p = some (.lst vs) ∧ vs.length ≤ line ∧ Reps K N H xs vs
  | .dic ks us, v => ∃ p vs, v = .ref p ∧ ¬ N p ∧ H p = some (.dK (ks.zip vs)) ∧ vs.length = ks.length ∧ Reps K N H us vs
def Reps (K : PySem.W.Frag) (N : Addr → Prop) (H : Hp) : List D → List V → Prop
  | [], vs => vs = []
  | x :: xs, vs => ∃ v r, vs = v :: r ∧ Rep K N H x v ∧ Reps K N H xs r
end
section
variable {K : PySem.W.Frag} {N N' : Addr → Prop} {H H' : Hp}
theorem reps_iff : ∀ {xs : List D} {vs : List V}, Reps K N H xs vs ↔ (xs.length = vs.length ∧ ∀ (i : Nat) x v, xs[i]? = some x → vs[i]? = some v → Rep K N H x v)
  | [], vs => by
    unfold Reps
    constructor
    · rintro rfl; exact ⟨rfl, fun i x v h => by simp at h⟩
    · rintro ⟨h, _⟩; exact List.eq_nil_of_length_eq_zero h.symm
  | x :: xs, vs => by
    unfold Reps
    constructor
    · rintro ⟨v, r, rfl, h1, h2⟩
      obtain ⟨hl, hi⟩ := reps_iff.mp h2
      refine ⟨by simp [hl], fun i x' v' e1 e2 => ?_⟩
      cases i with
      | zero => simp at e1 e2; subst e1 e2; exact h1
      | succ i => exact hi i x' v' (by simpa using e1) (by simpa using e2)
    · rintro ⟨hl, hi⟩
      cases vs with
      | nil => simp at hl
      | cons v r => exact ⟨v, r, rfl, hi 0 x v (by simp) (by simp), reps_iff.mpr ⟨by simpa using hl, fun i x' v' e1 e2 => hi (i + 1) x' v' (by simpa using e1) (by simpa using e2)⟩⟩
theorem Reps.length {xs : List D} {vs : List V} (h : Reps K N H xs vs) : xs.length = vs.length := (reps_iff.mp h).1
theorem Reps.get {xs : List D} {vs : List V} (h : Reps K N H xs vs) {i : Nat} {x : D} (e : xs[i]? = some x) : ∃ v, vs[i]? = some v ∧ Rep K N H x v := by
  obtain ⟨hl, hi⟩ := reps_iff.mp h
  have hlt : i < vs.length := by rw [← hl]; exact (List.getElem?_eq_some_iff.mp e).1
  exact ⟨vs[i], List.getElem?_eq_getElem hlt, hi i x _ e (List.getElem?_eq_getElem hlt)⟩
theorem Reps.nil : Reps K N H [] [] := by unfold Reps; rfl
theorem Reps.cons {x : D} {v : V} {xs : List D} {vs : List V} (h : Rep K N H x v) (r : Reps K N H xs vs) : Reps K N H (x :: xs) (v :: vs) := by
  unfold Reps; exact ⟨v, vs, rfl, h, r⟩
theorem Reps.one {x : D} {v : V} (h : Rep K N H x v) : Reps K N H [x] [v] := .cons h .nil
theorem Reps.append {xs ys : List D} {vs us : List V} (h : Reps K N H xs vs) (h' : Reps K N H ys us) : Reps K N H (xs ++ ys) (vs ++ us) := by
  induction xs generalizing vs with
  | nil => unfold Reps at h; subst h; exact h'
  | cons x xs ih =>
    unfold Reps at h
    obtain ⟨v, r, rfl, h1, h2⟩ := h
    exact .cons h1 (ih h2)
theorem Reps.take {xs : List D} {vs : List V} (n : Nat) (h : Reps K N H xs vs) : Reps K N H (xs.take n) (vs.take n) := by
  obtain ⟨hl, hi⟩ := reps_iff.mp h
  refine reps_iff.mpr ⟨by simp [hl], fun i x v e1 e2 => ?_⟩
  rw [List.getElem?_take] at e1 e2
  split at e1
  · rename_i hlt
    rw [if_pos hlt] at e2
    exact hi i x v e1 e2
  · cases e1
theorem Reps.drop {xs : List D} {vs : List V} (n : Nat) (h : Reps K N H xs vs) : Reps K N H (xs.drop n) (vs.drop n) := by
  obtain ⟨hl, hi⟩ := reps_iff.mp h
  refine reps_iff.mpr ⟨by simp [hl], fun i x v e1 e2 => ?_⟩
  rw [List.getElem?_drop] at e1 e2
  exact hi _ x v e1 e2
theorem Reps.set {xs : List D} {vs : List V} {x : D} {v : V} (n : Nat) (h : Reps K N H xs vs) (r : Rep K N H x v) : Reps K N H (xs.set n x) (vs.set n v) := by
  obtain ⟨hl, hi⟩ := reps_iff.mp h
  refine reps_iff.mpr ⟨by simp [hl], fun i x' v' e1 e2 => ?_⟩
  rw [List.getElem?_set] at e1 e2
  by_cases hn : n = i
  · rw [if_pos hn] at e1 e2
    split at e1
    · rename_i hlt
      rw [if_pos (by rw [← hl]; exact hlt)] at e2
      cases e1; cases e2; exact r
    · cases e1
  · rw [if_neg hn] at e1 e2
    exact hi i x' v' e1 e2
theorem Reps.reverse {xs : List D} {vs : List V} (h : Reps K N H xs vs) : Reps K N H xs.reverse vs.reverse := by
  induction xs generalizing vs with
  | nil => unfold Reps at h; subst h; exact .nil
  | cons x xs ih =>
    unfold Reps at h
    obtain ⟨v, r, rfl, h1, h2⟩ := h
    rw [List.reverse_cons, List.reverse_cons]
    exact (ih h2).append (.one h1)
theorem Reps.rep {xs : List D} {vs : List V} (h : Reps K N H xs vs) : ∀ n, Reps K N H (List.replicate n xs).flatten (List.replicate n vs).flatten
  | 0 => .nil
  | n + 1 => by rw [List.replicate_succ, List.replicate_succ, List.flatten_cons, List.flatten_cons]; exact h.append (h.rep n)
theorem Reps.cut {xs : List D} {vs : List V} (h : Reps K N H xs vs) (lo hi : Option Int) : Reps K N H (cut xs lo hi) (cutV vs lo hi) := by
  have e : ∀ (n d : Nat) o, sIx n d o = HT.sIx n d o := fun n d o => by cases o <;> rfl
  unfold MP.cut cutV
  rw [h.length, e, e, ← e, e]
  exact (h.drop _).take _

/-! ### what lasts -/
/-- what is not tracked and not one's own stays; what is bad now was bad or is new -/
structure Last (N N' : Addr → Prop) (H H' : Hp) : Prop where
  keep : ∀ p o, H p = some o → ¬ N p → H' p = some o
  bad : ∀ p, N' p → N p ∨ H p = none
  mu : ∀ p, N p → ∃ o, H p = some o ∧ (∀ xs, o ≠ .tup xs) ∧ ∀ ob u, o ≠ .frz ob u
theorem SqT.last {p : Addr} {vs : List V} (L : Last N N' H H') (h : SqT K H p vs) : SqT K H' p vs := by
  rcases h with (h | ⟨o, h⟩) | h
  · refine .inl (.inl (L.keep p _ h fun hn => ?_))
    obtain ⟨o, e, ht, _⟩ := L.mu p hn
    rw [h] at e; cases e; exact ht _ rfl
  · refine .inl (.inr ⟨o, L.keep p _ h fun hn => ?_⟩)
    obtain ⟨o', e, _, hf⟩ := L.mu p hn
    rw [h] at e; cases e; exact hf _ _ rfl
  · exact .inr h
theorem frz.last {p : Addr} {o : Obj} {u : HO} (L : Last N N' H H') (h : H p = some (.frz o u)) : H' p = some (.frz o u) := by
  refine L.keep p _ h fun hn => ?_
  obtain ⟨o', e, _, hf⟩ := L.mu p hn
  rw [h] at e; cases e; exact hf _ _ rfl
mutual
theorem Rep.last (L : Last N N' H H') : ∀ (x : D) {v : V}, Rep K N H x v → Rep K N' H' x v
  | .non, v, h => by unfold Rep at *; exact h
  | .bl _, v, h => by unfold Rep at *; exact h
  | .int _, v, h => by unfold Rep at *; exact h
  | .str _, v, h => by unfold Rep at *; exact h
  | .tup xs, v, h => by
    unfold Rep at *
    obtain ⟨p, vs, e, h1, hz, h2⟩ := h
    exact ⟨p, vs, e, SqT.last L h1, hz, Reps.last L xs h2⟩
  | .tuq xs, v, h => by
    unfold Rep at *
    obtain ⟨p, vs, e, ⟨o, hd, h1⟩, hz, h2⟩ := h
    exact ⟨p, vs, e, ⟨o, hd, frz.last L h1⟩, hz, Reps.last L xs h2⟩
  | .lst xs, v, h => by
    unfold Rep at *
    obtain ⟨p, vs, e, hn, h1, hz, h2⟩ := h
    refine ⟨p, vs, e, fun z => ?_, L.keep p _ h1 hn, hz, Reps.last L xs h2⟩
    rcases L.bad p z with z | z
    · exact hn z
    · rw [z] at h1; cases h1
  | .dic ks us, v, h => by
    unfold Rep at *
    obtain ⟨p, vs, e, hn, h1, hz, h2⟩ := h
    refine ⟨p, vs, e, fun z => ?_, L.keep p _ h1 hn, hz, Reps.last L us h2⟩
    rcases L.bad p z with z | z
    · exact hn z
    · rw [z] at h1; cases h1
theorem Reps.last (L : Last N N' H H') : ∀ (xs : List D) {vs : List V}, Reps K N H xs vs → Reps K N' H' xs vs
  | [], vs, h => by unfold Reps at *; exact h
  | x :: xs, vs, h => by
    unfold Reps at *
    obtain ⟨v, r, e, h1, h2⟩ := h
    exact ⟨v, r, e, Rep.last L x h1, Reps.last L xs h2⟩
end
end

/-! ### the shape of a state -/
/-- α: where the tracked lists stand; B: what may turn behind the callers' backs (all tracked lists, the callers' own); O: this frame's own lists -/
structure Wd where
  α : List Addr
  B : Addr → Prop
  O : Addr → Prop
abbrev Wd.N (w : Wd) : Addr → Prop := fun p => w.B p ∨ w.O p
/-- the error that is handled: where it stands, its class, its own dict -/
abbrev Hx := Option (Addr × EC × Option Addr)
/-- what the errors' fields are called -/
def EC.fld : EC → Str
  | .BadMove => "at" | .BadText => "at" | .TooMany => "limit" | .Unlike => "filling" | .NoChart => "lot" | .NoPlan => "lots" | _ => ""
def Pay (K : PySem.W.Frag) (N : Addr → Prop) (H : Hp) (c : EC) (x : Option D) (d : Option Addr) : Prop := match x with
  | none => d = none
  | some y => ∃ p u, d = some p ∧ H p = some (.xd [(c.fld, u)]) ∧ ¬ N p ∧ Rep K N H y u
/-- what is fixed: the written part, the error classes' addresses, the error that is handled -/
structure Gd where
  K : PySem.W.Frag
  cA : EC → Addr
  hx : Hx
section
variable (G : Gd)
def SlotR (w : Wd) (H : Hp) : Val → V → Prop
  | .d x, v => Rep G.K w.N H x v
  | .ref n, v => ∃ p, w.α[n]? = some p ∧ v = .ref p
  | .own xs, v => ∃ p vs, v = .ref p ∧ w.O p ∧ H p = some (.lst vs) ∧ vs.length ≤ line ∧ Reps G.K w.N H xs vs
  | .snap xs, v => ∃ p vs, v = .ref p ∧ w.O p ∧ H p = some (.lst vs) ∧ vs.length ≤ line ∧ Reps G.K w.N H xs vs
  | .ownT ks xs, v => ∃ p kvs, v = .ref p ∧ w.O p ∧ H p = some (.dT kvs) ∧ kvs.map (fun (q : List Key × V) => q.1) = ks ∧ (kvs.length ≤ line ∧ ∀ k ∈ ks, k.length ≤ line) ∧ Reps G.K w.N H xs (kvs.map fun (q : List Key × V) => q.2)
  | .exc c x, v => ∃ a d, G.hx = some (a, c, d) ∧ v = .ref a ∧ Pay G.K w.N H c x d
  | .scr ns, v => ∃ p, v = .ref p ∧ ((∃ o, H p = some (.frz o (.lst (ns.map V.int)))) ∨ SqL G.K (fun _ => none) p (ns.map V.int)) ∧ ns.length ≤ line
structure Ok (w : Wd) (s : S) (H : Hp) : Prop where
  nd : w.α.Nodup
  len : w.α.length = s.length
  cells : ∀ (n : Nat) xs p, s[n]? = some xs → w.α[n]? = some p → ∃ vs, H p = some (.lst vs) ∧ vs.length ≤ line ∧ Reps G.K w.N H xs vs
  ab : ∀ p ∈ w.α, w.B p
  bo : ∀ p, w.B p → ¬ w.O p
  mu : ∀ p, w.N p → ∃ o, H p = some o ∧ (∀ xs, o ≠ .tup xs) ∧ ∀ ob u, o ≠ .frz ob u
def isOwn : Val → Bool
  | .own _ => true
  | .snap _ => true
  | .ownT _ _ => true
  | _ => false
structure EnvR (w : Wd) (H : Hp) (e : Env) (σ : L2.St) : Prop where
  len : e.length = σ.length
  slot : ∀ (i : Nat) v, e[i]? = some (some v) → ∃ u, σ[i]? = some (some u) ∧ SlotR G w H v u
  sep : ∀ (i j : Nat) v v' u, i ≠ j → e[i]? = some (some v) → e[j]? = some (some v') → isOwn v = true → isOwn v' = true → σ[i]? = some (some u) → σ[j]? ≠ some (some u)
/-- what an expression may turn -/
structure Ext (w : Wd) (H : Hp) (w' : Wd) (H' : Hp) : Prop where
  al : ∃ l, w'.α = w.α ++ l ∧ ∀ p ∈ l, H p = none
  bm : ∀ p, w.B p → w'.B p
  bn : ∀ p, w'.B p → w.B p ∨ H p = none
  oo : w'.O = w.O
  keep : ∀ p o, H p = some o → p ∉ w.α → H' p = some o
end
section
variable {G : Gd} {w w1 w2 : Wd} {s s1 s2 : S} {H H1 H2 : Hp} {e : Env} {σ : L2.St}
theorem Ext.refl : Ext w H w H := ⟨⟨[], by simp, by simp⟩, fun _ h => h, fun _ h => .inl h, rfl, fun _ _ h _ => h⟩
theorem Ok.cell (ok : Ok G w s H) {n : Nat} {p : Addr} (h : w.α[n]? = some p) : ∃ xs vs, s[n]? = some xs ∧ H p = some (.lst vs) ∧ vs.length ≤ line ∧ Reps G.K w.N H xs vs := by
  have hlt : n < s.length := by rw [← ok.len]; exact (List.getElem?_eq_some_iff.mp h).1
  obtain ⟨vs, h1, h2, h3⟩ := ok.cells n s[n] p (List.getElem?_eq_getElem hlt) h
  exact ⟨_, vs, List.getElem?_eq_getElem hlt, h1, h2, h3⟩
theorem Ok.at (ok : Ok G w s H) {p : Addr} (h : p ∈ w.α) : ∃ vs, H p = some (.lst vs) := by
  obtain ⟨n, hn⟩ := List.mem_iff_getElem?.mp h
  obtain ⟨_, vs, _, h1, _⟩ := ok.cell hn
  exact ⟨vs, h1⟩
theorem Ok.none_of (ok1 : Ok G w1 s1 H1) (x : Ext w H w1 H1) {p : Addr} (h : H1 p = none) : H p = none := by
  cases q : H p with
  | none => rfl
  | some o =>
    by_cases hp : p ∈ w.α
    · obtain ⟨l, hl, _⟩ := x.al
      obtain ⟨vs, e⟩ := ok1.at (p := p) (by rw [hl]; exact List.mem_append_left _ hp)
      rw [h] at e; cases e
    · rw [x.keep p o q hp] at h; cases h
theorem Ext.trans (a : Ext w H w1 H1) (ok1 : Ok G w1 s1 H1) (b : Ext w1 H1 w2 H2) : Ext w H w2 H2 := by
  obtain ⟨l, hl, nl⟩ := a.al
  obtain ⟨l2, hl2, nl2⟩ := b.al
  refine ⟨⟨l ++ l2, by rw [hl2, hl, List.append_assoc], fun p hp => ?_⟩, fun p h => b.bm p (a.bm p h), fun p h => ?_, b.oo.trans a.oo, fun p o h hp => b.keep p o (a.keep p o h hp) fun z => ?_⟩
  · rcases List.mem_append.mp hp with h | h
    · exact nl p h
    · exact ok1.none_of a (nl2 p h)
  · rcases b.bn p h with z | z
    · exact a.bn p z
    · exact .inr (ok1.none_of a z)
  · rw [hl] at z
    rcases List.mem_append.mp z with z | z
    · exact hp z
    · rw [nl p z] at h; cases h
theorem Ext.last (ok : Ok G w s H) (x : Ext w H w1 H1) : Last w.N w1.N H H1 := by
  refine ⟨fun p o h hn => x.keep p o h fun z => hn (.inl (ok.ab p z)), fun p h => ?_, ok.mu⟩
  rcases h with h | h
  · rcases x.bn p h with z | z
    · exact .inl (.inl z)
    · exact .inr z
  · rw [x.oo] at h; exact .inl (.inr h)
theorem Pay.last {N N' : Addr → Prop} {c : EC} {y : Option D} {d : Option Addr} (L : Last N N' H H1) (h : Pay G.K N H c y d) : Pay G.K N' H1 c y d := by
  unfold Pay at *
  cases y with
  | none => exact h
  | some y =>
    obtain ⟨p, u, e, h1, hn, h2⟩ := h
    refine ⟨p, u, e, L.keep p _ h1 hn, fun z => ?_, Rep.last L y h2⟩
    rcases L.bad p z with z | z
    · exact hn z
    · rw [z] at h1; cases h1
theorem SlotR.ext (ok : Ok G w s H) (x : Ext w H w1 H1) {v : Val} {u : V} (h : SlotR G w H v u) : SlotR G w1 H1 v u := by
  have L := x.last ok
  cases v with
  | d y => exact Rep.last L y h
  | ref n =>
    obtain ⟨p, e, r⟩ := h
    obtain ⟨l, hl, _⟩ := x.al
    refine ⟨p, ?_, r⟩
    rw [hl, List.getElem?_append_left (List.getElem?_eq_some_iff.mp e).1]
    exact e
  | own xs =>
    obtain ⟨p, vs, e, ho, h1, hz, h2⟩ := h
    exact ⟨p, vs, e, by rw [x.oo]; exact ho, x.keep p _ h1 fun z => ok.bo p (ok.ab p z) ho, hz, Reps.last L xs h2⟩
  | snap xs =>
    obtain ⟨p, vs, e, ho, h1, hz, h2⟩ := h
    exact ⟨p, vs, e, by rw [x.oo]; exact ho, x.keep p _ h1 fun z => ok.bo p (ok.ab p z) ho, hz, Reps.last L xs h2⟩
  | ownT ks xs =>
    obtain ⟨p, kvs, e, ho, h1, hk, hz, h2⟩ := h
    exact ⟨p, kvs, e, by rw [x.oo]; exact ho, x.keep p _ h1 fun z => ok.bo p (ok.ab p z) ho, hk, hz, Reps.last L xs h2⟩
  | exc c y =>
    obtain ⟨a, d, e, r, hp⟩ := h
    exact ⟨a, d, e, r, hp.last L⟩
  | scr ns =>
    obtain ⟨p, e, h1, hz⟩ := h
    refine ⟨p, e, ?_, hz⟩
    rcases h1 with ⟨o, h1⟩ | h1
    · exact .inl ⟨o, frz.last L h1⟩
    · exact .inr h1
theorem EnvR.ext (ok : Ok G w s H) (x : Ext w H w1 H1) (h : EnvR G w H e σ) : EnvR G w1 H1 e σ :=
  ⟨h.len, fun i v hv => let ⟨u, e, r⟩ := h.slot i v hv; ⟨u, e, r.ext ok x⟩, h.sep⟩

/-! ### an end -/
/-- how an error lies -/
def ExR (G : Gd) (w : Wd) (H : Hp) (c : EC) (x : Option D) (cls : Value) (d : Option Addr) : Prop := cls = .ref (G.cA c) ∧ Pay G.K w.N H c x d
def Post (G : Gd) (W : WX) {α β : Type} (rel : Wd → S → Hp → α → β → Prop) (w : Wd) (H : Hp) (σ : L2.St) (r : R α) (Q : β → Hp → Prop) : Prop := match r with
  | .ok v s' => ∀ w' H' u, Ext w H w' H' → Ok G w' s' H' → rel w' s' H' v u → Q u H'
  | .exn c x s' => ∀ w' H' cls d, Ext w H w' H' → Ok G w' s' H' → ExR G w' H' c x cls d → W cls d σ H'
  | .stuck => False
variable {W : WX} {α β α' β' : Type} {rel : Wd → S → Hp → α → β → Prop} {rel' : Wd → S → Hp → α' → β' → Prop}
theorem Post.mono {r : R α} {Q : β → Hp → Prop} (x : Ext w H w1 H1) (ok1 : Ok G w1 s1 H1) (h : Post G W rel w H σ r Q) : Post G W rel w1 H1 σ r Q := by
  cases r with
  | ok v s' => exact fun w' H' u e o r => h w' H' u (x.trans ok1 e) o r
  | exn c y s' => exact fun w' H' cls d e o r => h w' H' cls d (x.trans ok1 e) o r
  | stuck => exact h
theorem Post.bind {r : R α} {f : α → S → R α'} {Q : β' → Hp → Prop} {Q1 : β → Hp → Prop} (h : Post G W rel' w H σ (r.bind f) Q)
    (hQ : ∀ w1 s1 H1 v u, Ext w H w1 H1 → Ok G w1 s1 H1 → rel w1 s1 H1 v u → Post G W rel' w1 H1 σ (f v s1) Q → Q1 u H1) : Post G W rel w H σ r Q1 := by
  cases r with
  | ok v s' => exact fun w' H' u e o r => hQ w' s' H' v u e o r (Post.mono (r := f v s') e o h)
  | exn c y s' => exact h
  | stuck => exact h
/-- an end with the state as it is -/
theorem Post.here {v : α} {u : β} {Q : β → Hp → Prop} (ok : Ok G w s H) (h : Post G W rel w H σ (.ok v s) Q) (r : rel w s H v u) : Q u H := h w H u .refl ok r

abbrev relV (G : Gd) : Wd → S → Hp → Val → V → Prop := fun w _ H v u => SlotR G w H v u
abbrev relB : Wd → S → Hp → Bool → Bool → Prop := fun _ _ _ b c => b = c
theorem Post.hereV {v : Val} {u : V} {Q : V → Hp → Prop} (ok : Ok G w s H) (h : Post G W (relV G) w H σ (.ok v s) Q) (r : SlotR G w H v u) : Q u H := h w H u .refl ok r
theorem Post.hereD {v : D} {u : V} {Q : V → Hp → Prop} (ok : Ok G w s H) (h : Post G W (relV G) w H σ (.ok (.d v) s) Q) (r : Rep G.K w.N H v u) : Q u H := h w H u .refl ok r
theorem Post.hereB {v : Bool} {Q : Bool → Hp → Prop} (ok : Ok G w s H) (h : Post G W relB w H σ (.ok v s) Q) : Q v H := h w H v .refl ok rfl
def SlotRs (G : Gd) (w : Wd) (H : Hp) : List Val → List V → Prop
  | [], us => us = []
  | v :: vs, us => ∃ u r, us = u :: r ∧ SlotR G w H v u ∧ SlotRs G w H vs r
abbrev relL (G : Gd) : Wd → S → Hp → List Val → List V → Prop := fun w _ H v u => SlotRs G w H v u
theorem SlotRs.ext (ok : Ok G w s H) (x : Ext w H w1 H1) : ∀ {vs : List Val} {us : List V}, SlotRs G w H vs us → SlotRs G w1 H1 vs us
  | [], us, h => h
  | v :: vs, us, h => by
    obtain ⟨u, r, e, h1, h2⟩ := h
    exact ⟨u, r, e, h1.ext ok x, h2.ext ok x⟩
def tE (G : Gd) (W : WX) (m : ME) : TE := fun σ H Q => ∃ w s e, Ok G w s H ∧ EnvR G w H e σ ∧ Post G W (relV G) w H σ (m e s) Q
def tT (G : Gd) (W : WX) (m : MT) : TT := fun σ H Q => ∃ w s e, Ok G w s H ∧ EnvR G w H e σ ∧ Post G W relB w H σ (m e s) Q
def tL (G : Gd) (W : WX) (m : ML) : TA := fun σ H Q => ∃ w s e, Ok G w s H ∧ EnvR G w H e σ ∧ Post G W (relL G) w H σ (m e s) Q
end

/-! ### expressions -/
theorem impE {X : Cx} {e : Expr} {t t' : TE} (h : PE X e t) (i : ∀ σ H Q, t' σ H Q → t σ H Q) : PE X e t' := ⟨fun pins s σ H Q I q => h.run pins s σ H Q I (i σ H Q q)⟩
theorem impT {X : Cx} {e : Expr} {t t' : TT} (h : PT X e t) (i : ∀ σ H Q, t' σ H Q → t σ H Q) : PT X e t' := ⟨fun pins s σ H Q I q => h.run pins s σ H Q I (i σ H Q q)⟩
theorem impW {X : Cx} {e : Expr} {t t' : TT} (h : PW X e t) (i : ∀ σ H Q, t' σ H Q → t σ H Q) : PW X e t' := ⟨fun wh pins s σ H Q I q => h.run wh pins s σ H Q I (i σ H Q q)⟩
theorem impA {X : Cx} {e : List Expr} {t t' : TA} (h : PA X e t) (i : ∀ σ H Q, t' σ H Q → t σ H Q) : PA X e t' := ⟨fun p pins s σ H Q I q => h.run p pins s σ H Q I (i σ H Q q)⟩
section
variable {X : Cx} {G : Gd} {W : WX} {pos : Pos} {a b c : Expr} {ma mb mc : ME}
theorem rep_non {K : PySem.W.Frag} {N : Addr → Prop} {H : Hp} : Rep K N H .non .non := by unfold Rep; rfl
theorem rep_bl {K : PySem.W.Frag} {N : Addr → Prop} {H : Hp} (b : Bool) : Rep K N H (.bl b) (.bl b) := by unfold Rep; rfl
theorem rep_int {K : PySem.W.Frag} {N : Addr → Prop} {H : Hp} (i : Int) : Rep K N H (.int i) (.int i) := by unfold Rep; rfl
theorem rep_str {K : PySem.W.Frag} {N : Addr → Prop} {H : Hp} (x : Str) : Rep K N H (.str x) (.str x) := by unfold Rep; rfl
theorem s_int {i j pos} : PE X (.Constant (.int i) j pos) (tE G W (mCon (.int i))) := impE pe_int fun σ H Q ⟨w, s, e, ok, er, h⟩ => by
  show Q (.int i) H
  exact Post.hereD ok h (rep_int i)
theorem s_bl {i j pos} : PE X (.Constant (.bool i) j pos) (tE G W (mCon (.bl i))) := impE pe_bl fun σ H Q ⟨w, s, e, ok, er, h⟩ => by
  show Q (.bl i) H
  exact Post.hereD ok h (rep_bl i)
theorem s_str {i j pos} : PE X (.Constant (.str i) j pos) (tE G W (mCon (.str i))) := impE pe_str fun σ H Q ⟨w, s, e, ok, er, h⟩ => by
  show Q (.str i) H
  exact Post.hereD ok h (rep_str i)
theorem s_non {j pos} : PE X (.Constant .none j pos) (tE G W (mCon .non)) := impE pe_non fun σ H Q ⟨w, s, e, ok, er, h⟩ => by
  show Q .non H
  exact Post.hereD ok h (rep_non)
theorem s_var {i : Nat} {x : Str} (hN : X.N[i]? = some x) (hv : Vis X.env.scope x) (hd : (x == ("__debug__" : Str)) = false) (hcd : (x == ("__classdict__" : Str)) = false) : PE X (.Name x pos) (tE G W (mVar i)) := by
  refine impE (pe_var hN hv hd hcd) fun σ H Q ⟨w, s, e, ok, er, h⟩ => ?_
  unfold mVar at h
  cases q : e[i]? with
  | none => rw [q] at h; exact h.elim
  | some o =>
    cases o with
    | none => rw [q] at h; exact h.elim
    | some v =>
      rw [q] at h
      obtain ⟨u, eu, r⟩ := er.slot i v q
      refine ⟨u, eu, ?_⟩
      cases v with
      | own xs => exact Post.hereV (v := .snap xs) ok h r
      | d y => exact Post.hereV (v := .d y) ok h r
      | ref n => exact Post.hereV (v := .ref n) ok h r
      | snap y => exact Post.hereV (v := .snap y) ok h r
      | ownT y z => exact Post.hereV (v := .ownT y z) ok h r
      | exc y z => exact Post.hereV (v := .exc y z) ok h r
      | scr y => exact Post.hereV (v := .scr y) ok h r
end

/-! ### operators -/
section
variable {G : Gd} {W : WX} {w w1 : Wd} {s s1 : S} {H H1 : Hp} {e : Env} {σ : L2.St}
def RdR (K : PySem.W.Frag) (N : Addr → Prop) (H : Hp) (x : D) (u : V) : Prop := match x with
  | .lst xs => ∃ p vs, u = .ref p ∧ H p = some (.lst vs) ∧ vs.length ≤ line ∧ Reps K N H xs vs
  | x => Rep K N H x u
theorem RdR.of_rep {K : PySem.W.Frag} {N : Addr → Prop} {x : D} {u : V} (h : Rep K N H x u) : RdR K N H x u := by
  cases x with
  | lst xs =>
    unfold Rep at h
    obtain ⟨p, vs, e, _, h1, hz, h2⟩ := h
    exact ⟨p, vs, e, h1, hz, h2⟩
  | _ => exact h
theorem rd_ok (ok : Ok G w s H) {v : Val} {u : V} {x : D} (r : SlotR G w H v u) (h : rd s v = some x) : RdR G.K w.N H x u := by
  cases v with
  | d y => cases h; exact RdR.of_rep r
  | ref n =>
    obtain ⟨p, e, rfl⟩ := r
    obtain ⟨xs, vs, hs, h1, hz, h2⟩ := ok.cell e
    rw [rd_ref, hs] at h
    cases h
    exact ⟨p, vs, rfl, h1, hz, h2⟩
  | own xs =>
    cases h
    obtain ⟨p, vs, e, _, h1, hz, h2⟩ := r
    exact ⟨p, vs, e, h1, hz, h2⟩
  | snap xs =>
    cases h
    obtain ⟨p, vs, e, _, h1, hz, h2⟩ := r
    exact ⟨p, vs, e, h1, hz, h2⟩
  | ownT _ _ => cases h
  | exc c y => cases h
  | scr ns => cases h
/-- more things stand -/
theorem Ok.grow (ok : Ok G w s H) (g : ∀ p o, H p = some o → H1 p = some o) : Ok G w s H1 ∧ Ext w H w H1 := by
  have x : Ext w H w H1 := ⟨⟨[], by simp, by simp⟩, fun _ h => h, fun _ h => .inl h, rfl, fun p o h _ => g p o h⟩
  refine ⟨⟨ok.nd, ok.len, fun n xs p h1 h2 => ?_, ok.ab, ok.bo, fun p h => ?_⟩, x⟩
  · obtain ⟨vs, e, hz, r⟩ := ok.cells n xs p h1 h2
    exact ⟨vs, g _ _ e, hz, Reps.last (x.last ok) xs r⟩
  · obtain ⟨o, e, h1, h2⟩ := ok.mu p h
    exact ⟨o, g _ _ e, h1, h2⟩
theorem grow_upd {p : Addr} {o : HO} (hn : H p = none) : ∀ q u, H q = some u → upd H p o q = some u := fun q u h => by
  rw [upd_ne (ne_of_none h hn)]; exact h
theorem Ok.notN (ok : Ok G w s H) {p : Addr} (hn : H p = none) : ¬ w.N p := fun h => by
  obtain ⟨o, e, _⟩ := ok.mu p h
  rw [hn] at e; cases e
theorem rep_tup {K : PySem.W.Frag} {N : Addr → Prop} {p : Addr} {xs : List D} {vs : List V} (h : SqT K H p vs) (hz : vs.length ≤ line) (r : Reps K N H xs vs) : Rep K N H (.tup xs) (.ref p) := by
  unfold Rep; exact ⟨p, vs, rfl, h, hz, r⟩
theorem rep_lst {K : PySem.W.Frag} {N : Addr → Prop} {p : Addr} {xs : List D} {vs : List V} (hn : ¬ N p) (h : H p = some (.lst vs)) (hz : vs.length ≤ line) (r : Reps K N H xs vs) : Rep K N H (.lst xs) (.ref p) := by
  unfold Rep; exact ⟨p, vs, rfl, hn, h, hz, r⟩
theorem Post.newT {xs : List D} {vs : List V} {Q : V → Hp → Prop} (ok : Ok G w s H) (h : Post G W (relV G) w H σ (.ok (.d (.tup xs)) s) Q) (r : Reps G.K w.N H xs vs) (hz : vs.length ≤ line) : ∀ p, H p = none → Q (.ref p) (upd H p (.tup vs)) := fun p hn => by
  obtain ⟨ok1, x⟩ := ok.grow (grow_upd (o := .tup vs) hn)
  exact h w _ (.ref p) x ok1 (rep_tup (.inl (.inl upd_same)) hz (Reps.last (x.last ok) xs r))
theorem Post.newL {xs : List D} {vs : List V} {Q : V → Hp → Prop} (ok : Ok G w s H) (h : Post G W (relV G) w H σ (.ok (.d (.lst xs)) s) Q) (r : Reps G.K w.N H xs vs) (hz : vs.length ≤ line) : ∀ p, H p = none → Q (.ref p) (upd H p (.lst vs)) := fun p hn => by
  obtain ⟨ok1, x⟩ := ok.grow (grow_upd (o := .lst vs) hn)
  exact h w _ (.ref p) x ok1 (rep_lst (ok.notN hn) upd_same hz (Reps.last (x.last ok) xs r))
theorem rep_tup_inv {K : PySem.W.Frag} {N : Addr → Prop} {xs : List D} {u : V} (h : RdR K N H (.tup xs) u) : ∃ p vs, u = .ref p ∧ SqT K H p vs ∧ vs.length ≤ line ∧ Reps K N H xs vs := by
  have h : Rep K N H (.tup xs) u := h
  unfold Rep at h; exact h
theorem rep_tuq {K : PySem.W.Frag} {N : Addr → Prop} {p : Addr} {xs : List D} {vs : List V} {o : Obj} (hd : o.dict = none) (h : H p = some (.frz o (.tup vs))) (hz : vs.length ≤ line) (r : Reps K N H xs vs) : Rep K N H (.tuq xs) (.ref p) := by
  unfold Rep; exact ⟨p, vs, rfl, ⟨o, hd, h⟩, hz, r⟩
theorem rep_tuq_inv {K : PySem.W.Frag} {N : Addr → Prop} {xs : List D} {u : V} (h : RdR K N H (.tuq xs) u) : ∃ p vs, u = .ref p ∧ (∃ o : Obj, o.dict = none ∧ H p = some (.frz o (.tup vs))) ∧ vs.length ≤ line ∧ Reps K N H xs vs := by
  have h : Rep K N H (.tuq xs) u := h
  unfold Rep at h; exact h
theorem Post.newQ {xs : List D} {vs : List V} {Q : V → Hp → Prop} (ok : Ok G w s H) (h : Post G W (relV G) w H σ (.ok (.d (.tuq xs)) s) Q) (r : Reps G.K w.N H xs vs) (hz : vs.length ≤ line) : ∀ (p : Addr) (o : Obj), H p = none → o.dict = none → Q (.ref p) (upd H p (.frz o (.tup vs))) := fun p o hn hd => by
  obtain ⟨ok1, x⟩ := ok.grow (grow_upd (o := .frz o (.tup vs)) hn)
  exact h w _ (.ref p) x ok1 (rep_tuq hd upd_same hz (Reps.last (x.last ok) xs r))
theorem int_inv {K : PySem.W.Frag} {N : Addr → Prop} {i : Int} {u : V} (h : RdR K N H (.int i) u) : u = .int i := by
  have h : Rep K N H (.int i) u := h
  unfold Rep at h; exact h
theorem str_inv {K : PySem.W.Frag} {N : Addr → Prop} {i : Str} {u : V} (h : RdR K N H (.str i) u) : u = .str i := by
  have h : Rep K N H (.str i) u := h
  unfold Rep at h; exact h
theorem bl_inv {K : PySem.W.Frag} {N : Addr → Prop} {i : Bool} {u : V} (h : RdR K N H (.bl i) u) : u = .bl i := by
  have h : Rep K N H (.bl i) u := h
  unfold Rep at h; exact h
theorem non_inv {K : PySem.W.Frag} {N : Addr → Prop} {u : V} (h : RdR K N H .non u) : u = .non := by
  have h : Rep K N H .non u := h
  unfold Rep at h; exact h

def Op.o : Op → Operator
  | .add => .Add | .sub => .Sub | .mul => .Mult | .fdiv => .FloorDiv | .mod => .Mod | .pow => .Pow | .shl => .LShift | .shr => .RShift | .band => .BitAnd | .bor => .BitOr | .bxor => .BitXor
/-- t + u of tuples whose own dict is known to be none -/
def rCatQ : R2 := fun x y H Q => ∃ a b xs ys o o', x = .ref a ∧ y = .ref b ∧ H a = some (.frz o (.tup xs)) ∧ H b = some (.frz o' (.tup ys)) ∧ xs.length + ys.length ≤ sizeLine ∧
  (xs = [] → Q (.ref b) H) ∧ (xs ≠ [] → ys = [] → Q (.ref a) H) ∧ (xs ≠ [] → ys ≠ [] → ∀ (q : Addr) (u : Obj), H q = none → u.dict = none → Q (.ref q) (upd H q (.frz u (.tup (xs ++ ys)))))
theorem op_catQ {X : Cx} : OpR X (binaryOp .Add) rCatQ := by
  intro pins s σ H x y v u Q I rx ry ⟨a, b, xs, ys, o, o', ex, ey, ha, hb, hz, q0, q1, q2⟩
  have ta : SqT X.K H a xs := .inl (.inr ⟨o, ha⟩)
  have tb : SqT X.K H b ys := .inl (.inr ⟨o', hb⟩)
  by_cases hx : xs = []
  · exact op_catA pins s σ H x y v u Q I rx ry ⟨a, b, xs, ys, ex, ey, ta, tb, hz, q0, fun z => absurd hx z, fun z => absurd hx z⟩
  · by_cases hy : ys = []
    · exact op_catA pins s σ H x y v u Q I rx ry ⟨a, b, xs, ys, ex, ey, ta, tb, hz, q0, q1, fun _ z => absurd hy z⟩
    · subst ex ey
      cases rx
      cases ry
      obtain ⟨ia, r1, t1, _⟩ := I.tuple ta
      obtain ⟨ib, r2, t2, _⟩ := I.tuple tb
      refine HT.cat_tup t1 t2 (fun z => hx (r1.nil_iff.mp z)) (fun z => absurd (r2.nil_iff.mp z) hy) (fun _ => ?_) (by rw [← r1.length, ← r2.length]; exact hz)
      have ho : ObjOk X.prog X.w H (s.heap.push { cls := .type "tuple", data := .seq (ia ++ ib).toArray }) s.heap.objs.size (.tup (xs ++ ys)) := ⟨by rw [List.length_append]; exact hz, _, r1.append r2, IsTup.new _ _⟩
      have J := I.laid (t' := s.toks) (o := .frz { cls := .type "tuple", data := .seq (ia ++ ib).toArray } (.tup (xs ++ ys))) (fun _ _ e => Heap.get?_push_of_some _ e) (Nat.le_refl _) ⟨Heap.get?_push_size _ rfl, ho⟩
      exact ⟨.ref s.heap.objs.size, _, J, rfl, q2 hx hy _ _ (I.hok.fresh (Nat.le_refl _)) rfl⟩
/-- the operators' readings -/
def rO (K : PySem.W.Frag) : Op → R2
  | .add => fun x y H Q => (rI0 (fun i j => .int (i + j)) x y H Q ∨ (∃ i j, x = .str i ∧ y = .str j ∧ i.length + j.length ≤ sizeLine ∧ Q (.str (i ++ j)) H)) ∨ ((rCatA K x y H Q ∨ rCat x y H Q) ∨ rCatQ x y H Q)
  | .sub => rI0 fun i j => .int (i - j)
  | .mul => fun x y H Q => (rI CMul (fun i j => .int (i * j)) x y H Q ∨ rI CMulW (fun i j => .int (i * j)) x y H Q) ∨ (rRep x y H Q ∨ rRepT K x y H Q)
  | .fdiv => rI CDivW fun i j => .int (i / j)
  | .mod => rI (fun _ j => 0 < j) fun i j => .int (i % j)
  | .pow => rI CPow fun i j => .int (i ^ j.toNat)
  | .shl => rI CPow fun i j => .int (i * 2 ^ j.toNat)
  | .shr => rI (fun _ j => 0 ≤ j) fun i j => .int (i / 2 ^ j.toNat)
  | .band => rI0 fun i j => .int (Builtin.bitAnd i j)
  | .bor => rI0 fun i j => .int (Builtin.bitOr i j)
  | .bxor => rI0 fun i j => .int (Builtin.bitXor i j)
theorem op_rO {X : Cx} : ∀ o : Op, OpR X (binaryOp o.o) (rO X.K o)
  | .add => (op_add.or op_add_str).or ((op_catA.or op_cat).or op_catQ)
  | .sub => op_sub
  | .mul => (op_mul.or op_mulW).or (op_rep.or op_repT)
  | .fdiv => op_fdivW
  | .mod => op_mod
  | .pow => op_pow
  | .shl => op_shl
  | .shr => op_shr
  | .band => op_and
  | .bor => op_or
  | .bxor => op_xor
theorem line_eq : line = sizeLine := by rw [sizeLine_eq]
theorem opI_ok {o : Op} {i j k : Int} {Q : VK} (h : opI o i j = some k) (q : Q (.int k) H) : rO G.K o (.int i) (.int j) H Q := by
  cases o with
  | add => cases h; exact .inl (.inl ⟨i, j, rfl, rfl, q⟩)
  | sub => cases h; exact ⟨i, j, rfl, rfl, q⟩
  | mul =>
    have h : (if mulOk i j = true then some (i * j) else none) = some k := h
    split at h
    · rename_i hm
      cases h
      have hm : (-(2 ^ 64) < i ∧ i < 2 ^ 64) ∨ (-(2 ^ 64) < j ∧ j < 2 ^ 64) ∨ (i.natAbs < 2 ^ 2000 ∧ j.natAbs < 2 ^ 2000) := of_decide_eq_true hm
      rcases hm with hm | hm | hm
      · exact .inl (.inl ⟨i, j, rfl, rfl, .inl hm, q⟩)
      · exact .inl (.inl ⟨i, j, rfl, rfl, .inr hm, q⟩)
      · exact .inl (.inr ⟨i, j, rfl, rfl, wide_mul (a := 2000) (b := 2000) hm.1 hm.2 (by decide) (by decide) (by decide), q⟩)
    · cases h
  | fdiv =>
    have h : (if 0 < j ∧ j < 2 ^ 2000 then some (i / j) else none) = some k := h
    split at h
    · rename_i hm
      cases h
      have hb : j.natAbs < 2 ^ 2000 := by
        have h1 := hm.1
        have h2 := hm.2
        have e : ((j.natAbs : Nat) : Int) = j := Int.natAbs_of_nonneg (by omega)
        have h3 : ((j.natAbs : Nat) : Int) < ((2 ^ 2000 : Nat) : Int) := by rw [e]; exact_mod_cast h2
        exact Int.ofNat_lt.mp h3
      exact ⟨i, j, rfl, rfl, wide_div (b := 2000) hm.1 hb (by decide) (by decide), q⟩
    · cases h
  | mod =>
    have h : (if 0 < j then some (i % j) else none) = some k := h
    split at h
    · rename_i hm; cases h; exact ⟨i, j, rfl, rfl, hm, q⟩
    · cases h
  | pow =>
    have h : (if 0 ≤ j ∧ j ≤ 1000 ∧ i.natAbs < 2 ^ 64 then some (i ^ j.toNat) else none) = some k := h
    split at h
    · rename_i hm; cases h; exact ⟨i, j, rfl, rfl, ⟨hm.1, by omega, hm.2.2⟩, q⟩
    · cases h
  | shl =>
    have h : (if 0 ≤ j ∧ j ≤ 1000 ∧ i.natAbs < 2 ^ 64 then some (i * 2 ^ j.toNat) else none) = some k := h
    split at h
    · rename_i hm; cases h; exact ⟨i, j, rfl, rfl, ⟨hm.1, by omega, hm.2.2⟩, q⟩
    · cases h
  | shr =>
    have h : (if 0 ≤ j then some (i / 2 ^ j.toNat) else none) = some k := h
    split at h
    · rename_i hm; cases h; exact ⟨i, j, rfl, rfl, hm, q⟩
    · cases h
  | band => cases h; exact ⟨i, j, rfl, rfl, q⟩
  | bor => cases h; exact ⟨i, j, rfl, rfl, q⟩
  | bxor => cases h; exact ⟨i, j, rfl, rfl, q⟩
theorem bin_ok {o : Op} {x y z : D} {u u' : V} {Q : VK} (ok : Ok G w s H) (rx : RdR G.K w.N H x u) (ry : RdR G.K w.N H y u') (h : opD o x y = some z) (p : Post G W (relV G) w H σ (.ok (.d z) s) Q) : rO G.K o u u' H Q := by
  unfold opD at h
  split at h
  · rename_i i j
    cases q : opI o i j with
    | none => rw [q] at h; cases h
    | some k =>
      rw [q] at h; cases h
      rw [int_inv rx, int_inv ry]
      exact opI_ok q (Post.hereD ok p (rep_int k))
  · split at h
    · rename_i hc
      obtain ⟨rfl, hl⟩ := hc
      cases h
      rw [str_inv rx, str_inv ry]
      exact .inl (.inr ⟨_, _, rfl, rfl, by rw [← line_eq]; exact hl, Post.hereD ok p (rep_str _)⟩)
    · cases h
  · split at h
    · rename_i a b hc
      obtain ⟨rfl, hl⟩ := hc
      cases h
      obtain ⟨p1, v1, rfl, ⟨o1, d1, h1⟩, z1, r1⟩ := rep_tuq_inv rx
      obtain ⟨p2, v2, rfl, ⟨o2, d2, h2⟩, z2, r2⟩ := rep_tuq_inv ry
      have hl2 : (v1 ++ v2).length ≤ line := by rw [List.length_append, ← r1.length, ← r2.length]; exact hl
      refine .inr (.inr ⟨p1, p2, v1, v2, o1, o2, rfl, rfl, h1, h2, by rw [← line_eq, ← List.length_append]; exact hl2, fun hv => ?_, fun _ hv => ?_, fun _ _ => Post.newQ ok p (r1.append r2) hl2⟩)
      · subst hv
        have ea : a = [] := List.eq_nil_of_length_eq_zero (by rw [r1.length]; rfl)
        subst ea
        exact Post.hereD ok p (rep_tuq d2 h2 z2 r2)
      · subst hv
        have eb : b = [] := List.eq_nil_of_length_eq_zero (by rw [r2.length]; rfl)
        subst eb
        rw [List.append_nil] at p
        exact Post.hereD ok p (rep_tuq d1 h1 z1 r1)
    · cases h
  · split at h
    · rename_i a b hc
      obtain ⟨rfl, hl⟩ := hc
      cases h
      obtain ⟨p1, v1, rfl, h1, z1, r1⟩ := rep_tup_inv rx
      obtain ⟨p2, v2, rfl, h2, z2, r2⟩ := rep_tup_inv ry
      have hl2 : (v1 ++ v2).length ≤ line := by rw [List.length_append, ← r1.length, ← r2.length]; exact hl
      refine .inr (.inl (.inl ⟨p1, p2, v1, v2, rfl, rfl, h1, h2, by rw [← line_eq, ← List.length_append]; exact hl2, fun hv => ?_, fun _ hv => ?_, fun _ _ => Post.newT ok p (r1.append r2) hl2⟩))
      · subst hv
        have ea : a = [] := List.eq_nil_of_length_eq_zero (by rw [r1.length]; rfl)
        subst ea
        exact Post.hereD ok p (rep_tup h2 z2 r2)
      · subst hv
        have eb : b = [] := List.eq_nil_of_length_eq_zero (by rw [r2.length]; rfl)
        subst eb
        rw [List.append_nil] at p
        exact Post.hereD ok p (rep_tup h1 z1 r1)
    · cases h
  · split at h
    · rename_i a b hc
      obtain ⟨rfl, hl⟩ := hc
      cases h
      obtain ⟨p1, v1, rfl, h1, z1, r1⟩ := rx
      obtain ⟨p2, v2, rfl, h2, z2, r2⟩ := ry
      have hl2 : (v1 ++ v2).length ≤ line := by rw [List.length_append, ← r1.length, ← r2.length]; exact hl
      exact .inr (.inl (.inr ⟨p1, p2, v1, v2, rfl, rfl, h1, h2, by rw [← line_eq, ← List.length_append]; exact hl2, Post.newL ok p (r1.append r2) hl2⟩))
    · cases h
  · split at h
    · rename_i a k hc
      obtain ⟨rfl, hk1, hk2, hne, hl⟩ := hc
      cases h
      obtain ⟨p1, v1, rfl, h1, z1, r1⟩ := rep_tup_inv rx
      rw [int_inv ry]
      have hv : v1 ≠ [] := fun z => hne (List.eq_nil_of_length_eq_zero (by rw [r1.length, z]; rfl))
      have hl1 : v1.length ≤ 1000 := by rw [← r1.length]; exact hl
      have hl2 : (List.replicate k.toNat v1).flatten.length ≤ line := by
        rw [List.length_flatten, List.map_replicate, List.sum_replicate_nat]
        have h3 : k.toNat ≤ 1000 := by omega
        have h4 : k.toNat * v1.length ≤ 1000 * 1000 := Nat.mul_le_mul h3 hl1
        exact Nat.le_trans h4 (by decide)
      exact .inr (.inr ⟨p1, k, v1, rfl, rfl, h1, hv, hk1, hk2, hl1, Post.newT ok p (r1.rep _) hl2⟩)
    · cases h
  · split at h
    · rename_i a k hc
      obtain ⟨rfl, hk1, hk2, hl⟩ := hc
      cases h
      obtain ⟨p1, v1, rfl, h1, z1, r1⟩ := rx
      rw [int_inv ry]
      have hl1 : v1.length * k.toNat ≤ line := by rw [← r1.length]; exact hl
      have hl2 : (List.replicate k.toNat v1).flatten.length ≤ line := by
        rw [List.length_flatten, List.map_replicate, List.sum_replicate_nat, Nat.mul_comm]; exact hl1
      exact .inr (.inl ⟨p1, k, v1, rfl, rfl, h1, hk1, hk2, by rw [← line_eq]; exact hl1, Post.newL ok p (r1.rep _) hl2⟩)
    · cases h
  · cases h
variable {X : Cx} {a b c : Expr} {ma mb mc : ME} {pos : Pos}
theorem s_bin (hK : G.K = X.K) (o : Op) (ha : PE X a (tE G W ma)) (hb : PE X b (tE G W mb)) : PE X (.BinOp a o.o b pos) (tE G W (mBin o ma mb)) := by
  refine impE (pe_op (op_rO o) ha hb) fun σ H Q ⟨w, s, e, ok, er, h⟩ => ?_
  refine ⟨w, s, e, ok, er, Post.bind (rel := relV G) h fun w1 s1 H1 v u x1 ok1 r1 h1 => ⟨w1, s1, e, ok1, er.ext ok x1, Post.bind (rel := relV G) h1 fun w2 s2 H2 v' u' x2 ok2 r2 h2 => ?_⟩⟩
  have r1 := r1.ext ok1 x2
  rw [← hK]
  cases q1 : rd s2 v with
  | none => rw [q1] at h2; exact h2.elim
  | some x =>
    cases q2 : rd s2 v' with
    | none => rw [q1, q2] at h2; exact h2.elim
    | some y =>
      rw [q1, q2] at h2
      cases q3 : opD o x y with
      | none => simp only [q3] at h2; exact h2.elim
      | some z =>
        simp only [q3] at h2
        exact bin_ok ok2 (rd_ok ok2 r1 q1) (rd_ok ok2 r2 q2) q3 h2
end
end MP
end

section
set_option Elab.async false
set_option linter.all false
set_option maxRecDepth 100000
set_option maxHeartbeats 4000000
/-! MP, part c: comparisons, tests, displays, items, built-ins. -/
namespace MP
open PySem PySem.Spec PyProof.Rows L2

section
variable {G : Gd} {W : WX} {w w1 : Wd} {s s1 : S} {H H1 : Hp} {e : Env} {σ : L2.St}
mutual
theorem dp_of {K : PySem.W.Frag} {N : Addr → Prop} : ∀ (x : D) {u : V}, Rep K N H x u → x.py.canLay0 = true → Dp K H u x.py
  | .non, u, h, _ => by unfold Rep at h; subst h; exact .non
  | .bl _, u, h, _ => by unfold Rep at h; subst h; exact .bl _
  | .int _, u, h, _ => by unfold Rep at h; subst h; exact .int _
  | .str _, u, h, _ => by unfold Rep at h; subst h; exact .str _
  | .tup xs, u, h, c => by
    unfold Rep at h
    obtain ⟨p, vs, rfl, h1, _, h2⟩ := h
    unfold D.py at c ⊢
    exact .tup h1 (dps_of xs h2 (by simpa [PyData.canLay0] using c))
  | .tuq xs, u, h, c => by
    unfold Rep at h
    obtain ⟨p, vs, rfl, ⟨o, _, h1⟩, _, h2⟩ := h
    unfold D.py at c ⊢
    exact .tup (.inl (.inr ⟨o, h1⟩)) (dps_of xs h2 (by simpa [PyData.canLay0] using c))
  | .lst xs, u, h, c => by
    unfold Rep at h
    obtain ⟨p, vs, rfl, _, h1, _, h2⟩ := h
    unfold D.py at c ⊢
    exact .lst (.inl (.inl h1)) (dps_of xs h2 (by simpa [PyData.canLay0] using c))
  | .dic _ _, u, h, c => by unfold D.py at c; simp [PyData.canLay0] at c
theorem dps_of {K : PySem.W.Frag} {N : Addr → Prop} : ∀ (xs : List D) {us : List V}, Reps K N H xs us → PyData.canLayAll0 (D.pys xs) = true → DpAll K H us (D.pys xs)
  | [], us, h, _ => by unfold Reps at h; subst h; exact .nil
  | x :: xs, us, h, c => by
    unfold Reps at h
    obtain ⟨v, r, rfl, h1, h2⟩ := h
    unfold D.pys at c ⊢
    have c' : x.py.canLay0 = true ∧ PyData.canLayAll0 (D.pys xs) = true := by simpa [PyData.canLayAll0] using c
    exact .cons (dp_of x h1 c'.1) (dps_of xs h2 c'.2)
end
theorem dp_rd {K : PySem.W.Frag} {N : Addr → Prop} {x : D} {u : V} (h : RdR K N H x u) (c : SeqAt.shaped x.py = true) : Dp K H u x.py := by
  have c0 := SeqAt.canLay_of_shaped c
  cases x with
  | lst xs =>
    obtain ⟨p, vs, rfl, h1, _, h2⟩ := h
    unfold D.py at c0 ⊢
    exact .lst (.inl (.inl h1)) (dps_of xs h2 (by simpa [PyData.canLay0] using c0))
  | _ => exact dp_of (K := K) (N := N) (H := H) _ h c0
theorem flat_rep {K : PySem.W.Frag} {N : Addr → Prop} {x : D} {u : V} (h : RdR K N H x u) (f : flat x = true) : flatV u = true := by
  cases x with
  | non => rw [non_inv h]; rfl
  | bl b => rw [bl_inv h]; rfl
  | int i => rw [int_inv h]; rfl
  | str i => rw [str_inv h]; rfl
  | _ => cases f
theorem eqF_rep {K : PySem.W.Frag} {N : Addr → Prop} {x y : D} {u v : V} (hx : RdR K N H x u) (hy : RdR K N H y v) (fx : flat x = true) (fy : flat y = true) : eqV u v = eqF x y := by
  cases x with
  | non => rw [non_inv hx]; cases y with
    | non => rw [non_inv hy]; rfl
    | bl b => rw [bl_inv hy]; rfl
    | int i => rw [int_inv hy]; rfl
    | str i => rw [str_inv hy]; rfl
    | _ => cases fy
  | bl b => rw [bl_inv hx]; cases y with
    | non => rw [non_inv hy]; rfl
    | bl b => rw [bl_inv hy]; rfl
    | int i => rw [int_inv hy]; rfl
    | str i => rw [str_inv hy]; rfl
    | _ => cases fy
  | int i => rw [int_inv hx]; cases y with
    | non => rw [non_inv hy]; rfl
    | bl b => rw [bl_inv hy]; rfl
    | int i => rw [int_inv hy]; rfl
    | str i => rw [str_inv hy]; rfl
    | _ => cases fy
  | str i => rw [str_inv hx]; cases y with
    | non => rw [non_inv hy]; rfl
    | bl b => rw [bl_inv hy]; rfl
    | int i => rw [int_inv hy]; rfl
    | str i => rw [str_inv hy]; rfl
    | _ => cases fy
  | _ => cases fx
theorem flats_rep {K : PySem.W.Frag} {N : Addr → Prop} : ∀ {xs : List D} {us : List V}, Reps K N H xs us → xs.all flat = true → us.all flatV = true
  | [], us, h, _ => by unfold Reps at h; subst h; rfl
  | x :: xs, us, h, f => by
    unfold Reps at h
    obtain ⟨v, r, rfl, h1, h2⟩ := h
    rw [List.all_cons, Bool.and_eq_true] at f ⊢
    exact ⟨flat_rep (.of_rep h1) f.1, flats_rep h2 f.2⟩
theorem in_rep {K : PySem.W.Frag} {N : Addr → Prop} {x : D} {u : V} (hx : RdR K N H x u) (fx : flat x = true) : ∀ {xs : List D} {us : List V}, Reps K N H xs us → xs.all flat = true → inV u us = xs.any fun y => eqF y x
  | [], us, h, _ => by unfold Reps at h; subst h; rfl
  | y :: xs, us, h, f => by
    unfold Reps at h
    obtain ⟨v, r, rfl, h1, h2⟩ := h
    rw [List.all_cons, Bool.and_eq_true] at f
    have ih := in_rep hx fx h2 f.2
    unfold inV at ih ⊢
    rw [List.any_cons, List.any_cons, ih, eqF_rep (.of_rep h1) hx f.1 fx]
/-- a list or a tuple as it lies -/
theorem items_rep {K : PySem.W.Frag} {N : Addr → Prop} {y : D} {xs : List D} {u : V} (h : RdR K N H y u) (e : items y = some xs) : ∃ p vs, u = .ref p ∧ (SqL K H p vs ∨ SqT K H p vs) ∧ vs.length ≤ line ∧ Reps K N H xs vs := by
  cases y with
  | tup ys =>
    cases e
    obtain ⟨p, vs, e, h1, hz, h2⟩ := rep_tup_inv h
    exact ⟨p, vs, e, .inr h1, hz, h2⟩
  | tuq ys =>
    cases e
    obtain ⟨p, vs, e, ⟨o, _, h1⟩, hz, h2⟩ := rep_tuq_inv h
    exact ⟨p, vs, e, .inr (.inl (.inr ⟨o, h1⟩)), hz, h2⟩
  | lst ys =>
    cases e
    obtain ⟨p, vs, e, h1, hz, h2⟩ := h
    exact ⟨p, vs, e, .inl (.inl (.inl h1)), hz, h2⟩
  | _ => cases e

def Cmp.o : Cmp → CmpOp
  | .lt => .Lt | .le => .LtE | .gt => .Gt | .ge => .GtE | .eq => .Eq | .ne => .NotEq | .in_ => .In | .notin => .NotIn
def rC (K : PySem.W.Frag) : Cmp → R2
  | .lt => rI0 fun i j => .bl (decide (i < j))
  | .le => rI0 fun i j => .bl (decide (i ≤ j))
  | .gt => rI0 fun i j => .bl (decide (j < i))
  | .ge => rI0 fun i j => .bl (decide (j ≤ i))
  | .eq => fun x y H Q => rEq x y H Q ∨ rEqD K x y H Q
  | .ne => fun x y H Q => rNe x y H Q ∨ rNeD K x y H Q
  | .in_ => rIn K false
  | .notin => rIn K true
theorem op_rC {X : Cx} (hu : X.A.units + 64 < cLine) : ∀ o : Cmp, OpR X (compareOp o.o) (rC X.K o)
  | .lt => op_lt
  | .le => op_le
  | .gt => op_gt
  | .ge => op_ge
  | .eq => op_eq.or (op_eqD hu)
  | .ne => op_ne.or (op_neD hu)
  | .in_ => op_in_seq
  | .notin => op_notIn_seq
theorem eqD_ok {K : PySem.W.Frag} {N : Addr → Prop} {x y : D} {u v : V} {b : Bool} (hx : RdR K N H x u) (hy : RdR K N H y v) (h : eqD x y = some b) :
    (scal u v = true ∧ decide (u = v) = b) ∨ ∃ d e, Dp K H u d ∧ Dp K H v e ∧ SeqAt.shaped d = true ∧ SeqAt.shaped e = true ∧ PyData.eqv d e = b := by
  unfold eqD at h
  split at h
  case h_15 =>
    split at h
    · rename_i hs
      rw [Bool.and_eq_true] at hs
      cases h
      exact .inr ⟨_, _, dp_rd hx hs.1, dp_rd hy hs.2, hs.1, hs.2, rfl⟩
    · cases h
  all_goals
    refine .inl ?_
    cases h
    first
      | (rw [non_inv hx, non_inv hy]; exact ⟨rfl, rfl⟩)
      | (rw [int_inv hx, int_inv hy]; exact ⟨rfl, dec_int⟩)
      | (rw [bl_inv hx, bl_inv hy]; exact ⟨rfl, dec_bl⟩)
      | (rw [str_inv hx, str_inv hy]; exact ⟨rfl, dec_str⟩)
      | (rw [non_inv hx, int_inv hy]; exact ⟨rfl, rfl⟩)
      | (rw [non_inv hx, bl_inv hy]; exact ⟨rfl, rfl⟩)
      | (rw [non_inv hx, str_inv hy]; exact ⟨rfl, rfl⟩)
      | (rw [int_inv hx, non_inv hy]; exact ⟨rfl, rfl⟩)
      | (rw [bl_inv hx, non_inv hy]; exact ⟨rfl, rfl⟩)
      | (rw [str_inv hx, non_inv hy]; exact ⟨rfl, rfl⟩)
      | (rw [int_inv hx, str_inv hy]; exact ⟨rfl, rfl⟩)
      | (rw [str_inv hx, int_inv hy]; exact ⟨rfl, rfl⟩)
      | (rw [bl_inv hx, str_inv hy]; exact ⟨rfl, rfl⟩)
      | (rw [str_inv hx, bl_inv hy]; exact ⟨rfl, rfl⟩)
theorem inD_ok {K : PySem.W.Frag} {N : Addr → Prop} {x y : D} {u v : V} {b : Bool} (hx : RdR K N H x u) (hy : RdR K N H y v) (h : inD x y = some b) :
    ∃ p xs, v = .ref p ∧ (SqL K H p xs ∨ SqT K H p xs) ∧ flatV u = true ∧ xs.all flatV = true ∧ inV u xs = b := by
  unfold inD at h
  cases q : items y with
  | none => rw [q] at h; cases h
  | some xs =>
    rw [q] at h
    dsimp only at h
    split at h
    · rename_i hf
      rw [Bool.and_eq_true] at hf
      cases h
      obtain ⟨p, vs, e, h1, _, h2⟩ := items_rep hy q
      exact ⟨p, vs, e, h1, flat_rep hx hf.1, flats_rep h2 hf.2, in_rep hx hf.1 h2 hf.2⟩
    · cases h
theorem cmp_ok {o : Cmp} {x y : D} {u v : V} {b : Bool} {Q : VK} {K : PySem.W.Frag} {N : Addr → Prop} (hx : RdR K N H x u) (hy : RdR K N H y v) (h : cmpD o x y = some b) (q : Q (.bl b) H) : rC K o u v H Q := by
  cases o with
  | eq =>
    rcases eqD_ok hx hy h with ⟨h1, h2⟩ | ⟨d, e, h1, h2, h3, h4, h5⟩
    · exact .inl ⟨h1, by rw [h2]; exact q⟩
    · exact .inr ⟨d, e, h1, h2, h3, h4, by rw [h5]; exact q⟩
  | ne =>
    have h : (eqD x y).map (!·) = some b := h
    cases e : eqD x y with
    | none => rw [e] at h; cases h
    | some c =>
      rw [e] at h
      cases h
      rcases eqD_ok hx hy e with ⟨h1, h2⟩ | ⟨d, e, h1, h2, h3, h4, h5⟩
      · exact .inl ⟨h1, by rw [h2]; exact q⟩
      · exact .inr ⟨d, e, h1, h2, h3, h4, by rw [h5]; exact q⟩
  | in_ =>
    obtain ⟨p, xs, h1, h2, h3, h4, h5⟩ := inD_ok hx hy h
    refine ⟨p, xs, h1, h2, h3, h4, ?_⟩
    simp only [Bool.false_eq_true, if_false, h5]
    exact q
  | notin =>
    have h : (inD x y).map (!·) = some b := h
    cases e : inD x y with
    | none => rw [e] at h; cases h
    | some c =>
      rw [e] at h
      cases h
      obtain ⟨p, xs, h1, h2, h3, h4, h5⟩ := inD_ok hx hy e
      refine ⟨p, xs, h1, h2, h3, h4, ?_⟩
      simp only [if_true, h5]
      exact q
  | lt =>
    unfold cmpD at h
    dsimp only at h
    split at h
    · cases h; rw [int_inv hx, int_inv hy]; exact ⟨_, _, rfl, rfl, q⟩
    · cases h
  | le =>
    unfold cmpD at h
    dsimp only at h
    split at h
    · cases h; rw [int_inv hx, int_inv hy]; exact ⟨_, _, rfl, rfl, q⟩
    · cases h
  | gt =>
    unfold cmpD at h
    dsimp only at h
    split at h
    · cases h; rw [int_inv hx, int_inv hy]; exact ⟨_, _, rfl, rfl, q⟩
    · cases h
  | ge =>
    unfold cmpD at h
    dsimp only at h
    split at h
    · cases h; rw [int_inv hx, int_inv hy]; exact ⟨_, _, rfl, rfl, q⟩
    · cases h
end

section
variable {X : Cx} {G : Gd} {W : WX} {pos : Pos} {a b c : Expr} {ma mb mc : ME}
/-- two operands, then what is done with their data -/
theorem two {β β' : Type} {rel : Wd → S → Hp → β → β' → Prop} {R : V → V → Hp → Prop} {Qe : β' → Hp → Prop} {σ : L2.St} {H : Hp} {w : Wd} {s : S} {e : Env} {f : Val → Val → S → MP.R β}
    (ok : Ok G w s H) (er : EnvR G w H e σ) (h : Post G W rel w H σ ((ma e s).bind fun x s => (mb e s).bind fun y s => f x y s) Qe)
    (hf : ∀ w s H v v' u u', Ok G w s H → SlotR G w H v u → SlotR G w H v' u' → EnvR G w H e σ → Post G W rel w H σ (f v v' s) Qe → R u u' H) :
    tE G W ma σ H fun x H1 => tE G W mb σ H1 fun y H2 => R x y H2 :=
  ⟨w, s, e, ok, er, Post.bind (rel := relV G) h fun w1 s1 H1 v u x1 ok1 r1 h1 => ⟨w1, s1, e, ok1, er.ext ok x1, Post.bind (rel := relV G) h1 fun w2 s2 H2 v' u' x2 ok2 r2 h2 =>
    hf w2 s2 H2 v v' u u' ok2 (r1.ext ok1 x2) r2 ((er.ext ok x1).ext ok1 x2) h2⟩⟩
theorem one {β β' : Type} {rel : Wd → S → Hp → β → β' → Prop} {R : V → Hp → Prop} {Qe : β' → Hp → Prop} {σ : L2.St} {H : Hp} {w : Wd} {s : S} {e : Env} {f : Val → S → MP.R β}
    (ok : Ok G w s H) (er : EnvR G w H e σ) (h : Post G W rel w H σ ((ma e s).bind fun x s => f x s) Qe)
    (hf : ∀ w s H v u, Ok G w s H → SlotR G w H v u → EnvR G w H e σ → Post G W rel w H σ (f v s) Qe → R u H) : tE G W ma σ H fun x H1 => R x H1 :=
  ⟨w, s, e, ok, er, Post.bind (rel := relV G) h fun w1 s1 H1 v u x1 ok1 r1 h1 => hf w1 s1 H1 v u ok1 r1 (er.ext ok x1) h1⟩
theorem slot_d {w : Wd} {H : Hp} {x : D} {u : V} (r : SlotR G w H (.d x) u) : RdR G.K w.N H x u := RdR.of_rep r
theorem sl_bl {w : Wd} {H : Hp} (b : Bool) : SlotR G w H (.d (.bl b)) (.bl b) := rep_bl (K := G.K) (N := w.N) (H := H) b
theorem sl_int {w : Wd} {H : Hp} (b : Int) : SlotR G w H (.d (.int b)) (.int b) := rep_int (K := G.K) (N := w.N) (H := H) b
theorem one' {mt : MT} {β β' : Type} {rel : Wd → S → Hp → β → β' → Prop} {R : Bool → Hp → Prop} {Qe : β' → Hp → Prop} {σ : L2.St} {H : Hp} {w : Wd} {s : S} {e : Env} {f : Bool → S → MP.R β}
    (ok : Ok G w s H) (er : EnvR G w H e σ) (h : Post G W rel w H σ ((mt e s).bind fun x s => f x s) Qe)
    (hf : ∀ w s H v, Ok G w s H → EnvR G w H e σ → Post G W rel w H σ (f v s) Qe → R v H) : tT G W mt σ H fun x H1 => R x H1 :=
  ⟨w, s, e, ok, er, Post.bind (rel := relB) h fun w1 s1 H1 v u x1 ok1 r1 h1 => by subst r1; exact hf w1 s1 H1 v ok1 (er.ext ok x1) h1⟩
theorem rds_two {β : Type} {w : Wd} {s : S} {H : Hp} {σ : L2.St} {v v' : Val} {u u' : V} {f : D → D → MP.R β} {β' : Type} {rel : Wd → S → Hp → β → β' → Prop} {Q : β' → Hp → Prop} (ok : Ok G w s H) (r : SlotR G w H v u) (r' : SlotR G w H v' u')
    (h : Post G W rel w H σ (match rd s v, rd s v' with
      | some x, some y => f x y
      | _, _ => .stuck) Q) : ∃ x y, RdR G.K w.N H x u ∧ RdR G.K w.N H y u' ∧ Post G W rel w H σ (f x y) Q := by
  cases q1 : rd s v with
  | none => rw [q1] at h; exact h.elim
  | some x =>
    cases q2 : rd s v' with
    | none => rw [q1, q2] at h; exact h.elim
    | some y =>
      rw [q1, q2] at h
      exact ⟨x, y, rd_ok ok r q1, rd_ok ok r' q2, h⟩
theorem of_ok {β : Type} {w : Wd} {s : S} {H : Hp} {σ : L2.St} {o : Option β} {β' : Type} {rel : Wd → S → Hp → β → β' → Prop} {Q : β' → Hp → Prop} (h : Post G W rel w H σ (R.of o s) Q) : ∃ x, o = some x ∧ Post G W rel w H σ (.ok x s) Q := by
  cases o with
  | none => exact h.elim
  | some x => exact ⟨x, rfl, h⟩
theorem s_cmp (hK : G.K = X.K) (hu : X.A.units + 64 < cLine) (o : Cmp) (ha : PE X a (tE G W ma)) (hb : PE X b (tE G W mb)) (hm : behindInMarks o.o b = false) : PT X (.Compare a [o.o] [b] pos) (tT G W (mCmp o ma mb)) := by
  refine impT (pt_cmpR (op_rC hu o) ha hb hm) fun σ H Q ⟨w, s, e, ok, er, h⟩ => ?_
  refine two (W := W) (R := fun x y H => rC X.K o x y H fun x H' => ∃ k, x = .bl k ∧ Q k H') ok er h fun w s H v v' u u' ok r r' _ h => ?_
  obtain ⟨x, y, rx, ry, h⟩ := rds_two ok r r' h
  obtain ⟨k, e, h⟩ := of_ok h
  rw [← hK]
  exact cmp_ok rx ry e ⟨k, rfl, Post.hereB ok h⟩
theorem s_cmpV (hK : G.K = X.K) (hu : X.A.units + 64 < cLine) (o : Cmp) (ha : PE X a (tE G W ma)) (hb : PE X b (tE G W mb)) (hm : behindInMarks o.o b = false) : PE X (.Compare a [o.o] [b] pos) (tE G W (mBl (mCmp o ma mb))) := by
  refine impE (pe_cmpR (op_rC hu o) ha hb hm) fun σ H Q ⟨w, s, e, ok, er, h⟩ => ?_
  unfold mBl mCmp at h
  have h : Post G W (relV G) w H σ ((ma e s).bind fun x s => (mb e s).bind fun y s => (match rd s x, rd s y with
    | some x, some y => R.of (cmpD o x y) s
    | _, _ => .stuck).bind fun b s => .ok (.d (.bl b)) s) Q := by
    revert h
    cases ma e s with
    | ok v s => dsimp only [R.bind_ok]; cases mb e s <;> exact id
    | exn c x s => exact id
    | stuck => exact id
  refine two (W := W) (R := fun x y H => rC X.K o x y H Q) ok er h fun w s H v v' u u' ok r r' _ h => ?_
  cases q1 : rd s v with
  | none => rw [q1] at h; exact h.elim
  | some x =>
    cases q2 : rd s v' with
    | none => rw [q1, q2] at h; exact h.elim
    | some y =>
      rw [q1, q2] at h
      cases q3 : cmpD o x y with
      | none => simp only [q3] at h; exact h.elim
      | some k =>
        simp only [q3] at h
        rw [← hK]
        exact cmp_ok (rd_ok ok r q1) (rd_ok ok r' q2) q3 (Post.hereD ok h (rep_bl k))
theorem truD_ok {K : PySem.W.Frag} {N : Addr → Prop} {H : Hp} {x : D} {u : V} {k : Bool} (r : RdR K N H x u) (h : truD x = some k) : TruV K u H k := by
  have emp : ∀ {xs : List D} {vs : List V}, Reps K N H xs vs → (!xs.isEmpty) = !vs.isEmpty := fun {xs vs} r => by
    cases xs with
    | nil => unfold Reps at r; subst r; rfl
    | cons x xs => unfold Reps at r; obtain ⟨v, r, rfl, _, _⟩ := r; rfl
  cases x with
  | non => cases h; rw [non_inv r]; rfl
  | bl b => cases h; rw [bl_inv r]; rfl
  | int i => cases h; rw [int_inv r]; rfl
  | str x =>
    have h : (if x.length ≤ line then some ((x.length : Int) != 0) else none) = some k := h
    split at h
    · rename_i hl; cases h; rw [str_inv r]; exact ⟨by rw [← line_eq]; exact hl, rfl⟩
    · cases h
  | tup xs =>
    cases h
    obtain ⟨p, vs, rfl, h1, _, h2⟩ := rep_tup_inv r
    exact .inr (.inl ⟨vs, h1, emp h2⟩)
  | lst xs =>
    cases h
    obtain ⟨p, vs, rfl, h1, _, h2⟩ := r
    exact .inl ⟨vs, .inl (.inl h1), emp h2⟩
  | tuq xs => cases h
  | dic ks us => cases h
theorem truV_ok {w : Wd} {s : S} {H : Hp} {v : Val} {u : V} {k : Bool} (ok : Ok G w s H) (r : SlotR G w H v u) (h : truV s v = some k) : TruV G.K u H k := by
  unfold truV at h
  cases q : rd s v with
  | none => rw [q] at h; cases h
  | some x => rw [q] at h; exact truD_ok (rd_ok ok r q) h
theorem s_tru (hK : G.K = X.K) (ha : PE X a (tE G W ma)) (he : ∀ whole, isTrue a X.env whole = (do let v ← whole; standAt a.pos; holding [v] (truthy v))) : PT X a (tT G W (mTru ma)) := by
  refine impT (pt_truth ha he) fun σ H Q ⟨w, s, e, ok, er, h⟩ => ?_
  refine one (R := fun x H => ∃ k, TruV X.K x H k ∧ Q k H) ok er h fun w s H v u ok r _ h => ?_
  obtain ⟨k, e, h⟩ := of_ok h
  exact ⟨k, by rw [← hK]; exact truV_ok ok r e, Post.hereB ok h⟩
variable {ta tb : MT}
theorem s_not (ha : PT X a (tT G W ta)) : PT X (.UnaryOp .Not a pos) (tT G W (mNot ta)) := by
  refine impT (pt_not ha) fun σ H Q ⟨w, s, e, ok, er, h⟩ => ?_
  exact one' (R := fun x H => Q (!x) H) ok er h fun w s H v ok _ h => Post.hereB ok h
theorem s_and1 (ha : PT X a (tT G W ta)) : PW X (.BoolOp .And [a] pos) (tT G W ta) := pw_and1 ha
theorem s_or1 (ha : PT X a (tT G W ta)) : PW X (.BoolOp .Or [a] pos) (tT G W ta) := pw_or1 ha
theorem s_and {rest : List Expr} (ha : PT X a (tT G W ta)) (hb : PW X (.BoolOp .And (b :: rest) pos) (tT G W tb)) : PW X (.BoolOp .And (a :: b :: rest) pos) (tT G W (mAnd ta tb)) := by
  refine impW (pw_and ha hb) fun σ H Q ⟨w, s, e, ok, er, h⟩ => ?_
  refine one' (R := fun x H => if x = true then tT G W tb σ H Q else Q false H) ok er h fun w s H v ok er h => ?_
  cases v with
  | true => rw [if_pos rfl] at h ⊢; exact ⟨w, s, _, ok, er, h⟩
  | false => exact Post.hereB (v := false) ok h
theorem s_or {rest : List Expr} (ha : PT X a (tT G W ta)) (hb : PW X (.BoolOp .Or (b :: rest) pos) (tT G W tb)) : PW X (.BoolOp .Or (a :: b :: rest) pos) (tT G W (mOr ta tb)) := by
  refine impW (pw_or ha hb) fun σ H Q ⟨w, s, e, ok, er, h⟩ => ?_
  refine one' (R := fun x H => if x = true then Q true H else tT G W tb σ H Q) ok er h fun w s H v ok er h => ?_
  cases v with
  | true => exact Post.hereB (v := true) ok h
  | false =>
    rw [if_neg Bool.false_ne_true] at h ⊢
    exact ⟨w, s, _, ok, er, h⟩
theorem s_andV {rest : List Expr} (ha : PE X a (tE G W ma)) (hb : PE X (.BoolOp .And (b :: rest) pos) (tE G W mb)) : PE X (.BoolOp .And (a :: b :: rest) pos) (tE G W (mAndV ma mb)) := by
  refine impE (pe_and ha hb) fun σ H Q ⟨w, s, e, ok, er, h⟩ => ?_
  refine one (R := fun x H => ∃ c, x = .bl c ∧ if c = true then tE G W mb σ H Q else Q (.bl false) H) ok er h fun w s H v u ok r er h => ?_
  match v, h with
  | .d (.bl true), h => exact ⟨true, bl_inv (slot_d r), by rw [if_pos rfl]; exact ⟨w, s, _, ok, er, h⟩⟩
  | .d (.bl false), h => exact ⟨false, bl_inv (slot_d r), Post.hereD ok h (rep_bl false)⟩
theorem s_orV {rest : List Expr} (ha : PE X a (tE G W ma)) (hb : PE X (.BoolOp .Or (b :: rest) pos) (tE G W mb)) : PE X (.BoolOp .Or (a :: b :: rest) pos) (tE G W (mOrV ma mb)) := by
  refine impE (pe_or ha hb) fun σ H Q ⟨w, s, e, ok, er, h⟩ => ?_
  refine one (R := fun x H => ∃ c, x = .bl c ∧ if c = true then Q (.bl true) H else tE G W mb σ H Q) ok er h fun w s H v u ok r er h => ?_
  match v, h with
  | .d (.bl true), h => exact ⟨true, bl_inv (slot_d r), Post.hereD ok h (rep_bl true)⟩
  | .d (.bl false), h => exact ⟨false, bl_inv (slot_d r), by rw [if_neg Bool.false_ne_true]; exact ⟨w, s, _, ok, er, h⟩⟩
theorem s_notV (hK : G.K = X.K) (ha : PE X a (tE G W ma)) : PE X (.UnaryOp .Not a pos) (tE G W (mBl (mNot (mTru ma)))) := by
  refine impE (pe_notT ha) fun σ H Q ⟨w, s, e, ok, er, h⟩ => ?_
  have h : Post G W (relV G) w H σ ((ma e s).bind fun v s => (match truV s v with
    | some k => .ok (.d (.bl (!k))) s
    | none => .stuck)) Q := by
    revert h
    unfold mBl mNot mTru
    cases ma e s with
    | ok v s => dsimp only [R.bind_ok]; cases truV s v <;> exact id
    | exn c x s => exact id
    | stuck => exact id
  refine one (R := fun x H => ∃ k, TruV X.K x H k ∧ Q (.bl (!k)) H) ok er h fun w s H v u ok r _ h => ?_
  cases q : truV s v with
  | none => rw [q] at h; exact h.elim
  | some k =>
    rw [q] at h
    exact ⟨k, by rw [← hK]; exact truV_ok ok r q, Post.hereD ok h (rep_bl _)⟩
theorem s_ifE (hc : PT X c (tT G W ta)) (ha : PE X a (tE G W ma)) (hb : PE X b (tE G W mb)) : PE X (.IfExp c a b pos) (tE G W (mIfE ta ma mb)) := by
  refine impE (pe_ifExp hc ha hb) fun σ H Q ⟨w, s, e, ok, er, h⟩ => ?_
  refine one' (R := fun x H => if x = true then tE G W ma σ H Q else tE G W mb σ H Q) ok er h fun w s H v ok er h => ?_
  cases v with
  | true => rw [if_pos rfl] at h ⊢; exact ⟨w, s, _, ok, er, h⟩
  | false => rw [if_neg Bool.false_ne_true] at h ⊢; exact ⟨w, s, _, ok, er, h⟩
/-! ### is None -/
theorem isN_val {w : Wd} {H : Hp} {v : Val} {u : V} (r : SlotR G w H v u) : (v = .d .non → u = .non) ∧ (v ≠ .d .non → u ≠ .non) := by
  cases v with
  | d x =>
    cases x with
    | non => exact ⟨fun _ => non_inv (slot_d r), fun h => absurd rfl h⟩
    | bl b => exact ⟨(fun h => by cases h), fun _ => by rw [bl_inv (slot_d r)]; exact fun h => by cases h⟩
    | int b => exact ⟨(fun h => by cases h), fun _ => by rw [int_inv (slot_d r)]; exact fun h => by cases h⟩
    | str b => exact ⟨(fun h => by cases h), fun _ => by rw [str_inv (slot_d r)]; exact fun h => by cases h⟩
    | tup xs =>
      obtain ⟨p, vs, e, _⟩ := rep_tup_inv (slot_d r)
      exact ⟨(fun h => by cases h), fun _ => by rw [e]; exact fun h => by cases h⟩
    | tuq xs =>
      obtain ⟨p, vs, e, _⟩ := rep_tuq_inv (slot_d r)
      exact ⟨(fun h => by cases h), fun _ => by rw [e]; exact fun h => by cases h⟩
    | lst xs =>
      obtain ⟨p, vs, e, _⟩ := slot_d r
      exact ⟨(fun h => by cases h), fun _ => by rw [e]; exact fun h => by cases h⟩
    | dic ks us =>
      have r : Rep G.K w.N H (.dic ks us) u := r
      unfold Rep at r
      obtain ⟨p, vs, e, _⟩ := r
      exact ⟨(fun h => by cases h), fun _ => by rw [e]; exact fun h => by cases h⟩
  | ref n => obtain ⟨p, _, e⟩ := r; exact ⟨(fun h => by cases h), fun _ => by rw [e]; exact fun h => by cases h⟩
  | own xs => obtain ⟨p, vs, e, _⟩ := r; exact ⟨(fun h => by cases h), fun _ => by rw [e]; exact fun h => by cases h⟩
  | ownT ks xs => obtain ⟨p, vs, e, _⟩ := r; exact ⟨(fun h => by cases h), fun _ => by rw [e]; exact fun h => by cases h⟩
  | snap xs => obtain ⟨p, vs, e, _⟩ := r; exact ⟨(fun h => by cases h), fun _ => by rw [e]; exact fun h => by cases h⟩
  | exc c x => obtain ⟨p, vs, _, e, _⟩ := r; exact ⟨(fun h => by cases h), fun _ => by rw [e]; exact fun h => by cases h⟩
  | scr xs => obtain ⟨p, e, _⟩ := r; exact ⟨(fun h => by cases h), fun _ => by rw [e]; exact fun h => by cases h⟩
theorem isN_post {w : Wd} {s : S} {H : Hp} {σ : L2.St} {v : Val} {u : V} {neg : Bool} {Q : Bool → Hp → Prop} (ok : Ok G w s H) (r : SlotR G w H v u)
    (h : Post G W relB w H σ ((if neg then mNotN (fun _ s => .ok v s) else mIsN (fun _ s => .ok v s)) [] s) Q) : Q (if neg then !decide (u = .non) else decide (u = .non)) H := by
  obtain ⟨r1, r2⟩ := isN_val r
  by_cases hv : v = .d .non
  · have e := r1 hv
    subst hv e
    cases neg
    · exact Post.hereB ok h
    · exact Post.hereB ok h
  · have e := decide_eq_false (r2 hv)
    rw [e]
    cases neg
    · cases v with
      | d x => cases x <;> first | exact absurd rfl hv | exact Post.hereB ok h
      | exc c x => exact h.elim
      | _ => exact Post.hereB ok h
    · cases v with
      | d x => cases x <;> first | exact absurd rfl hv | exact Post.hereB ok h
      | exc c x => exact h.elim
      | _ => exact Post.hereB ok h
theorem s_isN {j pos'} (ha : PE X a (tE G W ma)) : PT X (.Compare a [.Is] [.Constant .none j pos'] pos) (tT G W (mIsN ma)) := by
  refine impT (pt_cmpR op_isN ha pe_non rfl) fun σ H Q ⟨w, s, e, ok, er, h⟩ => ?_
  refine one (R := fun x H => V.non = .non ∧ ∃ k, V.bl (decide (x = .non)) = .bl k ∧ Q k H) ok er h fun w s H v u ok r _ h => ⟨rfl, _, rfl, isN_post (neg := false) (v := v) ok r h⟩
theorem s_notN {j pos'} (ha : PE X a (tE G W ma)) : PT X (.Compare a [.IsNot] [.Constant .none j pos'] pos) (tT G W (mNotN ma)) := by
  refine impT (pt_cmpR op_notN ha pe_non rfl) fun σ H Q ⟨w, s, e, ok, er, h⟩ => ?_
  refine one (R := fun x H => V.non = .non ∧ ∃ k, V.bl (!decide (x = .non)) = .bl k ∧ Q k H) ok er h fun w s H v u ok r _ h => ⟨rfl, _, rfl, isN_post (neg := true) (v := v) ok r h⟩
theorem bl_bind {w : Wd} {s : S} {H : Hp} {σ : L2.St} {e : Env} {v : Val} {Q : V → Hp → Prop} {f : ME → MT} (h : Post G W (relV G) w H σ ((f (fun _ s => .ok v s) e s).bind fun b s => .ok (.d (.bl b)) s) Q) : Post G W relB w H σ (f (fun _ s => .ok v s) e s) fun b H => Q (.bl b) H := by
  cases q : f (fun _ s => .ok v s) e s with
  | ok b s' => rw [q] at h; exact fun w' H' u x o r => by subst r; exact h w' H' (.bl b) x o (sl_bl b)
  | exn c x s' => rw [q] at h; exact h
  | stuck => rw [q] at h; exact h
theorem s_isNV {j pos'} (ha : PE X a (tE G W ma)) : PE X (.Compare a [.Is] [.Constant .none j pos'] pos) (tE G W (mBl (mIsN ma))) := by
  refine impE (pe_cmpR op_isN ha pe_non rfl) fun σ H Q ⟨w, s, e, ok, er, h⟩ => ?_
  have h : Post G W (relV G) w H σ ((ma e s).bind fun v s => (mIsN (fun _ s => .ok v s) e s).bind fun b s => .ok (.d (.bl b)) s) Q := by
    revert h
    unfold mBl mIsN
    cases ma e s <;> exact id
  exact one (R := fun x H => V.non = .non ∧ Q (.bl (decide (x = .non))) H) ok er h fun w s H v u ok r _ h => ⟨rfl, isN_post (neg := false) (v := v) (Q := fun b H => Q (.bl b) H) ok r (bl_bind (f := mIsN) h)⟩
theorem s_notNV {j pos'} (ha : PE X a (tE G W ma)) : PE X (.Compare a [.IsNot] [.Constant .none j pos'] pos) (tE G W (mBl (mNotN ma))) := by
  refine impE (pe_cmpR op_notN ha pe_non rfl) fun σ H Q ⟨w, s, e, ok, er, h⟩ => ?_
  have h : Post G W (relV G) w H σ ((ma e s).bind fun v s => (mNotN (fun _ s => .ok v s) e s).bind fun b s => .ok (.d (.bl b)) s) Q := by
    revert h
    unfold mBl mNotN
    cases ma e s <;> exact id
  exact one (R := fun x H => V.non = .non ∧ Q (.bl (!decide (x = .non))) H) ok er h fun w s H v u ok r _ h => ⟨rfl, isN_post (neg := true) (v := v) (Q := fun b H => Q (.bl b) H) ok r (bl_bind (f := mNotN) h)⟩
/-! ### -n -/
theorem s_neg (ha : PE X a (tE G W ma)) : PE X (.UnaryOp .USub a pos) (tE G W (mNeg ma)) := by
  refine impE (pe_un un_neg ha) fun σ H Q ⟨w, s, e, ok, er, h⟩ => ?_
  refine one (R := fun x H => ∃ i, x = .int i ∧ Q (.int (-i)) H) ok er h fun w s H v u ok r _ h => ?_
  match v, h with
  | .d (.int i), h => exact ⟨i, int_inv (slot_d r), Post.hereD ok h (rep_int _)⟩
/-! ### displays -/
theorem s_nil : PA X [] (tL G W mNil) := impA pa_nil fun σ H Q ⟨w, s, e, ok, er, h⟩ => h w H [] .refl ok rfl
theorem s_cons {es : List Expr} {ms : ML} (ha : PE X a (tE G W ma)) (hr : PA X es (tL G W ms)) (hs : starEach (a :: es) X.env = (false, eval a X.env) :: starEach es X.env) : PA X (a :: es) (tL G W (mCons ma ms)) := by
  refine impA (pa_cons ha hr hs) fun σ H Q ⟨w, s, e, ok, er, h⟩ => ?_
  refine ⟨w, s, e, ok, er, Post.bind (rel := relV G) h fun w1 s1 H1 v u x1 ok1 r1 h1 => ⟨w1, s1, e, ok1, er.ext ok x1, Post.bind (rel := relL G) h1 fun w2 s2 H2 v' u' x2 ok2 r2 h2 => ?_⟩⟩
  exact h2 w2 H2 (u :: u') .refl ok2 ⟨u, u', rfl, r1.ext ok1 x2, r2⟩
theorem datas_rep {w : Wd} {H : Hp} : ∀ {vs : List Val} {us : List V} {xs : List D}, SlotRs G w H vs us → datas vs = some xs → Reps G.K w.N H xs us
  | [], us, xs, r, h => by
    cases h
    have e : us = [] := r
    subst e
    exact .nil
  | v :: vs, us, xs, r, h => by
    obtain ⟨u, r', e, r1, r2⟩ := r
    subst e
    cases v with
    | d x =>
      have h : (datas vs).map (x :: ·) = some xs := h
      cases q : datas vs with
      | none => rw [q] at h; cases h
      | some ys =>
        rw [q] at h
        cases h
        exact .cons r1 (datas_rep r2 q)
    | _ => cases h
theorem s_tup {es : List Expr} {ms : ML} {x1} (hl : PA X es (tL G W ms)) : PE X (.Tuple es x1 pos) (tE G W (mTup ms)) := by
  refine impE (pe_tup hl) fun σ H Q ⟨w, s, e, ok, er, h⟩ => ?_
  refine ⟨w, s, e, ok, er, Post.bind (rel := relL G) h fun w1 s1 H1 v u x1 ok1 r1 h1 => ?_⟩
  cases q : datas v with
  | none => rw [q] at h1; exact h1.elim
  | some xs =>
    rw [q] at h1
    dsimp only at h1
    split at h1
    · rename_i hl
      have r := datas_rep r1 q
      rw [r.length] at hl
      exact ⟨by rw [← line_eq]; exact hl, Post.newT ok1 h1 r hl⟩
    · exact h1.elim
theorem s_lst {es : List Expr} {ms : ML} (hl : PA X es (tL G W ms)) : PE X (.List es pos) (tE G W (mLst ms)) := by
  refine impE (pe_lst hl) fun σ H Q ⟨w, s, e, ok, er, h⟩ => ?_
  refine ⟨w, s, e, ok, er, Post.bind (rel := relL G) h fun w1 s1 H1 v u x1 ok1 r1 h1 => ?_⟩
  cases q : datas v with
  | none => rw [q] at h1; exact h1.elim
  | some xs =>
    rw [q] at h1
    dsimp only at h1
    split at h1
    · rename_i hl
      have r := datas_rep r1 q
      rw [r.length] at hl
      exact ⟨by rw [← line_eq]; exact hl, Post.newL ok1 h1 r hl⟩
    · exact h1.elim
/-! ### items, slices -/
theorem ixN_eq (n : Nat) (i : Int) : MP.ixN n i = L2.ixN n i := rfl
theorem at_rep {K : PySem.W.Frag} {N : Addr → Prop} {H : Hp} {xs : List D} {vs : List V} {i : Int} {x : D} (r : Reps K N H xs vs) (h : MP.atI xs i = some x) : ∃ v, L2.atI vs i = some v ∧ Rep K N H x v := by
  unfold MP.atI at h
  unfold L2.atI
  rw [r.length] at h
  rw [← ixN_eq]
  cases q : MP.ixN vs.length i with
  | none => rw [q] at h; cases h
  | some j => rw [q] at h; exact r.get h
theorem ixD_ok {w : Wd} {H : Hp} {x y z : D} {u v : V} (rx : RdR G.K w.N H x u) (ry : RdR G.K w.N H y v) (h : ixD x y = some z) : ∃ t, Rep G.K w.N H z t ∧ ∀ Q : VK, Q t H → rIx G.K u v H Q := by
  unfold ixD at h
  split at h
  · obtain ⟨p, vs, rfl, h1, _, h2⟩ := rep_tup_inv rx
    rw [int_inv ry]
    obtain ⟨t, e, r⟩ := at_rep h2 h
    exact ⟨t, r, fun Q q => .inr (.inl ⟨p, vs, _, t, rfl, rfl, h1, e, q⟩)⟩
  · obtain ⟨p, vs, rfl, h1, _, h2⟩ := rx
    rw [int_inv ry]
    obtain ⟨t, e, r⟩ := at_rep h2 h
    exact ⟨t, r, fun Q q => .inl ⟨p, vs, _, t, rfl, rfl, .inl (.inl h1), e, q⟩⟩
  · cases h
theorem s_ix (hK : G.K = X.K) (hs : PlainIx b) (ha : PE X a (tE G W ma)) (hb : PE X b (tE G W mb)) : PE X (.Subscript a b pos) (tE G W (mIx ma mb)) := by
  refine impE (pe_ix ix_seq ha hb hs) fun σ H Q ⟨w, s, e, ok, er, h⟩ => ?_
  refine two (W := W) (R := fun x y H => rIx X.K x y H Q) ok er h fun w s H v v' u u' ok r r' _ h => ?_
  obtain ⟨z, e, h⟩ := of_ok h
  rw [← hK]
  have gen : ∀ (v : Val) (y : D), SlotR G w H v u → RdR G.K w.N H y u' → (∀ x, rd s v = some x → (ixD x y).map Val.d = some z → rIx G.K u u' H Q) := fun v y r ry x q1 e => by
    cases q2 : ixD x y with
    | none => rw [q2] at e; cases e
    | some t =>
      rw [q2] at e
      cases e
      obtain ⟨tt, rt, q⟩ := ixD_ok (rd_ok ok r q1) ry q2
      exact q Q (Post.hereD ok h rt)
  have gen2 : ∀ (y : D), v' = .d y → (∀ ns, v ≠ .scr ns) → rIx G.K u u' H Q := fun y ey ns => by
    subst ey
    have e : (match rd s v with
      | some x => (ixD x y).map Val.d
      | none => none) = some z := by
      cases v with
      | scr k => exact absurd rfl (ns k)
      | _ => exact e
    cases q1 : rd s v with
    | none => rw [q1] at e; cases e
    | some x => rw [q1] at e; exact gen v y r (slot_d r') x q1 e
  cases v' with
  | d y =>
    cases v with
    | scr ns =>
      cases y with
      | int i =>
        have e : (MP.atI ns i).map (fun k => Val.d (.int k)) = some z := e
        cases q : MP.atI ns i with
        | none => rw [q] at e; cases e
        | some k =>
          rw [q] at e
          cases e
          obtain ⟨p, rfl, hp, _⟩ := r
          rw [int_inv (slot_d r')]
          have hq : SqL G.K H p (ns.map V.int) := by
            rcases hp with ⟨o, hp⟩ | hp
            · exact .inl (.inr ⟨o, hp⟩)
            · rcases hp with (hp | ⟨o, hp⟩) | hp
              · cases hp
              · cases hp
              · exact .inr hp
          refine .inl ⟨p, ns.map V.int, i, .int k, rfl, rfl, hq, ?_, Post.hereD ok h (rep_int k)⟩
          unfold L2.atI
          unfold MP.atI at q
          rw [List.length_map, ← ixN_eq]
          cases q2 : MP.ixN ns.length i with
          | none => rw [q2] at q; cases q
          | some j =>
            rw [q2] at q
            have q : ns[j]? = some k := q
            show (ns.map V.int)[j]? = some (V.int k)
            rw [List.getElem?_map, q] <;> rfl
      | _ => cases e
    | _ => exact gen2 y rfl (fun ns hns => by cases hns)
  | _ => cases v <;> cases e
theorem sIx_eq (n d : Nat) (o : Option Int) : MP.sIx n d o = HT.sIx n d o := by cases o <;> rfl
theorem sl_ok {w : Wd} {s : S} {H : Hp} {σ : L2.St} {x z : D} {u : V} {lo hi : Option Int} {Q : V → Hp → Prop} (ok : Ok G w s H) (rx : RdR G.K w.N H x u) (h : slD x lo hi = some z) (p : Post G W (relV G) w H σ (.ok (.d z) s) Q) :
    rSlA G.K u lo hi H Q ∨ rSlL G.K u lo hi H Q := by
  unfold slD at h
  split at h
  · rename_i xs
    cases h
    obtain ⟨q, vs, rfl, h1, hz, h2⟩ := rep_tup_inv rx
    have r := h2.cut lo hi
    have hl : (cutV vs lo hi).length ≤ line := Nat.le_trans (cutV_length vs lo hi) hz
    refine .inl ⟨q, vs, rfl, h1, fun hw => ?_, fun _ => Post.newT ok p r hl⟩
    have e : cut xs lo hi = xs := by
      unfold MP.cut
      rw [h2.length, sIx_eq, sIx_eq, hw.1, hw.2, List.drop_zero, Nat.sub_zero, ← h2.length, List.take_length]
    rw [e] at p
    exact Post.hereD ok p (rep_tup h1 hz h2)
  · cases h
    obtain ⟨q, vs, rfl, h1, hz, h2⟩ := rx
    exact .inr ⟨q, vs, rfl, .inl (.inl h1), Post.newL ok p (h2.cut lo hi) (Nat.le_trans (cutV_length vs lo hi) hz)⟩
  · cases h
/-- an optional part of a slice -/
def tPo (G : Gd) (W : WX) (m : Option ME) : L2.St → Hp → (Option Int → Hp → Prop) → Prop := fun σ H Q => ∃ w s e, Ok G w s H ∧ EnvR G w H e σ ∧ Post G W (fun _ _ _ (a b : Option Int) => a = b) w H σ (mOpt m e s) Q
theorem s_slice (hK : G.K = X.K) {lo hi : Option Expr} {ml mh : Option ME} {p2 : Pos} (ha : PE X a (tE G W ma))
    (hlo : (lo = none ∧ ml = none) ∨ ∃ e m, lo = some e ∧ ml = some m ∧ PE X e (tE G W m)) (hhi : (hi = none ∧ mh = none) ∨ ∃ e m, hi = some e ∧ mh = some m ∧ PE X e (tE G W m)) :
    PE X (.Subscript a (.Slice lo hi none p2) pos) (tE G W (mSl ma ml mh)) := by
  have part : ∀ (o : Option Expr) (m : Option ME), ((o = none ∧ m = none) ∨ ∃ e k, o = some e ∧ m = some k ∧ PE X e (tE G W k)) → ∃ t, PO X o t ∧ ∀ σ H Q, tPo G W m σ H Q → t σ H Q := fun o m h => by
    rcases h with ⟨rfl, rfl⟩ | ⟨e, k, rfl, rfl, h⟩
    · exact ⟨_, po_none, fun σ H Q ⟨w, s, e, ok, er, h⟩ => Post.here (rel := fun _ _ _ (a b : Option Int) => a = b) ok h rfl⟩
    · refine ⟨_, po_some h, fun σ H Q ⟨w, s, e, ok, er, h⟩ => ?_⟩
      refine one (R := fun x H => ∃ i, x = .int i ∧ Q (some i) H) ok er h fun w s H v u ok r _ h => ?_
      match v, h with
      | .d (.int i), h => exact ⟨i, int_inv (slot_d r), Post.here (rel := fun _ _ _ (a b : Option Int) => a = b) ok h rfl⟩
  obtain ⟨tl, pl, il⟩ := part lo ml hlo
  obtain ⟨th, ph, ih⟩ := part hi mh hhi
  refine impE (pe_slice (SlR.or sl_tupA sl_list) ha pl ph) fun σ H Q ⟨w, s, e, ok, er, h⟩ => ?_
  refine ⟨w, s, e, ok, er, Post.bind (rel := relV G) h fun w1 s1 H1 v u x1 ok1 r1 h1 => ?_⟩
  refine il σ H1 _ ⟨w1, s1, e, ok1, er.ext ok x1, Post.bind (rel := fun _ _ _ (a b : Option Int) => a = b) h1 fun w2 s2 H2 l l' x2 ok2 el h2 => ?_⟩
  subst el
  refine ih σ H2 _ ⟨w2, s2, e, ok2, (er.ext ok x1).ext ok1 x2, Post.bind (rel := fun _ _ _ (a b : Option Int) => a = b) h2 fun w3 s3 H3 k k' x3 ok3 ek h3 => ?_⟩
  subst ek
  have r3 := (r1.ext ok1 x2).ext ok2 x3
  cases q1 : rd s3 v with
  | none => rw [q1] at h3; exact h3.elim
  | some x =>
    rw [q1] at h3
    cases q2 : slD x l k with
    | none => simp only [q2] at h3; exact h3.elim
    | some z =>
      simp only [q2] at h3
      rw [← hK]
      exact sl_ok ok3 (rd_ok ok3 r3 q1) q2 h3
end
end MP
end

section
set_option Elab.async false
set_option linter.all false
set_option maxRecDepth 100000
set_option maxHeartbeats 4000000
/-! MP, part d: built-ins. -/
namespace MP
open PySem PySem.Spec PyProof.Rows L2

theorem ints_ok : ∀ {xs : List D} {ns : List Int}, intsD xs = some ns → xs = ns.map D.int
  | [], ns, h => by cases h; rfl
  | x :: xs, ns, h => by
    cases x with
    | int i =>
      have h : (intsD xs).map (i :: ·) = some ns := h
      cases q : intsD xs with
      | none => rw [q] at h; cases h
      | some r => rw [q] at h; cases h; rw [ints_ok q]; rfl
    | _ => cases h
theorem bools_ok : ∀ {xs : List D} {ns : List Bool}, bools xs = some ns → xs = ns.map D.bl
  | [], ns, h => by cases h; rfl
  | x :: xs, ns, h => by
    cases x with
    | bl i =>
      have h : (bools xs).map (i :: ·) = some ns := h
      cases q : bools xs with
      | none => rw [q] at h; cases h
      | some r => rw [q] at h; cases h; rw [bools_ok q]; rfl
    | _ => cases h
theorem strs_ok : ∀ {xs : List D} {ns : List Str}, strsD xs = some ns → xs = ns.map D.str
  | [], ns, h => by cases h; rfl
  | x :: xs, ns, h => by
    cases x with
    | str i =>
      have h : (strsD xs).map (i :: ·) = some ns := h
      cases q : strsD xs with
      | none => rw [q] at h; cases h
      | some r => rw [q] at h; cases h; rw [strs_ok q]; rfl
    | _ => cases h
section
variable {K : PySem.W.Frag} {N : Addr → Prop} {H : Hp}
theorem reps_int : ∀ {ns : List Int} {vs : List V}, Reps K N H (ns.map D.int) vs → vs = ns.map V.int
  | [], vs, h => by unfold Reps at h; exact h
  | n :: ns, vs, h => by
    rw [List.map_cons] at h
    unfold Reps at h
    obtain ⟨v, r, rfl, h1, h2⟩ := h
    rw [reps_int h2, int_inv (.of_rep h1)]; rfl
theorem reps_bl : ∀ {ns : List Bool} {vs : List V}, Reps K N H (ns.map D.bl) vs → vs = ns.map V.bl
  | [], vs, h => by unfold Reps at h; exact h
  | n :: ns, vs, h => by
    rw [List.map_cons] at h
    unfold Reps at h
    obtain ⟨v, r, rfl, h1, h2⟩ := h
    rw [reps_bl h2, bl_inv (.of_rep h1)]; rfl
theorem reps_str : ∀ {ns : List Str} {vs : List V}, Reps K N H (ns.map D.str) vs → vs = ns.map V.str
  | [], vs, h => by unfold Reps at h; exact h
  | n :: ns, vs, h => by
    rw [List.map_cons] at h
    unfold Reps at h
    obtain ⟨v, r, rfl, h1, h2⟩ := h
    rw [reps_str h2, str_inv (.of_rep h1)]; rfl
theorem of_int : ∀ ns : List Int, Reps K N H (ns.map D.int) (ns.map V.int)
  | [] => .nil
  | n :: ns => by rw [List.map_cons, List.map_cons]; exact .cons (rep_int n) (of_int ns)
theorem of_str : ∀ ns : List Str, Reps K N H (ns.map D.str) (ns.map V.str)
  | [] => .nil
  | n :: ns => by rw [List.map_cons, List.map_cons]; exact .cons (rep_str n) (of_str ns)
end
/-! ### sorting -/
theorem insI_perm (i : Int) : ∀ l : List Int, (insI i l).Perm (i :: l)
  | [] => .refl _
  | j :: r => by
    unfold insI
    split
    · exact ((insI_perm i r).cons j).trans (.swap i j r)
    · exact .refl _
theorem sortI_perm : ∀ l : List Int, (sortI l).Perm l
  | [] => .refl _
  | i :: r => (insI_perm i _).trans ((sortI_perm r).cons i)
theorem insI_sorted (i : Int) : ∀ l : List Int, l.Pairwise (· ≤ ·) → (insI i l).Pairwise (· ≤ ·)
  | [], _ => by unfold insI; simp
  | j :: r, h => by
    unfold insI
    obtain ⟨h1, h2⟩ := List.pairwise_cons.mp h
    split
    · rename_i hlt
      refine List.pairwise_cons.mpr ⟨fun k hk => ?_, insI_sorted i r h2⟩
      rcases List.mem_cons.mp ((insI_perm i r).mem_iff.mp hk) with e | hk
      · subst e; omega
      · exact h1 k hk
    · rename_i hlt
      refine List.pairwise_cons.mpr ⟨fun k hk => ?_, h⟩
      rcases List.mem_cons.mp hk with e | hk
      · subst e; omega
      · have := h1 k hk; omega
theorem sortI_sorted : ∀ l : List Int, (sortI l).Pairwise (· ≤ ·)
  | [] => .nil
  | i :: r => insI_sorted i _ (sortI_sorted r)
theorem sorted_uniq : ∀ {a b : List Int}, a.Perm b → a.Pairwise (· ≤ ·) → b.Pairwise (· ≤ ·) → a = b
  | [], b, p, _, _ => (List.Perm.nil_eq p)
  | x :: a, b, p, ha, hb => by
    cases b with
    | nil => exact absurd p.length_eq (by simp)
    | cons y b =>
      obtain ⟨ha1, ha2⟩ := List.pairwise_cons.mp ha
      obtain ⟨hb1, hb2⟩ := List.pairwise_cons.mp hb
      have e : x = y := by
        have h1 : x ∈ y :: b := p.mem_iff.mp List.mem_cons_self
        have h2 : y ∈ x :: a := p.mem_iff.mpr List.mem_cons_self
        rcases List.mem_cons.mp h1 with e | h1
        · exact e
        · rcases List.mem_cons.mp h2 with e | h2
          · exact e.symm
          · have := ha1 y h2; have := hb1 x h1; omega
      subst e
      rw [sorted_uniq (List.Perm.cons_inv p) ha2 hb2]
theorem foldmax : ∀ (ns : List Int) (a : Int), (ns.foldl (fun a b => if b > a then b else a) a ∈ a :: ns) ∧ ∀ y ∈ a :: ns, y ≤ ns.foldl (fun a b => if b > a then b else a) a
  | [], a => ⟨by simp, by simp⟩
  | n :: ns, a => by
    rw [List.foldl_cons]
    by_cases hc : n > a
    · rw [if_pos hc]
      obtain ⟨h1, h2⟩ := foldmax ns n
      refine ⟨List.mem_cons_of_mem _ h1, fun y hy => ?_⟩
      have h0 := h2 _ List.mem_cons_self
      rcases List.mem_cons.mp hy with e | hy
      · rw [e]; exact Int.le_trans (Int.le_of_lt hc) h0
      · exact h2 y hy
    · rw [if_neg hc]
      obtain ⟨h1, h2⟩ := foldmax ns a
      refine ⟨(List.mem_cons.mp h1).elim (fun e => by rw [e]; exact List.mem_cons_self) fun h => List.mem_cons_of_mem _ (List.mem_cons_of_mem _ h), fun y hy => ?_⟩
      have h0 := h2 _ List.mem_cons_self
      rcases List.mem_cons.mp hy with e | hy
      · rw [e]; exact h0
      · rcases List.mem_cons.mp hy with e | hy
        · rw [e]; exact Int.le_trans (Int.not_lt.mp hc) h0
        · exact h2 y (List.mem_cons_of_mem _ hy)
theorem foldmin : ∀ (ns : List Int) (a : Int), (ns.foldl (fun a b => if b < a then b else a) a ∈ a :: ns) ∧ ∀ y ∈ a :: ns, ns.foldl (fun a b => if b < a then b else a) a ≤ y
  | [], a => ⟨by simp, by simp⟩
  | n :: ns, a => by
    rw [List.foldl_cons]
    by_cases hc : n < a
    · rw [if_pos hc]
      obtain ⟨h1, h2⟩ := foldmin ns n
      refine ⟨List.mem_cons_of_mem _ h1, fun y hy => ?_⟩
      have h0 := h2 _ List.mem_cons_self
      rcases List.mem_cons.mp hy with e | hy
      · rw [e]; exact Int.le_trans h0 (Int.le_of_lt hc)
      · exact h2 y hy
    · rw [if_neg hc]
      obtain ⟨h1, h2⟩ := foldmin ns a
      refine ⟨(List.mem_cons.mp h1).elim (fun e => by rw [e]; exact List.mem_cons_self) fun h => List.mem_cons_of_mem _ (List.mem_cons_of_mem _ h), fun y hy => ?_⟩
      have h0 := h2 _ List.mem_cons_self
      rcases List.mem_cons.mp hy with e | hy
      · rw [e]; exact h0
      · rcases List.mem_cons.mp hy with e | hy
        · rw [e]; exact Int.le_trans h0 (Int.not_lt.mp hc)
        · exact h2 y (List.mem_cons_of_mem _ hy)

/-! ### sorted of a tuple -/
end MP
namespace SrtT
open PySem PySem.Spec PyProof.Rows SrtO
section
variable {prog : Program} {w : World} {A : Around} {E : Value → Shared → Prop} {s : Shared}
/-- a tuple's items gathered into a list, as a list's -/
theorem collect_tup {l : Addr} {vs : List Value} {Q : List Value → Shared → Prop} (hl : IsTup s.heap l vs.toArray)
    (h : Q vs { s with heap := (s.heap.push (seqObj "list" #[] 0)).update s.heap.objs.size (Obj.mapSeq (· ++ vs.toArray)) }) (hsz : vs.length ≤ sizeLine) :
    wpAny (model prog w) A (collect (.ref l)) Q E s := by
  obtain ⟨o, ho, hc, n, hd⟩ := id hl
  unfold collect
  refine wpAny_bind (wpAny_runValue (codeAny_builtin entry_proto_collect' ?_))
  show wpAny _ _ (do again (.builtin "list.__iadd__" ⟨[← newList [], .ref l], []⟩)) _ _ s
  refine wpAny_bind (wpAny_newList (wpAny_pure ⟨Code.quiet_builtin _ (by decide +kernel), codeAny_builtin entry_list_iadd' ?_⟩))
  show wpAny _ _ (Builtin.List.listExtendWith (.ref s.heap.objs.size) (.ref l) (.ref s.heap.objs.size)) _ _ { s with heap := s.heap.push (seqObj "list" #[] 0) }
  unfold Builtin.List.listExtendWith
  have ho' : (s.heap.push (seqObj "list" #[] 0)).get? l = some o := Heap.get?_push_of_some _ ho
  refine wpAny_bind (wpAny_typeOf (T := "tuple") ⟨o, ho', hc⟩ ?_)
  rw [if_pos (by rw [show (Value.type "tuple" == Value.type "tuple") = true from rfl]; simp)]
  refine wpAny_bind (listItems_at ho' hd ?_)
  refine wpAny_bind (listItems_at (xs := #[]) (n := 0) (Heap.get?_push_size _ rfl) rfl ?_)
  rw [if_neg (by simp)]
  refine wpAny_bind (listUpdate_at (xs := #[]) (n := 0) (Heap.get?_push_size _ rfl) rfl ?_ (Nat.zero_le _) (by show (#[] ++ vs.toArray).size ≤ sizeLine + 1; simp only [Array.size_append, List.size_toArray, List.length_nil]; omega))
  refine wpAny_pure ?_
  show wpAny (model prog w) A (do
      let o ← load s.heap.objs.size
      match o.data with
      | .seq xs _ => pure xs.toList
      | _ => unsupported "internal:collect") Q E { s with heap := (s.heap.push (seqObj "list" #[] 0)).update s.heap.objs.size (Obj.mapSeq (· ++ vs.toArray)) }
  refine wpAny_bind (wpAny_load (get?_update_seq (Heap.get?_push_size _ rfl) _) ?_)
  show wpAny _ _ (pure ((#[] : Array Value) ++ vs.toArray).toList) Q E _
  rw [show ((#[] : Array Value) ++ vs.toArray).toList = vs by simp]
  exact wpAny_pure h
theorem sorted_ordT {l : Addr} {vs : List Value} {ltv : Value → Value → Bool} {Q : Value → Shared → Prop} (O : Swo ltv) (hl : IsTup s.heap l vs.toArray) (hz : vs.length ≤ sizeLine)
    (hS : 2 ≤ vs.length → ∀ (h₁ : Heap) (a : Addr), h₁.get? a = some (seqObj "list" vs.toArray 0) → (∀ b o, s.heap.get? b = some o → b ≠ a ∧ h₁.get? b = some o) → SortableO prog w A.in1.in1 { s with heap := h₁ } a vs ltv)
    (h : ∀ out : List Value, Srtd ltv out → Stb ltv out vs → Q (.ref (s.heap.objs.size + 1)) { s with heap := sortedAll s.heap vs out.toArray }) :
    wpAny (model prog w) A (call (.builtin "sorted") [.ref l]) Q E s := by
  refine Calls.call_function_entry kind_sorted plain_sorted entry_sorted (args_sorted1 _) ?_
  unfold Builtin.«sorted»
  refine wpAny_bind (m := checkCount "sorted" 1 1 _) (wpAny_pure ?_)
  refine wpAny_bind (collect_tup hl ?_ hz)
  refine wpAny_bind (wpAny_newList ?_ hz)
  have hsz : ((s.heap.push (seqObj "list" #[] 0)).update s.heap.objs.size (Obj.mapSeq (· ++ vs.toArray))).objs.size = s.heap.objs.size + 1 := by
    rw [Heap.size_update, size_push']
  have hoL : (((s.heap.push (seqObj "list" #[] 0)).update s.heap.objs.size (Obj.mapSeq (· ++ vs.toArray))).push (seqObj "list" vs.toArray 0)).get? (s.heap.objs.size + 1) = some (seqObj "list" vs.toArray 0) := by
    rw [← hsz]; exact Heap.get?_push_size _ rfl
  have keep : ∀ b o, s.heap.get? b = some o → b ≠ s.heap.objs.size + 1 ∧ (((s.heap.push (seqObj "list" #[] 0)).update s.heap.objs.size (Obj.mapSeq (· ++ vs.toArray))).push (seqObj "list" vs.toArray 0)).get? b = some o := fun b o q => by
    have hlt : b < s.heap.objs.size := Heap.lt_size q
    refine ⟨Nat.ne_of_lt (Nat.lt_succ_of_lt hlt), Heap.get?_push_of_some _ ?_⟩
    rw [Heap.get?_update_ne _ _ _ _ (Nat.ne_of_lt hlt)]
    exact Heap.get?_push_of_some _ q
  show wpAny _ _ _ _ _ { s with heap := ((s.heap.push (seqObj "list" #[] 0)).update s.heap.objs.size (Obj.mapSeq (· ++ vs.toArray))).push (seqObj "list" vs.toArray 0) }
  rw [hsz]
  refine wpAny_bind (wpAny_holding (wpAny_call_entry slot_list_sort ⟨_, hoL, rfl⟩ entry_list_sort (list_sort_ord O hoL hz (fun h2 => hS h2 _ _ hoL keep) fun out hs hb => ⟨_, rfl, ?_⟩) (args_list_sort _)))
  exact wpAny_pure ⟨_, rfl, h out hs hb⟩
end
end SrtT
namespace MP
open PySem PySem.Spec PyProof.Rows L2
def rSortedIT (K : PySem.W.Frag) : List V → Hp → VK → Prop := fun vs H Q => ∃ (a : Addr) (ns : List Int), vs = [V.ref a] ∧ SqT K H a (ns.map V.int) ∧
  ∀ (ns' : List Int) (p : Addr), ns'.Perm ns → ns'.Pairwise (· ≤ ·) → H p = none → Q (.ref p) (upd H p (.lst (ns'.map V.int)))
theorem cr_sortedIT {X : Cx} : CallR X (.builtin "sorted") (rSortedIT X.K) := by
  intro pins s σ H vs us Q I r h
  obtain ⟨a, ns, rfl, hs, q⟩ := h
  obtain ⟨its, rv, hl, hz⟩ := I.tuple hs
  rw [Vals.ref1 r]
  have hi := rv.ints
  refine SrtT.sorted_ordT SrtO.swo_int hl (by rw [← rv.length]; exact hz) (fun h2 h₁ a' _ _ => SrtO.ints_sortable hi h2) fun out h1 h2 => ?_
  obtain ⟨k1, k2, k3⟩ := SrtO.ints_out hi h1 h2
  obtain ⟨ep, he'⟩ := PyProof.Rows.sortedAll_at s.heap its out.toArray
  have hlen : ((out.map SrtO.iv).map V.int).length ≤ sizeLine := by
    rw [List.length_map, k2.length_eq]
    rw [List.length_map] at hz
    exact hz
  exact ⟨.ref _, upd H (s.heap.objs.size + 1) (.lst ((out.map SrtO.iv).map V.int)), I.laid (t' := s.toks) (fun _ _ => PyProof.Rows.sortedAll_old) (Nat.le_succ _) ⟨hlen, out, ep, vals_of_ints k1, he'⟩, rfl, q _ _ k2 k3 (I.hok.fresh (Nat.le_succ _))⟩

/-! ### built-ins of one value -/
def B1.nm : B1 → String
  | .len => "len" | .int => "int" | .bool => "bool" | .str => "str" | .abs => "abs" | .tuple => "tuple" | .list => "list" | .sum => "sum" | .sorted => "sorted" | .all => "all" | .any => "any" | .max => "max" | .min => "min"
/-- a built-in class -/
def B1.ty : B1 → Bool
  | .int => true | .bool => true | .str => true | .tuple => true | .list => true | _ => false
def B1.fv (b : B1) : Value := if b.ty then .type b.nm else .builtin b.nm
/-- it is walked: not within an except suite -/
def B1.walks : B1 → Bool
  | .sum => true | .all => true | .any => true | .max => true | .min => true | .list => true | _ => false
def rListT : List V → Hp → VK → Prop := fun xs H Q => ∃ d kvs, xs = [V.ref d] ∧ Rd H d (.dT kvs) ∧ ∀ p bs, H p = none → IsKeys H kvs bs → Q (.ref p) (upd H p (.lst (bs.map V.ref)))
def rB1 (K : PySem.W.Frag) : B1 → List V → Hp → VK → Prop
  | .len => fun xs H Q => ∃ x n, xs = [x] ∧ LenV K x H n ∧ Q (.int n) H
  | .int => fun xs H Q => (∃ i, xs = [.int i] ∧ Q (.int i) H) ∨ ∃ k, xs = [.bl k] ∧ Q (.int (if k = true then 1 else 0)) H
  | .bool => fun xs H Q => (∃ i, xs = [.int i] ∧ Q (.bl (i != 0)) H) ∨ ∃ k, xs = [.bl k] ∧ Q (.bl k) H
  | .str => fun xs H Q => ∃ i : Int, xs = [.int i] ∧ i.natAbs.log2 < 1920 ∧ Q (.str (Str.ofString (toString i))) H
  | .abs => fun xs H Q => ∃ i, xs = [.int i] ∧ Q (.int (if i < 0 then -i else i)) H
  | .tuple => fun xs H Q => ∃ p ys, xs = [.ref p] ∧ ((SqL K H p ys ∧ ∀ l, H l = none → Q (.ref l) (upd H l (.tup ys))) ∨ (SqT K H p ys ∧ Q (.ref p) H))
  | .list => fun xs H Q => (∃ p ys, xs = [.ref p] ∧ (SqL K H p ys ∨ SqT K H p ys) ∧ ∀ l, H l = none → Q (.ref l) (upd H l (.lst ys))) ∨ rListT xs H Q
  | .sum => rSum K
  | .sorted => fun xs H Q => rSortedI K xs H Q ∨ rSortedIT K xs H Q
  | .all => rAll K
  | .any => rAny K
  | .max => rMax K
  | .min => rMin K
theorem cr_b1 {X : Cx} : ∀ b : B1, (b.walks = true → X.calm = true) → CallR X b.fv (rB1 X.K b)
  | .len, _ => call_len
  | .int, _ => call_int1
  | .bool, _ => call_bool1
  | .str, _ => call_str_int
  | .abs, _ => call_abs
  | .tuple, _ => call_tuple_of
  | .list, h => fun pins s σ H xs us Q I r z => z.elim (call_list_of pins s σ H xs us Q I r) (call_list_dT (h rfl) pins s σ H xs us Q I r)
  | .sum, h => cr_sum (h rfl)
  | .sorted, _ => fun pins s σ H xs us Q I r h => h.elim (cr_sortedI pins s σ H xs us Q I r) (cr_sortedIT pins s σ H xs us Q I r)
  | .all, h => cr_all (h rfl)
  | .any, h => cr_any (h rfl)
  | .max, h => cr_max (h rfl)
  | .min, h => cr_min (h rfl)
section
variable {X : Cx} {G : Gd} {W : WX} {pos p : Pos} {a b c : Expr} {ma mb mc : ME}
theorem lst_inv {K : PySem.W.Frag} {N : Addr → Prop} {H : Hp} {xs : List D} {u : V} (r : RdR K N H (.lst xs) u) : ∃ p vs, u = .ref p ∧ H p = some (.lst vs) ∧ vs.length ≤ line ∧ Reps K N H xs vs := r
theorem b1_ok {w : Wd} {s : S} {H : Hp} {σ : L2.St} {f : B1} {x z : D} {u : V} {Q : V → Hp → Prop} (ok : Ok G w s H) (rx : RdR G.K w.N H x u) (h : b1 f x = some z) (p : Post G W (relV G) w H σ (.ok (.d z) s) Q) : rB1 G.K f [u] H Q := by
  cases f with
  | len =>
    cases x with
    | str y =>
      have h : (if y.length ≤ line then some (D.int y.length) else none) = some z := h
      split at h
      · rename_i hl
        cases h
        rw [str_inv rx]
        exact ⟨_, y.length, rfl, ⟨by rw [← line_eq]; exact hl, rfl⟩, Post.hereD ok p (rep_int _)⟩
      · cases h
    | tup xs =>
      cases h
      obtain ⟨q, vs, rfl, h1, _, h2⟩ := rep_tup_inv rx
      exact ⟨_, xs.length, rfl, .inr ⟨vs, h1, h2.length⟩, Post.hereD ok p (rep_int _)⟩
    | tuq xs =>
      cases h
      obtain ⟨q, vs, rfl, ⟨o, _, h1⟩, _, h2⟩ := rep_tuq_inv rx
      exact ⟨_, xs.length, rfl, .inr ⟨vs, .inl (.inr ⟨o, h1⟩), h2.length⟩, Post.hereD ok p (rep_int _)⟩
    | lst xs =>
      cases h
      obtain ⟨q, vs, rfl, h1, _, h2⟩ := lst_inv rx
      exact ⟨_, xs.length, rfl, .inl ⟨vs, .inl (.inl h1), h2.length⟩, Post.hereD ok p (rep_int _)⟩
    | _ => cases h
  | int =>
    cases x with
    | int i => cases h; rw [int_inv rx]; exact .inl ⟨i, rfl, Post.hereD ok p (rep_int _)⟩
    | bl b => cases h; rw [bl_inv rx]; exact .inr ⟨b, rfl, Post.hereD ok p (rep_int _)⟩
    | _ => cases h
  | bool =>
    cases x with
    | int i => cases h; rw [int_inv rx]; exact .inl ⟨i, rfl, Post.hereD ok p (rep_bl _)⟩
    | bl b => cases h; rw [bl_inv rx]; exact .inr ⟨b, rfl, Post.hereD ok p (rep_bl _)⟩
    | _ => cases h
  | str =>
    cases x with
    | int i =>
      have h : (if i.natAbs.log2 < 1920 then some (D.str (Str.ofString (toString i))) else none) = some z := h
      split at h
      · rename_i hl; cases h; rw [int_inv rx]; exact ⟨i, rfl, hl, Post.hereD ok p (rep_str _)⟩
      · cases h
    | _ => cases h
  | abs =>
    cases x with
    | int i => cases h; rw [int_inv rx]; exact ⟨i, rfl, Post.hereD ok p (rep_int _)⟩
    | _ => cases h
  | tuple =>
    have h : (items x).map D.tup = some z := h
    cases q : items x with
    | none => rw [q] at h; cases h
    | some xs =>
      rw [q] at h
      cases h
      cases x with
      | tup ys =>
        cases q
        obtain ⟨q, vs, rfl, h1, hz, h2⟩ := rep_tup_inv rx
        exact ⟨q, vs, rfl, .inr ⟨h1, Post.hereD ok p (rep_tup h1 hz h2)⟩⟩
      | tuq ys =>
        cases q
        obtain ⟨q, vs, rfl, ⟨o, _, h1⟩, hz, h2⟩ := rep_tuq_inv rx
        exact ⟨q, vs, rfl, .inr ⟨.inl (.inr ⟨o, h1⟩), Post.hereD ok p (rep_tup (.inl (.inr ⟨o, h1⟩)) hz h2)⟩⟩
      | lst ys =>
        cases q
        obtain ⟨q, vs, rfl, h1, hz, h2⟩ := lst_inv rx
        exact ⟨q, vs, rfl, .inl ⟨.inl (.inl h1), Post.newT ok p h2 hz⟩⟩
      | _ => cases q
  | list =>
    have h : (items x).map D.lst = some z := h
    cases q : items x with
    | none => rw [q] at h; cases h
    | some xs =>
      rw [q] at h
      cases h
      obtain ⟨q, vs, rfl, h1, hz, h2⟩ := items_rep rx q
      exact .inl ⟨q, vs, rfl, h1, Post.newL ok p h2 hz⟩
  | sum =>
    cases x with
    | lst xs =>
      have h : (intsD xs).map (fun ns => D.int ns.sum) = some z := h
      cases q : intsD xs with
      | none => rw [q] at h; cases h
      | some ns =>
        rw [q] at h
        cases h
        obtain ⟨q1, vs, rfl, h1, hz, h2⟩ := lst_inv rx
        rw [ints_ok q] at h2
        rw [reps_int h2] at h1
        exact ⟨q1, ns, rfl, .inl (.inl h1), Post.hereD ok p (rep_int _)⟩
    | _ => cases h
  | sorted =>
    have h : (match items x with
      | some xs => (intsD xs).map fun ns => D.lst ((sortI ns).map .int)
      | none => none) = some z := h
    cases x with
    | lst xs =>
      have h : (intsD xs).map (fun ns => D.lst ((sortI ns).map .int)) = some z := h
      cases q : intsD xs with
      | none => rw [q] at h; cases h
      | some ns =>
        rw [q] at h
        cases h
        obtain ⟨q1, vs, rfl, h1, hz, h2⟩ := lst_inv rx
        rw [ints_ok q] at h2
        rw [reps_int h2] at h1 hz
        refine .inl ⟨q1, ns, rfl, .inl (.inl h1), fun ns' a hp hs hn => ?_⟩
        have e : ns' = sortI ns := sorted_uniq (hp.trans (sortI_perm ns).symm) hs (sortI_sorted ns)
        subst e
        refine Post.newL ok p (of_int _) ?_ a hn
        rw [List.length_map, (sortI_perm ns).length_eq]
        rw [List.length_map] at hz
        exact hz
    | tup xs =>
      have h : (intsD xs).map (fun ns => D.lst ((sortI ns).map .int)) = some z := h
      cases q : intsD xs with
      | none => rw [q] at h; cases h
      | some ns =>
        rw [q] at h
        cases h
        obtain ⟨q1, vs, rfl, h1, hz, h2⟩ := rep_tup_inv rx
        rw [ints_ok q] at h2
        rw [reps_int h2] at h1 hz
        refine .inr ⟨q1, ns, rfl, h1, fun ns' a hp hs hn => ?_⟩
        have e : ns' = sortI ns := sorted_uniq (hp.trans (sortI_perm ns).symm) hs (sortI_sorted ns)
        subst e
        refine Post.newL ok p (of_int _) ?_ a hn
        rw [List.length_map, (sortI_perm ns).length_eq]
        rw [List.length_map] at hz
        exact hz
    | tuq xs =>
      have h : (intsD xs).map (fun ns => D.lst ((sortI ns).map .int)) = some z := h
      cases q : intsD xs with
      | none => rw [q] at h; cases h
      | some ns =>
        rw [q] at h
        cases h
        obtain ⟨q1, vs, rfl, ⟨o, _, h1⟩, hz, h2⟩ := rep_tuq_inv rx
        rw [ints_ok q] at h2
        rw [reps_int h2] at h1 hz
        refine .inr ⟨q1, ns, rfl, .inl (.inr ⟨o, h1⟩), fun ns' a hp hs hn => ?_⟩
        have e : ns' = sortI ns := sorted_uniq (hp.trans (sortI_perm ns).symm) hs (sortI_sorted ns)
        subst e
        refine Post.newL ok p (of_int _) ?_ a hn
        rw [List.length_map, (sortI_perm ns).length_eq]
        rw [List.length_map] at hz
        exact hz
    | _ => cases h
  | all =>
    cases x with
    | lst xs =>
      have h : (bools xs).map (fun ns => D.bl (ns.all id)) = some z := h
      cases q : bools xs with
      | none => rw [q] at h; cases h
      | some ns =>
        rw [q] at h
        cases h
        obtain ⟨q1, vs, rfl, h1, hz, h2⟩ := lst_inv rx
        rw [bools_ok q] at h2
        rw [reps_bl h2] at h1
        exact ⟨q1, ns, rfl, .inl (.inl h1), Post.hereD ok p (rep_bl _)⟩
    | _ => cases h
  | any =>
    cases x with
    | lst xs =>
      have h : (bools xs).map (fun ns => D.bl (ns.any id)) = some z := h
      cases q : bools xs with
      | none => rw [q] at h; cases h
      | some ns =>
        rw [q] at h
        cases h
        obtain ⟨q1, vs, rfl, h1, hz, h2⟩ := lst_inv rx
        rw [bools_ok q] at h2
        rw [reps_bl h2] at h1
        exact ⟨q1, ns, rfl, .inl (.inl h1), Post.hereD ok p (rep_bl _)⟩
    | _ => cases h
  | max =>
    cases x with
    | lst xs =>
      have h : (match intsD xs with
        | some ns => (maxI ns).map D.int
        | none => none) = some z := h
      cases q : intsD xs with
      | none => rw [q] at h; cases h
      | some ns =>
        rw [q] at h
        obtain ⟨q1, vs, rfl, h1, hz, h2⟩ := lst_inv rx
        rw [ints_ok q] at h2
        rw [reps_int h2] at h1
        cases ns with
        | nil => cases h
        | cons n ns =>
          cases h
          obtain ⟨f1, f2⟩ := foldmax ns n
          refine ⟨q1, n :: ns, rfl, .inl (.inl h1), by simp, fun m hm hy => ?_⟩
          have e : m = ns.foldl (fun a b => if b > a then b else a) n := Int.le_antisymm (f2 m hm) (hy _ f1)
          rw [e]
          exact Post.hereD ok p (rep_int _)
    | _ => cases h
  | min =>
    cases x with
    | lst xs =>
      have h : (match intsD xs with
        | some ns => (minI ns).map D.int
        | none => none) = some z := h
      cases q : intsD xs with
      | none => rw [q] at h; cases h
      | some ns =>
        rw [q] at h
        obtain ⟨q1, vs, rfl, h1, hz, h2⟩ := lst_inv rx
        rw [ints_ok q] at h2
        rw [reps_int h2] at h1
        cases ns with
        | nil => cases h
        | cons n ns =>
          cases h
          obtain ⟨f1, f2⟩ := foldmin ns n
          refine ⟨q1, n :: ns, rfl, .inl (.inl h1), by simp, fun m hm hy => ?_⟩
          have e : m = ns.foldl (fun a b => if b < a then b else a) n := Int.le_antisymm (hy _ f1) (f2 m hm)
          rw [e]
          exact Post.hereD ok p (rep_int _)
    | _ => cases h
/-- a call of a built-in by its name, one argument -/
theorem call1 {x : Str} {v : Value} {r : List V → Hp → VK → Prop} {m : ME} (hv : (∃ id, v = .builtin id) ∨ ∃ T, v = .type T) (hc : CallR X v r) (hg : Gl X x) (hm : X.mg x = none) (hb : bootBuiltins x = some v) (ha : PE X a (tE G W ma)) (hn : x ≠ ("__name__" : Str))
    (hd : (x == ("__debug__" : Str)) = false) (hs : starEach [a] X.env = (false, eval a X.env) :: starEach [] X.env)
    (i : ∀ σ H Q, tE G W m σ H Q → tE G W ma σ H fun u H1 => r [u] H1 Q) : PE X (.Call (.Name x p) [a] [] pos) (tE G W m) := by
  have pa : PA X [a] (tCons (tE G W ma) tNil) := pa_cons ha pa_nil hs
  rcases hv with ⟨id, rfl⟩ | ⟨T, rfl⟩
  · exact impE (pe_callB hc hg hm hb pa hn hd hs rfl) i
  · exact impE (pe_callTy hc hg hm hb pa hn hd hs rfl) i
theorem reps_key {K : PySem.W.Frag} {N : Addr → Prop} {H : Hp} : ∀ k : List Key, Reps K N H (k.map keyD) (k.map kV)
  | [] => .nil
  | .inl i :: r => .cons (rep_int i) (reps_key r)
  | .inr i :: r => .cons (rep_str i) (reps_key r)
theorem reps_keys {K : PySem.W.Frag} {N : Addr → Prop} {H : Hp} {kvs : List (List Key × V)} {bs : List Addr} (h : IsKeys H kvs bs) (hz : ∀ k ∈ kvs.map (fun (q : List Key × V) => q.1), k.length ≤ line) : Reps K N H (keysD (kvs.map fun (q : List Key × V) => q.1)) (bs.map V.ref) := by
  unfold IsKeys at h
  induction h with
  | nil => exact .nil
  | cons h _ ih => exact .cons (rep_tup (.inl (.inl h)) (by rw [List.length_map]; exact hz _ List.mem_cons_self) (reps_key _)) (ih fun k hk => hz k (List.mem_cons_of_mem _ hk))
theorem b1V_ok {w : Wd} {s : S} {H : Hp} {σ : L2.St} {f : B1} {v z : Val} {u : V} {Q : V → Hp → Prop} (ok : Ok G w s H) (r : SlotR G w H v u) (e : b1V f s v = some z) (h : Post G W (relV G) w H σ (.ok z s) Q) : rB1 G.K f [u] H Q := by
  have gen : (∀ ns, v ≠ .scr ns) → (∀ ks xs, v ≠ .ownT ks xs) → rB1 G.K f [u] H Q := fun hn hn2 => by
    have e : (match rd s v with
      | some x => (b1 f x).map Val.d
      | none => none) = some z := by
      cases v with
      | scr ns => exact absurd rfl (hn ns)
      | ownT ks xs => exact absurd rfl (hn2 ks xs)
      | _ => exact e
    cases q1 : rd s v with
    | none => rw [q1] at e; cases e
    | some x =>
      rw [q1] at e
      cases q2 : b1 f x with
      | none => simp only [q2] at e; cases e
      | some y =>
        simp only [q2] at e
        cases e
        exact b1_ok ok (rd_ok ok r q1) q2 h
  cases v with
  | scr ns =>
    have e : (if f = .len then some (Val.d (.int ns.length)) else none) = some z := e
    split at e
    · rename_i hf
      subst hf
      cases e
      obtain ⟨q, rfl, hp, _⟩ := r
      have hq : SqL G.K H q (ns.map V.int) := by
        rcases hp with ⟨o, hp⟩ | hp
        · exact .inl (.inr ⟨o, hp⟩)
        · rcases hp with (hp | ⟨o, hp⟩) | hp
          · cases hp
          · cases hp
          · exact .inr hp
      exact ⟨_, ns.length, rfl, .inl ⟨_, hq, by rw [List.length_map]⟩, Post.hereD ok h (rep_int _)⟩
    · cases e
  | ownT ks xs =>
    have e : (if f = .list then some (Val.d (.lst (keysD ks))) else none) = some z := e
    split at e
    · rename_i hf
      subst hf
      cases e
      obtain ⟨q, kvs, rfl, ho, h1, hk, ⟨hz, hkz⟩, h2⟩ := r
      refine .inr ⟨q, kvs, rfl, .inl h1, fun p bs hp hb => ?_⟩
      refine Post.newL (vs := bs.map V.ref) ok h ?_ ?_ p hp
      · subst hk
        exact reps_keys hb hkz
      · rw [List.length_map, ← Paired.length hb]; exact hz
    · cases e
  | _ => exact gen (fun ns hn => by cases hn) (fun ks xs hn => by cases hn)
theorem s_b1 (hK : G.K = X.K) (f : B1) (hc : f.walks = true → X.calm = true) (hg : Gl X (Str.ofString f.nm)) (hm : X.mg (Str.ofString f.nm) = none) (ha : PE X a (tE G W ma)) (hs : starEach [a] X.env = (false, eval a X.env) :: starEach [] X.env) :
    PE X (.Call (.Name (Str.ofString f.nm) p) [a] [] pos) (tE G W (mB1 f ma)) := by
  refine call1 (v := f.fv) (by cases f <;> first | exact .inl ⟨_, rfl⟩ | exact .inr ⟨_, rfl⟩) (cr_b1 f hc) hg hm (by cases f <;> decide +kernel) ha (by cases f <;> decide +kernel) (by cases f <;> decide +kernel) hs fun σ H Q ⟨w, s, e, ok, er, h⟩ => ?_
  refine one (R := fun u H => rB1 X.K f [u] H Q) ok er h fun w s H v u ok r _ h => ?_
  obtain ⟨z, e, h⟩ := of_ok h
  rw [← hK]
  exact b1V_ok ok r e h
/-! ### min(a, b), max(a, b) -/
theorem call2 {x : Str} {id : String} {r : List V → Hp → VK → Prop} {m : ME} (hc : CallR X (.builtin id) r) (hg : Gl X x) (hm : X.mg x = none) (hb : bootBuiltins x = some (.builtin id)) (ha : PE X a (tE G W ma)) (hb' : PE X b (tE G W mb)) (hn : x ≠ ("__name__" : Str))
    (hd : (x == ("__debug__" : Str)) = false) (hs : starEach [a, b] X.env = (false, eval a X.env) :: starEach [b] X.env) (hs2 : starEach [b] X.env = (false, eval b X.env) :: starEach [] X.env) (hpl : ((backTo pos (starEach [b] X.env)).any (·.1)) = false)
    (i : ∀ σ H Q, tE G W m σ H Q → tE G W ma σ H fun u H1 => tE G W mb σ H1 fun v H2 => r [u, v] H2 Q) : PE X (.Call (.Name x p) [a, b] [] pos) (tE G W m) :=
  impE (pe_callB hc hg hm hb (pa_cons ha (pa_cons hb' pa_nil hs2) hs) hn hd hs hpl) i
theorem s_min2 (hc : X.calm = true) (hg : Gl X "min") (hm : X.mg "min" = none) (ha : PE X a (tE G W ma)) (hb : PE X b (tE G W mb)) (hs : starEach [a, b] X.env = (false, eval a X.env) :: starEach [b] X.env) (hs2 : starEach [b] X.env = (false, eval b X.env) :: starEach [] X.env) (hpl : ((backTo pos (starEach [b] X.env)).any (·.1)) = false) :
    PE X (.Call (.Name "min" p) [a, b] [] pos) (tE G W (mMin2 ma mb)) := by
  refine call2 (call_min2 hc) hg hm (by decide +kernel) ha hb (by decide +kernel) (by decide +kernel) hs hs2 hpl fun σ H Q ⟨w, s, e, ok, er, h⟩ => ?_
  refine two (R := fun u v H => ∃ i j, [u, v] = [V.int i, V.int j] ∧ Q (V.int (if j < i then j else i)) H) ok er h fun w s H v v' u u' ok r r' _ h => ?_
  match v, v', h with
  | .d (.int i), .d (.int j), h => exact ⟨i, j, by rw [int_inv (slot_d r), int_inv (slot_d r')], Post.hereD ok h (rep_int _)⟩
theorem s_max2 (hc : X.calm = true) (hg : Gl X "max") (hm : X.mg "max" = none) (ha : PE X a (tE G W ma)) (hb : PE X b (tE G W mb)) (hs : starEach [a, b] X.env = (false, eval a X.env) :: starEach [b] X.env) (hs2 : starEach [b] X.env = (false, eval b X.env) :: starEach [] X.env) (hpl : ((backTo pos (starEach [b] X.env)).any (·.1)) = false) :
    PE X (.Call (.Name "max" p) [a, b] [] pos) (tE G W (mMax2 ma mb)) := by
  refine call2 (call_max2 hc) hg hm (by decide +kernel) ha hb (by decide +kernel) (by decide +kernel) hs hs2 hpl fun σ H Q ⟨w, s, e, ok, er, h⟩ => ?_
  refine two (R := fun u v H => ∃ i j, [u, v] = [V.int i, V.int j] ∧ Q (V.int (if j > i then j else i)) H) ok er h fun w s H v v' u u' ok r r' _ h => ?_
  match v, v', h with
  | .d (.int i), .d (.int j), h => exact ⟨i, j, by rw [int_inv (slot_d r), int_inv (slot_d r')], Post.hereD ok h (rep_int _)⟩
end
end MP
end

section
set_option Elab.async false
set_option linter.all false
set_option maxRecDepth 100000
set_option maxHeartbeats 4000000
/-! MP, part e: t[::-1], isinstance, methods of texts, {}. -/
namespace TupRev
open PySem PySem.Spec PyProof.Rows HT PySem.W
section
variable {prog : Program} {w : World} {A : Around} {E : Value → Shared → Prop} {s : Shared}
theorem applied_rev {sl : Addr} {t : Tok} {n : Nat} {Q : Int × Int × Nat → Shared → Prop} (hs : s.heap.IsSliceOf sl .none .none (.int (-1) t))
    (h : Q ((n : Int) - 1, -1, n) s) : wpAny (model prog w) A (Builtin.Slice.sliceApplied (.ref sl) (pure (n : Int))) Q E s := by
  obtain ⟨os, hos, hcs, hds⟩ := id hs
  unfold Builtin.Slice.sliceApplied Builtin.Slice.sliceFields
  refine wpAny_bind (wpAny_bind (wpAny_field hos hds (x := .none) rfl (wpAny_bind (wpAny_field hos hds (x := .none) rfl (wpAny_bind (wpAny_field hos hds (x := .int (-1) t) rfl (wpAny_pure ?_)))))))
  refine wpAny_bind (slicePart_int ?_)
  show wpAny _ _ (if ((-1 : Int) == 0) = true then _ else _) _ _ s
  rw [if_neg (by decide)]
  refine wpAny_bind (slicePart_none (wpAny_bind (slicePart_none (wpAny_bind (wpAny_pure ?_)))))
  show wpAny _ _ (match Builtin.Slice.sliceAdjust none none (-1) (n : Int) with | (lo, hi) => pure (lo, (-1 : Int), Builtin.Slice.slicePlaces lo hi (-1))) _ _ s
  have e : Builtin.Slice.sliceAdjust none none (-1) (n : Int) = ((n : Int) - 1, -1) := rfl
  rw [e]
  have e2 : Builtin.Slice.slicePlaces ((n : Int) - 1) (-1) (-1) = n := by
    unfold Builtin.Slice.slicePlaces
    rw [if_neg (by decide)]
    by_cases hn : (n : Int) - 1 > -1
    · rw [if_pos hn, show (- -1 : Int) = 1 by decide, Int.ediv_one]; omega
    · rw [if_neg hn]; omega
  show wpAny _ _ (pure ((n : Int) - 1, (-1 : Int), Builtin.Slice.slicePlaces ((n : Int) - 1) (-1) (-1))) _ _ s
  rw [e2]
  exact wpAny_pure h
theorem fm_congr {α β : Type} {f g : α → Option β} : ∀ {l : List α}, (∀ a ∈ l, f a = g a) → l.filterMap f = l.filterMap g
  | [], _ => rfl
  | a :: l, h => by
    rw [List.filterMap_cons, List.filterMap_cons, h a List.mem_cons_self, fm_congr fun b hb => h b (List.mem_cons_of_mem _ hb)]
theorem pick_rev (xs : Array Value) : ((List.range xs.size).filterMap fun (m : Nat) => xs[((xs.size : Int) - 1 + (m : Int) * (-1)).toNat]?).toArray = xs.toList.reverse.toArray := by
  have e : ((List.range xs.size).filterMap fun (m : Nat) => xs[((xs.size : Int) - 1 + (m : Int) * (-1)).toNat]?) = ((List.range xs.size).map fun k => xs.size - 1 - k).filterMap (xs[·]?) := by
    rw [List.filterMap_map]
    refine fm_congr fun m hm => ?_
    have := List.mem_range.mp hm
    show xs[((xs.size : Int) - 1 + (m : Int) * (-1)).toNat]? = xs[xs.size - 1 - m]?
    congr 1
    omega
  rw [e, krv_range, List.filterMap_reverse, krv_all]
theorem getItem_tuple_rev {t sl : Addr} {tk : Tok} {items : Array Value} {Q : Value → Shared → Prop} (ht : IsTup s.heap t items) (hs : s.heap.IsSliceOf sl .none .none (.int (-1) tk))
    (h : Q (.ref s.heap.objs.size) { s with heap := s.heap.push { cls := .type "tuple", data := .seq items.toList.reverse.toArray } })
    (hsz : items.size ≤ sizeLine) : wpAny (model prog w) A (getItem (.ref t) (.ref sl)) Q E s := by
  have htake : sizeOk (.seq items.toList.reverse.toArray) := by
    show items.toList.reverse.toArray.size ≤ sizeLine
    rw [List.size_toArray, List.length_reverse, Array.length_toList]
    exact hsz
  obtain ⟨os, hos, hcs, hds⟩ := id hs
  have hTs : s.TypeIs (.ref sl) "slice" := ⟨os, hos, hcs⟩
  unfold getItem
  try with_reducible refine wpAny_holding ?_
  first | refine wpAny_bind (wpAny_pure ?_) | skip
  refine wpAny_bind (wpAny_sequenceKey ht.typeIs (by decide) ?_)
  refine wpAny_bind (wpAny_callSpecial?_slot (name := Str.ofString "__getitem__") ht.typeIs PyProof.Rows.slot_tuple_getitem
    (wpAny_call_entry PyProof.Rows.slot_tuple_getitem ht.typeIs entry_tuple_getitem ?_ (args_tuple_getitem _ _)))
  show wpAny _ _ (Builtin.Tuple.tupleItemsOf (.ref t) >>= _) _ _ s
  refine wpAny_bind (tupleItemsOf_ ht ?_)
  refine wpAny_bind (wpAny_typeOf hTs ?_)
  rw [if_pos (by decide)]
  refine wpAny_bind (applied_rev hs ?_)
  have hno : ¬ (((items.size : Int) - 1 == 0 && (-1 : Int) == 1 && items.size == items.size) = true) := by
    rw [show ((-1 : Int) == 1) = false from by decide, Bool.and_false, Bool.false_and]
    exact Bool.false_ne_true
  show wpAny _ _ (if ((items.size : Int) - 1 == 0 && (-1 : Int) == 1 && items.size == items.size) = true then _ else _) _ _ s
  rw [if_neg hno, pick_rev]
  first
    | exact wpAny_bind (m := Builtin.Tuple.tupleExact _) (wpAny_newObj_type (wpAny_pure ⟨_, rfl, wpAny_pure h⟩) htake)
    | exact wpAny_bind (m := Builtin.Tuple.tupleExact _) (wpAny_newObj_type (wpAny_bind (wpAny_pure (wpAny_pure ⟨_, rfl, wpAny_pure h⟩))) htake)
    | exact wpAny_bind (wpAny_bind (m := Builtin.Tuple.tupleExact _) (wpAny_newObj_type (wpAny_pure (wpAny_pure ⟨_, rfl, wpAny_pure h⟩)) htake))
    | exact wpAny_bind (wpAny_bind (m := Builtin.Tuple.tupleExact _) (wpAny_newObj_type (wpAny_pure ⟨_, rfl, wpAny_pure h⟩) htake))
end
end TupRev
namespace MP
open PySem PySem.Spec PyProof.Rows L2
section
variable {X : Cx} {G : Gd} {W : WX} {pos p : Pos} {a b c : Expr} {ma mb mc : ME}
/-- xs[::-1], a list or a tuple -/
def tRev (K : PySem.W.Frag) (te : TE) : TE := fun σ H Q => te σ H fun x H1 => ∃ a xs, x = .ref a ∧ ((SqL K H1 a xs ∧ ∀ p, H1 p = none → Q (.ref p) (upd H1 p (.lst xs.reverse))) ∨ (SqT K H1 a xs ∧ ∀ p, H1 p = none → Q (.ref p) (upd H1 p (.tup xs.reverse))))
theorem pe_rev {e : Expr} {te : TE} {k : Nat} {p1 p2 p3 pos : Pos} (he : PE X e te) : PE X (.Subscript e (.Slice none none (some (.UnaryOp .USub (.Constant (.int 1) k p1) p2)) p3) pos) (tRev X.K te) := by
  refine ⟨fun pins s σ H Q I h => ?_⟩
  refine Subscript_ (thn (he.run pins s σ H _ I h) fun v s1 ⟨x, H1, I1, r1, q1⟩ => ?_)
  obtain ⟨a, xs, ex, hx⟩ := q1
  subst ex
  cases r1
  have hst : PO X (some (.UnaryOp .USub (.Constant (.int 1) k p1) p2)) (tPart (tUn (rU fun i => .int (-i)) (tC (.int 1)))) := po_some (pe_un un_neg pe_int)
  refine wpAny_Slice (thn (po_none.run pins s1 σ H1 (fun o H2 => o = none ∧ H2 = H1) I1 ⟨rfl, rfl⟩) fun vl s2 ⟨l, H2, I2, pl, el, e2⟩ => ?_)
  subst el e2
  refine thn (po_none.run pins s2 σ H2 (fun o H3 => o = none ∧ H3 = H2) I2 ⟨rfl, rfl⟩) fun vu s3 ⟨u, H3, I3, pu, eu, e3⟩ => ?_
  subst eu e3
  refine thn (hst.run pins s3 σ H3 (fun o H4 => o = some (-1) ∧ H4 = H3) I3 ⟨1, rfl, -1, rfl, rfl, rfl⟩) fun vs s4 ⟨o, H4, I4, ps, eo, e4⟩ => ?_
  subst eo e4
  have I5 : Inv X pins σ H4 { s4 with heap := s4.heap.push { cls := .type "slice", data := .fields #[vl, vu, vs] } } := I4.kept (t' := s4.toks) fun b ob q => Heap.get?_push_of_some _ q
  show wpAny (model X.prog X.w) X.A (subscriptTail e (.Slice none none (some (.UnaryOp .USub (.Constant (.int 1) k p1) p2)) p3) (.ref a) (.ref s4.heap.objs.size)) (EP X pins σ Q) X.xe { s4 with heap := s4.heap.push { cls := .type "slice", data := .fields #[vl, vu, vs] } }
  rcases hx with ⟨hx, q⟩ | ⟨hx, q⟩
  · obtain ⟨its, r, ht, hz⟩ := I5.list hx
    have hlen := r.length
    refine tail_any (ops := [.ref a, .ref s4.heap.objs.size]) ht.isList.typeIs (PySem.slot_list_getitem.lookup) ?_ (by with_unfolding_all rfl)
    refine wpAny_getItem_list_slice ht.isList (Heap.IsSliceOf.new _ vl vu vs) pl pu ps (by decide) ?_ (by rw [List.size_toArray]; omega)
    rw [PySem.W.krv_pick]
    refine ⟨.ref _, _, I5.laid (t' := s4.toks) (o := .lst xs.reverse) (fun b ob q => Heap.get?_push_of_some _ q) (Nat.le_refl _) ?_, rfl, q _ (I5.hok.fresh (Nat.le_refl _))⟩
    exact ⟨by rw [List.length_reverse]; exact hz, _, 0, r.reverse, Heap.get?_push_size _ rfl⟩
  · obtain ⟨its, r, ht, hz⟩ := I5.tuple hx
    have hlen := r.length
    refine tail_any (ops := [.ref a, .ref s4.heap.objs.size]) ht.typeIs (PyProof.Rows.slot_tuple_getitem.lookup) ?_ (by with_unfolding_all rfl)
    cases pl
    cases pu
    cases ps with
    | int i t =>
      refine TupRev.getItem_tuple_rev ht (Heap.IsSliceOf.new _ .none .none (.int (-1) t)) ?_ (by rw [List.size_toArray]; omega)
      refine ⟨.ref _, _, I5.laid (t' := s4.toks) (o := .tup xs.reverse) (fun b ob q => Heap.get?_push_of_some _ q) (Nat.le_refl _) ?_, rfl, q _ (I5.hok.fresh (Nat.le_refl _))⟩
      exact ⟨by rw [List.length_reverse]; exact hz, _, r.reverse, ⟨_, Heap.get?_push_size _ rfl, rfl, _, rfl⟩⟩
theorem s_rev (hK : G.K = X.K) {k : Nat} {p1 p2 p3 : Pos} (ha : PE X a (tE G W ma)) : PE X (.Subscript a (.Slice none none (some (.UnaryOp .USub (.Constant (.int 1) k p1) p2)) p3) pos) (tE G W (mRev ma)) := by
  refine impE (pe_rev ha) fun σ H Q ⟨w, s, e, ok, er, h⟩ => ?_
  refine one (R := fun x H1 => ∃ a xs, x = .ref a ∧ ((SqL X.K H1 a xs ∧ ∀ p, H1 p = none → Q (.ref p) (upd H1 p (.lst xs.reverse))) ∨ (SqT X.K H1 a xs ∧ ∀ p, H1 p = none → Q (.ref p) (upd H1 p (.tup xs.reverse))))) ok er h fun w s H v u ok r _ h => ?_
  cases q1 : rd s v with
  | none => rw [q1] at h; exact h.elim
  | some x =>
    rw [q1] at h
    have rx := rd_ok ok r q1
    cases x with
    | tup xs =>
      obtain ⟨q, vs, rfl, h1, hz, h2⟩ := rep_tup_inv rx
      exact ⟨q, vs, rfl, .inr ⟨by rw [← hK]; exact h1, Post.newT ok h h2.reverse (by rw [List.length_reverse]; exact hz)⟩⟩
    | lst xs =>
      obtain ⟨q, vs, rfl, h1, hz, h2⟩ := lst_inv rx
      exact ⟨q, vs, rfl, .inl ⟨.inl (.inl h1), Post.newL ok h h2.reverse (by rw [List.length_reverse]; exact hz)⟩⟩
    | _ => exact h.elim
/-! ### {} -/
theorem s_dic0 : PE X (.Dict [] [] pos) (tE G W mDic0) := by
  refine impE pe_dnewK fun σ H Q ⟨w, s, e, ok, er, h⟩ => fun p hn => ?_
  obtain ⟨ok1, x⟩ := ok.grow (grow_upd (o := .dK []) hn)
  refine h w _ (.ref p) x ok1 ?_
  show Rep G.K w.N _ (.dic [] []) (.ref p)
  unfold Rep
  exact ⟨p, [], rfl, ok.notN hn, upd_same, rfl, .nil⟩
/-! ### isinstance -/
def D.tn : D → String
  | .non => "NoneType" | .bl _ => "bool" | .int _ => "int" | .str _ => "str" | .tup _ => "tuple" | .tuq _ => "tuple" | .lst _ => "list" | .dic _ _ => "dict"
def Ty.nm : Ty → String
  | .int => "int" | .bool => "bool" | .str => "str" | .list => "list" | .tuple => "tuple" | .dict => "dict" | .ec _ => "" | .valueError => "ValueError"
def Ty.v (cA : EC → Addr) : Ty → V
  | .ec c => .ref (cA c)
  | t => .ty t.nm
def Ty.u (cA : EC → Addr) : Ty → Value
  | .ec c => .ref (cA c)
  | t => .type t.nm
theorem Ty.rel (cA : EC → Addr) (t : Ty) : RelV (t.v cA) (t.u cA) := by cases t <;> rfl
theorem Ty.cls (cA : EC → Addr) (t : Ty) : ClsV (t.v cA) (t.u cA) := by cases t <;> constructor
def tnIs (n : String) (t : Ty) : Bool := n == t.nm || (n == "bool" && t.nm == "int")
theorem kit_names : ∀ n ∈ ["NoneType", "bool", "int", "str", "tuple", "list", "dict"], ∀ t ∈ [Ty.int, .bool, .str, .list, .tuple, .dict], kitB n t.nm = some (tnIs n t) := by decide +kernel
theorem noData {t : Ty} (h : t.data = true) : t = .int ∨ t = .bool ∨ t = .str ∨ t = .list ∨ t = .tuple ∨ t = .dict := by
  cases t with
  | int => simp
  | bool => simp
  | str => simp
  | list => simp
  | tuple => simp
  | dict => simp
  | ec c => cases h
  | valueError => cases h
theorem kit_data (x : D) (t : Ty) (h : t.data = true) : kitB x.tn t.nm = some (isTy x t) := by
  have e : isTy x t = tnIs x.tn t := by
    rcases noData h with rfl | rfl | rfl | rfl | rfl | rfl <;> cases x <;> rfl
  rw [e]
  refine kit_names _ ?_ _ ?_
  · cases x <;> simp [D.tn]
  · rcases noData h with rfl | rfl | rfl | rfl | rfl | rfl <;> simp
theorem Ty.u_data {t : Ty} (cA : EC → Addr) (h : t.data = true) : t.u cA = .type t.nm := by
  rcases noData h with rfl | rfl | rfl | rfl | rfl | rfl <;> rfl
theorem ty_data {K : PySem.W.Frag} {N : Addr → Prop} {H : Hp} {x : D} {u : V} (r : RdR K N H x u) : TyX K H u (.type x.tn) := by
  cases x with
  | non => rw [non_inv r]; exact .base .non
  | bl b => rw [bl_inv r]; exact .base (.bl b)
  | int b => rw [int_inv r]; exact .base (.int b)
  | str b => rw [str_inv r]; exact .base (.str b)
  | tup xs =>
    obtain ⟨q, vs, rfl, h1, _, _⟩ := rep_tup_inv r
    rcases h1 with (h1 | ⟨o, h1⟩) | ⟨o, its, n, hk, hc, _⟩
    · exact .base (.tup h1)
    · exact .fTuple h1
    · exact .kTuple hk hc
  | tuq xs =>
    obtain ⟨q, vs, rfl, ⟨o, _, h1⟩, _, _⟩ := rep_tuq_inv r
    exact .fTuple h1
  | lst xs =>
    obtain ⟨q, vs, rfl, h1, _, _⟩ := lst_inv r
    exact .base (.lst h1)
  | dic ks us =>
    have r : Rep K N H (.dic ks us) u := r
    unfold Rep at r
    obtain ⟨q, vs, rfl, _, h1, _⟩ := r
    exact .base (.dK h1)
/-- what isinstance says of the error that is handled -/
structure HxOk (X : Cx) (G : Gd) : Prop where
  one : ∀ a c d, G.hx = some (a, c, d) → ∀ t : Ty, t.data = false → CallR X (.builtin "isinstance") fun xs H Q => xs = [.ref a, t.v G.cA] ∧ Q (.bl (isEx c t)) H
  many : ∀ a c d, G.hx = some (a, c, d) → ∀ ts : List Ty, ts.any Ty.data = false → CallR X (.builtin "isinstance") fun xs H Q => ∃ tp, xs = [.ref a, .ref tp] ∧ H tp = some (.tup (ts.map (Ty.v G.cA))) ∧ Q (.bl (ts.any (isEx c))) H
theorem HxOk.no {G : Gd} (h : G.hx = none) : HxOk X G := ⟨fun a c d e => (by rw [h] at e; cases e), fun a c d e => (by rw [h] at e; cases e)⟩
def rIs1 (G : Gd) (t : Ty) : List V → Hp → VK → Prop := fun xs H Q => rIsi G.K xs H Q ∨ ∃ a c d, G.hx = some (a, c, d) ∧ t.data = false ∧ xs = [.ref a, t.v G.cA] ∧ Q (.bl (isEx c t)) H
theorem call_is1 (hK : G.K = X.K) (hx : HxOk X G) (t : Ty) : CallR X (.builtin "isinstance") (rIs1 G t) := fun pins s σ H xs us Q I r h => by
  rcases h with h | ⟨a, c, d, e, ht, h⟩
  · rw [hK] at h; exact call_isi pins s σ H xs us Q I r h
  · exact hx.one a c d e t ht pins s σ H xs us Q I r h
theorem isV_ok {w : Wd} {s : S} {H : Hp} {σ : L2.St} {v : Val} {u : V} {t : Ty} {k : Bool} {Q : VK} (ok : Ok G w s H) (r : SlotR G w H v u) (e : isV s v t = some k) (q : Q (.bl k) H) : rIs1 G t [u, t.v G.cA] H Q := by
  have gen : (∀ c x, v ≠ .exc c x) → rIs1 G t [u, t.v G.cA] H Q := fun hn => by
    have e : (if t.data then (rd s v).map (isTy · t) else none) = some k := by
      cases v with
      | exc c x => exact absurd rfl (hn c x)
      | _ => exact e
    split at e
    · rename_i ht
      cases q1 : rd s v with
      | none => rw [q1] at e; cases e
      | some x =>
        rw [q1] at e
        cases e
        refine .inl ⟨u, t.v G.cA, _, t.u G.cA, isTy x t, rfl, t.cls G.cA, ty_data (rd_ok ok r q1), ?_, q⟩
        have hu : t.u G.cA = .type t.nm := t.u_data G.cA ht
        rw [hu]
        exact kit_ty (kit_data x t ht)
    · cases e
  cases v with
  | exc c x =>
    have e : (if t.data then none else some (isEx c t)) = some k := e
    split at e
    · cases e
    · rename_i ht
      cases e
      obtain ⟨a, d, ha, rfl, _⟩ := r
      exact .inr ⟨a, c, d, ha, by simpa using ht, rfl, q⟩
  | _ => exact gen fun c x hn => by cases hn
theorem bl_mapped {α : Type} {w : Wd} {H : Hp} {σ : L2.St} {r : MP.R α} {f : α → S → MP.R Bool} {Q : V → Hp → Prop} (h : Post G W (relV G) w H σ ((r.bind f).bind fun b s => .ok (.d (.bl b)) s) Q) : Post G W (relV G) w H σ (r.bind fun v s => (f v s).bind fun b s => .ok (.d (.bl b)) s) Q := by
  cases r <;> exact h
theorem s_isI (hK : G.K = X.K) (hx : HxOk X G) {t : Ty} {tn : Expr} (ht : PE X tn (tC (t.v G.cA))) (hg : Gl X "isinstance") (hm : X.mg "isinstance" = none) (ha : PE X a (tE G W ma))
    (hs : starEach [a, tn] X.env = (false, eval a X.env) :: starEach [tn] X.env) (hs2 : starEach [tn] X.env = (false, eval tn X.env) :: starEach [] X.env) (hpl : ((backTo pos (starEach [tn] X.env)).any (·.1)) = false) :
    PE X (.Call (.Name "isinstance" p) [a, tn] [] pos) (tE G W (mBl (mIsI ma t))) := by
  refine impE (pe_callB (call_is1 hK hx t) hg hm (by decide +kernel) (pa_cons ha (pa_cons ht pa_nil hs2) hs) (by decide +kernel) (by decide +kernel) hs hpl) fun σ H Q ⟨w, s, e, ok, er, h⟩ => ?_
  refine one (R := fun u H => rIs1 G t [u, t.v G.cA] H Q) ok er (bl_mapped h) fun w s H v u ok r _ h => ?_
  cases q : isV s v t with
  | none => rw [q] at h; exact h.elim
  | some k => rw [q] at h; exact isV_ok (σ := σ) ok r q (Post.hereD ok h (rep_bl k))
/-- the names of some classes -/
theorem pa_tys {ts : List Ty} {es : List Expr} (h : Paired (fun t e => PE X e (tC (Ty.v G.cA t))) ts es) (hs : ∀ (e : Expr) (r : List Expr), (∃ i, es.drop i = e :: r) → starEach (e :: r) X.env = (false, eval e X.env) :: starEach r X.env) :
    PA X es (fun _ H Q => Q (ts.map (Ty.v G.cA)) H) := by
  induction h with
  | nil => exact pa_nil
  | cons h1 h2 ih =>
    have ih := ih fun e r ⟨i, hi⟩ => hs e r ⟨i + 1, hi⟩
    exact impA (pa_cons h1 ih (hs _ _ ⟨0, rfl⟩)) fun σ H Q h => h
theorem kitAny_data {K : PySem.W.Frag} (cA : EC → Addr) (x : D) : ∀ ts : List Ty, ts.all Ty.data = true → PySem.W.kitAny K (.type x.tn) (ts.map (Ty.u cA)) = some (ts.any (isTy x))
  | [], _ => rfl
  | t :: ts, h => by
    rw [List.all_cons, Bool.and_eq_true] at h
    have hu : t.u cA = .type t.nm := t.u_data cA h.1
    rw [List.map_cons, hu]
    unfold PySem.W.kitAny
    rw [kit_ty (kit_data x t h.1), List.any_cons]
    cases isTy x t with
    | true => rfl
    | false => exact kitAny_data cA x ts h.2
def rIsM (G : Gd) (ts : List Ty) : List V → Hp → VK → Prop := fun xs H Q => rIsiT G.K xs H Q ∨ ∃ a c d, G.hx = some (a, c, d) ∧ ts.any Ty.data = false ∧ ∃ tp, xs = [.ref a, .ref tp] ∧ H tp = some (.tup (ts.map (Ty.v G.cA))) ∧ Q (.bl (ts.any (isEx c))) H
theorem call_isM (hK : G.K = X.K) (hx : HxOk X G) (ts : List Ty) : CallR X (.builtin "isinstance") (rIsM G ts) := fun pins s σ H xs us Q I r h => by
  rcases h with h | ⟨a, c, d, e, ht, h⟩
  · rw [hK] at h; exact call_isiT pins s σ H xs us Q I r h
  · exact hx.many a c d e ts ht pins s σ H xs us Q I r h
theorem paired_cls (cA : EC → Addr) : ∀ ts : List Ty, Paired ClsV (ts.map (Ty.v cA)) (ts.map (Ty.u cA))
  | [] => .nil
  | t :: ts => .cons (t.cls cA) (paired_cls cA ts)
theorem s_isIs (hK : G.K = X.K) (hx : HxOk X G) {ts : List Ty} {es : List Expr} {x1} {p2 : Pos} (ht : PA X es (fun _ H Q => Q (ts.map (Ty.v G.cA)) H)) (hz : ts.length ≤ 100) (hg : Gl X "isinstance") (hm : X.mg "isinstance" = none) (ha : PE X a (tE G W ma))
    (hs : starEach [a, .Tuple es x1 p2] X.env = (false, eval a X.env) :: starEach [.Tuple es x1 p2] X.env) (hs2 : starEach [.Tuple es x1 p2] X.env = (false, eval (.Tuple es x1 p2) X.env) :: starEach [] X.env) (hpl : ((backTo pos (starEach [.Tuple es x1 p2] X.env)).any (·.1)) = false) :
    PE X (.Call (.Name "isinstance" p) [a, .Tuple es x1 p2] [] pos) (tE G W (mBl (mIsIs ma ts))) := by
  refine impE (pe_callB (call_isM hK hx ts) hg hm (by decide +kernel) (pa_cons ha (pa_cons (pe_tup ht) pa_nil hs2) hs) (by decide +kernel) (by decide +kernel) hs hpl) fun σ H Q ⟨w, s, e, ok, er, h⟩ => ?_
  refine one (R := fun u H => (ts.map (Ty.v G.cA)).length ≤ sizeLine ∧ ∀ q, H q = none → rIsM G ts [u, .ref q] (upd H q (.tup (ts.map (Ty.v G.cA)))) Q) ok er (bl_mapped h) fun w s H v u ok r _ h => ?_
  refine ⟨by rw [List.length_map, ← line_eq]; show ts.length ≤ 16777216; omega, fun q hn => ?_⟩
  obtain ⟨ok1, xt⟩ := ok.grow (grow_upd (o := .tup (ts.map (Ty.v G.cA))) hn)
  have r1 := r.ext ok xt
  have h1 := Post.mono xt ok1 h
  cases qv : isVs s v ts with
  | none => rw [qv] at h1; exact h1.elim
  | some k =>
    rw [qv] at h1
    have fin : Q (.bl k) (upd H q (.tup (ts.map (Ty.v G.cA)))) := Post.hereD ok1 h1 (rep_bl k)
    have gen : (∀ c x, v ≠ .exc c x) → rIsM G ts [u, .ref q] (upd H q (.tup (ts.map (Ty.v G.cA)))) Q := fun hnx => by
      have e : (if ts.all Ty.data then (rd s v).map (fun x => ts.any (isTy x)) else none) = some k := by
        cases v with
        | exc c x => exact absurd rfl (hnx c x)
        | _ => exact qv
      split at e
      · rename_i hd
        cases q1 : rd s v with
        | none => rw [q1] at e; cases e
        | some x =>
          rw [q1] at e
          cases e
          exact .inl ⟨u, q, _, _, _, _, rfl, upd_same, paired_cls G.cA ts, ty_data (rd_ok ok1 r1 q1), kitAny_data G.cA x ts hd, fin⟩
      · cases e
    cases v with
    | exc c x =>
      have e : (if ts.any Ty.data then none else some (ts.any (isEx c))) = some k := qv
      split at e
      · cases e
      · rename_i hd
        cases e
        obtain ⟨a, d, ha, rfl, _⟩ := r1
        exact .inr ⟨a, c, d, ha, by simpa using hd, q, rfl, upd_same, fin⟩
    | _ => exact gen fun c x hn => by cases hn
/-! ### methods of texts -/
def attrOk (a : Expr) (n : Str) (env : PySem.Env) : Prop := attributeBase a n env (eval a env) = eval a env
theorem s_join (hK : G.K = X.K) {apos : Pos} (ha : PE X a (tE G W ma)) (hb : PE X b (tE G W mb)) (hbase : attrOk a "join" X.env)
    (hf : ((((backTo pos (starEach [b] X.env)).all fun x => !x.1) && (backToKw pos (keywordEach [] X.env)).all fun x => x.1.isSome) && decide (([b].length + ([] : List Keyword).length + if ([] : List Keyword).isEmpty = true then 0 else 1) < 30)) = true) (hl : (apos.endLine == pos.line) = true)
    (hs : starEach [b] X.env = (false, eval b X.env) :: starEach [] X.env) : PE X (.Call (.Attribute a "join" apos) [b] [] pos) (tE G W (mJoin ma mb)) := by
  refine impE (pe_bm F.plainAttrs_str F.slot_str_join F.type_str_join mt_join ha (pa_cons hb pa_nil hs) hbase hf hl hs rfl) fun σ H Q ⟨w, s, e, ok, er, h⟩ => ?_
  refine ⟨w, s, e, ok, er, Post.bind (rel := relV G) h fun w1 s1 H1 v u x1 ok1 r1 h1 => ?_⟩
  match v, h1 with
  | .d (.str z), h1 =>
    rw [str_inv (slot_d r1)]
    refine ⟨rfl, w1, s1, e, ok1, er.ext ok x1, Post.bind (rel := relV G) h1 fun w2 s2 H2 v2 u2 x2 ok2 r2 h2 => ?_⟩
    cases q1 : rd s2 v2 with
    | none => rw [q1] at h2; exact h2.elim
    | some x =>
      rw [q1] at h2
      dsimp only at h2
      cases q2 : items x with
      | none => rw [q2] at h2; exact h2.elim
      | some xs =>
        rw [q2] at h2
        dsimp only at h2
        cases q3 : strsD xs with
        | none => rw [q3] at h2; exact h2.elim
        | some ys =>
          rw [q3] at h2
          dsimp only at h2
          split at h2
          · rename_i hl
            obtain ⟨q, vs, rfl, h3, hz, h4⟩ := items_rep (rd_ok ok2 r2 q1) q2
            rw [strs_ok q3] at h4
            rw [reps_str h4] at h3
            exact ⟨z, q, ys, rfl, rfl, by rw [← hK]; exact h3, hl, Post.hereD ok2 h2 (rep_str _)⟩
          · exact h2.elim
theorem s_split {apos : Pos} (ha : PE X a (tE G W ma)) (hb : PE X b (tE G W mb)) (hbase : attrOk a "split" X.env)
    (hf : ((((backTo pos (starEach [b] X.env)).all fun x => !x.1) && (backToKw pos (keywordEach [] X.env)).all fun x => x.1.isSome) && decide (([b].length + ([] : List Keyword).length + if ([] : List Keyword).isEmpty = true then 0 else 1) < 30)) = true) (hl : (apos.endLine == pos.line) = true)
    (hs : starEach [b] X.env = (false, eval b X.env) :: starEach [] X.env) : PE X (.Call (.Attribute a "split" apos) [b] [] pos) (tE G W (mSplit ma mb)) := by
  refine impE (pe_bm F.plainAttrs_str F.slot_str_split F.type_str_split mt_split ha (pa_cons hb pa_nil hs) hbase hf hl hs rfl) fun σ H Q ⟨w, s, e, ok, er, h⟩ => ?_
  refine ⟨w, s, e, ok, er, Post.bind (rel := relV G) h fun w1 s1 H1 v u x1 ok1 r1 h1 => ?_⟩
  match v, h1 with
  | .d (.str z), h1 =>
    rw [str_inv (slot_d r1)]
    refine ⟨rfl, w1, s1, e, ok1, er.ext ok x1, Post.bind (rel := relV G) h1 fun w2 s2 H2 v2 u2 x2 ok2 r2 h2 => ?_⟩
    match v2, h2 with
    | .d (.str y), h2 =>
      rw [str_inv (slot_d r2)]
      dsimp only at h2
      split at h2
      · rename_i hc
        exact ⟨z, y, rfl, rfl, hc.1, by rw [← line_eq]; exact hc.2.1, Post.newL ok2 h2 (by rw [List.map_congr_left (g := D.str) fun _ _ => rfl]; exact of_str _) (by rw [List.length_map]; exact hc.2.2)⟩
      · exact h2.elim
theorem s_words {apos : Pos} (ha : PE X a (tE G W ma)) (hbase : attrOk a "split" X.env) (hl : (apos.endLine == pos.line) = true) : PE X (.Call (.Attribute a "split" apos) [] [] pos) (tE G W (mWords ma)) := by
  refine impE (pe_bm0 F.plainAttrs_str F.slot_str_split F.type_str_split mt_words ha hbase hl) fun σ H Q ⟨w, s, e, ok, er, h⟩ => ?_
  refine ⟨w, s, e, ok, er, Post.bind (rel := relV G) h fun w1 s1 H1 v u x1 ok1 r1 h1 => ?_⟩
  match v, h1 with
  | .d (.str z), h1 =>
    rw [str_inv (slot_d r1)]
    dsimp only at h1
    split at h1
    · rename_i hc
      exact ⟨rfl, z, rfl, rfl, by rw [← line_eq]; exact hc.1, Post.newL ok1 h1 (of_str _) (by rw [List.length_map]; exact hc.2)⟩
    · exact h1.elim
end
end MP
end

section
set_option Elab.async false
set_option linter.all false
set_option maxRecDepth 100000
set_option maxHeartbeats 4000000
/-! MP, part f: what is walked, comprehensions, statements. -/
namespace MP
open PySem PySem.Spec PyProof.Rows L2

theorem Last.trans {N N1 N2 : Addr → Prop} {H H1 H2 : Hp} (a : Last N N1 H H1) (b : Last N1 N2 H1 H2) : Last N N2 H H2 := by
  refine ⟨fun p o h hn => b.keep p o (a.keep p o h hn) fun z => ?_, fun p h => ?_, a.mu⟩
  · rcases a.bad p z with z | z
    · exact hn z
    · rw [z] at h; cases h
  · rcases b.bad p h with z | z
    · exact a.bad p z
    · by_cases hp : N p
      · exact .inl hp
      · cases q : H p with
        | none => exact .inr rfl
        | some o => rw [a.keep p o q hp] at z; cases z
theorem Last.refl {G : Gd} {w : Wd} {s : S} {H : Hp} (ok : Ok G w s H) : Last w.N w.N H H := ⟨fun _ _ h _ => h, fun _ h => .inl h, ok.mu⟩
/-- J walks the data xs, as the heap lies -/
structure Walk (K : PySem.W.Frag) (N : Addr → Prop) (H : Hp) (J : It) (xs : List D) : Prop where
  go : ∀ (i : Nat) x, xs[i]? = some x → J.go i H ∧ ∀ y H', J.yld i H y H' → H' = H ∧ Rep K N H x y
  stop : J.stop xs.length H
/-- .. and goes on so, whatever comes -/
def Walks (K : PySem.W.Frag) (N : Addr → Prop) (H : Hp) (J : It) (xs : List D) : Prop := ∀ N' H', Last N N' H H' → Walk K N' H' J xs
theorem Walks.last {K : PySem.W.Frag} {N N1 : Addr → Prop} {H H1 : Hp} {J : It} {xs : List D} (L : Last N N1 H H1) (h : Walks K N H J xs) : Walks K N1 H1 J xs := fun N' H' L' => h N' H' (L.trans L')
theorem walks_tup {K : PySem.W.Frag} {N : Addr → Prop} {H : Hp} {p : Addr} {xs : List D} {vs : List V} (h : SqT K H p vs) (r : Reps K N H xs vs) : Walks K N H (Itt K p) xs := fun N' H' L => by
  have h' := SqT.last L h
  have r' := Reps.last L xs r
  refine ⟨fun i x hx => ?_, ⟨vs, h', by rw [r.length]; exact Nat.le_refl _⟩⟩
  obtain ⟨v, hv, rv⟩ := r'.get hx
  refine ⟨⟨vs, v, h', hv⟩, fun y H2 hy => ⟨hy.1, ?_⟩⟩
  have e := hy.2 vs h'
  rw [hv] at e
  rw [← Option.some.inj e]
  exact rv
theorem walks_lst {K : PySem.W.Frag} {N : Addr → Prop} {H : Hp} {p : Addr} {xs : List D} {vs : List V} (hn : ¬ N p) (h : H p = some (.lst vs)) (r : Reps K N H xs vs) : Walks K N H (Itl K p) xs := fun N' H' L => by
  have h' : SqL K H' p vs := .inl (.inl (L.keep p _ h hn))
  have r' := Reps.last L xs r
  refine ⟨fun i x hx => ?_, ⟨vs, h', by rw [r.length]; exact Nat.le_refl _⟩⟩
  obtain ⟨v, hv, rv⟩ := r'.get hx
  refine ⟨⟨vs, v, h', hv⟩, fun y H2 hy => ⟨hy.1, ?_⟩⟩
  have e := hy.2 vs h'
  rw [hv] at e
  rw [← Option.some.inj e]
  exact rv
theorem rangeI_length (lo : Int) : ∀ n, (rangeI lo n).length = n := fun n => by
  induction n generalizing lo with
  | zero => rfl
  | succ n ih => unfold rangeI; rw [List.length_cons, ih]
theorem rangeI_get {n : Nat} {lo : Int} {i : Nat} {x : D} (h : (rangeI lo n)[i]? = some x) : i < n ∧ x = .int (lo + i) := by
  induction n generalizing lo i with
  | zero => cases h
  | succ n ih =>
    unfold rangeI at h
    cases i with
    | zero => cases h; exact ⟨Nat.succ_pos _, by simp⟩
    | succ i =>
      obtain ⟨h1, h2⟩ := ih (by simpa using h)
      refine ⟨Nat.succ_lt_succ h1, ?_⟩
      rw [h2]; congr 1; push_cast; omega
theorem walks_rng {K : PySem.W.Frag} {N : Addr → Prop} {H : Hp} (lo : Int) (n : Nat) : Walks K N H (Itr lo n) (rangeI lo n) := fun N' H' L => by
  refine ⟨fun i x hx => ?_, by show n ≤ _; rw [rangeI_length]; exact Nat.le_refl _⟩
  obtain ⟨h1, rfl⟩ := rangeI_get hx
  exact ⟨h1, fun y H2 hy => ⟨hy.1, by rw [hy.2]; exact rep_int _⟩⟩
abbrev relI (G : Gd) : Wd → S → Hp → List D → It → Prop := fun w _ H xs J => Walks G.K w.N H J xs ∧ xs.length ≤ line
def tI (G : Gd) (W : WX) (m : MI) : TI := fun σ H R => ∃ w s e, Ok G w s H ∧ EnvR G w H e σ ∧ Post G W (relI G) w H σ (m e s) R
theorem impI {X : Cx} {tg e : Expr} {t t' : TI} (h : PI X tg e t) (i : ∀ σ H R, t' σ H R → t σ H R) : PI X tg e t' := ⟨fun pins s σ H R I q => h.run pins s σ H R I (i σ H R q)⟩
section
variable {X : Cx} {G : Gd} {W : WX} {pos p : Pos} {tg a b c : Expr} {ma mb mc : ME}
/-- a list or a tuple, walked -/
def iSeq (K : PySem.W.Frag) (tl : TE) : TI := fun σ H R => tl σ H fun x H1 => ∃ a, x = .ref a ∧ (((∃ xs, SqL K H1 a xs) ∧ R (Itl K a) H1) ∨ ((∃ xs, SqT K H1 a xs) ∧ R (Itt K a) H1))
theorem pi_seq {l : Expr} {tl : TE} (hl : PE X l tl) : PI X tg l (iSeq X.K tl) := by
  refine ⟨fun pins s σ H R I h => ?_⟩
  refine thn (hl.run pins s σ H _ I h) fun v s1 ⟨x, H1, I1, r1, q1⟩ => ?_
  obtain ⟨a, e, q⟩ := q1
  subst e
  cases r1
  rcases q with ⟨⟨xs, hq⟩, q⟩ | ⟨⟨xs, hq⟩, q⟩
  · obtain ⟨its, rv, p, hz⟩ := I1.list hq
    refine wpAny_pyIter_list p.isList ?_
    refine ⟨s1.heap.objs.size, [s1.heap.objs.size], _, _, H1, rfl, I1.kept (t' := s1.toks) fun b o e => Heap.get?_push_of_some _ e, turn_list a _, ⟨_, Heap.get?_push_size _ rfl, rfl, rfl⟩, fun b hb => ?_, q⟩
    have e : b = s1.heap.objs.size := by simpa using hb
    subst e
    exact I1.fpOk (Nat.le_refl _) (I1.hok.fresh (Nat.le_refl _))
  · obtain ⟨its, rv, p, hz⟩ := I1.tuple hq
    refine wpAny_pyIter_tuple (show s1.heap.IsTuple a its.toArray from p) ?_
    refine ⟨s1.heap.objs.size, [s1.heap.objs.size], _, _, H1, rfl, I1.kept (t' := s1.toks) fun b o e => Heap.get?_push_of_some _ e, turn_tuple a _, ⟨_, Heap.get?_push_size _ rfl, rfl, rfl⟩, fun b hb => ?_, q⟩
    have e : b = s1.heap.objs.size := by simpa using hb
    subst e
    exact I1.fpOk (Nat.le_refl _) (I1.hok.fresh (Nat.le_refl _))
theorem s_itV (hK : G.K = X.K) (ha : PE X a (tE G W ma)) : PI X tg a (tI G W (mItV ma)) := by
  refine impI (pi_seq ha) fun σ H R ⟨w, s, e, ok, er, h⟩ => ?_
  refine ⟨w, s, e, ok, er, Post.bind (rel := relV G) h fun w1 s1 H1 v u x1 ok1 r1 h1 => ?_⟩
  cases v with
  | d x =>
    obtain ⟨xs, q, h1⟩ := of_ok h1
    have rx := slot_d r1
    rw [← hK]
    cases x with
    | tup ys =>
      cases q
      obtain ⟨p, vs, rfl, h2, hz, h3⟩ := rep_tup_inv rx
      exact ⟨p, rfl, .inr ⟨⟨vs, h2⟩, Post.here (rel := relI G) ok1 h1 ⟨walks_tup h2 h3, by rw [h3.length]; exact hz⟩⟩⟩
    | tuq ys =>
      cases q
      obtain ⟨p, vs, rfl, ⟨o, _, h2⟩, hz, h3⟩ := rep_tuq_inv rx
      exact ⟨p, rfl, .inr ⟨⟨vs, .inl (.inr ⟨o, h2⟩)⟩, Post.here (rel := relI G) ok1 h1 ⟨walks_tup (.inl (.inr ⟨o, h2⟩)) h3, by rw [h3.length]; exact hz⟩⟩⟩
    | lst ys =>
      cases q
      have r1 : Rep G.K w1.N H1 (.lst _) u := r1
      unfold Rep at r1
      obtain ⟨p, vs, rfl, hn, h2, hz, h3⟩ := r1
      exact ⟨p, rfl, .inl ⟨⟨vs, .inl (.inl h2)⟩, Post.here (rel := relI G) ok1 h1 ⟨walks_lst hn h2 h3, by rw [h3.length]; exact hz⟩⟩⟩
    | _ => cases q
  | _ => exact h1.elim
theorem s_rg1 (hg : Gl X "range") (hm : X.mg "range" = none) (ha : PE X a (tE G W ma)) (hs : starEach [a] X.env = [(false, eval a X.env)]) : PI X tg (.Call (.Name "range" p) [a] [] pos) (tI G W (mRg1 ma)) := by
  refine impI (pi_range1 hg hm (pa_cons ha pa_nil hs) hs) fun σ H R ⟨w, s, e, ok, er, h⟩ => ?_
  refine ⟨w, s, e, ok, er, Post.bind (rel := relV G) h fun w1 s1 H1 v u x1 ok1 r1 h1 => ?_⟩
  match v, h1 with
  | .d (.int j), h1 =>
    rw [int_inv (slot_d r1)]
    dsimp only at h1
    split at h1
    · rename_i hc
      have hc := of_decide_eq_true hc
      exact ⟨j, rfl, hc.2.2.1, hc.2.2.2.1, Post.here (rel := relI G) ok1 h1 ⟨walks_rng 0 _, by rw [rangeI_length]; have := hc.2.2.2.2; omega⟩⟩
    · exact h1.elim
theorem s_rg2 (hg : Gl X "range") (hm : X.mg "range" = none) (ha : PE X a (tE G W ma)) (hb : PE X b (tE G W mb)) (hs : starEach [a, b] X.env = [(false, eval a X.env), (false, eval b X.env)]) (hs2 : starEach [b] X.env = [(false, eval b X.env)]) : PI X tg (.Call (.Name "range" p) [a, b] [] pos) (tI G W (mRg2 ma mb)) := by
  refine impI (pi_range2 hg hm (pa_cons ha (pa_cons hb pa_nil hs2) (by rw [hs, hs2])) hs hs2) fun σ H R ⟨w, s, e, ok, er, h⟩ => ?_
  refine two (R := fun u v H => ∃ i j : Int, [u, v] = [V.int i, .int j] ∧ (-(2 ^ 62) ≤ i ∧ i < 2 ^ 62 ∧ -(2 ^ 62) ≤ j ∧ j < 2 ^ 62) ∧ R (Itr i (j - i).toNat) H) ok er h fun w s H v v' u u' ok r r' _ h => ?_
  match v, v', h with
  | .d (.int i), .d (.int j), h =>
    dsimp only at h
    split at h
    · rename_i hc
      have hc := of_decide_eq_true hc
      exact ⟨i, j, by rw [int_inv (slot_d r), int_inv (slot_d r')], ⟨hc.1, hc.2.1, hc.2.2.1, hc.2.2.2.1⟩, Post.here (rel := relI G) ok h ⟨walks_rng i _, by rw [rangeI_length]; have := hc.2.2.2.2; omega⟩⟩
    · exact h.elim
end
/-! ### targets -/
def gMany : List Nat → TGs
  | [] => gNil
  | i :: is => gCons (gName i) (gMany is)
def gTg (K : PySem.W.Frag) : Tg → TG
  | .nm i => gName i
  | .tp is => L2.gTup K is.length (gMany is)
section
variable {G : Gd} {w w1 : Wd} {s : S} {H H1 : Hp} {e : Env} {σ : L2.St}
theorem EnvR.setV (er : EnvR G w H e σ) {v : Val} {u : V} (i : Nat) (r : SlotR G w H v u) (hv : isOwn v = false) : EnvR G w H (e.set i (some v)) (σ.set i (some u)) := by
  refine ⟨by simp [er.len], fun j v' h => ?_, fun j k a b c hne h1 h2 h3 h4 h5 => ?_⟩
  · rw [List.getElem?_set] at h
    split at h
    · rename_i hij
      subst hij
      split at h
      · rename_i hlt
        cases h
        exact ⟨u, by rw [List.getElem?_set_self (by rw [← er.len]; exact hlt)], r⟩
      · cases h
    · rename_i hij
      obtain ⟨u', h1, h2⟩ := er.slot j v' h
      exact ⟨u', by rw [List.getElem?_set_ne hij]; exact h1, h2⟩
  · have key : ∀ (m : Nat) (x : Val), (e.set i (some v))[m]? = some (some x) → isOwn x = true → i ≠ m ∧ e[m]? = some (some x) := fun m x hx hox => by
      rw [List.getElem?_set] at hx
      split at hx
      · split at hx
        · cases hx; rw [hv] at hox; cases hox
        · cases hx
      · rename_i hij; exact ⟨hij, hx⟩
    obtain ⟨n1, e1⟩ := key j a h1 h3
    obtain ⟨n2, e2⟩ := key k b h2 h4
    rw [List.getElem?_set_ne n1] at h5
    rw [List.getElem?_set_ne n2]
    exact er.sep j k a b c hne e1 e2 h3 h4 h5
theorem EnvR.unset (er : EnvR G w H e σ) (i : Nat) : EnvR G w H (e.set i none) (σ.set i none) := by
  have key : ∀ (m : Nat) (x : Val), (e.set i none)[m]? = some (some x) → i ≠ m ∧ e[m]? = some (some x) := fun m x hx => by
    rw [List.getElem?_set] at hx
    split at hx
    · split at hx <;> cases hx
    · rename_i hij; exact ⟨hij, hx⟩
  refine ⟨by simp [er.len], fun j v' h => ?_, fun j k a b c hne h1 h2 h3 h4 h5 => ?_⟩
  · obtain ⟨n, h⟩ := key j v' h
    obtain ⟨u', h1, h2⟩ := er.slot j v' h
    exact ⟨u', by rw [List.getElem?_set_ne n]; exact h1, h2⟩
  · obtain ⟨n1, e1⟩ := key j a h1
    obtain ⟨n2, e2⟩ := key k b h2
    rw [List.getElem?_set_ne n1] at h5
    rw [List.getElem?_set_ne n2]
    exact er.sep j k a b c hne e1 e2 h3 h4 h5
theorem EnvR.wipe (er : EnvR G w H e σ) : ∀ own : List Nat, EnvR G w H (MP.wipe e own) (L2.wipe σ own)
  | [] => er
  | v :: vs => (er.wipe vs).unset v
theorem wipe_get (σ : L2.St) (j : Nat) : ∀ own : List Nat, (L2.wipe σ own)[j]? = if j ∈ own ∧ j < σ.length then some none else σ[j]?
  | [] => by simp [L2.wipe]
  | v :: vs => by
    unfold L2.wipe
    rw [List.getElem?_set, wipe_get σ j vs, L2.wipe_length]
    by_cases h : v = j
    · subst h
      by_cases hl : v < σ.length
      · simp [hl]
      · simp [hl]
    · have h' : ¬ j = v := fun z => h z.symm
      simp [h, h']
theorem wipe_set (σ : L2.St) {own : List Nat} {i : Nat} (h : i ∈ own) (u : Option V) : L2.wipe (σ.set i u) own = L2.wipe σ own := by
  refine List.ext_getElem? fun j => ?_
  rw [wipe_get, wipe_get, List.length_set, List.getElem?_set]
  by_cases hj : j ∈ own ∧ j < σ.length
  · rw [if_pos hj, if_pos hj]
  · rw [if_neg hj, if_neg hj]
    by_cases hij : i = j
    · subst hij
      have hl : ¬ i < σ.length := fun z => hj ⟨h, z⟩
      simp [hl]
    · simp [hij]
theorem wipe_wipe (σ : L2.St) (own : List Nat) : L2.wipe (L2.wipe σ own) own = L2.wipe σ own := by
  refine List.ext_getElem? fun j => ?_
  rw [wipe_get, L2.wipe_length]
  by_cases hj : j ∈ own ∧ j < σ.length
  · rw [if_pos hj, wipe_get, if_pos hj]
  · rw [if_neg hj]
/-- σ' is σ but for some slots -/
abbrev ButFor (is : List Nat) (σ σ' : L2.St) : Prop := ∀ own : List Nat, (∀ i ∈ is, i ∈ own) → L2.wipe σ' own = L2.wipe σ own
theorem many_ok {Q : L2.St → Hp → Prop} : ∀ {is : List Nat} {xs : List D} {vs : List V} {e : Env} {σ : L2.St}, EnvR G w H e σ → Reps G.K w.N H xs vs → xs.length = is.length → (∀ σ', EnvR G w H (setMany e is xs) σ' → ButFor is σ σ' → Q σ' H) → gMany is vs σ H Q
  | [], xs, vs, e, σ, er, r, hl, q => by
    have : xs = [] := List.eq_nil_of_length_eq_zero hl
    subst this
    unfold Reps at r
    subst r
    exact ⟨rfl, q σ er fun _ _ => rfl⟩
  | i :: is, xs, vs, e, σ, er, r, hl, q => by
    cases xs with
    | nil => cases hl
    | cons x xs =>
      unfold Reps at r
      obtain ⟨v, vs', rfl, h1, h2⟩ := r
      refine ⟨v, vs', rfl, ?_⟩
      exact many_ok (er.setV (v := .d x) i h1 rfl) h2 (by simpa using hl) fun σ' er' b => q σ' er' fun own ho => (b own fun k hk => ho k (List.mem_cons_of_mem _ hk)).trans (wipe_set σ (ho i List.mem_cons_self) _)
theorem tg_ok {t : Tg} {x : D} {u : V} {e' : Env} {Q : L2.St → Hp → Prop} (er : EnvR G w H e σ) (r : Rep G.K w.N H x u) (h : tgSet t x e = some e') (q : ∀ σ', EnvR G w H e' σ' → ButFor (tgSlots t) σ σ' → Q σ' H) : gTg G.K t u σ H Q := by
  cases t with
  | nm i => cases h; exact q _ (er.setV (v := .d x) i r rfl) fun own ho => wipe_set σ (ho i (by simp [tgSlots])) _
  | tp is =>
    cases x with
    | tup xs =>
      have h : (if xs.length = is.length then some (setMany e is xs) else none) = some e' := h
      split at h
      · rename_i hl
        cases h
        obtain ⟨p, vs, rfl, h1, hz, h2⟩ := rep_tup_inv (RdR.of_rep r)
        exact ⟨p, vs, rfl, h1, by rw [← h2.length, hl], many_ok er h2 hl q⟩
      · cases h
    | _ => cases h
end
/-! ### comprehensions -/
abbrev WF : WX := fun _ _ _ _ => False
def addB (w : Wd) (p : Addr) : Wd := { w with B := fun q => w.B q ∨ q = p }
def subB (w : Wd) (p : Addr) : Wd := { w with B := fun q => w.B q ∧ q ≠ p }
section
variable {G : Gd} {w w1 w2 : Wd} {s s1 s2 : S} {H H1 H2 : Hp} {e : Env} {σ : L2.St} {p : Addr}
mutual
theorem Rep.less {N N' : Addr → Prop} {K : PySem.W.Frag} (hN : ∀ q, N' q → N q) : ∀ (x : D) {v : V}, Rep K N H x v → Rep K N' H x v
  | .non, v, h => by unfold Rep at *; exact h
  | .bl _, v, h => by unfold Rep at *; exact h
  | .int _, v, h => by unfold Rep at *; exact h
  | .str _, v, h => by unfold Rep at *; exact h
  | .tup xs, v, h => by
    unfold Rep at *
    obtain ⟨p, vs, e, h1, hz, h2⟩ := h
    exact ⟨p, vs, e, h1, hz, Reps.less hN xs h2⟩
  | .tuq xs, v, h => by
    unfold Rep at *
    obtain ⟨p, vs, e, h1, hz, h2⟩ := h
    exact ⟨p, vs, e, h1, hz, Reps.less hN xs h2⟩
  | .lst xs, v, h => by
    unfold Rep at *
    obtain ⟨p, vs, e, hn, h1, hz, h2⟩ := h
    exact ⟨p, vs, e, fun z => hn (hN p z), h1, hz, Reps.less hN xs h2⟩
  | .dic ks us, v, h => by
    unfold Rep at *
    obtain ⟨p, vs, e, hn, h1, hz, h2⟩ := h
    exact ⟨p, vs, e, fun z => hn (hN p z), h1, hz, Reps.less hN us h2⟩
theorem Reps.less {N N' : Addr → Prop} {K : PySem.W.Frag} (hN : ∀ q, N' q → N q) : ∀ (xs : List D) {us : List V}, Reps K N H xs us → Reps K N' H xs us
  | [], us, h => by unfold Reps at *; exact h
  | x :: xs, us, h => by
    unfold Reps at *
    obtain ⟨v, r, e, h1, h2⟩ := h
    exact ⟨v, r, e, Rep.less hN x h1, Reps.less hN xs h2⟩
end
theorem sub_N (q : Addr) : (subB w p).N q → w.N q := fun h => h.elim (fun h => .inl h.1) .inr
/-- a new list apart -/
theorem Ok.addB (ok : Ok G w s H) (hn : H p = none) (vs : List V) : Ok G (addB w p) s (upd H p (.lst vs)) := by
  have L : Last w.N (MP.addB w p).N H (upd H p (.lst vs)) := by
    refine ⟨fun q o h _ => grow_upd hn q o h, fun q h => ?_, ok.mu⟩
    rcases h with (h | h) | h
    · exact .inl (.inl h)
    · subst h; exact .inr hn
    · exact .inl (.inr h)
  refine ⟨ok.nd, ok.len, fun n xs q h1 h2 => ?_, fun q h => .inl (ok.ab q h), fun q h => ?_, fun q h => ?_⟩
  · obtain ⟨us, h3, hz, h4⟩ := ok.cells n xs q h1 h2
    exact ⟨us, grow_upd hn q _ h3, hz, Reps.last L xs h4⟩
  · rcases h with h | h
    · exact ok.bo q h
    · subst h
      intro ho
      obtain ⟨o, e, _⟩ := ok.mu q (.inr ho)
      rw [hn] at e; cases e
  · by_cases hq : q = p
    · subst hq
      exact ⟨_, upd_same, (fun xs h => by cases h), fun ob u h => by cases h⟩
    · obtain ⟨o, e, h1⟩ := ok.mu q (by
        rcases h with (h | h) | h
        · exact .inl h
        · exact absurd h hq
        · exact .inr h)
      exact ⟨o, by rw [upd_ne hq]; exact e, h1⟩
theorem Ok.subB (ok : Ok G w s H) (hp : p ∉ w.α) : Ok G (MP.subB w p) s H := by
  refine ⟨ok.nd, ok.len, fun n xs q h1 h2 => ?_, fun q h => ⟨ok.ab q h, fun z => hp (z ▸ h)⟩, fun q h => ok.bo q h.1, fun q h => ok.mu q (sub_N q h)⟩
  obtain ⟨us, h3, hz, h4⟩ := ok.cells n xs q h1 h2
  exact ⟨us, h3, hz, Reps.less sub_N xs h4⟩
theorem EnvR.last (L : Last w.N w1.N H H1) (ha : w1.α = w.α) (hO : w1.O = w.O) (hk : ∀ q o, H q = some o → w.O q → H1 q = some o) (er : EnvR G w H e σ) : EnvR G w1 H1 e σ := by
  refine ⟨er.len, fun i v hv => ?_, er.sep⟩
  obtain ⟨u, h1, h2⟩ := er.slot i v hv
  refine ⟨u, h1, ?_⟩
  cases v with
  | d y => exact Rep.last L y h2
  | ref n => obtain ⟨q, e1, e2⟩ := h2; exact ⟨q, by rw [ha]; exact e1, e2⟩
  | own xs => obtain ⟨q, vs, e1, ho, e2, hz, e3⟩ := h2; exact ⟨q, vs, e1, by rw [hO]; exact ho, hk q _ e2 ho, hz, Reps.last L xs e3⟩
  | snap xs => obtain ⟨q, vs, e1, ho, e2, hz, e3⟩ := h2; exact ⟨q, vs, e1, by rw [hO]; exact ho, hk q _ e2 ho, hz, Reps.last L xs e3⟩
  | ownT ks xs => obtain ⟨q, vs, e1, ho, e2, hk', hz, e3⟩ := h2; exact ⟨q, vs, e1, by rw [hO]; exact ho, hk q _ e2 ho, hk', hz, Reps.last L xs e3⟩
  | exc c y => obtain ⟨a, d, e1, e2, e3⟩ := h2; exact ⟨a, d, e1, e2, e3.last L⟩
  | scr ns =>
    obtain ⟨q, e1, e2, hz⟩ := h2
    refine ⟨q, e1, ?_, hz⟩
    rcases e2 with ⟨o, e2⟩ | e2
    · exact .inl ⟨o, frz.last L e2⟩
    · exact .inr e2
theorem last_add (ok : Ok G w s H) (hn : H p = none) (vs : List V) : Last w.N (addB w p).N H (upd H p (.lst vs)) := by
  refine ⟨fun q o h _ => grow_upd hn q o h, fun q h => ?_, ok.mu⟩
  rcases h with (h | h) | h
  · exact .inl (.inl h)
  · subst h; exact .inr hn
  · exact .inl (.inr h)
theorem Ext.notin (x : Ext w H w1 H1) {o : HO} (hp : p ∉ w.α) (h : H p = some o) : p ∉ w1.α := fun z => by
  obtain ⟨l, hl, nl⟩ := x.al
  rw [hl] at z
  rcases List.mem_append.mp z with z | z
  · exact hp z
  · rw [nl p z] at h; cases h
/-- a step, one list apart -/
theorem Ext.sub {o : HO} (x : Ext w H w1 H1) (h : H p = some o) : Ext (subB w p) H (subB w1 p) H1 := by
  refine ⟨x.al, fun q h => ⟨x.bm q h.1, h.2⟩, fun q hq => ?_, x.oo, x.keep⟩
  rcases x.bn q hq.1 with z | z
  · exact .inl ⟨z, hq.2⟩
  · exact .inr z
/-- that list is put to -/
theorem Ext.put {o : HO} (x : Ext w H w1 H1) (hn : H p = none) : Ext w H w1 (upd H1 p o) :=
  ⟨x.al, x.bm, x.bn, x.oo, fun q u h hq => by rw [upd_ne (ne_of_none h hn)]; exact x.keep q u h hq⟩
theorem Ok.put (ok : Ok G w s H) (hb : w.B p) (hp : p ∉ w.α) {vs : List V} (us : List V) (h : H p = some (.lst vs)) : Ok G w s (upd H p (.lst us)) ∧ Last w.N w.N H (upd H p (.lst us)) := by
  have L : Last w.N w.N H (upd H p (.lst us)) := ⟨fun q o h hq => by rw [upd_ne fun z => hq (by rw [z]; exact .inl hb)]; exact h, fun q h => .inl h, ok.mu⟩
  refine ⟨⟨ok.nd, ok.len, fun n xs q h1 h2 => ?_, ok.ab, ok.bo, fun q hq => ?_⟩, L⟩
  · obtain ⟨vs', h3, hz, h4⟩ := ok.cells n xs q h1 h2
    have hne : q ≠ p := fun z => hp (z ▸ List.mem_of_getElem? h2)
    exact ⟨vs', by rw [upd_ne hne]; exact h3, hz, Reps.last L xs h4⟩
  · by_cases hqp : q = p
    · subst hqp
      exact ⟨_, upd_same, (fun xs h => by cases h), fun ob u h => by cases h⟩
    · obtain ⟨o, e, h1⟩ := ok.mu q hq
      exact ⟨o, by rw [upd_ne hqp]; exact e, h1⟩
structure LcI (G : Gd) (Fin : R (List D) → Prop) (w1 : Wd) (H1 : Hp) (σ : L2.St) (own : List Nat) (e : Env) (tg : Tg) (t : MT) (m : ME) (J : It) (xs : List D) (p : Addr) (i : Nat) (n : Nat) (H : Hp) (wz : Wd) (s : S) (acc : List D) (vs : List V) : Prop where
  hi : i ≤ xs.length
  hn : n = xs.length - i
  bp : wz.B p
  ap : p ∉ wz.α
  ok : Ok G wz s H
  ex : Ext w1 H1 (subB wz p) H
  at_ : H p = some (.lst vs)
  ac : Reps G.K wz.N H acc vs
  len : vs.length ≤ i
  er : EnvR G wz H (MP.wipe e own) (L2.wipe σ own)
  wk : Walks G.K wz.N H J xs
  po : Fin (lcGo (MP.wipe e own) tg t m (xs.drop i) acc s)
end
section
variable {X : Cx} {G : Gd} {W : WX}
theorem lc_turns {own : List Nat} {tg : Tg} {t : MT} {m : ME} (ht : ∀ i ∈ tgSlots tg, i ∈ own) {σ : L2.St} {H1 : Hp} {w1 : Wd} {s1 : S} {e : Env} {J : It} {xs : List D} {Q : Addr → Hp → Prop} (Fin : R (List D) → Prop) (hst : ¬ Fin .stuck)
    (ok1 : Ok G w1 s1 H1) (er1 : EnvR G w1 H1 e σ) (wk : Walks G.K w1.N H1 J xs) (hz : xs.length ≤ line) (h1 : Fin (lcGo (MP.wipe e own) tg t m xs [] s1)) (p : Addr) (hp : H1 p = none)
    (hfin : ∀ wz s acc H vs, wz.B p → p ∉ wz.α → Ok G wz s H → Ext w1 H1 (subB wz p) H → H p = some (.lst vs) → Reps G.K wz.N H acc vs → vs.length ≤ line → Fin (.ok acc s) → Q p H) :
    ∃ W : Nat → Nat → Hp → Prop, (∃ m, W 0 m (upd H1 p (.lst []))) ∧ ∀ i k H, W i k H →
  (J.stop i H ∧ Q p H) ∨ (J.go i H ∧ ∃ Nx : Hp → Prop, (∀ H', Nx H' → ∃ m', m' < k ∧ W (i + 1) m' H') ∧ ∀ x H', J.yld i H x H' → gTg G.K tg x (L2.wipe σ own) H' fun σ2 H2 => L2.wipe σ2 own = L2.wipe σ own ∧ tT G WF t σ2 H2 fun b H3 =>
    if b = true then tE G WF m σ2 H3 fun y H4 => ∃ acc, H4 p = some (.lst acc) ∧ acc.length < sizeLine ∧ Nx (upd H4 p (.lst (acc ++ [y]))) else Nx H3) := by
  refine ⟨fun i n H' => ∃ wz s acc vs, LcI G Fin w1 H1 σ own e tg t m J xs p i n H' wz s acc vs, ⟨xs.length, addB w1 p, s1, [], [], ?_⟩, ?_⟩
  · have L := last_add ok1 hp []
    refine ⟨Nat.zero_le _, rfl, .inr rfl, fun z => ?_, ok1.addB hp [], ?_, upd_same, .nil, Nat.le_refl _, ?_, wk.last L, h1⟩
    · obtain ⟨vs, e⟩ := ok1.at z
      rw [hp] at e; cases e
    · refine ⟨⟨[], by simp [subB, addB], by simp⟩, fun q h => ⟨.inl h, fun z => ?_⟩, fun q h => ?_, rfl, fun q o h _ => grow_upd hp q o h⟩
      · subst z
        exact ok1.notN hp (.inl h)
      · rcases h.1 with z | z
        · exact .inl z
        · exact absurd z h.2
    · exact (er1.wipe own).last L rfl rfl fun q o h _ => grow_upd hp q o h
  · rintro i n H2 ⟨wz, s2, acc, vs, I⟩
    have wk2 := I.wk _ _ (Last.refl I.ok)
    cases hx : xs[i]? with
    | none =>
      have hi : i = xs.length := Nat.le_antisymm I.hi (List.getElem?_eq_none_iff.mp hx)
      refine .inl ⟨by rw [hi]; exact wk2.stop, ?_⟩
      have po := I.po
      rw [hi, List.drop_length] at po
      exact hfin wz s2 acc H2 vs I.bp I.ap I.ok I.ex I.at_ I.ac (Nat.le_trans I.len (by rw [hi]; exact hz)) po
    | some x =>
      obtain ⟨hgo, hy⟩ := wk2.go i x hx
      have hlt : i < xs.length := (List.getElem?_eq_some_iff.mp hx).1
      have hdrop : xs.drop i = x :: xs.drop (i + 1) := by
        rw [List.drop_eq_getElem_cons hlt]
        rw [List.getElem?_eq_getElem hlt] at hx
        rw [Option.some.inj hx]
      refine .inr ⟨hgo, fun H' => ∃ wz s acc vs, LcI G Fin w1 H1 σ own e tg t m J xs p (i + 1) (n - 1) H' wz s acc vs, fun H' h => ⟨n - 1, by have := I.hn; omega, h⟩, fun y H' yl => ?_⟩
      obtain ⟨rfl, ry⟩ := hy y H' yl
      have po := I.po
      rw [hdrop] at po
      unfold lcGo at po
      cases q1 : tgSet tg x (MP.wipe e own) with
      | none => rw [q1] at po; exact (hst po).elim
      | some e2 =>
        rw [q1] at po
        dsimp only at po
        refine tg_ok I.er ry q1 fun σ2 er2 bf => ⟨(bf own ht).trans (wipe_wipe σ own), ?_⟩
        refine ⟨wz, s2, e2, I.ok, er2, ?_⟩
        cases q2 : t e2 s2 with
        | exn c z s3 => rw [q2] at po; exact (hst po).elim
        | stuck => rw [q2] at po; exact (hst po).elim
        | ok b s3 =>
          rw [q2] at po
          intro w3 H3 b' x3 ok3 eb
          subst eb
          have at3 : H3 p = some (.lst vs) := x3.keep p _ I.at_ I.ap
          have ap3 : p ∉ w3.α := x3.notin I.ap I.at_
          have ex3 : Ext w1 H1 (subB w3 p) H3 := I.ex.trans (I.ok.subB I.ap) (x3.sub I.at_)
          have L3 := x3.last I.ok
          cases b with
          | false =>
            rw [if_neg Bool.false_ne_true]
            exact ⟨w3, s3, acc, vs, ⟨hlt, by have := I.hn; omega, x3.bm p I.bp, ap3, ok3, ex3, at3, Reps.last L3 acc I.ac, Nat.le_succ_of_le I.len, I.er.ext I.ok x3, I.wk.last L3, po⟩⟩
          | true =>
            rw [if_pos rfl]
            dsimp only at po
            refine ⟨w3, s3, e2, ok3, er2.ext I.ok x3, ?_⟩
            cases q3 : m e2 s3 with
            | exn c z s4 => rw [q3] at po; exact (hst po).elim
            | stuck => rw [q3] at po; exact (hst po).elim
            | ok v s4 =>
              rw [q3] at po
              cases v with
              | d z =>
                intro w4 H4 u x4 ok4 r4
                have at4 : H4 p = some (.lst vs) := x4.keep p _ at3 ap3
                have ap4 : p ∉ w4.α := x4.notin ap3 at3
                have bp4 : w4.B p := x4.bm p (x3.bm p I.bp)
                have ex4 : Ext w1 H1 (subB w4 p) H4 := ex3.trans (ok3.subB ap3) (x4.sub at3)
                have L4 := L3.trans (x4.last ok3)
                obtain ⟨ok5, L5⟩ := ok4.put bp4 ap4 (vs ++ [u]) at4
                have hl : vs.length < line := Nat.lt_of_le_of_lt I.len (Nat.lt_of_lt_of_le hlt hz)
                refine ⟨vs, at4, by rw [← line_eq]; exact hl, w4, s4, acc ++ [z], vs ++ [u], ⟨hlt, by have := I.hn; omega, bp4, ap4, ok5, ex4.put hp, upd_same, ?_, ?_, ?_, (I.wk.last L4).last L5, po⟩⟩
                · exact (Reps.last L5 acc (Reps.last L4 acc I.ac)).append (.one (Rep.last L5 z r4))
                · rw [List.length_append, List.length_singleton]; exact Nat.succ_le_succ I.len
                · refine ((I.er.ext I.ok x3).ext ok3 x4).last L5 rfl rfl fun q o h ho => ?_
                  rw [upd_ne (b := q) fun z => ok4.bo p bp4 (by rw [← z]; exact ho)]
                  exact h
              | _ => exact (hst po).elim
theorem lc_read {own : List Nat} {tg : Tg} {it : MI} {t : MT} {m : ME} (ht : ∀ i ∈ tgSlots tg, i ∈ own) {σ : L2.St} {H : Hp} {Q : VK} (h : tE G W (mLc own tg it t m) σ H Q) :
    tLc (tI G W it) (gTg G.K tg) (tT G WF t) (tE G WF m) own σ H Q := by
  obtain ⟨w, s, e, ok, er, h⟩ := h
  refine ⟨w, s, e, ok, er, Post.bind (rel := relI G) h fun w1 s1 H1 xs J x1 ok1 ⟨wk, hz⟩ h1 => fun p hp => ?_⟩
  refine lc_turns (Q := fun p H => Q (.ref p) H) ht (fun r => Post G W (relV G) w1 H1 σ (r.bind fun ys s => .ok (.d (.lst ys)) s) Q) (fun h => h) ok1 (er.ext ok x1) wk hz h1 p hp fun wz s acc H vs bp ap okz ex at_ ac hl po => ?_
  refine po (subB wz p) H (.ref p) ex (okz.subB ap) ?_
  show Rep G.K (subB wz p).N H (.lst acc) (.ref p)
  refine rep_lst (fun z => ?_) at_ hl (Reps.less sub_N acc ac)
  rcases z with z | z
  · exact z.2 rfl
  · exact okz.bo p bp z
end
end MP
end

section
set_option Elab.async false
set_option linter.all false
set_option maxRecDepth 100000
set_option maxHeartbeats 4000000
/-! MP, part g: comprehensions, ranges as values. -/
namespace MP
open PySem PySem.Spec PyProof.Rows L2
section
variable {X : Cx} {G : Gd} {W : WX} {pos p : Pos} {tg a b c : Expr} {ma mb mc : ME}
theorem s_lc {elt iter : Expr} {ifs : List Expr} {scope : Scope} {own : List (Str × Nat)} {tgm : Tg} {it : MI} {t : MT} {m : ME} (hK : G.K = X.K) (hc : X.calm = true) (hN : X.N.Nodup) (hi : PI X tg iter (tI G W it)) (ok : BlkOk X.N X.env.scope scope own)
    (hg : ∀ (s : Shared) (H : Hp) (C : Addr) (cl : List (Str × Addr)) (fp : List Addr), PG (X.blk s H scope (compEnvC scope cl C X.env) fp) tg (gTg X.K tgm)) (ht : ∀ (s : Shared) (H : Hp) (C : Addr) (cl : List (Str × Addr)) (fp : List Addr), PTs (X.blk s H scope (compEnvC scope cl C X.env) fp) ifs (tT G WF t))
    (he : ∀ (s : Shared) (H : Hp) (C : Addr) (cl : List (Str × Addr)) (fp : List Addr), PE (X.blk s H scope (compEnvC scope cl C X.env) fp) elt (tE G WF m)) (hs : ∀ x, foldedSetIterable iter X.env x = pure x) (hsl : ∀ i ∈ tgSlots tgm, i ∈ own.map (·.2)) :
    PE X (.ListComp elt [⟨tg, iter, ifs, 0⟩] scope pos) (tE G W (mLc (own.map (·.2)) tgm it t m)) :=
  impE (pe_lc hc hN hi ok hg ht he hs) fun σ H Q h => by rw [← hK]; exact lc_read hsl h
theorem s_yes {G : Gd} {W : WX} {X : Cx} : PTs X [] (tT G W mYes) := ⟨fun pins s σ H Q I ⟨w, s1, e, ok, er, h⟩ => pts_nil.run pins s σ H Q I (Post.hereB ok h)⟩
theorem s_if1 {m : MT} (h : PT X c (tT G W m)) : PTs X [c] (tT G W m) := pts_one h
/-! ranges -/
abbrev relRg : Wd → S → Hp → List D → Int × Int → Prop := fun _ _ _ xs ab => RgOk ab.1 ab.2 ∧ xs = rangeI ab.1 (ab.2 - ab.1).toNat
def tRgM (G : Gd) (W : WX) (m : MI) : L2.St → Hp → (Int → Int → Hp → Prop) → Prop := fun σ H Q => ∃ w s e, Ok G w s H ∧ EnvR G w H e σ ∧ Post G W relRg w H σ (m e s) fun ab H => Q ab.1 ab.2 H
theorem impRg {e : Expr} {t t' : L2.St → Hp → (Int → Int → Hp → Prop) → Prop} (h : PRg X e t) (i : ∀ σ H Q, t' σ H Q → t σ H Q) : PRg X e t' := fun pins s σ H Q I q => h pins s σ H Q I (i σ H Q q)
theorem rgOk_of {i j : Int} (h : rgOk i j = true) : RgOk i j := by
  have hc := of_decide_eq_true h
  refine ⟨hc.1, hc.2.1, hc.2.2.1, hc.2.2.2.1, ?_⟩
  have : j - i ≤ ((16777216 : Nat) : Int) := hc.2.2.2.2
  show (j - i).toNat ≤ 16777216
  omega
theorem s_prg1 (hg : Gl X "range") (hm : X.mg "range" = none) (ha : PE X a (tE G W ma)) (na : starEach [a] X.env = (false, eval a X.env) :: starEach [] X.env) : PRg X (.Call (.Name "range" p) [a] [] pos) (tRgM G W (mRg1 ma)) := by
  refine impRg (prg_1 hg hm ha na) fun σ H R ⟨w, s, e, ok, er, h⟩ => ?_
  refine ⟨w, s, e, ok, er, Post.bind (rel := relV G) h fun w1 s1 H1 v u x1 ok1 r1 h1 => ?_⟩
  match v, h1 with
  | .d (.int j), h1 =>
    rw [int_inv (slot_d r1)]
    dsimp only at h1
    split at h1
    · rename_i hc
      exact ⟨j, rfl, Post.here (u := (0, j)) (rel := relRg) ok1 h1 ⟨rgOk_of hc, by simp⟩⟩
    · exact h1.elim
theorem s_prg2 (hg : Gl X "range") (hm : X.mg "range" = none) (ha : PE X a (tE G W ma)) (hb : PE X b (tE G W mb)) (na : starEach [a, b] X.env = (false, eval a X.env) :: starEach [b] X.env)
    (nb : starEach [b] X.env = (false, eval b X.env) :: starEach [] X.env) (hp : (backTo pos (starEach [b] X.env)).any (·.1) = false) : PRg X (.Call (.Name "range" p) [a, b] [] pos) (tRgM G W (mRg2 ma mb)) := by
  refine impRg (prg_2 hg hm ha hb na nb hp) fun σ H R ⟨w, s, e, ok, er, h⟩ => ?_
  refine two (R := fun u v H => ∃ i j : Int, u = V.int i ∧ v = .int j ∧ R i j H) ok er h fun w s H v v' u u' ok r r' _ h => ?_
  match v, v', h with
  | .d (.int i), .d (.int j), h =>
    dsimp only at h
    split at h
    · rename_i hc
      exact ⟨i, j, int_inv (slot_d r), int_inv (slot_d r'), Post.here (u := (i, j)) (rel := relRg) ok h ⟨rgOk_of hc, rfl⟩⟩
    · exact h.elim
theorem reps_rg {K : PySem.W.Frag} {N : Addr → Prop} {H : Hp} : ∀ (n : Nat) (i : Int), Reps K N H (rangeI i n) ((List.range n).map fun k => V.int (i + (k : Nat)))
  | 0, _ => .nil
  | n + 1, i => by
    rw [List.range_succ_eq_map, List.map_cons, List.map_map]
    refine .cons ?_ ?_
    · show Rep K N H (.int i) (.int (i + ((0 : Nat) : Int)))
      rw [show i + ((0 : Nat) : Int) = i by simp]
      exact rep_int i
    · have h := reps_rg (K := K) (N := N) (H := H) n (i + 1)
      have e : ((fun k : Nat => V.int (i + (k : Nat))) ∘ Nat.succ) = fun k : Nat => V.int (i + 1 + (k : Nat)) := by
        funext k
        show V.int (i + ((k + 1 : Nat) : Int)) = _
        congr 1
        omega
      rw [e]
      exact h
theorem s_tupI {i : MI} (hc : X.calm = true) (hg : Gl X "tuple") (hm : X.mg "tuple" = none) (he : PRg X a (tRgM G W i)) (na : starEach [a] X.env = (false, eval a X.env) :: starEach [] X.env) : PE X (.Call (.Name "tuple" p) [a] [] pos) (tE G W (mTupI i)) := by
  refine impE (pe_tupRg hc hg hm he na) fun σ H Q ⟨w, s, e, ok, er, h⟩ => ?_
  refine ⟨w, s, e, ok, er, Post.bind (rel := relRg) h fun w1 s1 H1 v u x1 ok1 ⟨r1, r2⟩ h1 => ⟨r1, fun q hq => ?_⟩⟩
  subst r2
  have hz : (rgV u.1 u.2).length ≤ line := by rw [rgV_length]; exact r1.2.2.2.2
  exact Post.newT ok1 h1 (reps_rg _ _) hz q hq
theorem s_lstI {i : MI} (hc : X.calm = true) (hg : Gl X "list") (hm : X.mg "list" = none) (he : PRg X a (tRgM G W i)) (na : starEach [a] X.env = (false, eval a X.env) :: starEach [] X.env) : PE X (.Call (.Name "list" p) [a] [] pos) (tE G W (mLstI i)) := by
  refine impE (pe_listRg hc hg hm he na) fun σ H Q ⟨w, s, e, ok, er, h⟩ => ?_
  refine ⟨w, s, e, ok, er, Post.bind (rel := relRg) h fun w1 s1 H1 v u x1 ok1 ⟨r1, r2⟩ h1 => ⟨r1, fun q hq => ?_⟩⟩
  subst r2
  have hz : (rgV u.1 u.2).length ≤ line := by rw [rgV_length]; exact r1.2.2.2.2
  exact Post.newL ok1 h1 (reps_rg _ _) hz q hq
end
end MP
end

section
set_option Elab.async false
set_option linter.all false
set_option maxRecDepth 100000
set_option maxHeartbeats 4000000
/-! MP, part h: statements. -/
namespace MP
open PySem PySem.Spec PyProof.Rows L2
/-- what a statement may turn -/
structure Step (w : Wd) (H : Hp) (w' : Wd) (H' : Hp) : Prop where
  al : ∃ l, w'.α = w.α ++ l ∧ ∀ p ∈ l, H p = none
  bm : ∀ p, w.B p → w'.B p
  bn : ∀ p, w'.B p → w.B p ∨ H p = none
  on : ∀ p, w'.O p → w.O p ∨ H p = none
  keep : ∀ p o, H p = some o → p ∉ w.α → ¬ w.O p → H' p = some o
  st : ∀ p, H' p = none → H p = none
section
variable {G : Gd} {w w1 w2 : Wd} {s s1 s2 : S} {H H1 H2 : Hp} {e : Env} {σ : L2.St}
theorem Step.refl : Step w H w H := ⟨⟨[], by simp, by simp⟩, fun _ h => h, fun _ h => .inl h, fun _ h => .inl h, fun _ _ h _ _ => h, fun _ h => h⟩
theorem Ext.step (ok1 : Ok G w1 s1 H1) (x : Ext w H w1 H1) : Step w H w1 H1 := ⟨x.al, x.bm, x.bn, fun p h => .inl (by rw [← x.oo]; exact h), fun p o h hp _ => x.keep p o h hp, fun p h => ok1.none_of x h⟩
theorem Step.trans (a : Step w H w1 H1) (b : Step w1 H1 w2 H2) : Step w H w2 H2 := by
  obtain ⟨l, hl, nl⟩ := a.al
  obtain ⟨l2, hl2, nl2⟩ := b.al
  refine ⟨⟨l ++ l2, by rw [hl2, hl, List.append_assoc], fun p hp => ?_⟩, fun p h => b.bm p (a.bm p h), fun p h => ?_, fun p h => ?_, fun p o h hp ho => b.keep p o (a.keep p o h hp ho) (fun z => ?_) fun z => ?_, fun p h => a.st p (b.st p h)⟩
  · rcases List.mem_append.mp hp with h | h
    · exact nl p h
    · exact a.st p (nl2 p h)
  · rcases b.bn p h with z | z
    · exact a.bn p z
    · exact .inr (a.st p z)
  · rcases b.on p h with z | z
    · exact a.on p z
    · exact .inr (a.st p z)
  · rw [hl] at z
    rcases List.mem_append.mp z with z | z
    · exact hp z
    · rw [nl p z] at h; cases h
  · rcases a.on p z with z | z
    · exact ho z
    · rw [z] at h; cases h
theorem Step.last (ok : Ok G w s H) (x : Step w H w1 H1) : Last w.N w1.N H H1 := by
  refine ⟨fun p o h hn => x.keep p o h (fun z => hn (.inl (ok.ab p z))) fun z => hn (.inr z), fun p h => ?_, ok.mu⟩
  rcases h with h | h
  · rcases x.bn p h with z | z
    · exact .inl (.inl z)
    · exact .inr z
  · rcases x.on p h with z | z
    · exact .inl (.inr z)
    · exact .inr z
/-- how a statement ends -/
def PostS (G : Gd) (W : WX) (w : Wd) (H : Hp) (r : F) (D : Ends) : Prop := match r with
  | .nxt e s => ∀ w' H' σ', Step w H w' H' → Ok G w' s H' → EnvR G w' H' e σ' → D.nx σ' H'
  | .ret v s => ∀ w' H' u, Step w H w' H' → Ok G w' s H' → (∀ p, ¬ w'.O p) → SlotR G w' H' v u → D.rt u H'
  | .brk e s => ∀ w' H' σ', Step w H w' H' → Ok G w' s H' → EnvR G w' H' e σ' → D.bk σ' H'
  | .cnt e s => ∀ w' H' σ', Step w H w' H' → Ok G w' s H' → EnvR G w' H' e σ' → D.ct σ' H'
  | .exn c x e s => ∀ w' H' σ' cls d, Step w H w' H' → Ok G w' s H' → EnvR G w' H' e σ' → ExR G w' H' c x cls d → W cls d σ' H'
  | .stuck => False
def tS (G : Gd) (W : WX) (m : MS) : TS := fun D σ H => ∃ w s e, Ok G w s H ∧ EnvR G w H e σ ∧ PostS G W w H (m e s) D
variable {W : WX} {D : Ends}
theorem PostS.mono {r : F} (x : Step w H w1 H1) (h : PostS G W w H r D) : PostS G W w1 H1 r D := by
  cases r with
  | nxt e s => exact fun w' H' σ' st => h w' H' σ' (x.trans st)
  | ret v s => exact fun w' H' σ' st => h w' H' σ' (x.trans st)
  | brk e s => exact fun w' H' σ' st => h w' H' σ' (x.trans st)
  | cnt e s => exact fun w' H' σ' st => h w' H' σ' (x.trans st)
  | exn c y e s => exact fun w' H' σ' cls d st => h w' H' σ' cls d (x.trans st)
  | stuck => exact h
theorem PostS.go {r : R Val} {f : Val → S → F} {Q : V → Hp → Prop} (ok : Ok G w s H) (er : EnvR G w H e σ) (h : PostS G W w H (r.go e f) D)
    (hQ : ∀ w1 s1 H1 v u, Ext w H w1 H1 → Ok G w1 s1 H1 → SlotR G w1 H1 v u → EnvR G w1 H1 e σ → PostS G W w1 H1 (f v s1) D → Q u H1) : Post G W (relV G) w H σ r Q := by
  cases r with
  | ok v s' => exact fun w' H' u x o r => hQ w' s' H' v u x o r (er.ext ok x) (PostS.mono (x.step o) h)
  | exn c y s' => exact fun w' H' cls d x o r => h w' H' σ cls d (x.step o) o (er.ext ok x) r
  | stuck => exact h
theorem PostS.goT {r : R Bool} {f : Bool → S → F} {Q : Bool → Hp → Prop} (ok : Ok G w s H) (er : EnvR G w H e σ) (h : PostS G W w H (r.goT e f) D)
    (hQ : ∀ w1 s1 H1 v, Ext w H w1 H1 → Ok G w1 s1 H1 → EnvR G w1 H1 e σ → PostS G W w1 H1 (f v s1) D → Q v H1) : Post G W relB w H σ r Q := by
  cases r with
  | ok v s' => exact fun w' H' u x o r => by subst r; exact hQ w' s' H' v x o (er.ext ok x) (PostS.mono (x.step o) h)
  | exn c y s' => exact fun w' H' cls d x o r => h w' H' σ cls d (x.step o) o (er.ext ok x) r
  | stuck => exact h
/-- no own lists any more -/
def dropO (w : Wd) : Wd := { w with O := fun _ => False }
theorem drop_N (q : Addr) : (dropO w).N q → w.N q := fun h => h.elim .inl False.elim
theorem Ok.dropO (ok : Ok G w s H) : Ok G (MP.dropO w) s H := by
  refine ⟨ok.nd, ok.len, fun n xs p h1 h2 => ?_, ok.ab, fun _ _ h => h, fun p h => ok.mu p (drop_N p h)⟩
  obtain ⟨vs, h3, hz, h4⟩ := ok.cells n xs p h1 h2
  exact ⟨vs, h3, hz, Reps.less drop_N xs h4⟩
theorem step_drop : Step w H (dropO w) H := ⟨⟨[], by simp [dropO], by simp⟩, fun _ h => h, fun _ h => .inl h, fun _ h => h.elim, fun _ _ h _ _ => h, fun _ h => h⟩
theorem PostS.nxtHere (ok : Ok G w s H) (h : PostS G W w H (.nxt e s) D) (er : EnvR G w H e σ) : D.nx σ H := h w H σ .refl ok er
end
section
variable {X : Cx} {G : Gd} {W : WX} {pos : Pos} {a b c : Expr} {ma mb mc : ME} {st : Stmt} {sts : List Stmt}
theorem impS {t t' : TS} (h : PS X st t) (i : ∀ D σ H, t' D σ H → t D σ H) : PS X st t' := ⟨fun pins s σ H D I q => h.run pins s σ H D I (i D σ H q)⟩
theorem impSs {t t' : TS} (h : PSs X sts t) (i : ∀ D σ H, t' D σ H → t D σ H) : PSs X sts t' := ⟨fun pins s σ H D I q => h.run pins s σ H D I (i D σ H q)⟩
theorem s_seq {m1 m2 : MS} (h1 : PS X st (tS G W m1)) (h2 : PSs X sts (tS G W m2)) : PSs X (st :: sts) (tS G W (mSeq m1 m2)) := by
  refine impSs (pss_cons h1 h2) fun D σ H ⟨w, s, e, ok, er, h⟩ => ⟨w, s, e, ok, er, ?_⟩
  unfold mSeq at h
  cases q : m1 e s with
  | nxt e1 s1 => rw [q] at h; exact fun w' H' σ' st ok1 er1 => ⟨w', s1, e1, ok1, er1, PostS.mono st h⟩
  | _ => rw [q] at h; exact h
theorem s_none : PSs X [] (tS G W mPass) := impSs pss_nil fun D σ H ⟨w, s, e, ok, er, h⟩ => h.nxtHere ok er
theorem s_pass : PS X (.Pass pos) (tS G W mPass) := impS ps_pass fun D σ H ⟨w, s, e, ok, er, h⟩ => h.nxtHere ok er
theorem s_brk : PS X (.Break pos) (tS G W mBrk) := impS ps_break fun D σ H ⟨w, s, e, ok, er, h⟩ => h w H σ .refl ok er
theorem s_cnt : PS X (.Continue pos) (tS G W mCnt) := impS ps_continue fun D σ H ⟨w, s, e, ok, er, h⟩ => h w H σ .refl ok er
theorem s_doc {x j pos'} : PS X (.Expr (.Constant (.str x) j pos) pos') (tS G W mPass) := impS ps_doc fun D σ H ⟨w, s, e, ok, er, h⟩ => h.nxtHere ok er
theorem s_expr (he : PE X a (tE G W ma)) (hs : swapsWith a none pos.line X.env = pure false) : PS X (.Expr a pos) (tS G W (mExpr ma)) := by
  refine impS (ps_expr he hs) fun D σ H ⟨w, s, e, ok, er, h⟩ => ?_
  exact ⟨w, s, e, ok, er, PostS.go ok er h fun w1 s1 H1 v u x1 ok1 r1 er1 h1 => PostS.nxtHere ok1 h1 er1⟩
theorem s_if {m1 m2 : MS} {mt : MT} {A B : List Stmt} (hc : PT X c (tT G W mt)) (h1 : PSs X A (tS G W m1)) (h2 : PSs X B (tS G W m2)) : PS X (.If c A B pos) (tS G W (mIf mt m1 m2)) := by
  refine impS (ps_if hc h1 h2) fun D σ H ⟨w, s, e, ok, er, h⟩ => ?_
  refine ⟨w, s, e, ok, er, PostS.goT ok er h fun w1 s1 H1 v x1 ok1 er1 p1 => ?_⟩
  cases v with
  | true => rw [if_pos rfl]; exact ⟨w1, s1, e, ok1, er1, p1⟩
  | false => rw [if_neg Bool.false_ne_true]; exact ⟨w1, s1, e, ok1, er1, p1⟩
theorem s_retN : PS X (.Return none pos) (tS G W mRetN) := impS ps_retN fun D σ H ⟨w, s, e, ok, er, h⟩ =>
  h (dropO w) H .non step_drop ok.dropO (fun _ z => z) (rep_non (K := G.K) (N := (dropO w).N) (H := H))
theorem s_ret (he : PE X a (tE G W ma)) : PS X (.Return (some a) pos) (tS G W (mRet ma)) := by
  refine impS (ps_ret he) fun D σ H ⟨w, s, e, ok, er, h⟩ => ?_
  refine ⟨w, s, e, ok, er, PostS.go ok er h fun w1 s1 H1 v u x1 ok1 r1 er1 h1 => ?_⟩
  cases v with
  | d x => exact h1 (dropO w1) H1 u step_drop ok1.dropO (fun _ z => z) (Rep.less drop_N x r1)
  | ref n => exact h1 (dropO w1) H1 u step_drop ok1.dropO (fun _ z => z) r1
  | snap xs =>
    obtain ⟨p, vs, rfl, ho, h2, hz, h3⟩ := r1
    exact h1 (dropO w1) H1 _ step_drop ok1.dropO (fun _ z => z) (rep_lst (fun z => z.elim (fun z => ok1.bo p z ho) id) h2 hz (Reps.less drop_N xs h3))
  | _ => exact h1.elim
/-! ### names are set -/
theorem asg_read {i : Nat} {m : ME} {D : Ends} {σ : L2.St} {H : Hp} (h : tS G W (mAsg i m) D σ H) : tAsg (tE G W m) (gName i) D σ H := by
  obtain ⟨w, s, e, ok, er, h⟩ := h
  refine ⟨w, s, e, ok, er, PostS.go ok er h fun w1 s1 H1 v u x1 ok1 r1 er1 h1 => ?_⟩
  cases v with
  | d x => exact PostS.nxtHere ok1 h1 (er1.setV (v := .d x) i r1 rfl)
  | ref n => exact PostS.nxtHere ok1 h1 (er1.setV (v := .ref n) i r1 rfl)
  | _ => exact h1.elim
theorem s_asg {i : Nat} {x : Str} {pos' : Pos} (hN : X.N.Nodup) (hi : X.N[i]? = some x) (hx : Loc X.env.scope x) (he : PE X a (tE G W ma)) (hs : swapsWith a (some (.Name x pos')) pos.line X.env = pure false) (hf : X.fn x = true ∨ X.env.scope.names.lookup x = some .local) :
    PS X (.Assign [.Name x pos'] a pos) (tS G W (mAsg i ma)) := impS (ps_set hN hi hx he hs hf) fun D σ H h => asg_read h
theorem s_asgT {is : List Nat} {tg : Expr} (hK : G.K = X.K) (he : PE X a (tE G W ma)) (hg : PG X tg (gTg X.K (.tp is))) (hs : swapsWithSole [tg] a pos.line X.env = pure false) (hw : swappedStores [tg] a X.env = pure none)
    (h1 : (assignEach [tg] X.env).map (·.2) = [assign tg X.env]) : PS X (.Assign [tg] a pos) (tS G W (mAsgT is ma)) := by
  refine impS (ps_asg he hg hs hw h1) fun D σ H ⟨w, s, e, ok, er, h⟩ => ?_
  refine ⟨w, s, e, ok, er, PostS.go ok er h fun w1 s1 H1 v u x1 ok1 r1 er1 h1 => ?_⟩
  cases v with
  | d x =>
    dsimp only at h1
    cases q : tgSet (.tp is) x e with
    | none => rw [q] at h1; exact h1.elim
    | some e2 =>
      rw [q] at h1
      rw [← hK]
      exact tg_ok er1 r1 q fun σ' er' _ => PostS.nxtHere ok1 h1 er'
  | _ => exact h1.elim
/-! ### loops -/
theorem for_read {tgm : Tg} {it : MI} {m : MS} {D : Ends} {σ : L2.St} {H : Hp} {w : Wd} {s : S} {e : Env} {K : PySem.W.Frag} (hK : K = G.K) (ok : Ok G w s H) (er : EnvR G w H e σ) (h : PostS G W w H (mFor tgm it m e s) D) :
    tFor (tI G W it) (gTg K tgm) (tS G W m) D σ H := by
  subst hK
  refine ⟨w, s, e, ok, er, ?_⟩
  unfold mFor at h
  cases q : it e s with
  | stuck => rw [q] at h; exact h.elim
  | exn c y s1 => rw [q] at h; exact fun w' H' cls d x o r => h w' H' σ cls d (x.step o) o (er.ext ok x) r
  | ok xs s1 =>
    rw [q] at h
    intro w1 H1 J x1 ok1 ⟨wk, hz⟩
    refine ⟨fun i n σ' H' => ∃ w' s' e', i ≤ xs.length ∧ n = xs.length - i ∧ Ok G w' s' H' ∧ EnvR G w' H' e' σ' ∧ Walks G.K w'.N H' J xs ∧ PostS G W w' H' (forGo tgm m (xs.drop i) e' s') D,
      ⟨_, w1, s1, e, Nat.zero_le _, rfl, ok1, er.ext ok x1, wk, PostS.mono (x1.step ok1) h⟩, ?_⟩
    rintro i n σ2 H2 ⟨w2, s2, e2, hi, hn, ok2, er2, wk2, po⟩
    have wk2' := wk2 _ _ (Last.refl ok2)
    cases hx : xs[i]? with
    | none =>
      have hi : i = xs.length := Nat.le_antisymm hi (List.getElem?_eq_none_iff.mp hx)
      rw [hi, List.drop_length] at po
      exact .inl ⟨by rw [hi]; exact wk2'.stop, PostS.nxtHere ok2 po er2⟩
    | some x =>
      obtain ⟨hgo, hy⟩ := wk2'.go i x hx
      have hlt : i < xs.length := (List.getElem?_eq_some_iff.mp hx).1
      have hdrop : xs.drop i = x :: xs.drop (i + 1) := by
        rw [List.drop_eq_getElem_cons hlt]
        rw [List.getElem?_eq_getElem hlt] at hx
        rw [Option.some.inj hx]
      refine .inr ⟨hgo, _, fun σ' H' h => ⟨n - 1, by omega, h⟩, fun y H' yl => ?_⟩
      obtain ⟨rfl, ry⟩ := hy y H' yl
      rw [hdrop] at po
      unfold forGo at po
      cases q1 : tgSet tgm x e2 with
      | none => rw [q1] at po; exact po.elim
      | some e3 =>
        rw [q1] at po
        dsimp only at po
        refine tg_ok er2 ry q1 fun σ3 er3 _ => ⟨w2, s2, e3, ok2, er3, ?_⟩
        cases q2 : m e3 s2 with
        | stuck => rw [q2] at po; exact po.elim
        | exn c z e4 s4 => rw [q2] at po; exact po
        | ret v s4 => rw [q2] at po; exact po
        | brk e4 s4 => rw [q2] at po; exact po
        | nxt e4 s4 =>
          rw [q2] at po
          exact fun w4 H4 σ4 st ok4 er4 => ⟨w4, s4, e4, hlt, by omega, ok4, er4, wk2.last (st.last ok2), PostS.mono st po⟩
        | cnt e4 s4 =>
          rw [q2] at po
          exact fun w4 H4 σ4 st ok4 er4 => ⟨w4, s4, e4, hlt, by omega, ok4, er4, wk2.last (st.last ok2), PostS.mono st po⟩
theorem s_for {tg iter : Expr} {tgm : Tg} {it : MI} {m : MS} {body : List Stmt} (hK : G.K = X.K) (hp : PassesOwn (model X.prog X.w) X.A X.env X.xe) (hc : X.calm = true) (hi : PI X tg iter (tI G W it)) (hg : PG X tg (gTg X.K tgm)) (hb : PSs X body (tS G W m))
    (hs : ∀ x, foldedSetIterable iter X.env x = pure x) : PS X (.For tg iter body [] pos) (tS G W (mFor tgm it m)) := by
  refine impS (ps_for hp hc hi hg hb hs) fun D σ H ⟨w, s, e, ok, er, h⟩ => ?_
  exact for_read hK.symm ok er h
theorem s_while {n : Nat} {mt : MT} {m : MS} {body : List Stmt} (hp : PassesOwn (model X.prog X.w) X.A X.env X.xe) (hc : PT X c (tT G W mt)) (hb : PSs X body (tS G W m)) : PS X (.While c body [] pos) (tS G W (whileGo mt m n)) := by
  refine impS (ps_while hp hc hb) fun D σ H ⟨w, s, e, ok, er, h⟩ => ?_
  refine ⟨fun k σ' H' => ∃ w' s' e', Ok G w' s' H' ∧ EnvR G w' H' e' σ' ∧ PostS G W w' H' (whileGo mt m k e' s') D, ⟨n, w, s, e, ok, er, h⟩, ?_⟩
  rintro k σ2 H2 ⟨w2, s2, e2, ok2, er2, po⟩
  cases k with
  | zero => exact po.elim
  | succ k =>
    refine ⟨w2, s2, e2, ok2, er2, PostS.goT ok2 er2 po fun w3 s3 H3 v x3 ok3 er3 p3 => ?_⟩
    cases v with
    | false => rw [if_neg Bool.false_ne_true]; exact PostS.nxtHere ok3 p3 er3
    | true =>
      rw [if_pos rfl]
      refine ⟨_, fun σ' H' h => ⟨k, Nat.lt_succ_self k, h⟩, w3, s3, e2, ok3, er3, ?_⟩
      rw [if_pos rfl] at p3
      cases q2 : m e2 s3 with
      | stuck => rw [q2] at p3; exact p3.elim
      | exn c z e4 s4 => rw [q2] at p3; exact p3
      | ret v s4 => rw [q2] at p3; exact p3
      | brk e4 s4 => rw [q2] at p3; exact p3
      | nxt e4 s4 => rw [q2] at p3; exact fun w4 H4 σ4 st ok4 er4 => ⟨w4, s4, e4, ok4, er4, PostS.mono st p3⟩
      | cnt e4 s4 => rw [q2] at p3; exact fun w4 H4 σ4 st ok4 er4 => ⟨w4, s4, e4, ok4, er4, PostS.mono st p3⟩
end
end MP
end

section
set_option Elab.async false
set_option linter.all false
set_option maxRecDepth 100000
set_option maxHeartbeats 4000000
/-! MP, part i: lists of one's own, tracked lists. -/
namespace MP
open PySem PySem.Spec PyProof.Rows L2
/-- the name's list is looked at from now on -/
def mFrz (i : Nat) : MS := fun e s => match e[i]? with
  | some (some (.own xs)) => .nxt (e.set i (some (.d (.lst xs)))) s
  | _ => .nxt e s
def PostO (G : Gd) (W : WX) (w : Wd) (H : Hp) (σ : L2.St) (r : R Val) (Q : V → Hp → Prop) : Prop := match r with
  | .ok v s' => (∃ xs, v = .d (.lst xs)) ∧ ∀ w' H' p xs vs, v = .d (.lst xs) → H p = none → Ext w H w' H' → Ok G w' s' H' → w'.B p → p ∉ w'.α → H' p = some (.lst vs) → vs.length ≤ line → Reps G.K w'.N H' xs vs → Q (.ref p) H'
  | .exn c x s' => ∀ w' H' cls d, Ext w H w' H' → Ok G w' s' H' → ExR G w' H' c x cls d → W cls d σ H'
  | .stuck => False
/-- a new list, apart -/
def tEO (G : Gd) (W : WX) (m : ME) : TE := fun σ H Q => ∃ w s e, Ok G w s H ∧ EnvR G w H e σ ∧ PostO G W w H σ (m e s) Q
section
variable {G : Gd} {w w1 w2 : Wd} {s s1 s2 : S} {H H1 H2 : Hp} {e : Env} {σ : L2.St} {W : WX} {p : Addr}
theorem PostO.mono {r : R Val} {Q : V → Hp → Prop} (x : Ext w H w1 H1) (ok1 : Ok G w1 s1 H1) (h : PostO G W w H σ r Q) : PostO G W w1 H1 σ r Q := by
  cases r with
  | ok v s' => exact ⟨h.1, fun w' H' p xs vs ev hn e o => h.2 w' H' p xs vs ev (ok1.none_of x hn) (x.trans ok1 e) o⟩
  | exn c y s' => exact fun w' H' cls d e o r => h w' H' cls d (x.trans ok1 e) o r
  | stuck => exact h
theorem PostO.bind {α β : Type} {rel : Wd → S → Hp → α → β → Prop} {r : R α} {f : α → S → R Val} {Q : V → Hp → Prop} {Q1 : β → Hp → Prop} (h : PostO G W w H σ (r.bind f) Q)
    (hQ : ∀ w1 s1 H1 v u, Ext w H w1 H1 → Ok G w1 s1 H1 → rel w1 s1 H1 v u → PostO G W w1 H1 σ (f v s1) Q → Q1 u H1) : Post G W rel w H σ r Q1 := by
  cases r with
  | ok v s' => exact fun w' H' u e o r => hQ w' s' H' v u e o r (PostO.mono (r := f v s') e o h)
  | exn c y s' => exact h
  | stuck => exact h
theorem ext_add (ok : Ok G w s H) (hn : H p = none) (vs : List V) : Ext w H (addB w p) (upd H p (.lst vs)) := by
  refine ⟨⟨[], by simp [addB], by simp⟩, fun q h => .inl h, fun q h => ?_, rfl, fun q o h _ => grow_upd hn q o h⟩
  rcases h with h | h
  · exact .inl h
  · subst h; exact .inr hn
theorem Ok.apart (ok : Ok G w s H) (hn : H p = none) : p ∉ w.α := fun z => by
  obtain ⟨vs, e⟩ := ok.at z
  rw [hn] at e; cases e
theorem PostO.new {xs : List D} {vs : List V} {Q : V → Hp → Prop} (ok : Ok G w s H) (h : PostO G W w H σ (.ok (.d (.lst xs)) s) Q) (r : Reps G.K w.N H xs vs) (hz : vs.length ≤ line) : ∀ p, H p = none → Q (.ref p) (upd H p (.lst vs)) := fun p hn => by
  exact h.2 (addB w p) _ p xs vs rfl hn (ext_add ok hn vs) (ok.addB hn vs) (.inr rfl) (ok.apart hn) upd_same hz (Reps.last (last_add ok hn vs) xs r)
/-- a list apart is one's own from now on -/
def ownB (w : Wd) (p : Addr) : Wd := { w with B := fun q => w.B q ∧ q ≠ p, O := fun q => w.O q ∨ q = p }
theorem ownB_N (hb : w.B p) (q : Addr) : (ownB w p).N q → w.N q := fun h => by
  rcases h with h | h | h
  · exact .inl h.1
  · exact .inr h
  · subst h; exact .inl hb
theorem Ok.ownB (ok : Ok G w s H) (hb : w.B p) (hp : p ∉ w.α) : Ok G (MP.ownB w p) s H := by
  refine ⟨ok.nd, ok.len, fun n xs q h1 h2 => ?_, fun q h => ⟨ok.ab q h, fun z => hp (z ▸ h)⟩, fun q h z => ?_, fun q h => ok.mu q (ownB_N hb q h)⟩
  · obtain ⟨us, h3, hz, h4⟩ := ok.cells n xs q h1 h2
    exact ⟨us, h3, hz, Reps.less (ownB_N hb) xs h4⟩
  · rcases z with z | z
    · exact ok.bo q h.1 z
    · exact h.2 z
theorem Pay.less {N N' : Addr → Prop} {c : EC} {y : Option D} {d : Option Addr} (hN : ∀ q, N' q → N q) (h : Pay G.K N H c y d) : Pay G.K N' H c y d := by
  unfold Pay at *
  cases y with
  | none => exact h
  | some y =>
    obtain ⟨p, u, e, h1, hn, h2⟩ := h
    exact ⟨p, u, e, h1, fun z => hn (hN _ z), Rep.less hN y h2⟩
/-- less is bad, the own lists that are named stay -/
theorem SlotR.less {v : Val} {u : V} (hN : ∀ q, w1.N q → w.N q) (ha : w1.α = w.α) (ho : isOwn v = true → ∀ q, u = .ref q → w.O q → w1.O q) (h : SlotR G w H v u) : SlotR G w1 H v u := by
  cases v with
  | d y => exact Rep.less hN y h
  | ref n => obtain ⟨q, e1, e2⟩ := h; exact ⟨q, by rw [ha]; exact e1, e2⟩
  | own xs => obtain ⟨q, vs, e1, h1, e2, hz, e3⟩ := h; exact ⟨q, vs, e1, ho rfl q e1 h1, e2, hz, Reps.less hN xs e3⟩
  | snap xs => obtain ⟨q, vs, e1, h1, e2, hz, e3⟩ := h; exact ⟨q, vs, e1, ho rfl q e1 h1, e2, hz, Reps.less hN xs e3⟩
  | ownT ks xs => obtain ⟨q, vs, e1, h1, e2, hk, hz, e3⟩ := h; exact ⟨q, vs, e1, ho rfl q e1 h1, e2, hk, hz, Reps.less hN xs e3⟩
  | exc c y => obtain ⟨a, d, e1, e2, e3⟩ := h; exact ⟨a, d, e1, e2, e3.less hN⟩
  | scr ns => exact h
theorem EnvR.ownB (er : EnvR G w H e σ) (hb : w.B p) : EnvR G (MP.ownB w p) H e σ := ⟨er.len, fun i v hv => by
  obtain ⟨u, h1, h2⟩ := er.slot i v hv
  exact ⟨u, h1, h2.less (ownB_N hb) rfl fun _ q _ h => .inl h⟩, er.sep⟩
theorem EnvR.setG (er : EnvR G w H e σ) {v1 : Val} (i : Nat) (r : SlotR G w H v1 (.ref p))
    (hs : ∀ (j : Nat) v, j ≠ i → e[j]? = some (some v) → isOwn v = true → σ[j]? ≠ some (some (.ref p))) : EnvR G w H (e.set i (some v1)) (σ.set i (some (.ref p))) := by
  refine ⟨by simp [er.len], fun j v' h' => ?_, fun j k a b c hne h1 h2 h3 h4 h5 => ?_⟩
  · rw [List.getElem?_set] at h'
    split at h'
    · rename_i hij
      subst hij
      split at h'
      · rename_i hlt
        cases h'
        exact ⟨_, by rw [List.getElem?_set_self (by rw [← er.len]; exact hlt)], r⟩
      · cases h'
    · rename_i hij
      obtain ⟨u', h1, h2⟩ := er.slot j v' h'
      exact ⟨u', by rw [List.getElem?_set_ne hij]; exact h1, h2⟩
  · rw [List.getElem?_set] at h1 h2
    by_cases hj : i = j
    · subst hj
      rw [if_neg hne] at h2
      rw [if_pos rfl] at h1
      split at h1
      · rename_i hlt
        rw [List.getElem?_set_self (by rw [← er.len]; exact hlt)] at h5
        cases h5
        rw [List.getElem?_set_ne hne]
        exact hs k b (Ne.symm hne) h2 h4
      · cases h1
    · rw [if_neg hj] at h1
      rw [List.getElem?_set_ne hj] at h5
      by_cases hk : i = k
      · subst hk
        rw [if_pos rfl] at h2
        split at h2
        · rename_i hlt
          rw [List.getElem?_set_self (by rw [← er.len]; exact hlt)]
          intro z
          cases z
          exact hs j a (Ne.symm hj) h1 h3 h5
        · cases h2
      · rw [if_neg hk] at h2
        rw [List.getElem?_set_ne hk]
        exact er.sep j k a b c hne h1 h2 h3 h4 h5
theorem EnvR.setOwn (er : EnvR G w H e σ) {xs : List D} {vs : List V} (i : Nat) (ho : w.O p) (h : H p = some (.lst vs)) (hz : vs.length ≤ line) (r : Reps G.K w.N H xs vs)
    (hs : ∀ (j : Nat) v, j ≠ i → e[j]? = some (some v) → isOwn v = true → σ[j]? ≠ some (some (.ref p))) : EnvR G w H (e.set i (some (.own xs))) (σ.set i (some (.ref p))) := er.setG i ⟨p, vs, rfl, ho, h, hz, r⟩ hs
/-- the own list at p is put to -/
theorem Ok.putG (ok : Ok G w s H) (ho : w.O p) (o1 : HO) (n1 : ∀ xs, o1 ≠ .tup xs) (n2 : ∀ ob u, o1 ≠ .frz ob u) : Ok G w s (upd H p o1) ∧ Last w.N w.N H (upd H p o1) ∧ Step w H w (upd H p o1) := by
  have L : Last w.N w.N H (upd H p o1) := ⟨fun q o h hq => by rw [upd_ne fun z => hq (by rw [z]; exact .inr ho)]; exact h, fun q h => .inl h, ok.mu⟩
  refine ⟨⟨ok.nd, ok.len, fun n xs q h1 h2 => ?_, ok.ab, ok.bo, fun q hq => ?_⟩, L, ⟨⟨[], by simp, by simp⟩, fun _ h => h, fun _ h => .inl h, fun _ h => .inl h, fun q o h hq hO => ?_, fun q hq => ?_⟩⟩
  · obtain ⟨vs', h3, hz, h4⟩ := ok.cells n xs q h1 h2
    have hne : q ≠ p := fun z => ok.bo q (ok.ab q (List.mem_of_getElem? h2)) (z ▸ ho)
    exact ⟨vs', by rw [upd_ne hne]; exact h3, hz, Reps.last L xs h4⟩
  · by_cases hqp : q = p
    · subst hqp
      exact ⟨_, upd_same, n1, n2⟩
    · obtain ⟨o, e, h1⟩ := ok.mu q hq
      exact ⟨o, by rw [upd_ne hqp]; exact e, h1⟩
  · rw [upd_ne fun z => hO (by rw [z]; exact ho)]; exact h
  · by_cases hqp : q = p
    · subst hqp; rw [upd_same] at hq; cases hq
    · rw [upd_ne hqp] at hq; exact hq
theorem Ok.putO (ok : Ok G w s H) (ho : w.O p) {vs : List V} (us : List V) (h : H p = some (.lst vs)) : Ok G w s (upd H p (.lst us)) ∧ Last w.N w.N H (upd H p (.lst us)) ∧ Step w H w (upd H p (.lst us)) :=
  ok.putG ho _ (fun xs h => by cases h) fun ob u h => by cases h
theorem EnvR.putG (ok : Ok G w s H) (er : EnvR G w H e σ) {i : Nat} {v0 v1 : Val} {o1 : HO} (he : e[i]? = some (some v0)) (h0 : isOwn v0 = true) (hσ : σ[i]? = some (some (.ref p))) (ho : w.O p) (L : Last w.N w.N H (upd H p o1))
    (r : SlotR G w (upd H p o1) v1 (.ref p)) : EnvR G w (upd H p o1) (e.set i (some v1)) σ := by
  have hi : i < σ.length := (List.getElem?_eq_some_iff.mp hσ).1
  have hσ' : σ.set i (some (.ref p)) = σ := by
    refine List.ext_getElem? fun j => ?_
    rw [List.getElem?_set]
    split
    · rename_i hij; subst hij; exact hσ.symm
    · first | rfl | (rename_i hij; exact absurd hi hij)
  rw [← hσ']
  have key : ∀ (j : Nat) v, j ≠ i → e[j]? = some (some v) → isOwn v = true → σ[j]? ≠ some (some (.ref p)) := fun j v hj hv hov => fun z => er.sep i j _ v (.ref p) (Ne.symm hj) he hv h0 hov hσ z
  refine ⟨by simp [er.len], fun j v' h' => ?_, fun j k a b c hne h1 h2 h3 h4 h5 => ?_⟩
  · rw [List.getElem?_set] at h'
    split at h'
    · rename_i hij
      subst hij
      split at h'
      · cases h'
        exact ⟨_, by rw [List.getElem?_set_self hi], r⟩
      · cases h'
    · rename_i hij
      obtain ⟨u', h1, h2⟩ := er.slot j v' h'
      refine ⟨u', by rw [List.getElem?_set_ne hij]; exact h1, ?_⟩
      cases v' with
      | d y => exact Rep.last L y h2
      | ref n => exact h2
      | own zs =>
        obtain ⟨q, vs, e1, ho', e2, hz, e3⟩ := h2
        exact ⟨q, vs, e1, ho', by rw [upd_ne fun z => key j _ (Ne.symm hij) h' rfl (by rw [h1, e1, z])]; exact e2, hz, Reps.last L zs e3⟩
      | snap zs =>
        obtain ⟨q, vs, e1, ho', e2, hz, e3⟩ := h2
        exact ⟨q, vs, e1, ho', by rw [upd_ne fun z => key j _ (Ne.symm hij) h' rfl (by rw [h1, e1, z])]; exact e2, hz, Reps.last L zs e3⟩
      | ownT ks zs =>
        obtain ⟨q, vs, e1, ho', e2, hk, hz, e3⟩ := h2
        exact ⟨q, vs, e1, ho', by rw [upd_ne fun z => key j _ (Ne.symm hij) h' rfl (by rw [h1, e1, z])]; exact e2, hk, hz, Reps.last L zs e3⟩
      | exc c y => obtain ⟨a, d, e1, e2, e3⟩ := h2; exact ⟨a, d, e1, e2, e3.last L⟩
      | scr ns =>
        obtain ⟨q, e1, e2, hz⟩ := h2
        refine ⟨q, e1, ?_, hz⟩
        rcases e2 with ⟨o, e2⟩ | e2
        · exact .inl ⟨o, frz.last L e2⟩
        · exact .inr e2
  · rw [hσ'] at h5 ⊢
    have back : ∀ (m : Nat) (x : Val), (e.set i (some v1))[m]? = some (some x) → isOwn x = true → ∃ x', e[m]? = some (some x') ∧ isOwn x' = true := fun m x hx hox => by
      rw [List.getElem?_set] at hx
      split at hx
      · rename_i him; subst him; exact ⟨_, he, h0⟩
      · exact ⟨x, hx, hox⟩
    obtain ⟨a', e1, o1⟩ := back j a h1 h3
    obtain ⟨b', e2, o2⟩ := back k b h2 h4
    exact er.sep j k a' b' c hne e1 e2 o1 o2 h5
theorem EnvR.putO (ok : Ok G w s H) (er : EnvR G w H e σ) {i : Nat} {ys xs : List D} {vs us : List V} (he : e[i]? = some (some (.own ys))) (hσ : σ[i]? = some (some (.ref p))) (ho : w.O p) (h : H p = some (.lst vs)) (hz : us.length ≤ line)
    (r : Reps G.K w.N H xs us) : EnvR G w (upd H p (.lst us)) (e.set i (some (.own xs))) σ :=
  er.putG ok he rfl hσ ho (ok.putO ho us h).2.1 ⟨p, us, rfl, ho, upd_same, hz, Reps.last (ok.putO ho us h).2.1 xs r⟩

end
end MP
end

section
set_option Elab.async false
set_option linter.all false
set_option maxRecDepth 100000
set_option maxHeartbeats 4000000
/-! MP, part j: lists of one's own, tracked lists: statements. -/
namespace MP
open PySem PySem.Spec PyProof.Rows L2
section
variable {X : Cx} {G : Gd} {W : WX} {pos p : Pos} {a b c : Expr} {ma mb mc : ME} {st : Stmt} {sts : List Stmt}
/-! ### new lists -/
theorem o_lst {es : List Expr} {ms : ML} (hl : PA X es (tL G W ms)) : PE X (.List es pos) (tEO G W (mLst ms)) := by
  refine impE (pe_lst hl) fun σ H Q ⟨w, s, e, ok, er, h⟩ => ?_
  refine ⟨w, s, e, ok, er, PostO.bind (rel := relL G) h fun w1 s1 H1 v u x1 ok1 r1 h1 => ?_⟩
  cases q : datas v with
  | none => rw [q] at h1; exact h1.elim
  | some xs =>
    rw [q] at h1
    dsimp only at h1
    split at h1
    · rename_i hl
      have r := datas_rep r1 q
      rw [r.length] at hl
      exact ⟨by rw [← line_eq]; exact hl, PostO.new ok1 h1 r hl⟩
    · exact h1.elim
theorem o_lstI {i : MI} (hc : X.calm = true) (hg : Gl X "list") (hm : X.mg "list" = none) (he : PRg X a (tRgM G W i)) (na : starEach [a] X.env = (false, eval a X.env) :: starEach [] X.env) : PE X (.Call (.Name "list" p) [a] [] pos) (tEO G W (mLstI i)) := by
  refine impE (pe_listRg hc hg hm he na) fun σ H Q ⟨w, s, e, ok, er, h⟩ => ?_
  refine ⟨w, s, e, ok, er, PostO.bind (rel := relRg) h fun w1 s1 H1 v u x1 ok1 ⟨r1, r2⟩ h1 => ⟨r1, fun q hq => ?_⟩⟩
  subst r2
  have hz : (rgV u.1 u.2).length ≤ line := by rw [rgV_length]; exact r1.2.2.2.2
  exact PostO.new ok1 h1 (reps_rg _ _) hz q hq
theorem o_list (hK : G.K = X.K) (hc : X.calm = true) (hg : Gl X "list") (hm : X.mg "list" = none) (ha : PE X a (tE G W ma)) (hs : starEach [a] X.env = (false, eval a X.env) :: starEach [] X.env) :
    PE X (.Call (.Name "list" p) [a] [] pos) (tEO G W (mB1 .list ma)) := by
  have pa : PA X [a] (tCons (tE G W ma) tNil) := pa_cons ha pa_nil hs
  refine impE (pe_callTy (cr_b1 (X := X) .list (fun _ => hc)) hg hm (by decide +kernel) pa (by decide +kernel) (by decide +kernel) hs rfl) fun σ H Q ⟨w, s, e, ok, er, h⟩ => ?_
  refine ⟨w, s, e, ok, er, PostO.bind (rel := relV G) h fun w1 s1 H1 v u x1 ok1 r1 h1 => ?_⟩
  show rB1 X.K .list [u] H1 Q
  cases q1 : rd s1 v with
  | none =>
    cases v with
    | ownT ks xs =>
      have h1 : PostO G W w1 H1 σ (.ok (.d (.lst (keysD ks))) s1) Q := h1
      obtain ⟨q, kvs, rfl, ho, h2, hk, ⟨hz, hkz⟩, h3⟩ := r1
      refine .inr ⟨q, kvs, rfl, .inl h2, fun p bs hp hb => ?_⟩
      refine PostO.new (vs := bs.map V.ref) ok1 h1 ?_ ?_ p hp
      · subst hk
        exact reps_keys hb hkz
      · rw [List.length_map, ← Paired.length hb]; exact hz
    | _ => simp only [b1V, q1] at h1 <;> first | exact h1.elim | (simp at h1; exact h1.elim)
  | some x =>
    have h1 : PostO G W w1 H1 σ (R.of (b1V .list s1 v) s1) Q := h1
    have e1 : b1V .list s1 v = (b1 .list x).map .d := by
      cases v with
      | scr ns => cases q1
      | ownT ks xs => cases q1
      | _ => simp only [b1V, q1]
    rw [e1] at h1
    cases q : items x with
    | none => simp only [b1, q] at h1; exact h1.elim
    | some xs =>
      simp only [b1, q] at h1
      obtain ⟨q, vs, rfl, h2, hz, h3⟩ := items_rep (rd_ok ok1 r1 q1) q
      exact .inl ⟨q, vs, rfl, by rw [← hK]; exact h2, PostO.new ok1 h1 h3 hz⟩
theorem mul_lst {x y : D} {xs : List D} (h : opD .mul x y = some (.lst xs)) : ∃ a k, x = .lst a ∧ y = .int k ∧ -(2 ^ 63) ≤ k ∧ k < 2 ^ 63 ∧ a.length * k.toNat ≤ line ∧ xs = (List.replicate k.toNat a).flatten := by
  cases x with
  | lst a =>
    cases y with
    | int k =>
      have h : (if Op.mul = .mul ∧ -(2 ^ 63) ≤ k ∧ k < 2 ^ 63 ∧ a.length * k.toNat ≤ line then some (D.lst (List.replicate k.toNat a).flatten) else none) = some (.lst xs) := h
      split at h
      · rename_i hc
        cases h
        exact ⟨a, k, rfl, rfl, hc.2.1, hc.2.2.1, hc.2.2.2, rfl⟩
      · cases h
    | lst b =>
      have h : (if Op.mul = .add ∧ a.length + b.length ≤ line then some (D.lst (a ++ b)) else none) = some (.lst xs) := h
      rw [if_neg (fun z => nomatch z.1)] at h
      cases h
    | _ => cases h
  | int i =>
    cases y with
    | int j =>
      have h : (opI .mul i j).map D.int = some (.lst xs) := h
      obtain ⟨_, _, e⟩ := Option.map_eq_some_iff.mp h
      cases e
    | _ => cases h
  | str a =>
    cases y with
    | str b =>
      have h : (if Op.mul = .add ∧ a.length + b.length ≤ line then some (D.str (a ++ b)) else none) = some (.lst xs) := h
      rw [if_neg (fun z => nomatch z.1)] at h
      cases h
    | _ => cases h
  | tup a =>
    cases y with
    | tup b =>
      have h : (if Op.mul = .add ∧ a.length + b.length ≤ line then some (D.tup (a ++ b)) else none) = some (.lst xs) := h
      rw [if_neg (fun z => nomatch z.1)] at h
      cases h
    | int k =>
      have h : (if Op.mul = .mul ∧ 2 ≤ k ∧ k ≤ 1000 ∧ a ≠ [] ∧ a.length ≤ 1000 then some (D.tup (List.replicate k.toNat a).flatten) else none) = some (.lst xs) := h
      split at h <;> cases h
    | _ => cases h
  | tuq a =>
    cases y with
    | tuq b =>
      have h : (if Op.mul = .add ∧ a.length + b.length ≤ line then some (D.tuq (a ++ b)) else none) = some (.lst xs) := h
      rw [if_neg (fun z => nomatch z.1)] at h
      cases h
    | _ => cases h
  | _ => cases h
theorem o_mul (hK : G.K = X.K) (ha : PE X a (tE G W ma)) (hb : PE X b (tE G W mb)) : PE X (.BinOp a .Mult b pos) (tEO G W (mBin .mul ma mb)) := by
  refine impE (pe_op (op_rO (X := X) .mul) ha hb) fun σ H Q ⟨w, s, e, ok, er, h⟩ => ?_
  refine ⟨w, s, e, ok, er, PostO.bind (rel := relV G) h fun w1 s1 H1 v u x1 ok1 r1 h1 => ⟨w1, s1, e, ok1, er.ext ok x1, PostO.bind (rel := relV G) h1 fun w2 s2 H2 v' u' x2 ok2 r2 h2 => ?_⟩⟩
  have r1 := r1.ext ok1 x2
  cases q1 : rd s2 v with
  | none => rw [q1] at h2; exact h2.elim
  | some x =>
    cases q2 : rd s2 v' with
    | none => rw [q1, q2] at h2; exact h2.elim
    | some y =>
      rw [q1, q2] at h2
      have rx := rd_ok ok2 r1 q1
      have ry := rd_ok ok2 r2 q2
      have h2 : PostO G W w2 H2 σ (R.of ((opD .mul x y).map Val.d) s2) Q := h2
      cases q3 : opD .mul x y with
      | none => rw [q3] at h2; exact False.elim h2
      | some z =>
        rw [q3] at h2
        have h2 : PostO G W w2 H2 σ (.ok (.d z) s2) Q := h2
        obtain ⟨xs, ez⟩ := h2.1
        cases ez
        obtain ⟨a, k, rfl, rfl, hk1, hk2, hl, rfl⟩ := mul_lst q3
        obtain ⟨p1, v1, rfl, h1, z1, r1⟩ := rx
        rw [int_inv ry]
        have hl1 : v1.length * k.toNat ≤ line := by rw [← r1.length]; exact hl
        have hl2 : (List.replicate k.toNat v1).flatten.length ≤ line := by
          rw [List.length_flatten, List.map_replicate, List.sum_replicate_nat, Nat.mul_comm]; exact hl1
        exact .inr (.inl ⟨p1, k, v1, rfl, rfl, h1, hk1, hk2, by rw [← line_eq]; exact hl1, PostO.new ok2 h2 (r1.rep _) hl2⟩)
theorem sorted_inv {x z : D} (h : b1 .sorted x = some z) : ∃ xs ns, items x = some xs ∧ intsD xs = some ns ∧ z = .lst ((sortI ns).map .int) := by
  have h : (match items x with
    | some xs => (intsD xs).map fun ns => D.lst ((sortI ns).map .int)
    | none => none) = some z := h
  cases q : items x with
  | none => rw [q] at h; cases h
  | some xs =>
    rw [q] at h
    obtain ⟨ns, e, rfl⟩ := Option.map_eq_some_iff.mp h
    exact ⟨xs, ns, rfl, e, rfl⟩
theorem o_sorted (hK : G.K = X.K) (hg : Gl X "sorted") (hm : X.mg "sorted" = none) (ha : PE X a (tE G W ma)) (hs : starEach [a] X.env = (false, eval a X.env) :: starEach [] X.env) :
    PE X (.Call (.Name "sorted" p) [a] [] pos) (tEO G W (mB1 .sorted ma)) := by
  have pa : PA X [a] (tCons (tE G W ma) tNil) := pa_cons ha pa_nil hs
  refine impE (pe_callB (cr_b1 (X := X) .sorted (fun h => nomatch h)) hg hm (by decide +kernel) pa (by decide +kernel) (by decide +kernel) hs rfl) fun σ H Q ⟨w, s, e, ok, er, h⟩ => ?_
  refine ⟨w, s, e, ok, er, PostO.bind (rel := relV G) h fun w1 s1 H1 v u x1 ok1 r1 h1 => ?_⟩
  show rB1 X.K .sorted [u] H1 Q
  cases q1 : rd s1 v with
  | none =>
    cases v with
    | ownT ks xs => exact h1.elim
    | _ => simp only [b1V, q1] at h1 <;> first | exact h1.elim | (simp at h1; exact h1.elim)
  | some x =>
    have h1 : PostO G W w1 H1 σ (R.of (b1V .sorted s1 v) s1) Q := h1
    have e1 : b1V .sorted s1 v = (b1 .sorted x).map .d := by
      cases v with
      | scr ns => cases q1
      | ownT ks xs => cases q1
      | _ => simp only [b1V, q1]
    rw [e1] at h1
    have rx := rd_ok ok1 r1 q1
    rw [hK] at rx
    cases q3 : b1 .sorted x with
    | none => rw [q3] at h1; exact False.elim h1
    | some z =>
      rw [q3] at h1
      have h1 : PostO G W w1 H1 σ (.ok (.d z) s1) Q := h1
      obtain ⟨xs, ns, g1, g2, rfl⟩ := sorted_inv q3
      obtain ⟨p, vs, rfl, hsq, hz, hr⟩ := items_rep rx g1
      rw [ints_ok g2] at hr
      rw [reps_int hr] at hsq hz
      have fin : ∀ ns' : List Int, ns'.Perm ns → ns'.Pairwise (· ≤ ·) → ∀ a : Addr, H1 a = none → Q (.ref a) (upd H1 a (.lst (ns'.map V.int))) := fun ns' hp hs a hn => by
        have e : ns' = sortI ns := sorted_uniq (hp.trans (sortI_perm ns).symm) hs (sortI_sorted ns)
        subst e
        refine PostO.new ok1 h1 (of_int _) ?_ a hn
        rw [List.length_map, (sortI_perm ns).length_eq]
        rw [List.length_map] at hz
        exact hz
      rcases hsq with hsq | hsq
      · exact .inl ⟨p, ns, rfl, hsq, fun ns' a hp hs hn => fin ns' hp hs a hn⟩
      · exact .inr ⟨p, ns, rfl, hsq, fun ns' a hp hs hn => fin ns' hp hs a hn⟩
/-- a comprehension -/
theorem lcO_read {own : List Nat} {tg : Tg} {it : MI} {t : MT} {m : ME} (ht : ∀ i ∈ tgSlots tg, i ∈ own) {σ : L2.St} {H : Hp} {Q : VK} (h : tEO G W (mLc own tg it t m) σ H Q) :
    tLc (tI G W it) (gTg G.K tg) (tT G WF t) (tE G WF m) own σ H Q := by
  obtain ⟨w, s, e, ok, er, h⟩ := h
  refine ⟨w, s, e, ok, er, PostO.bind (rel := relI G) h fun w1 s1 H1 xs J x1 ok1 ⟨wk, hz⟩ h1 => fun p hp => ?_⟩
  refine lc_turns (Q := fun p H => Q (.ref p) H) ht (fun r => PostO G W w1 H1 σ (r.bind fun ys s => .ok (.d (.lst ys)) s) Q) (fun h => h) ok1 (er.ext ok x1) wk hz h1 p hp fun wz s acc H vs bp ap okz ex at_ ac hl po => ?_
  refine po.2 wz H p acc vs rfl hp ?_ okz bp ap at_ hl ac
  refine ⟨ex.al, fun q h => (ex.bm q h).1, fun q h => ?_, ex.oo, ex.keep⟩
  by_cases hq : q = p
  · subst hq; exact .inr hp
  · exact ex.bn q ⟨h, hq⟩
/-! ### a name's own list -/
theorem asgO_read {i : Nat} {m : ME} {D : Ends} {σ : L2.St} {H : Hp} (h : tS G W (mAsgO i m) D σ H) : tAsg (tEO G W m) (gName i) D σ H := by
  obtain ⟨w, s, e, ok, er, h⟩ := h
  refine ⟨w, s, e, ok, er, ?_⟩
  unfold mAsgO at h
  cases q : m e s with
  | stuck => rw [q] at h; exact h.elim
  | exn c y s1 => rw [q] at h; exact fun w' H' cls d x o r => h w' H' σ cls d (x.step o) o (er.ext ok x) r
  | ok v s1 =>
    rw [q] at h
    match v, h with
    | .d (.lst xs), h =>
      refine ⟨⟨xs, rfl⟩, fun w' H' p xs' vs ev hn x okx bp ap at_ hz r => ?_⟩
      cases ev
      have ok2 := okx.ownB bp ap
      have st : Step w H (ownB w' p) H' := by
        refine ⟨x.al, fun q h => ⟨x.bm q h, fun z => ?_⟩, fun q h => x.bn q h.1, fun q h => ?_, fun q o h hq _ => x.keep q o h hq, fun q h => okx.none_of x h⟩
        · subst z; exact ok.notN hn (.inl h)
        · rcases h with h | h
          · exact .inl (by rw [← x.oo]; exact h)
          · subst h; exact .inr hn
      refine h (ownB w' p) H' _ st ok2 ?_
      refine EnvR.setOwn (((er.ext ok x)).ownB bp) i (.inr rfl) at_ hz (Reps.less (ownB_N bp) xs r) fun j v hj hv hov z => ?_
      obtain ⟨u, h1, h2⟩ := (er.ext ok x).slot j v hv
      rw [z] at h1
      cases h1
      cases v with
      | own ys => obtain ⟨q, _, e1, ho, _⟩ := h2; cases e1; exact okx.bo p bp ho
      | snap ys => obtain ⟨q, _, e1, ho, _⟩ := h2; cases e1; exact okx.bo p bp ho
      | ownT ks ys => obtain ⟨q, _, e1, ho, _⟩ := h2; cases e1; exact okx.bo p bp ho
      | _ => cases hov
theorem s_asgO {i : Nat} {x : Str} {pos' : Pos} (hN : X.N.Nodup) (hi : X.N[i]? = some x) (hx : Loc X.env.scope x) (he : PE X a (tEO G W ma)) (hs : swapsWith a (some (.Name x pos')) pos.line X.env = pure false) (hf : X.fn x = true ∨ X.env.scope.names.lookup x = some .local) :
    PS X (.Assign [.Name x pos'] a pos) (tS G W (mAsgO i ma)) := impS (ps_set hN hi hx he hs hf) fun D σ H h => asgO_read h
theorem frz_read {i : Nat} {m : MS} {D : Ends} {σ : L2.St} {H : Hp} (h : tS G W (mSeq (mFrz i) m) D σ H) : tS G W m D σ H := by
  obtain ⟨w, s, e, ok, er, h⟩ := h
  cases q : e[i]? with
  | none => exact ⟨w, s, e, ok, er, by simpa only [mSeq, mFrz, q] using h⟩
  | some o =>
    match o, q with
    | some (.own xs), q =>
      simp only [mSeq, mFrz, q] at h
      obtain ⟨u, hu, p, vs, rfl, ho, h1, hz, h2⟩ := er.slot i _ q
      have hN : ∀ r, (Wd.mk w.α w.B fun r => w.O r ∧ r ≠ p).N r → w.N r := fun r h => h.elim .inl fun h => .inr h.1
      refine ⟨{ w with O := fun r => w.O r ∧ r ≠ p }, s, e.set i (some (.d (.lst xs))), ⟨ok.nd, ok.len, fun n ys r h3 h4 => ?_, ok.ab, fun r h z => ok.bo r h z.1, fun r h => ok.mu r (hN r h)⟩, ?_, PostS.mono (w := w) (H := H) ⟨⟨[], by simp, by simp⟩, fun _ h => h, fun _ h => .inl h, fun _ h => .inl h.1, fun _ _ h _ _ => h, fun _ h => h⟩ h⟩
      · obtain ⟨us, h5, h6, h7⟩ := ok.cells n ys r h3 h4
        exact ⟨us, h5, h6, Reps.less hN ys h7⟩
      · have hi : i < σ.length := (List.getElem?_eq_some_iff.mp hu).1
        have hσ' : σ.set i (some (.ref p)) = σ := by
          refine List.ext_getElem? fun j => ?_
          rw [List.getElem?_set]
          split
          · rename_i hij; subst hij; exact hu.symm
          · first | rfl | (rename_i hij; exact absurd hi hij)
        have key : ∀ (m : Nat) (x : Val), (e.set i (some (.d (.lst xs))))[m]? = some (some x) → isOwn x = true → i ≠ m ∧ e[m]? = some (some x) := fun m x hx hox => by
          rw [List.getElem?_set] at hx
          split at hx
          · split at hx
            · cases hx; cases hox
            · cases hx
          · rename_i hij; exact ⟨hij, hx⟩
        refine ⟨by simp [er.len], fun j v hv => ?_, fun j k a b c hne g1 g2 g3 g4 g5 => ?_⟩
        · rw [List.getElem?_set] at hv
          split at hv
          · rename_i hij
            subst hij
            split at hv
            · cases hv
              exact ⟨_, hu, rep_lst (fun z => z.elim (fun z => ok.bo p z ho) fun z => z.2 rfl) h1 hz (Reps.less hN xs h2)⟩
            · cases hv
          · rename_i hij
            obtain ⟨u', h3, h4⟩ := er.slot j v hv
            refine ⟨u', h3, h4.less hN rfl fun hov r er' hr => ⟨hr, fun z => ?_⟩⟩
            subst er'
            subst z
            exact er.sep i j _ v _ hij q hv rfl hov hu h3
        · obtain ⟨n1, e1⟩ := key j a g1 g3
          obtain ⟨n2, e2⟩ := key k b g2 g4
          exact er.sep j k a b c hne e1 e2 g3 g4 g5
    | none, q => exact ⟨w, s, e, ok, er, by simpa only [mSeq, mFrz, q] using h⟩
    | some (.d _), q => exact ⟨w, s, e, ok, er, by simpa only [mSeq, mFrz, q] using h⟩
    | some (.ref _), q => exact ⟨w, s, e, ok, er, by simpa only [mSeq, mFrz, q] using h⟩
    | some (.snap _), q => exact ⟨w, s, e, ok, er, by simpa only [mSeq, mFrz, q] using h⟩
    | some (.ownT _ _), q => exact ⟨w, s, e, ok, er, by simpa only [mSeq, mFrz, q] using h⟩
    | some (.exc _ _), q => exact ⟨w, s, e, ok, er, by simpa only [mSeq, mFrz, q] using h⟩
    | some (.scr _), q => exact ⟨w, s, e, ok, er, by simpa only [mSeq, mFrz, q] using h⟩
theorem s_frz {i : Nat} {m : MS} (h : PSs X sts (tS G W m)) : PSs X sts (tS G W (mSeq (mFrz i) m)) := impSs h fun D σ H q => frz_read q
end
end MP
end

section
set_option Elab.async false
set_option linter.all false
set_option maxRecDepth 100000
set_option maxHeartbeats 4000000
/-! MP, part k: append and its like, raise, try. -/
namespace MP
open PySem PySem.Spec PyProof.Rows L2
section
variable {X : Cx} {G : Gd} {W : WX} {pos p : Pos} {a b c : Expr} {ma mb mc : ME} {st : Stmt} {sts : List Stmt}
abbrev few (X : Cx) (es : List Expr) (pos : Pos) : Prop := ((((backTo pos (starEach es X.env)).all fun x => !x.1) && (backToKw pos (keywordEach [] X.env)).all fun x => x.1.isSome) && decide ((es.length + ([] : List Keyword).length + if ([] : List Keyword).isEmpty = true then 0 else 1) < 30)) = true
theorem own_of {w : Wd} {H : Hp} {e : Env} {i : Nat} {f : List D → F} {D : Ends} (h : PostS G W w H (match e[i]? with
    | some (some (.own xs)) => f xs
    | _ => .stuck) D) : ∃ xs, e[i]? = some (some (.own xs)) ∧ PostS G W w H (f xs) D := by
  split at h
  · rename_i xs q; exact ⟨xs, q, h⟩
  · exact h.elim
/-- an own list where it stands -/
theorem own_at {w : Wd} {H : Hp} {e : Env} {σ : L2.St} {i : Nat} {xs : List D} {p : Addr} (er : EnvR G w H e σ) (q : e[i]? = some (some (.own xs))) (hu : σ[i]? = some (some (.ref p))) : ∃ vs, w.O p ∧ H p = some (.lst vs) ∧ vs.length ≤ line ∧ Reps G.K w.N H xs vs := by
  obtain ⟨u, hu', p', vs, e', ho, h1, hz, h2⟩ := er.slot i _ q
  rw [hu] at hu'
  cases hu'
  cases e'
  exact ⟨vs, ho, h1, hz, h2⟩
theorem s_app {i : Nat} {x : Str} {p1 p2 apos : Pos} (hN : X.N[i]? = some x) (hv : Vis X.env.scope x) (hd : (x == ("__debug__" : Str)) = false) (hcd : (x == ("__classdict__" : Str)) = false) (ha : PE X a (tE G W ma))
    (hf : few X [a] pos) (hl : (apos.endLine == pos.line) = true) (hs : starEach [a] X.env = (false, eval a X.env) :: starEach [] X.env) : PS X (.Expr (.Call (.Attribute (.Name x p1) "append" apos) [a] [] pos) p2) (tS G W (mApp i ma)) := by
  refine impS (ps_expr (pe_bm F.plainAttrs_list F.slot_list_append F.type_list_append mt_append (pe_var hN hv hd hcd) (pa_cons ha pa_nil hs) rfl hf hl hs rfl) rfl) fun D σ H ⟨w, s, e, ok, er, h⟩ => ?_
  obtain ⟨xs, q, h⟩ := own_of h
  obtain ⟨u, hu, p, vs, rfl, ho, h1, hz, h2⟩ := er.slot i _ q
  refine ⟨.ref p, hu, .inl ⟨rfl, vs, .inl (.inl h1)⟩, ?_⟩
  refine ⟨w, s, e, ok, er, PostS.go ok er h fun w1 s1 H1 v u x1 ok1 r1 er1 h3 => ?_⟩
  obtain ⟨vs', ho', h1', hz', h2'⟩ := own_at er1 q hu
  match v, h3, r1 with
  | .d y, h3, r1 =>
    dsimp only at h3
    split at h3
    · rename_i hl
      rw [h2'.length] at hl
      obtain ⟨ok4, L4, st4⟩ := ok1.putO ho' (vs' ++ [u]) h1'
      exact ⟨p, vs', u, rfl, rfl, h1', by rw [← line_eq]; exact hl, h3 w1 _ σ st4 ok4 (er1.putO ok1 q hu ho' h1' (by rw [List.length_append]; exact hl) (h2'.append (.one r1)))⟩
    · exact h3.elim
  | .ref _, h3, r1 => exact h3.elim
  | .own _, h3, r1 => exact h3.elim
  | .snap _, h3, r1 => exact h3.elim
  | .ownT _ _, h3, r1 => exact h3.elim
  | .exc _ _, h3, r1 => exact h3.elim
  | .scr _, h3, r1 => exact h3.elim
theorem s_ext {i : Nat} {x : Str} {p1 p2 apos : Pos} (hN : X.N[i]? = some x) (hv : Vis X.env.scope x) (hd : (x == ("__debug__" : Str)) = false) (hcd : (x == ("__classdict__" : Str)) = false) (ha : PE X a (tE G W ma))
    (hf : few X [a] pos) (hl : (apos.endLine == pos.line) = true) (hs : starEach [a] X.env = (false, eval a X.env) :: starEach [] X.env) : PS X (.Expr (.Call (.Attribute (.Name x p1) "extend" apos) [a] [] pos) p2) (tS G W (mExt i ma)) := by
  refine impS (ps_expr (pe_bm F.plainAttrs_list F.slot_list_extend F.type_list_extend mt_extend (pe_var hN hv hd hcd) (pa_cons ha pa_nil hs) rfl hf hl hs rfl) rfl) fun D σ H ⟨w, s, e, ok, er, h⟩ => ?_
  obtain ⟨xs, q, h⟩ := own_of h
  obtain ⟨u, hu, p, vs, rfl, ho, h1, hz, h2⟩ := er.slot i _ q
  refine ⟨.ref p, hu, .inl ⟨rfl, vs, .inl (.inl h1)⟩, ?_⟩
  refine ⟨w, s, e, ok, er, PostS.go ok er h fun w1 s1 H1 v u x1 ok1 r1 er1 h3 => ?_⟩
  obtain ⟨vs', ho', h1', hz', h2'⟩ := own_at er1 q hu
  cases q1 : rd s1 v with
  | none => rw [q1] at h3; exact h3.elim
  | some y =>
    rw [q1] at h3
    match y, h3, rd_ok ok1 r1 q1 with
    | .lst ys, h3, ry =>
      dsimp only at h3
      split at h3
      · rename_i hl
        obtain ⟨p2, us, rfl, h5, _, h6⟩ := ry
        rw [h2'.length, h6.length] at hl
        obtain ⟨ok4, L4, st4⟩ := ok1.putO ho' (vs' ++ us) h1'
        exact ⟨p, p2, vs', us, rfl, rfl, h1', h5, by rw [← line_eq]; exact hl, h3 w1 _ σ st4 ok4 (er1.putO ok1 q hu ho' h1' (by rw [List.length_append]; exact hl) (h2'.append h6))⟩
      · exact h3.elim
    | .non, h3, _ => exact h3.elim
    | .bl _, h3, _ => exact h3.elim
    | .int _, h3, _ => exact h3.elim
    | .str _, h3, _ => exact h3.elim
    | .tup _, h3, _ => exact h3.elim
    | .dic _ _, h3, _ => exact h3.elim
theorem s_clr {i : Nat} {x : Str} {p1 p2 apos : Pos} (hN : X.N[i]? = some x) (hv : Vis X.env.scope x) (hd : (x == ("__debug__" : Str)) = false) (hcd : (x == ("__classdict__" : Str)) = false)
    (hl : (apos.endLine == pos.line) = true) : PS X (.Expr (.Call (.Attribute (.Name x p1) "clear" apos) [] [] pos) p2) (tS G W (mClr i)) := by
  refine impS (ps_expr (pe_bm0 F.plainAttrs_list F.slot_list_clear F.type_list_clear mt_clear (pe_var hN hv hd hcd) rfl hl) rfl) fun D σ H ⟨w, s, e, ok, er, h⟩ => ?_
  obtain ⟨xs, q, h⟩ := own_of h
  obtain ⟨u, hu, p, vs, rfl, ho, h1, hz, h2⟩ := er.slot i _ q
  obtain ⟨ok4, L4, st4⟩ := ok.putO ho [] h1
  exact ⟨.ref p, hu, .inl ⟨rfl, vs, .inl (.inl h1)⟩, p, vs, rfl, rfl, h1, h w _ σ st4 ok4 (er.putO ok q hu ho h1 (Nat.zero_le _) .nil)⟩
theorem ixN_ok {n : Nat} {k : Int} {j : Nat} (h : MP.ixN n k = some j) : L2.ixN n k = some j := h
theorem s_setO {i : Nat} {x : Str} {p1 : Pos} {j : Expr} {mj : ME} {p3 : Pos} (hN : X.N[i]? = some x) (hv : Vis X.env.scope x) (hd : (x == ("__debug__" : Str)) = false) (hcd : (x == ("__classdict__" : Str)) = false) (ha : PE X a (tE G W ma)) (hj : PE X j (tE G W mj))
    (hsw : swapsWithSole [.Subscript (.Name x p1) j p3] a pos.line X.env = pure false) (hw : swappedStores [.Subscript (.Name x p1) j p3] a X.env = pure none)
    (hasg : ∀ v, assign (.Subscript (.Name x p1) j p3) X.env v = (do
      let ov ← holding [v] (eval (.Name x p1) X.env)
      let iv ← holding [v, ov] (eval j X.env)
      standAt p3
      holding [v, ov, iv] (setItem ov iv v)
      release [v, ov, iv] [])) : PS X (.Assign [.Subscript (.Name x p1) j p3] a pos) (tS G W (mSetO i mj ma)) := by
  refine impS (ps_asg ha (pg_sub (pe_var hN hv hd hcd) hj set_list hasg) hsw hw rfl) fun D σ H ⟨w, s, e, ok, er, h⟩ => ?_
  refine ⟨w, s, e, ok, er, PostS.go ok er h fun w1 s1 H1 v u x1 ok1 r1 er1 h3 => ?_⟩
  obtain ⟨xs, q, h3⟩ := own_of h3
  obtain ⟨u0, hu, p, vs, rfl, ho, h1, hz, h2⟩ := er1.slot i _ q
  refine ⟨.ref p, hu, w1, s1, e, ok1, er1, PostS.go ok1 er1 h3 fun w2 s2 H2 v2 u2 x2 ok2 r2 er2 h4 => ?_⟩
  obtain ⟨vs', ho', h1', hz', h2'⟩ := own_at er2 q hu
  have r1 := r1.ext ok1 x2
  cases v with
  | d y =>
    cases v2 with
    | d z =>
      cases z with
      | int k =>
        cases q1 : MP.ixN xs.length k with
        | none => simp only [q1] at h4; exact h4.elim
        | some j =>
          simp only [q1] at h4
          rw [h2'.length] at q1
          obtain ⟨ok4, L4, st4⟩ := ok2.putO ho' (vs'.set j u) h1'
          exact ⟨p, vs', k, j, rfl, int_inv (slot_d r2), h1', ixN_ok q1, h4 w2 _ σ st4 ok4 (er2.putO ok2 q hu ho' h1' (by rw [List.length_set]; exact hz') (h2'.set j r1))⟩
      | _ => exact h4.elim
    | _ => exact h4.elim
  | _ => exact h4.elim
/-! ### tracked lists -/
theorem nodup_at {α : Type} : ∀ {l : List α} {i j : Nat} {x : α}, l.Nodup → l[i]? = some x → l[j]? = some x → i = j
  | [], i, j, x, _, h, _ => by simp at h
  | y :: l, i, j, x, nd, h1, h2 => by
    obtain ⟨n1, n2⟩ := List.nodup_cons.mp nd
    cases i with
    | zero =>
      cases j with
      | zero => rfl
      | succ j =>
        have e1 : y = x := by simpa using h1
        subst e1
        exact absurd (List.mem_of_getElem? (by simpa using h2)) n1
    | succ i =>
      cases j with
      | zero =>
        have e1 : y = x := by simpa using h2
        subst e1
        exact absurd (List.mem_of_getElem? (by simpa using h1)) n1
      | succ j => exact congrArg Nat.succ (nodup_at (x := x) n2 (by simpa using h1) (by simpa using h2))
theorem Ok.putR {w : Wd} {s : S} {H : Hp} {n : Nat} {p : Addr} {xs ys : List D} {vs us : List V} (ok : Ok G w s H) (hn : w.α[n]? = some p) (hs : s[n]? = some xs) (h : H p = some (.lst vs)) (hz : us.length ≤ line) (r : Reps G.K w.N H ys us) :
    Ok G w (s.set n ys) (upd H p (.lst us)) ∧ Last w.N w.N H (upd H p (.lst us)) ∧ Step w H w (upd H p (.lst us)) := by
  have hb : w.B p := ok.ab p (List.mem_of_getElem? hn)
  have L : Last w.N w.N H (upd H p (.lst us)) := ⟨fun q o h hq => by rw [upd_ne fun z => hq (by rw [z]; exact .inl hb)]; exact h, fun q h => .inl h, ok.mu⟩
  refine ⟨⟨ok.nd, by rw [List.length_set]; exact ok.len, fun m zs q h1 h2 => ?_, ok.ab, ok.bo, fun q hq => ?_⟩, L, ⟨⟨[], by simp, by simp⟩, fun _ h => h, fun _ h => .inl h, fun _ h => .inl h, fun q o h hq hO => ?_, fun q hq => ?_⟩⟩
  · by_cases hm : n = m
    · subst hm
      rw [hn] at h2
      cases h2
      rw [List.getElem?_set_self (List.getElem?_eq_some_iff.mp hs).1] at h1
      cases h1
      exact ⟨us, upd_same, hz, Reps.last L ys r⟩
    · rw [List.getElem?_set_ne hm] at h1
      obtain ⟨vs', h3, hz', h4⟩ := ok.cells m zs q h1 h2
      have hne : q ≠ p := by
        intro z
        rw [z] at h2
        exact hm (nodup_at ok.nd hn h2)
      exact ⟨vs', by rw [upd_ne hne]; exact h3, hz', Reps.last L zs h4⟩
  · by_cases hqp : q = p
    · subst hqp
      exact ⟨_, upd_same, (fun xs h => by cases h), fun ob u h => by cases h⟩
    · obtain ⟨o, e, h1⟩ := ok.mu q hq
      exact ⟨o, by rw [upd_ne hqp]; exact e, h1⟩
  · rw [upd_ne fun z => hq (by rw [z]; exact List.mem_of_getElem? hn)]; exact h
  · by_cases hqp : q = p
    · subst hqp; rw [upd_same] at hq; cases hq
    · rw [upd_ne hqp] at hq; exact hq
theorem s_setR {o j : Expr} {mo mj : ME} {p3 : Pos} (ha : PE X a (tE G W ma)) (ho : PE X o (tE G W mo)) (hj : PE X j (tE G W mj))
    (hsw : swapsWithSole [.Subscript o j p3] a pos.line X.env = pure false) (hw : swappedStores [.Subscript o j p3] a X.env = pure none)
    (hasg : ∀ v, assign (.Subscript o j p3) X.env v = (do
      let ov ← holding [v] (eval o X.env)
      let iv ← holding [v, ov] (eval j X.env)
      standAt p3
      holding [v, ov, iv] (setItem ov iv v)
      release [v, ov, iv] [])) (h1 : (assignEach [.Subscript o j p3] X.env).map (·.2) = [assign (.Subscript o j p3) X.env]) : PS X (.Assign [.Subscript o j p3] a pos) (tS G W (mSetR mo mj ma)) := by
  refine impS (ps_asg ha (pg_sub ho hj set_list hasg) hsw hw h1) fun D σ H ⟨w, s, e, ok, er, h⟩ => ?_
  refine ⟨w, s, e, ok, er, PostS.go ok er h fun w1 s1 H1 v u x1 ok1 r1 er1 h3 => ?_⟩
  refine ⟨w1, s1, e, ok1, er1, PostS.go ok1 er1 h3 fun w2 s2 H2 v2 u2 x2 ok2 r2 er2 h4 => ?_⟩
  refine ⟨w2, s2, e, ok2, er2, PostS.go ok2 er2 h4 fun w3 s3 H3 v3 u3 x3 ok3 r3 er3 h5 => ?_⟩
  have r1 := (r1.ext ok1 x2).ext ok2 x3
  have r2 := r2.ext ok2 x3
  cases v with
  | d y =>
    cases v2 with
    | ref n =>
      cases v3 with
      | d z =>
        cases z with
        | int k =>
          cases q0 : s3[n]? with
          | none => simp only [q0] at h5; exact h5.elim
          | some xs =>
            simp only [q0] at h5
            cases q1 : MP.ixN xs.length k with
            | none => simp only [q1] at h5; exact h5.elim
            | some j =>
              simp only [q1] at h5
              obtain ⟨p, hp, rfl⟩ := r2
              obtain ⟨xs', vs, hs', h6, hz, h7⟩ := ok3.cell hp
              rw [q0] at hs'
              cases hs'
              rw [h7.length] at q1
              obtain ⟨ok4, L4, st4⟩ := ok3.putR (us := vs.set j u) hp q0 h6 (by rw [List.length_set]; exact hz) (h7.set j r1)
              refine ⟨p, vs, k, j, rfl, int_inv (slot_d r3), h6, ixN_ok q1, h5 w3 _ σ st4 ok4 (er3.last L4 rfl rfl fun q o h hO => ?_)⟩
              rw [upd_ne fun z => ok3.bo q (by rw [z]; exact ok3.ab p (List.mem_of_getElem? hp)) hO]
              exact h
        | _ => exact h5.elim
      | _ => exact h5.elim
    | _ => exact h5.elim
  | _ => exact h5.elim
theorem frees_rep {w : Wd} {H : Hp} (bo : ∀ p, w.B p → ¬ w.O p) : ∀ {vs : List Val} {us : List V} {xs : List D}, SlotRs G w H vs us → frees vs = some xs → Reps G.K (dropO w).N H xs us
  | [], us, xs, h, e => by cases e; unfold SlotRs at h; subst h; exact .nil
  | v :: vs, us, xs, h, e => by
    obtain ⟨u, r, rfl, h1, h2⟩ := h
    cases v with
    | d y =>
      unfold frees at e
      cases q : frees vs with
      | none => rw [q] at e; cases e
      | some ys => rw [q] at e; cases e; exact .cons (Rep.less drop_N y h1) (frees_rep bo h2 q)
    | snap zs =>
      unfold frees at e
      cases q : frees vs with
      | none => rw [q] at e; cases e
      | some ys =>
        rw [q] at e; cases e
        obtain ⟨p, vs', rfl, ho, h3, hz, h4⟩ := h1
        exact .cons (rep_lst (fun z => z.elim (fun z => bo p z ho) id) h3 hz (Reps.less drop_N zs h4)) (frees_rep bo h2 q)
    | _ => cases e
theorem Ok.track {w : Wd} {s : S} {H : Hp} {p : Addr} {xs : List D} {vs : List V} (ok : Ok G w s H) (hb : w.B p) (hp : p ∉ w.α) (h : H p = some (.lst vs)) (hz : vs.length ≤ line) (r : Reps G.K w.N H xs vs) : Ok G { w with α := w.α ++ [p] } (s ++ [xs]) H := by
  refine ⟨?_, by simp [ok.len], fun n ys q h1 h2 => ?_, fun q h => ?_, ok.bo, ok.mu⟩
  · exact List.nodup_append.mpr ⟨ok.nd, by simp, fun a ha b hb => by
      have : b = p := by simpa using hb
      subst this
      exact fun z => hp (z ▸ ha)⟩
  · by_cases hn : n < s.length
    · rw [List.getElem?_append_left hn] at h1
      have h2 : (w.α ++ [p])[n]? = some q := h2
      rw [List.getElem?_append_left (by rw [ok.len]; exact hn)] at h2
      exact ok.cells n ys q h1 h2
    · have h2 : (w.α ++ [p])[n]? = some q := h2
      rw [List.getElem?_append_right (Nat.le_of_not_lt hn)] at h1
      rw [List.getElem?_append_right (by rw [ok.len]; exact Nat.le_of_not_lt hn), ok.len] at h2
      cases hk : n - s.length with
      | zero => rw [hk] at h1 h2; cases h1; cases h2; exact ⟨vs, h, hz, r⟩
      | succ k => rw [hk] at h1; cases h1
  · have h : q ∈ w.α ++ [p] := h
    rcases List.mem_append.mp h with h | h
    · exact ok.ab q h
    · have : q = p := by simpa using h
      subst this; exact hb
theorem s_retL {es : List Expr} {ms : ML} (hl : PA X es (tL G W ms)) : PS X (.Return (some (.List es p)) pos) (tS G W (mRetL ms)) := by
  refine impS (ps_ret (pe_lst hl)) fun D σ H ⟨w, s, e, ok, er, h⟩ => ?_
  refine ⟨w, s, e, ok, er, ?_⟩
  unfold mRetL at h
  cases q : ms e s with
  | stuck => rw [q] at h; exact h.elim
  | exn c y s1 => rw [q] at h; exact fun w' H' cls d x o r => h w' H' σ cls d (x.step o) o (er.ext ok x) r
  | ok vs s1 =>
    rw [q] at h
    dsimp only at h
    intro w1 H1 us x1 ok1 r1
    cases q1 : frees vs with
    | none => rw [q1] at h; exact h.elim
    | some xs =>
      rw [q1] at h
      dsimp only at h
      split at h
      · rename_i hz
        have r := frees_rep ok1.bo r1 q1
        rw [r.length] at hz
        refine ⟨by rw [← line_eq]; exact hz, fun p hp => ?_⟩
        have ok2 := ok1.dropO.addB hp us
        have r2 := Reps.last (last_add ok1.dropO hp us) xs r
        have hpa : p ∉ w1.α := ok1.apart hp
        have ok3 := ok2.track (p := p) (.inr rfl) hpa upd_same hz r2
        refine h { addB (dropO w1) p with α := w1.α ++ [p] } _ (.ref p) ?_ ok3 (fun _ z => z) ⟨p, ?_, rfl⟩
        · refine (x1.step ok1).trans ⟨⟨[p], rfl, fun q hq => (by rw [show q = p by simpa using hq]; exact hp)⟩, fun q h => .inl h, fun q h => ?_, fun q h => h.elim, fun q o h _ _ => grow_upd hp q o h, fun q hq => ?_⟩
          · rcases h with h | h
            · exact .inl h
            · subst h; exact .inr hp
          · by_cases hqp : q = p
            · subst hqp; exact hp
            · rw [upd_ne hqp] at hq; exact hq
        · show (w1.α ++ [p])[s1.length]? = some p
          rw [← ok1.len, List.getElem?_append_right (Nat.le_refl _)]
          simp
      · exact h.elim
/-! ### raise -/
theorem s_raise {ec : EC} {e : Expr} (hc : X.calm = true) (tk : L2N.Takes X W) (he : L2N.PMk X e (fun _ H Q => Q (.ref (G.cA ec)) none H)) : PS X (.Raise (some e) none pos) (tS G W (mRaise ec)) := by
  refine impS (L2N.ps_raise hc tk he) fun D σ H ⟨w, s, e, ok, er, h⟩ => ?_
  exact h w H σ _ _ .refl ok er ⟨rfl, rfl⟩
end
end MP
end

section
set_option Elab.async false
set_option linter.all false
set_option maxRecDepth 100000
set_option maxHeartbeats 4000000
/-! MP, part l: try. -/
namespace MP
open PySem PySem.Spec PyProof.Rows L2
abbrev Gd.with (G : Gd) (a : Addr) (k : EC) (d : Option Addr) : Gd := { G with hx := some (a, k, d) }
section
variable {X : Cx} {G : Gd} {W : WX} {pos p : Pos} {a b c : Expr} {ma mb mc : ME} {st : Stmt} {sts : List Stmt} {w : Wd} {s : S} {H : Hp} {e : Env} {σ : L2.St} {A : Addr} {k : EC} {d : Option Addr}
theorem Ok.with (ok : Ok G w s H) : Ok (G.with A k d) w s H := ⟨ok.nd, ok.len, ok.cells, ok.ab, ok.bo, ok.mu⟩
theorem Ok.without (ok : Ok (G.with A k d) w s H) : Ok G w s H := ⟨ok.nd, ok.len, ok.cells, ok.ab, ok.bo, ok.mu⟩
theorem SlotR.with (h0 : G.hx = none) {v : Val} {u : V} (h : SlotR G w H v u) : SlotR (G.with A k d) w H v u := by
  cases v with
  | exc c y => obtain ⟨a, d, e1, _⟩ := h; rw [h0] at e1; cases e1
  | _ => exact h
theorem SlotR.without {v : Val} {u : V} (hv : ∀ c y, v ≠ .exc c y) (h : SlotR (G.with A k d) w H v u) : SlotR G w H v u := by
  cases v with
  | exc c y => exact absurd rfl (hv c y)
  | _ => exact h
theorem EnvR.with (h0 : G.hx = none) (er : EnvR G w H e σ) : EnvR (G.with A k d) w H e σ := ⟨er.len, fun i v hv => by
  obtain ⟨u, h1, h2⟩ := er.slot i v hv
  exact ⟨u, h1, h2.with h0⟩, er.sep⟩
theorem unX_get {i : Nat} {v : Val} (h : (unX e)[i]? = some (some v)) : e[i]? = some (some v) ∧ ∀ c y, v ≠ .exc c y := by
  unfold unX at h
  rw [List.getElem?_map] at h
  cases q : e[i]? with
  | none => rw [q] at h; cases h
  | some o =>
    rw [q] at h
    cases o with
    | none => cases h
    | some v' =>
      cases v' with
      | exc c y => cases h
      | _ => cases h; exact ⟨rfl, fun c y z => by cases z⟩
theorem EnvR.without (er : EnvR (G.with A k d) w H e σ) : EnvR G w H (unX e) σ := ⟨by rw [← er.len]; unfold unX; rw [List.length_map], fun i v hv => by
  obtain ⟨h0, hx⟩ := unX_get hv
  obtain ⟨u, h1, h2⟩ := er.slot i v h0
  exact ⟨u, h1, h2.without hx⟩, fun i j v v' u hne h1 h2 => er.sep i j v v' u hne (unX_get h1).1 (unX_get h2).1⟩
theorem s_try {ec : Ty} {i : Nat} {body suite : List Stmt} {b₀ : Stmt} {x n : Str} {np pos' : Pos} {mb mh : MS} (hK : G.K = X.K) (h0 : G.hx = none) (hs : X.stack = X.env :: X.outer) (hf : X.env.frame = some X.env.locals) (hN : X.N.Nodup) (hi : X.N[i]? = some n) (hln : X.env.kindOf n = some .local)
    (hc : L2.Names X x (ec.u G.cA)) (tk : L2N.Takes X W) (hcls : ∀ k, PySem.W.exmOne G.K (.ref (G.cA k)) (ec.u G.cA) = some (isEx k ec))
    (hb : ∀ (W' : WX) (pn : List (Addr × Obj)) (xe : Value → Shared → Prop), L2N.Takes (X.tr pn xe) W' → PassesOwn (model X.prog X.w) X.A X.env xe → PSs (X.tr pn xe) body (tS G W' mb))
    (hsu : ∀ (a : Addr) (oe : Obj) (k : EC) (pn : List (Addr × Obj)), L2N.Zn (.ref (G.cA k)) none oe → (∃ vs, oe.data = .fields vs) → PSs (X.suite a ((a, oe) :: pn)) (b₀ :: suite) (tS (G.with a k none) WF mh)) :
    PS X (.Try body [.ExceptHandler (some (.Name x np)) (some n) (b₀ :: suite) pos'] [] [] pos) (tS G W (mTry mb ec i mh)) := by
  refine impS (L2N.ps_try_as (tb := fun W' => tS G W' mb) (ts := fun a cls d D σ H => ∃ k, cls = .ref (G.cA k) ∧ d = none ∧ tS (G.with a k none) WF mh D σ H) hs hf hN hi hln hc tk hb
    fun a oe cls d pn hz hd => ⟨fun pins s σ H D I ⟨k, e, e2, h⟩ => by subst e; subst e2; exact (hsu a oe k pn hz hd).run pins s σ H D I h⟩) fun D σ H ⟨w, s, e, ok, er, h⟩ => ⟨w, s, e, ok, er, ?_⟩
  unfold mTry at h
  cases q : mb e s with
  | exn k x e1 s1 =>
    rw [q] at h
    intro w1 H1 σ1 cls d st ok1 er1 ⟨ec', pay⟩
    subst ec'
    cases x with
    | some y =>
      dsimp only at h
      refine ⟨isEx k ec, by rw [← hK]; exact hcls k, fun hy a ha => ?_, fun hn => ?_⟩
      · rw [if_pos hy] at h; exact h.elim
      · rw [if_neg (by rw [hn]; exact Bool.false_ne_true)] at h
        exact h w1 H1 σ1 _ d st ok1 er1 ⟨rfl, pay⟩
    | none =>
    dsimp only at h
    have hd : d = none := pay
    subst hd
    refine ⟨isEx k ec, by rw [← hK]; exact hcls k, fun hy a ha => ?_, fun hn => ?_⟩
    · rw [if_pos hy] at h
      refine ⟨k, rfl, rfl, w1, s1, e1.set i (some (.exc k none)), ok1.with, (er1.with h0).setV (v := .exc k none) i ⟨a, none, rfl, rfl, rfl⟩ rfl, ?_⟩
      cases q2 : mh (e1.set i (some (.exc k none))) s1 with
      | nxt e3 s3 => rw [q2] at h; exact fun w3 H3 σ3 st3 ok3 er3 => h w3 H3 _ (st.trans st3) ok3.without (er3.without.unset i)
      | brk e3 s3 => rw [q2] at h; exact fun w3 H3 σ3 st3 ok3 er3 => h w3 H3 _ (st.trans st3) ok3.without (er3.without.unset i)
      | cnt e3 s3 => rw [q2] at h; exact fun w3 H3 σ3 st3 ok3 er3 => h w3 H3 _ (st.trans st3) ok3.without (er3.without.unset i)
      | ret v s3 =>
        rw [q2] at h
        intro w3 H3 u st3 ok3 hO r3
        cases v with
        | exc c y => exact h.elim
        | d y => exact h w3 H3 u (st.trans st3) ok3.without hO (r3.without fun c y z => nomatch z)
        | ref y => exact h w3 H3 u (st.trans st3) ok3.without hO (r3.without fun c y z => nomatch z)
        | own y => exact h w3 H3 u (st.trans st3) ok3.without hO (r3.without fun c y z => nomatch z)
        | snap y => exact h w3 H3 u (st.trans st3) ok3.without hO (r3.without fun c y z => nomatch z)
        | ownT y z => exact h w3 H3 u (st.trans st3) ok3.without hO (r3.without fun c y z => nomatch z)
        | scr y => exact h w3 H3 u (st.trans st3) ok3.without hO (r3.without fun c y z => nomatch z)
      | exn c y e3 s3 => rw [q2] at h; exact h.elim
      | stuck => rw [q2] at h; exact h.elim
    · rw [if_neg (by rw [hn]; exact Bool.false_ne_true)] at h
      exact h w1 H1 σ1 _ none st ok1 er1 ⟨rfl, pay⟩
  | nxt e1 s1 => rw [q] at h; exact h
  | brk e1 s1 => rw [q] at h; exact h
  | cnt e1 s1 => rw [q] at h; exact h
  | ret v s1 => rw [q] at h; exact h
  | stuck => rw [q] at h; exact h.elim
end
end MP
end

section
set_option Elab.async false
set_option linter.all false
set_option maxRecDepth 100000
set_option maxHeartbeats 4000000
/-! MP, part m: defs and calls. -/
namespace MP
open PySem PySem.Spec PyProof.Rows L2
abbrev Mu (N : Addr → Prop) (H : Hp) : Prop := ∀ p, N p → ∃ o, H p = some o ∧ (∀ xs, o ≠ .tup xs) ∧ ∀ ob u, o ≠ .frz ob u
def EndP (G : Gd) (N : Addr → Prop) (H : Hp) (r : P) (Q : VK) (E : XK) : Prop := match r with
  | .ok x => ∀ H' u, (∀ p o, H p = some o → H' p = some o) → Rep G.K N H' x u → Q u H'
  | .fresh xs => ∀ H' p vs, (∀ p o, H p = some o → H' p = some o) → H p = none → H' p = some (.lst vs) → vs.length ≤ line → Reps G.K N H' xs vs → Q (.ref p) H'
  | .exn c x => ∀ H' d, (∀ p o, H p = some o → H' p = some o) → Pay G.K N H' c x d → E (.ref (G.cA c)) d H'
  | .stuck => False
/-- a def of data -/
def spP (G : Gd) (n : Nat) (f : List D → P) : Sp := fun vs H Q E => vs.length = n ∧ ∃ N xs, Mu N H ∧ Reps G.K N H xs vs ∧ EndP G N H (f xs) Q E
def EndE (G : Gd) (w : Wd) (H : Hp) (r : R Val) (Q : VK) (E : XK) : Prop := match r with
  | .ok v s' => ∀ w' H' u, Ext w H w' H' → Ok G w' s' H' → SlotR G w' H' v u → Q u H'
  | .exn c x s' => ∀ w' H' d, Ext w H w' H' → Ok G w' s' H' → Pay G.K w'.N H' c x d → E (.ref (G.cA c)) d H'
  | .stuck => False
/-- a def that may turn the tracked lists -/
def spE (G : Gd) (n : Nat) (f : List Val → S → R Val) : Sp := fun vs H Q E => vs.length = n ∧ ∃ w s vals, Ok G w s H ∧ (∀ p, ¬ w.O p) ∧ SlotRs G w H vals vs ∧ vals.all (fun v => !isOwnV v) = true ∧ EndE G w H (f vals s) Q E
section
variable {G : Gd} {w w1 : Wd} {s : S} {H H1 : Hp} {e : Env} {σ : L2.St}
theorem SlotRs.length : ∀ {vals : List Val} {vs : List V}, SlotRs G w H vals vs → vals.length = vs.length
  | [], vs, h => by unfold SlotRs at h; subst h; rfl
  | v :: vals, vs, h => by obtain ⟨u, r, rfl, _, h2⟩ := h; rw [List.length_cons, List.length_cons, h2.length]
theorem SlotRs.get : ∀ {vals : List Val} {vs : List V} {i : Nat} {v : Val}, SlotRs G w H vals vs → vals[i]? = some v → ∃ u, vs[i]? = some u ∧ SlotR G w H v u
  | [], vs, i, v, h, e => by simp at e
  | x :: vals, vs, i, v, h, e => by
    obtain ⟨u, r, rfl, h1, h2⟩ := h
    cases i with
    | zero => simp at e; subst e; exact ⟨u, rfl, h1⟩
    | succ i => exact h2.get (by simpa using e)
theorem initE_get {n i : Nat} {vals : List Val} {v : Val} (h : (initE n vals)[i]? = some (some v)) : vals[i]? = some v := by
  unfold initE at h
  by_cases hi : i < vals.length
  · rw [List.getElem?_append_left (by simpa using hi), List.getElem?_map] at h
    cases q : vals[i]? with
    | none => rw [q] at h; cases h
    | some x => rw [q] at h; cases h; rfl
  · rw [List.getElem?_append_right (by simpa using hi), List.getElem?_replicate] at h
    split at h <;> cases h
theorem start_get {N : List Str} {vs : List V} {i : Nat} {u : V} (h : vs[i]? = some u) : (L2.start N vs)[i]? = some (some u) := by
  unfold L2.start
  have hi : i < vs.length := (List.getElem?_eq_some_iff.mp h).1
  rw [List.getElem?_append_left (by simpa using hi), List.getElem?_map, h]
  rfl
theorem env_start {N : List Str} {vals : List Val} {vs : List V} (h : SlotRs G w H vals vs) (ho : vals.all (fun v => !isOwnV v) = true) : EnvR G w H (initE N.length vals) (L2.start N vs) := by
  have no : ∀ (i : Nat) v, (initE N.length vals)[i]? = some (some v) → isOwn v = false := fun i v hv => by
    have hm := List.mem_of_getElem? (initE_get hv)
    have := List.all_eq_true.mp ho v hm
    cases v <;> first | rfl | (exact absurd this Bool.false_ne_true)
  refine ⟨by unfold initE L2.start; simp [h.length], fun i v hv => ?_, fun i j v v' u hne h1 h2 h3 h4 => ?_⟩
  · obtain ⟨u, h1, h2⟩ := h.get (initE_get hv)
    exact ⟨u, start_get h1, h2⟩
  · rw [no i v h1] at h3; cases h3
theorem slots_of_reps : ∀ {xs : List D} {vs : List V}, Reps G.K w.N H xs vs → SlotRs G w H (xs.map .d) vs
  | [], vs, h => by unfold Reps at h; exact h
  | x :: xs, vs, h => by
    unfold Reps at h
    obtain ⟨v, r, rfl, h1, h2⟩ := h
    exact ⟨v, r, rfl, h1, slots_of_reps h2⟩
theorem noOwn_d (xs : List D) : (xs.map Val.d).all (fun v => !isOwnV v) = true := List.all_eq_true.mpr fun v hv => by
  obtain ⟨x, _, rfl⟩ := List.mem_map.mp hv
  rfl
theorem len_name {G : Gd} {n : Nat} {f : List D → P} : ∀ vs H Q E, spP G n f vs H Q E → vs.length = n := fun _ _ _ _ h => h.1
/-- the world of a def of data at its entry -/
theorem ok_start {N : Addr → Prop} (mu : Mu N H) : Ok G ⟨[], N, fun _ => False⟩ [] H :=
  ⟨List.nodup_nil, rfl, fun n xs p h => by simp at h, fun p h => by simp at h, fun _ _ h => h, fun p h => h.elim (mu p) False.elim⟩
variable {Pr : Program} {wo : World} {mg : Str → Option Value} {base : Heap} {k : Nat} {f : Addr} {fd : FuncData} {x qual : Str} {params : Arguments} {body : List Stmt} {scope : Scope} {N ps : List Str}
abbrev WO (E : XK) : WX := fun cls d _ H => E cls d H
theorem takes_def {A : Around} {outer : List PySem.Env} {s : Shared} {H : Hp} {cdv : Value} {K : PySem.W.Frag} {E : XK} : L2N.Takes (cxOf (L2N.CX Pr wo) Pr wo K mg base N qual scope f cdv A outer s H E) (WO E) := L2N.takes_of rfl rfl rfl rfl
/-- a def of data keeps its promise -/
theorem def_P {m : MS} (F : FunD G.K x qual params body scope [] [] f fd) (S : FnScope N ps scope)
    (hb : ∀ (cdv : Value) (A : Around) (outer : List PySem.Env) (s : Shared) (H : Hp) (E : XK), Room k (A.deeper (envOfC qual scope s.heap.objs.size f cdv)) → PSs (cxOf (L2N.CX Pr wo) Pr wo G.K mg base N qual scope f cdv A outer s H E) body (tS G (WO E) m)) :
    FnOk Pr wo G.K mg base (L2N.CX Pr wo) (k + 1) f fd ps (spP G ps.length (runP N.length m)) := by
  refine F.ok S len_name fun cdv A outer s H vs Q E hr ⟨hl, N0, xs, mu, r, h⟩ => ⟨_, hb cdv A outer s H E hr, ?_⟩
  refine ⟨⟨[], N0, fun _ => False⟩, [], initE N.length (xs.map .d), ok_start mu, ?_, ?_⟩
  · exact env_start (slots_of_reps (Reps.less (fun p h => h.elim id False.elim) xs r)) (noOwn_d xs)
  have sub : ∀ {w' : Wd} {H' : Hp}, Step ⟨[], N0, fun _ => False⟩ H w' H' → (∀ p, N0 p → w'.N p) ∧ ∀ p o, H p = some o → H' p = some o := fun st => ⟨fun p h => .inl (st.bm p h), fun p o h => st.keep p o h (by simp) (fun z => z)⟩
  unfold runP at h
  cases q : m (initE N.length (xs.map .d)) [] with
  | nxt e1 s1 => rw [q] at h; exact fun w' H' σ' st ok er => h H' .non (sub st).2 rep_non
  | ret v s1 =>
    rw [q] at h
    intro w' H' u st ok hO r
    cases v with
    | ref n =>
      dsimp only at h
      obtain ⟨p, e, rfl⟩ := r
      obtain ⟨ys, us, e2, h1, hz, h2⟩ := ok.cell e
      rw [e2] at h
      obtain ⟨l, hl', nl⟩ := st.al
      have hm := List.mem_of_getElem? e
      rw [hl'] at hm
      exact h H' p us (sub st).2 (nl p (by simpa using hm)) h1 hz (Reps.less (sub st).1 _ h2)
    | d z => exact h H' u (sub st).2 (Rep.less (sub st).1 _ r)
    | own z => obtain ⟨p, _, _, ho, _⟩ := r; exact absurd ho (hO p)
    | snap z => obtain ⟨p, _, _, ho, _⟩ := r; exact absurd ho (hO p)
    | ownT z t => obtain ⟨p, _, _, ho, _⟩ := r; exact absurd ho (hO p)
    | exc _ _ => exact h.elim
    | scr _ => exact h.elim
  | brk e1 s1 => rw [q] at h; exact h.elim
  | cnt e1 s1 => rw [q] at h; exact h.elim
  | exn c y e1 s1 =>
    rw [q] at h
    intro w' H' σ' cls d st ok er ⟨ec, pay⟩
    subst ec
    exact h H' d (sub st).2 (pay.less (sub st).1)
  | stuck => rw [q] at h; exact h.elim
theorem def_E {m : MS} (F : FunD G.K x qual params body scope [] [] f fd) (S : FnScope N ps scope)
    (hb : ∀ (cdv : Value) (A : Around) (outer : List PySem.Env) (s : Shared) (H : Hp) (E : XK), Room k (A.deeper (envOfC qual scope s.heap.objs.size f cdv)) → PSs (cxOf (L2N.CX Pr wo) Pr wo G.K mg base N qual scope f cdv A outer s H E) body (tS G (WO E) m)) :
    FnOk Pr wo G.K mg base (L2N.CX Pr wo) (k + 1) f fd ps (spE G ps.length (runE N.length m)) := by
  refine F.ok S (fun vs H Q E h => h.1) fun cdv A outer s H vs Q E hr ⟨hl, w, s0, vals, ok, hO, r, ho, h⟩ => ⟨_, hb cdv A outer s H E hr, ?_⟩
  refine ⟨w, s0, initE N.length vals, ok, env_start r ho, ?_⟩
  have ext : ∀ {w' : Wd} {H' : Hp}, Step w H w' H' → (∀ p, ¬ w'.O p) → Ext w H w' H' := fun {w' H'} st h2 => ⟨st.al, st.bm, st.bn, by funext p; exact propext ⟨fun z => absurd z (h2 p), fun z => absurd z (hO p)⟩, fun p o h hp => st.keep p o h hp (hO p)⟩
  unfold runE at h
  cases q : m (initE N.length vals) s0 with
  | nxt e1 s1 => rw [q] at h; exact fun w' H' σ' st ok er => h (dropO w') H' .non (ext (st.trans step_drop) fun _ z => z) ok.dropO (rep_non (K := G.K) (N := (dropO w').N) (H := H'))
  | ret v s1 => rw [q] at h; exact fun w' H' u st ok hO' r => h w' H' u (ext st hO') ok r
  | brk e1 s1 => rw [q] at h; exact h.elim
  | cnt e1 s1 => rw [q] at h; exact h.elim
  | exn c y e1 s1 =>
    rw [q] at h
    intro w' H' σ' cls d st ok er ⟨ec, pay⟩
    subst ec
    exact h (dropO w') H' d (ext (st.trans step_drop) fun _ z => z) ok.dropO (pay.less drop_N)
  | stuck => rw [q] at h; exact h.elim
/-! ### calls -/
mutual
theorem Rep.free {K : PySem.W.Frag} {N N' : Addr → Prop} : ∀ (x : D) {v : V}, noL x = true → Rep K N H x v → Rep K N' H x v
  | .non, v, _, h => by unfold Rep at *; exact h
  | .bl _, v, _, h => by unfold Rep at *; exact h
  | .int _, v, _, h => by unfold Rep at *; exact h
  | .str _, v, _, h => by unfold Rep at *; exact h
  | .tup xs, v, e, h => by
    unfold Rep at *
    obtain ⟨p, vs, e1, h1, hz, h2⟩ := h
    exact ⟨p, vs, e1, h1, hz, Reps.free xs (by unfold noL at e; exact e) h2⟩
  | .tuq xs, v, e, h => by
    unfold Rep at *
    obtain ⟨p, vs, e1, h1, hz, h2⟩ := h
    exact ⟨p, vs, e1, h1, hz, Reps.free xs (by unfold noL at e; exact e) h2⟩
  | .lst _, v, e, h => by unfold noL at e; cases e
  | .dic _ _, v, e, h => by unfold noL at e; cases e
theorem Reps.free {K : PySem.W.Frag} {N N' : Addr → Prop} : ∀ (xs : List D) {us : List V}, noLs xs = true → Reps K N H xs us → Reps K N' H xs us
  | [], us, _, h => by unfold Reps at *; exact h
  | x :: xs, us, e, h => by
    unfold Reps at *
    unfold noLs at e
    obtain ⟨e1, e2⟩ := Bool.and_eq_true_iff.mp e
    obtain ⟨v, r, e3, h1, h2⟩ := h
    exact ⟨v, r, e3, Rep.free x e1 h1, Reps.free xs e2 h2⟩
end
theorem rdR_nil {K : PySem.W.Frag} {M : Addr → Prop} {x : D} {u : V} (r : RdR K M H x u) : Rep K (fun _ => False) H x u := by
  cases x with
  | lst xs =>
    obtain ⟨p, vs, rfl, h1, hz, h2⟩ := r
    exact rep_lst (fun z => z) h1 hz (Reps.less (fun _ z => z.elim) xs h2)
  | non => exact Rep.less (N := M) (fun _ z => z.elim) _ r
  | bl _ => exact Rep.less (N := M) (fun _ z => z.elim) _ r
  | int _ => exact Rep.less (N := M) (fun _ z => z.elim) _ r
  | str _ => exact Rep.less (N := M) (fun _ z => z.elim) _ r
  | tup _ => exact Rep.less (N := M) (fun _ z => z.elim) _ r
  | tuq _ => exact Rep.less (N := M) (fun _ z => z.elim) _ r
  | dic _ _ => exact Rep.less (N := M) (fun _ z => z.elim) _ r
theorem rds_rep (ok : Ok G w s H) : ∀ {vals : List Val} {us : List V} {xs : List D}, SlotRs G w H vals us → rds s vals = some xs → Reps G.K (fun _ => False) H xs us
  | [], us, xs, h, e => by cases e; unfold SlotRs at h; subst h; exact .nil
  | v :: vals, us, xs, h, e => by
    obtain ⟨u, r, rfl, h1, h2⟩ := h
    unfold rds at e
    cases q : rd s v with
    | none => rw [q] at e; cases e
    | some x =>
      rw [q] at e
      dsimp only at e
      cases q2 : rds s vals with
      | none => rw [q2] at e; cases e
      | some ys => rw [q2] at e; cases e; exact .cons (rdR_nil (rd_ok ok h1 q)) (rds_rep ok h2 q2)
theorem frefs_eq : ∀ {vals vals' : List Val}, frefs vals = some vals' → vals' = vals ∧ vals.all (fun v => !isOwnV v) = true ∧ ∀ v ∈ vals, (∃ x, v = .d x) ∨ (∃ n, v = .ref n) ∨ ∃ n, v = .scr n
  | [], vals', e => by cases e; exact ⟨rfl, rfl, fun v h => by simp at h⟩
  | v :: vals, vals', e => by
    cases v with
    | d x =>
      unfold frefs at e
      cases q : frefs vals with
      | none => rw [q] at e; cases e
      | some ys =>
        rw [q] at e; cases e
        obtain ⟨h1, h2, h3⟩ := frefs_eq q
        refine ⟨by rw [h1], by simpa [isOwnV] using h2, fun v hv => ?_⟩
        rcases List.mem_cons.mp hv with hv | hv
        · exact .inl ⟨x, hv⟩
        · exact h3 v hv
    | ref x =>
      unfold frefs at e
      cases q : frefs vals with
      | none => rw [q] at e; cases e
      | some ys =>
        rw [q] at e; cases e
        obtain ⟨h1, h2, h3⟩ := frefs_eq q
        refine ⟨by rw [h1], by simpa [isOwnV] using h2, fun v hv => ?_⟩
        rcases List.mem_cons.mp hv with hv | hv
        · exact .inr (.inl ⟨x, hv⟩)
        · exact h3 v hv
    | scr x =>
      unfold frefs at e
      cases q : frefs vals with
      | none => rw [q] at e; cases e
      | some ys =>
        rw [q] at e; cases e
        obtain ⟨h1, h2, h3⟩ := frefs_eq q
        refine ⟨by rw [h1], by simpa [isOwnV] using h2, fun v hv => ?_⟩
        rcases List.mem_cons.mp hv with hv | hv
        · exact .inr (.inr ⟨x, hv⟩)
        · exact h3 v hv
    | _ => cases e
end
section
variable {X : Cx} {G : Gd} {W : WX} {k n : Nat} {f : Addr} {fd : FuncData} {ps : List Str} {x : Str} {p pos : Pos} {e : Expr} {es : List Expr} {ml : ML}
theorem nil_read {σ : L2.St} {H : Hp} {R : List V → Hp → Prop} (h : tL G W mNil σ H R) : R [] H := by
  obtain ⟨w, s, e, ok, er, h⟩ := h
  exact h w H [] .refl ok rfl
theorem read_P {fP : List D → P} {σ : L2.St} {H : Hp} {Q : VK} (h : tE G W (mCall (.pure n fP) ml) σ H Q) : tCallS (spP G n fP) (fun σ cls d H => W cls d σ H) (tL G W ml) σ H Q := by
  obtain ⟨w, s, e, ok, er, h⟩ := h
  refine ⟨w, s, e, ok, er, Post.bind (rel := relL G) h fun w1 s1 H1 vs us x1 ok1 r1 h1 => ?_⟩
  dsimp only at h1
  split at h1
  · rename_i hl
    refine ⟨by rw [← SlotRs.length r1]; exact hl, ?_⟩
    cases q : datas vs with
    | some xs =>
      rw [q] at h1
      refine ⟨w1.N, xs, ok1.mu, datas_rep r1 q, ?_⟩
      dsimp only at h1
      cases q2 : fP xs with
      | ok y =>
        rw [q2] at h1
        exact fun H' u g r => h1 w1 H' u (ok1.grow g).2 (ok1.grow g).1 r
      | fresh ys =>
        rw [q2] at h1
        exact fun H' p vs g hn hp hz r => h1 w1 H' _ (ok1.grow g).2 (ok1.grow g).1 (rep_lst (ok1.notN hn) hp hz r)
      | exn c y =>
        rw [q2] at h1
        exact fun H' d g r => h1 w1 H' _ d (ok1.grow g).2 (ok1.grow g).1 ⟨rfl, r⟩
      | stuck => rw [q2] at h1; exact h1.elim
    | none =>
      rw [q] at h1
      dsimp only at h1
      cases q1 : rds s1 vs with
      | none => rw [q1] at h1; exact h1.elim
      | some xs =>
        rw [q1] at h1
        dsimp only at h1
        refine ⟨fun _ => False, xs, fun _ z => z.elim, rds_rep ok1 r1 q1, ?_⟩
        cases q2 : fP xs with
        | ok y =>
          rw [q2] at h1
          unfold P.toL at h1
          dsimp only at h1
          split at h1
          · rename_i hn
            exact fun H' u g r => h1 w1 H' u (ok1.grow g).2 (ok1.grow g).1 (Rep.free y hn r)
          · exact h1.elim
        | fresh ys =>
          rw [q2] at h1
          unfold P.toL at h1
          dsimp only at h1
          split at h1
          · rename_i hn
            exact fun H' p vs g hp0 hp hz r => h1 w1 H' _ (ok1.grow g).2 (ok1.grow g).1 (rep_lst (ok1.notN hp0) hp hz (Reps.free ys hn r))
          · exact h1.elim
        | exn c y =>
          rw [q2] at h1
          cases y with
          | none => exact fun H' d g r => h1 w1 H' _ d (ok1.grow g).2 (ok1.grow g).1 ⟨rfl, r⟩
          | some y => exact h1.elim
        | stuck => rw [q2] at h1; exact h1.elim
  · exact h1.elim
theorem call_P {fP : List D → P} (F : FnOk X.prog X.w X.K X.mg X.base (L2N.CX X.prog X.w) k f fd ps (spP G n fP)) (hr : Room k X.A) (hg : Gl X x) (hm : X.mg x = some (.ref f)) (hk : PySem.W.keepIn X.K (.ref f) = true) (hb : Binds X.K fd ps []) (tk : L2N.Takes X W)
    (ha : PA X (e :: es) (tL G W ml)) (hdb : (x == ("__debug__" : Str)) = false) (he : starEach (e :: es) X.env = (false, eval e X.env) :: starEach es X.env) (hpl : (backTo pos (starEach es X.env)).any (·.1) = false) :
    PE X (.Call (.Name x p) (e :: es) [] pos) (tE G W (mCall (.pure n fP) ml)) :=
  impE (pe_callS F hr hg hm hk hb (E := fun σ cls d H => W cls d σ H) (fun σ pins H s e s' I c => tk e s' (L2N.XE.of_call I (fun _ _ _ h => h) c)) ha hdb he hpl) fun σ H Q h => read_P h
theorem call_P0 {fP : List D → P} (F : FnOk X.prog X.w X.K X.mg X.base (L2N.CX X.prog X.w) k f fd ps (spP G n fP)) (hr : Room k X.A) (hg : Gl X x) (hm : X.mg x = some (.ref f)) (hk : PySem.W.keepIn X.K (.ref f) = true) (hb : Binds X.K fd ps []) (tk : L2N.Takes X W)
    (hdb : (x == ("__debug__" : Str)) = false) : PE X (.Call (.Name x p) [] [] pos) (tE G W (mCall (.pure n fP) mNil)) := ⟨fun pins s σ H Q I h =>
  wpAny_Call_Name_kw (ld_glob I hg hm (PySem.W.callWith_K0 I.kIn hk (run_fnS (us := []) (E := fun σ cls d H => W cls d σ H) F hr hb (fun pins H s e s' I c => tk e s' (L2N.XE.of_call I (fun _ _ _ h => h) c)) I .nil (nil_read (read_P h)))) hdb)⟩
theorem read_E {fE : List Val → S → MP.R Val} {σ : L2.St} {H : Hp} {Q : VK} (h : tE G W (mCall (.eff n fE) ml) σ H Q) : tCallS (spE G n fE) (fun σ cls d H => W cls d σ H) (tL G W ml) σ H Q := by
  obtain ⟨w, s, e, ok, er, h⟩ := h
  refine ⟨w, s, e, ok, er, Post.bind (rel := relL G) h fun w1 s1 H1 vs us x1 ok1 r1 h1 => ?_⟩
  dsimp only at h1
  split at h1
  · rename_i hl
    refine ⟨by rw [← SlotRs.length r1]; exact hl, ?_⟩
    cases q : frefs vs with
    | none => rw [q] at h1; exact h1.elim
    | some vs' =>
      rw [q] at h1
      obtain ⟨e1, hO, hd⟩ := frefs_eq q
      subst e1
      dsimp only at h1
      have hN : ∀ p, (Wd.mk w1.α w1.N fun _ => False).N p → w1.N p := fun p h => h.elim id False.elim
      have okc : Ok G ⟨w1.α, w1.N, fun _ => False⟩ s1 H1 := ⟨ok1.nd, ok1.len, fun m xs p h1 h2 => by
        obtain ⟨us, h3, hz, h4⟩ := ok1.cells m xs p h1 h2
        exact ⟨us, h3, hz, Reps.less hN xs h4⟩, fun p h => .inl (ok1.ab p h), fun _ _ z => z, fun p h => ok1.mu p (hN p h)⟩
      have rs : ∀ {vs : List Val} {us : List V}, (∀ v ∈ vs, (∃ x, v = Val.d x) ∨ (∃ n, v = .ref n) ∨ ∃ n, v = .scr n) → SlotRs G w1 H1 vs us → SlotRs G ⟨w1.α, w1.N, fun _ => False⟩ H1 vs us := fun {vs} => by
        induction vs with
        | nil => exact fun _ h => h
        | cons v vs ih =>
          intro us hd h
          obtain ⟨u, r, e, h1, h2⟩ := h
          refine ⟨u, r, e, ?_, ih (fun v hv => hd v (List.mem_cons_of_mem _ hv)) h2⟩
          rcases hd v List.mem_cons_self with ⟨x, rfl⟩ | ⟨n, rfl⟩ | ⟨n, rfl⟩
          · exact Rep.less hN x h1
          · exact h1
          · exact h1
      refine ⟨⟨w1.α, w1.N, fun _ => False⟩, s1, vs', okc, fun _ z => z, rs hd r1, hO, ?_⟩
      have back : ∀ {w' : Wd} {s' : S} {H' : Hp}, Ext ⟨w1.α, w1.N, fun _ => False⟩ H1 w' H' → Ok G w' s' H' → (∀ p, (Wd.mk w'.α (fun p => w'.B p ∧ ¬ w1.O p) w1.O).N p → w'.N p) ∧ Ext w1 H1 ⟨w'.α, fun p => w'.B p ∧ ¬ w1.O p, w1.O⟩ H' ∧ Ok G ⟨w'.α, fun p => w'.B p ∧ ¬ w1.O p, w1.O⟩ s' H' := fun {w' s' H'} x o => by
        have hN' : ∀ p, (Wd.mk w'.α (fun p => w'.B p ∧ ¬ w1.O p) w1.O).N p → w'.N p := fun p h => by
          rcases h with h | h
          · exact .inl h.1
          · exact .inl (x.bm p (.inr h))
        refine ⟨hN', ⟨x.al, fun p h => ⟨x.bm p (.inl h), ok1.bo p h⟩, fun p h => ?_, rfl, x.keep⟩, ⟨o.nd, o.len, fun m xs p h1 h2 => ?_, fun p h => ⟨o.ab p h, fun z => ?_⟩, fun p h => h.2, fun p h => o.mu p (hN' p h)⟩⟩
        · rcases x.bn p h.1 with (z | z) | z
          · exact .inl z
          · exact absurd z h.2
          · exact .inr z
        · obtain ⟨us, h3, hz, h4⟩ := o.cells m xs p h1 h2
          exact ⟨us, h3, hz, Reps.less hN' xs h4⟩
        · obtain ⟨l, hl, nl⟩ := x.al
          have h : p ∈ w'.α := h
          rw [hl] at h
          rcases List.mem_append.mp h with h | h
          · exact ok1.bo p (ok1.ab p h) z
          · obtain ⟨o', e', _⟩ := ok1.mu p (.inr z)
            rw [nl p h] at e'; cases e'
      cases q2 : fE vs' s1 with
      | ok v s' =>
        rw [q2] at h1
        intro w' H' u x o r
        obtain ⟨b1, b2, b3⟩ := back x o
        refine h1 _ H' u b2 b3 (r.less b1 rfl fun ho q _ hq => ?_)
        rw [show w'.O = fun _ => False from x.oo] at hq
        exact hq.elim
      | exn c y s' =>
        rw [q2] at h1
        intro w' H' d x o r
        obtain ⟨b1, b2, b3⟩ := back x o
        exact h1 _ H' _ d b2 b3 ⟨rfl, r.less b1⟩
      | stuck => rw [q2] at h1; exact h1.elim
  · exact h1.elim
theorem call_E {fE : List Val → S → MP.R Val} (F : FnOk X.prog X.w X.K X.mg X.base (L2N.CX X.prog X.w) k f fd ps (spE G n fE)) (hr : Room k X.A) (hg : Gl X x) (hm : X.mg x = some (.ref f)) (hk : PySem.W.keepIn X.K (.ref f) = true) (hb : Binds X.K fd ps []) (tk : L2N.Takes X W)
    (ha : PA X (e :: es) (tL G W ml)) (hdb : (x == ("__debug__" : Str)) = false) (he : starEach (e :: es) X.env = (false, eval e X.env) :: starEach es X.env) (hpl : (backTo pos (starEach es X.env)).any (·.1) = false) :
    PE X (.Call (.Name x p) (e :: es) [] pos) (tE G W (mCall (.eff n fE) ml)) :=
  impE (pe_callS F hr hg hm hk hb (E := fun σ cls d H => W cls d σ H) (fun σ pins H s e s' I c => tk e s' (L2N.XE.of_call I (fun _ _ _ h => h) c)) ha hdb he hpl) fun σ H Q h => read_E h
theorem call_E0 {fE : List Val → S → MP.R Val} (F : FnOk X.prog X.w X.K X.mg X.base (L2N.CX X.prog X.w) k f fd ps (spE G n fE)) (hr : Room k X.A) (hg : Gl X x) (hm : X.mg x = some (.ref f)) (hk : PySem.W.keepIn X.K (.ref f) = true) (hb : Binds X.K fd ps []) (tk : L2N.Takes X W)
    (hdb : (x == ("__debug__" : Str)) = false) : PE X (.Call (.Name x p) [] [] pos) (tE G W (mCall (.eff n fE) mNil)) := ⟨fun pins s σ H Q I h =>
  wpAny_Call_Name_kw (ld_glob I hg hm (PySem.W.callWith_K0 I.kIn hk (run_fnS (us := []) (E := fun σ cls d H => W cls d σ H) F hr hb (fun pins H s e s' I c => tk e s' (L2N.XE.of_call I (fun _ _ _ h => h) c)) I .nil (nil_read (read_E h)))) hdb)⟩
end
end MP
end

section
set_option Elab.async false
set_option linter.all false
set_option maxRecDepth 100000
set_option maxHeartbeats 4000000
/-! MP, part n: within an except suite, or a def that is called there. -/
namespace MP
open PySem PySem.Spec PyProof.Rows L2
/-- a comprehension's context there: what is pinned stays -/
abbrev _root_.L2.Cx.blkH (X : Cx) (s : Shared) (H : Hp) (scope : Scope) (cenv : PySem.Env) (fp : List Addr) : Cx := { X.blk s H scope cenv fp with pn := X.pn }
section
variable {X : Cx} {pins : List (Addr × Obj)} {σ : L2.St} {H H' : Hp} {s : Shared}
theorem block_hot {scope : Scope} {own : List (Str × Nat)} {fp : List Addr} (I : Inv X pins σ H s) (ok : BlkOk X.N X.env.scope scope own) (hN : X.N.Nodup) (hfp : ∀ b ∈ fp, FpOk X pins H b ∧ b < s.heap.objs.size) :
    Inv (X.blkH s H scope (compEnvC scope (cellsFrom (s.heap.objs.size + 1) scope.names (cloFrom X.env.cells scope.names [])) s.heap.objs.size X.env) fp) [] (L2.wipe σ (own.map (·.2))) H { s with heap := pushCells (s.heap.push { cls := .type "dict", data := .dict #[] }) scope.names } := by
  have J := block_start I ok hN hfp
  have kp : ∀ b o, s.heap.get? b = some o → (pushCells (s.heap.push { cls := .type "dict", data := .dict #[] }) scope.names).get? b = some o := fun b o e => pushCells_keeps _ _ _ _ (Heap.get?_push_of_some _ e)
  refine ⟨⟨J.ok.mod, J.ok.kind, J.ok.glob, J.ok.blt, J.ok.above, J.ok.inj, J.ok.has, J.ok.cab, J.ok.hd, J.ok.frames, J.ok.stk, J.ok.exf, J.ok.bs, J.ok.bsz, J.ok.noex, J.ok.exfs, J.ok.funs, J.ok.frf⟩, J.os, J.bare, J.base, J.loc, J.cell, J.free, J.freeC, fun p hp => ?_, J.hok, J.len⟩
  obtain ⟨h1, h2, h3, h4, h5⟩ := I.pin p (List.mem_append_left _ (by rw [List.append_nil] at hp; exact hp))
  refine ⟨kp _ _ h1, h2, ?_, fun z => ?_, h5⟩
  · show p.1 ≠ s.heap.objs.size
    exact Nat.ne_of_lt (Heap.lt_size h1)
  · have z : p.1 ∈ frs X.stack := z
    rcases List.mem_cons.mp (I.stkSub p.1 z) with z | z
    · exact h3 z
    · exact h4 z
theorem lc_hot {pins : List (Addr × Obj)} {s : Shared} {σ : L2.St} {H : Hp} {Q : VK} {elt tg iter : Expr} {ifs : List Expr} {scope : Scope} {own : List (Str × Nat)} {pos pos' : Pos} {wi : TI} {g : TG} {tt : TT} {te : TE} {use : Option (Value → Sem Unit)} {Qf : Value → Shared → Prop}
    (hc : L2H.HotC X) (hN : X.N.Nodup) (I : Inv X pins σ H s) (hi : L2H.PIH X tg iter wi) (ok : BlkOk X.N X.env.scope scope own)
    (hg : ∀ (s : Shared) (H : Hp) (C : Addr) (cl : List (Str × Addr)) (fp : List Addr), PG (X.blkH s H scope (compEnvC scope cl C X.env) fp) tg g) (ht : ∀ (s : Shared) (H : Hp) (C : Addr) (cl : List (Str × Addr)) (fp : List Addr), PTs (X.blkH s H scope (compEnvC scope cl C X.env) fp) ifs tt)
    (he : ∀ (s : Shared) (H : Hp) (C : Addr) (cl : List (Str × Addr)) (fp : List Addr), PE (X.blkH s H scope (compEnvC scope cl C X.env) fp) elt te) (hs : ∀ x, foldedSetIterable iter X.env x = pure x)
    (h : tLc wi g tt te (own.map (·.2)) σ H Q)
    (hRR : ∀ D C s' m H', Inv X pins σ H' s' → Q (.ref D) H' → s'.heap.Ns C m → FpOk X pins H' C → compPost (model X.prog X.w) X.A X.xe use Qf (.ref D) C (.ok .next) s') :
    wpAny (model X.prog X.w) X.A (comprehension (.ListComp elt [⟨tg, iter, ifs, 0⟩] scope pos) scope X.env pos' (newList []) false (eval iter X.env) use) Qf X.xe s := by
  have hfree : ∀ y ∈ scope.names, y.2 = .free → ∃ c, X.env.cells.lookup y.1 = some c := fun y hy e => by
    rcases ok.free y hy e with k | k
    · exact I.ok.has _ (.inl k)
    · exact I.ok.has _ (.inr k)
  refine wpAny_comprehension_free (use := use) rfl hs (closure_ok hfree) ok.kind (fun y hy e => by rw [ok.uniq y hy, e])
    (thn (hi.run pins s σ H _ I h) fun xv s1 hx => thn hx fun itv s2 h2 => ?_)
  obtain ⟨it, fp, tn, J, H2, e, I2, T, st2, f2, q⟩ := h2
  subst e
  refine wpAny_newObj_type (newEnv_comp ?_) (by show 0 ≤ sizeLine; decide)
  generalize hD : s2.heap.objs.size = D
  have hDn : H2 D = none := I2.hok.fresh (Nat.le_of_eq hD)
  obtain ⟨W, ⟨m0, w0⟩, turn⟩ := q D hDn
  -- the new list
  generalize hs3 : ({ s2 with heap := s2.heap.push { cls := .type "list", data := .seq ([] : List Value).toArray } } : Shared) = s3
  have I3 : Inv X pins σ (upd H2 D (.lst [])) s3 := by
    rw [← hs3]
    refine I2.laid (t' := s2.toks) (fun b o e => Heap.get?_push_of_some _ e) (Nat.le_of_eq hD) ⟨Nat.zero_le _, [], 0, .nil, ?_⟩
    rw [← hD]
    exact Heap.get?_push_size _ rfl
  have h3 : s3.heap = s2.heap.push { cls := .type "list", data := .seq ([] : List Value).toArray } := by rw [← hs3]
  have sz : ∀ b ∈ fp, b < s2.heap.objs.size := fun b hb => by
    obtain ⟨o, e, _⟩ := T.obj _ _ st2 b hb
    exact Heap.lt_size e
  have f3 : ∀ b ∈ fp, FpOk X pins (upd H2 D (.lst [])) b ∧ b < s3.heap.objs.size := fun b hb => by
    have hlt := sz b hb
    refine ⟨⟨?_, (f2 b hb).2⟩, by rw [h3, Heap.size_push]; exact Nat.lt_succ_of_lt hlt⟩
    rw [upd_ne (by rw [← hD]; exact Nat.ne_of_lt hlt)]
    exact (f2 b hb).1
  have st3 : tn 0 s3.heap := T.keep _ _ _ st2 fun b _ o e => by rw [h3]; exact Heap.get?_push_of_some _ e
  have I4 := block_hot I3 ok hN f3
  have pg := hg s3 (upd H2 D (.lst [])) s3.heap.objs.size (cellsFrom (s3.heap.objs.size + 1) scope.names (cloFrom X.env.cells scope.names [])) fp
  have pt := ht s3 (upd H2 D (.lst [])) s3.heap.objs.size (cellsFrom (s3.heap.objs.size + 1) scope.names (cloFrom X.env.cells scope.names [])) fp
  have pe := he s3 (upd H2 D (.lst [])) s3.heap.objs.size (cellsFrom (s3.heap.objs.size + 1) scope.names (cloFrom X.env.cells scope.names [])) fp
  show codeAny _ _ (.compStart (.ListComp elt [⟨tg, iter, ifs, 0⟩] scope pos) 0 (.ref it) (.ref D) (compEnvC scope (cellsFrom (s3.heap.objs.size + 1) scope.names (cloFrom X.env.cells scope.names [])) s3.heap.objs.size X.env)) (compPost (model X.prog X.w) X.A X.xe use Qf (.ref D) s3.heap.objs.size) { s3 with heap := pushCells (s3.heap.push { cls := .type "dict", data := .dict #[] }) scope.names }
  have nfp : ∀ b ∈ fp, (upd H2 D (.lst [])) b = none := fun b hb => (f3 b hb).1.1
  generalize hce : compEnvC scope (cellsFrom (s3.heap.objs.size + 1) scope.names (cloFrom X.env.cells scope.names [])) s3.heap.objs.size X.env = ce at I4 pg pt pe ⊢
  have cL : ce.locals = s3.heap.objs.size := by subst hce; rfl
  generalize hH3 : upd H2 D (.lst []) = H3 at I3 I4 pg pt pe w0 nfp f3
  generalize hs4 : ({ s3 with heap := pushCells (s3.heap.push { cls := .type "dict", data := .dict #[] }) scope.names } : Shared) = s4 at I4 ⊢
  have st4 : tn 0 s4.heap := T.keep _ _ _ st3 fun b _ o e => by rw [← hs4]; exact pushCells_keeps _ _ _ _ (Heap.get?_push_of_some _ e)
  have stat : ∀ {σ' : L2.St} {H' : Hp} {s' : Shared}, Inv (X.blkH s3 H3 scope ce fp) [] σ' H' s' → (∀ b ∈ fp, H' b = none) → ∀ b ∈ fp, FpOk (X.blkH s3 H3 scope ce fp) [] H' b := fun {σ' H' s'} I' hn b hb =>
    ⟨hn b hb, (I'.ok.exf b hb).1, I'.ok.exfs b hb, .inl hb, fun x c e => (I'.ok.exf b hb).2 x c e, fun p hp => (f3 b hb).1.2.2.2.2.2 p (List.mem_append_left _ (by rw [List.append_nil] at hp; exact hp))⟩
  have loop : codeAny (model X.prog X.w) X.A (.compLoop (.ListComp elt [⟨tg, iter, ifs, 0⟩] scope pos) 0 (.ref it) (.ref D) ce) (compPost (model X.prog X.w) X.A X.xe use Qf (.ref D) s3.heap.objs.size) s4 := by
    refine compLoop_any (fun n s' => ∃ i H', Inv (X.blkH s3 H3 scope ce fp) [] (L2.wipe σ (own.map (·.2))) H' s' ∧ tn i s'.heap ∧ (∀ b ∈ fp, H' b = none) ∧ W i n H') ?_ m0 ⟨0, H3, I4, st4, nfp, w0⟩
    rintro n s5 ⟨i, H5, I5, st5, n5, w5⟩
    rcases turn i n H5 w5 with ⟨stop, qq⟩ | ⟨go, Nx, hNx, step⟩
    · have td := T.done (X.blkH s3 H3 scope ce fp) rfl rfl rfl hc i [] s5 _ H5 (fun _ _ => False) I5 (stat I5 n5) st5 stop
      refine thnF td fun r s6 ⟨hr, I6⟩ => ?_
      subst hr
      -- back in the def's context
      have I7 : Inv X pins σ H5 s6 := I3.call' (ch := fp) I6.os I6.base I6.hok I6.bare fun b hb => ⟨(f3 b hb).1.2.2.2.1, (f3 b hb).1.2.1, (f3 b hb).1.2.2.2.2.1, (f3 b hb).1.2.2.2.2.2⟩
      have nC : H5 s3.heap.objs.size = none := by
        have z : H5 ce.locals = none := I6.free
        rw [cL] at z
        exact z
      obtain ⟨m, hn, _⟩ := I6.loc
      have hn : s6.heap.Ns ce.locals m := hn
      rw [cL] at hn
      exact hRR D s3.heap.objs.size s6 m H5 I7 qq hn (I3.fpOk (Nat.le_refl _) nC)
    · have ti := T.item (X.blkH s3 H3 scope ce fp) rfl rfl rfl hc i [] s5 _ H5 (fun _ _ => False) I5 (stat I5 n5) st5 go
      refine thnF ti fun r s6 ⟨u, hr, h6⟩ => ?_
      subst hr
      refine thnF h6 fun _ s7 ⟨x, H7, I7, r7, y7, st7, n7⟩ => ?_
      have I7' := I7.pinned (stat I7 n7) (T.obj _ _ st7)
      refine thnF (pg.run _ s7 _ H7 x u _ I7' r7 (step x H7 y7)) fun _ s8 ⟨σ8, H8, I8, hw8, q8⟩ => ?_
      refine thnF (pt.run _ s8 σ8 H8 _ I8 q8) fun b s9 ⟨H9, I9, q9⟩ => ?_
      -- the turn's end
      have fin : ∀ {s' : Shared} {H' : Hp}, Inv (X.blkH s3 H3 scope ce fp) ([] ++ pinsAt fp s7.heap) σ8 H' s' → Nx H' → ∃ m, m < n ∧ ∃ i H', Inv (X.blkH s3 H3 scope ce fp) [] (L2.wipe σ (own.map (·.2))) H' s' ∧ tn i s'.heap ∧ (∀ b ∈ fp, H' b = none) ∧ W i m H' := fun {s' H'} I' nx => by
        obtain ⟨m', hm, w'⟩ := hNx H' nx
        have pin' : ∀ b ∈ fp, ∀ o, s7.heap.get? b = some o → s'.heap.get? b = some o ∧ H' b = none := fun b hb o e =>
          let z := I'.pin (b, o) (List.mem_append_right _ (List.mem_append_right _ (mem_pinsAt hb e)))
          ⟨z.1, z.2.1⟩
        have hl : (L2.wipe σ (own.map (·.2))).length = σ8.length := by rw [← hw8, L2.wipe_length]
        refine ⟨m', hm, i + 1, H', (I'.unpinned (pins := [])).weak hl (fun j v e => ?_), T.keep _ _ _ st7 fun b hb o e => (pin' b hb o e).1, fun b hb => ?_, w'⟩
        · rw [← hw8] at e
          exact (L2.wipe_some e).1
        · obtain ⟨o, e, _⟩ := T.obj _ _ st7 b hb
          exact (pin' b hb o e).2
      cases b with
      | false =>
        simp only [Bool.false_eq_true, if_false] at q9 ⊢
        exact fin I9 q9
      | true =>
        simp only [if_true] at q9 ⊢
        refine thnF (pe.run _ s9 σ8 H9 _ I9 q9) fun z s10 ⟨yv, H10, I10, r10, acc, hD10, hz10, nx⟩ => ?_
        exact app_ok (X := X.blkH s3 H3 scope ce fp) I10 hD10 hz10 r10 fun s11 I11 => fin I11 nx
  exact codeAny_compStart_list loop (T.self X.A 0 _ _ _ st4 loop)
end
section
variable {X : Cx} {G : Gd} {W : WX} {pos p : Pos} {tg a b c : Expr} {ma mb mc : ME}
/-- as a value, hot -/
theorem pe_lcH {elt tg iter : Expr} {ifs : List Expr} {scope : Scope} {own : List (Str × Nat)} {pos : Pos} {wi : TI} {g : TG} {tt : TT} {te : TE} (hc : L2H.HotC X) (hN : X.N.Nodup) (hi : L2H.PIH X tg iter wi) (ok : BlkOk X.N X.env.scope scope own)
    (hg : ∀ (s : Shared) (H : Hp) (C : Addr) (cl : List (Str × Addr)) (fp : List Addr), PG (X.blkH s H scope (compEnvC scope cl C X.env) fp) tg g) (ht : ∀ (s : Shared) (H : Hp) (C : Addr) (cl : List (Str × Addr)) (fp : List Addr), PTs (X.blkH s H scope (compEnvC scope cl C X.env) fp) ifs tt)
    (he : ∀ (s : Shared) (H : Hp) (C : Addr) (cl : List (Str × Addr)) (fp : List Addr), PE (X.blkH s H scope (compEnvC scope cl C X.env) fp) elt te) (hs : ∀ x, foldedSetIterable iter X.env x = pure x) :
    PE X (.ListComp elt [⟨tg, iter, ifs, 0⟩] scope pos) (tLc wi g tt te (own.map (·.2))) := by
  refine ⟨fun pins s σ H Q I h => ?_⟩
  rw [eval_ListComp]
  refine lc_hot hc hN I hi ok hg ht he hs h fun D C s' m H' I' q hn f => ⟨m, hn, fun h'' sb => ?_⟩
  obtain ⟨f0, f1, f2, f3, f4, f5⟩ := f
  exact ⟨.ref D, H', I'.turned (t' := s'.toks) (fun b o hb e => (sb.2 b hb).trans e) f0 f1 f3 f4 f5, rfl, q⟩
/-- name = [..] on one line, hot -/
theorem ps_setLcH {i : Nat} {y : Str} {py : Pos} {elt tg iter : Expr} {ifs : List Expr} {scope : Scope} {own : List (Str × Nat)} {pos spos : Pos} {wi : TI} {g : TG} {tt : TT} {te : TE} (hc : L2H.HotC X) (hN : X.N.Nodup) (hy : X.N[i]? = some y) (hyl : X.env.scope.names.lookup y = some .local)
    (hsw : swapsWith (.ListComp elt [⟨tg, iter, ifs, 0⟩] scope pos) (some (.Name y py)) spos.line X.env = pure true) (hi : L2H.PIH X tg iter wi) (ok : BlkOk X.N X.env.scope scope own)
    (hg : ∀ (s : Shared) (H : Hp) (C : Addr) (cl : List (Str × Addr)) (fp : List Addr), PG (X.blkH s H scope (compEnvC scope cl C X.env) fp) tg g) (ht : ∀ (s : Shared) (H : Hp) (C : Addr) (cl : List (Str × Addr)) (fp : List Addr), PTs (X.blkH s H scope (compEnvC scope cl C X.env) fp) ifs tt)
    (he : ∀ (s : Shared) (H : Hp) (C : Addr) (cl : List (Str × Addr)) (fp : List Addr), PE (X.blkH s H scope (compEnvC scope cl C X.env) fp) elt te) (hs : ∀ x, foldedSetIterable iter X.env x = pure x) :
    PS X (.Assign [.Name y py] (.ListComp elt [⟨tg, iter, ifs, 0⟩] scope pos) spos) (tAsg (tLc wi g tt te (own.map (·.2))) (gName i)) := by
  refine ⟨fun pins s σ H D I h => ?_⟩
  rw [exec_Assign_Name_used _ _ _ _ hsw]
  refine wpAny_bind (wpAny_standAt (wpAny_bind ?_))
  show wpAny _ X.A (do let _ ← comprehension (.ListComp elt [⟨tg, iter, ifs, 0⟩] scope pos) scope X.env (firstIterPos [⟨tg, iter, ifs, 0⟩] pos) (newList []) false (eval iter X.env) (some (assign (.Name y py) X.env))) _ _ s
  have h : tLc wi g tt te (own.map (·.2)) σ H (fun x H1 => gName i x σ H1 D.nx) := h
  refine wpAny_bind (thn (lc_hot (Qf := fun _ s' => SP X pins D .next s') hc hN I hi ok hg ht he hs h fun L C s' m H' I' q hn f => ?_) fun _ s' hq => wpAny_pure (wpAny_pure hq))
  show wpAny _ _ (assign (.Name y py) X.env (.ref L)) _ _ _
  refine wpAny_assign_Name (store_ok2 (v := V.ref L) I' hN hy (.inl hyl) rfl (fun s2 I2 ⟨a, sb, ha⟩ => ?_) (.inr hyl))
  obtain ⟨f0, f1, f2, f3, f4, f5⟩ := f
  have haC : C ≠ a := by
    rcases ha with z | z
    · rw [z]; exact f1
    · exact fun e => f4 y a z e.symm
  refine ⟨m, hn.sameBut sb haC, fun h3 sb3 => ?_⟩
  exact ⟨_, H', I2.turned (t' := s2.toks) (fun b o hb e => (sb3.2 b hb).trans e) f0 f1 f3 f4 f5, q⟩
theorem impIH {tg e : Expr} {t t' : TI} (h : L2H.PIH X tg e t) (i : ∀ σ H R, t' σ H R → t σ H R) : L2H.PIH X tg e t' := ⟨fun pins s σ H R I q => h.run pins s σ H R I (i σ H R q)⟩
theorem s_rg1H (hg : Gl X "range") (hm : X.mg "range" = none) (ha : PE X a (tE G W ma)) (hs : starEach [a] X.env = [(false, eval a X.env)]) : L2H.PIH X tg (.Call (.Name "range" p) [a] [] pos) (tI G W (mRg1 ma)) := by
  refine impIH (L2H.pi_range1H hg hm (pa_cons ha pa_nil hs) hs) fun σ H R ⟨w, s, e, ok, er, h⟩ => ?_
  refine ⟨w, s, e, ok, er, Post.bind (rel := relV G) h fun w1 s1 H1 v u x1 ok1 r1 h1 => ?_⟩
  match v, h1 with
  | .d (.int j), h1 =>
    rw [int_inv (slot_d r1)]
    dsimp only at h1
    split at h1
    · rename_i hc
      have hc := of_decide_eq_true hc
      exact ⟨j, rfl, hc.2.2.1, hc.2.2.2.1, Post.here (rel := relI G) ok1 h1 ⟨walks_rng 0 _, by rw [rangeI_length]; have := hc.2.2.2.2; omega⟩⟩
    · exact h1.elim
theorem s_lcH {elt iter : Expr} {ifs : List Expr} {scope : Scope} {own : List (Str × Nat)} {tgm : Tg} {it : MI} {t : MT} {m : ME} (hK : G.K = X.K) (hc : L2H.HotC X) (hN : X.N.Nodup) (hi : L2H.PIH X tg iter (tI G W it)) (ok : BlkOk X.N X.env.scope scope own)
    (hg : ∀ (s : Shared) (H : Hp) (C : Addr) (cl : List (Str × Addr)) (fp : List Addr), PG (X.blkH s H scope (compEnvC scope cl C X.env) fp) tg (gTg X.K tgm)) (ht : ∀ (s : Shared) (H : Hp) (C : Addr) (cl : List (Str × Addr)) (fp : List Addr), PTs (X.blkH s H scope (compEnvC scope cl C X.env) fp) ifs (tT G WF t))
    (he : ∀ (s : Shared) (H : Hp) (C : Addr) (cl : List (Str × Addr)) (fp : List Addr), PE (X.blkH s H scope (compEnvC scope cl C X.env) fp) elt (tE G WF m)) (hs : ∀ x, foldedSetIterable iter X.env x = pure x) (hsl : ∀ i ∈ tgSlots tgm, i ∈ own.map (·.2)) :
    PE X (.ListComp elt [⟨tg, iter, ifs, 0⟩] scope pos) (tE G W (mLc (own.map (·.2)) tgm it t m)) :=
  impE (pe_lcH hc hN hi ok hg ht he hs) fun σ H Q h => by rw [← hK]; exact lc_read hsl h
end
end MP
end

section
set_option Elab.async false
set_option linter.all false
set_option maxRecDepth 100000
set_option maxHeartbeats 4000000
/-! MP, part o: defs that are called within an except suite. -/
namespace MP
open PySem PySem.Spec PyProof.Rows L2
/-- what the error classes say -/
structure ClsOk (G : Gd) : Prop where
  exc : ∀ k, ExcC G.K (G.cA k)
  kit : ∀ k (t : Ty), t.data = false → PySem.W.kitOne G.K (.ref (G.cA k)) (t.u G.cA) = some (isEx k t)
  exm : ∀ k (t : Ty), t.data = false → PySem.W.exmOne G.K (.ref (G.cA k)) (t.u G.cA) = some (isEx k t)
  keep : ∀ k, PySem.W.keepIn G.K (.ref (G.cA k)) = true
  sub : ∀ k, PySem.W.subIn G.K (.ref (G.cA k)) (.type "BaseException") = some true
  typ : ∀ k, PySem.W.typeIn G.K (.ref (G.cA k)) = some (.type "type")
  own : ∀ k : EC, k.fld = Str.empty → PySem.W.excIn G.K (G.cA k) He.veBase "ValueError.__new__" = true
/-- the context holds the handled error, of class k -/
def HotX (X : Cx) (a : Addr) (D : Value) : Prop := ∃ oe, (a, oe) ∈ X.pn ∧ L2H.Hot1 X.A (a, oe) ∧ Zc D none oe ∧ ∃ vs, oe.data = .fields vs
theorem HotX.hot {X : Cx} {a : Addr} {D : Value} (h : HotX X a D) : L2H.HotC X := let ⟨oe, h1, h2, _⟩ := h; ⟨(a, oe), h2, h1⟩
theorem kitAny_ec {G : Gd} (C : ClsOk G) (k : EC) : ∀ ts : List Ty, ts.any Ty.data = false → PySem.W.kitAny G.K (.ref (G.cA k)) (ts.map (Ty.u G.cA)) = some (ts.any (isEx k))
  | [], _ => rfl
  | t :: ts, h => by
    rw [List.any_cons, Bool.or_eq_false_iff] at h
    have e1 := C.kit k t h.1
    have e2 := kitAny_ec C k ts h.2
    rw [List.map_cons, List.any_cons]
    unfold PySem.W.kitAny
    rw [e1]
    cases q : isEx k t with
    | true => simp
    | false => simp only [Bool.false_or]; exact e2
theorem hxOk {X : Cx} {G : Gd} {a : Addr} {k : EC} (hK : G.K = X.K) (C : ClsOk G) (h : HotX X a (.ref (G.cA k))) : HxOk X (G.with a k none) := by
  obtain ⟨oe, hp, hot, hz, hf⟩ := h
  have inst : ∀ {pins : List (Addr × Obj)} {σ : L2.St} {H : Hp} {s : Shared}, Inv X pins σ H s → PySem.W.InstAt s.heap a oe (G.cA k) none := fun {pins σ H s} I => by
    obtain ⟨hget, _⟩ := I.pin (a, oe) (List.mem_append.mpr (.inl hp))
    obtain ⟨vs, hv⟩ := hf
    obtain ⟨oc, od, oda, osl⟩ := oe
    obtain ⟨h1, h2⟩ := hz
    dsimp only at h1 h2 hv
    subst h1 h2 hv
    exact ⟨hget, rfl, rfl, trivial⟩
  have kx : PySem.W.KitX X.K (.ref a) (.ref (G.cA k)) (fun h => PySem.W.InstAt h a oe (G.cA k) none) := by
    rw [← hK]
    have c := C.exc k
    exact PySem.W.handS_kitx_exc c.hg c.hk c.hs c.hd c.ha c.hn c.ht c.hm
  refine ⟨fun a' c d e t ht pins s σ H xs us Q I r ⟨e1, q⟩ => ?_, fun a' c d e ts ht pins s σ H xs us Q I r ⟨tp, e1, e2, q⟩ => ?_⟩
  · cases e
    subst e1
    obtain ⟨u1, u2, rfl, r1, r2⟩ := vals2 r
    cases r1
    have e2 := (t.cls G.cA).eq r2
    subst e2
    have ek := C.kit k t ht
    rw [hK] at ek
    exact PySem.W.kia_one kx I.kIn (inst I) ek (fun z => nomatch z) fun tk => ⟨.bl _, H, I.kept (t' := tk) fun _ _ z => z, rfl, q⟩
  · cases e
    subst e1
    obtain ⟨u1, u2, rfl, r1, r2⟩ := vals2 r
    cases r1
    cases (show u2 = Value.ref tp from r2)
    obtain ⟨_, its, rv, o, h1, h2, n, h3⟩ := (show ObjOk X.prog X.w H s.heap tp (.tup (ts.map (Ty.v G.cA))) from I.hok tp _ e2)
    have e3 := ClsV.all (paired_cls G.cA ts) rv
    subst e3
    obtain ⟨oc, od, dt, sl⟩ := o
    simp only at h2 h3
    subst h2 h3
    have ek := kitAny_ec C k ts ht
    rw [hK] at ek
    exact PySem.W.kia_tup kx I.kIn (inst I) h1 ek (fun z => nomatch z) fun tk => ⟨.bl _, H, I.kept (t' := tk) fun _ _ z => z, rfl, q⟩
/-! ### such defs -/
abbrev NoE : XK := fun _ _ _ => False
/-- what is promised there; p the handled error -/
def spH (G : Gd) (n : Nat) (f : List Val → S → MP.R Val) (p : Addr × Obj) : Sp := fun vs H Q _ => vs.length = n ∧ ∃ k w s vals, Zc (.ref (G.cA k)) none p.2 ∧ (∃ us, p.2.data = .fields us) ∧ Ok (G.with p.1 k none) w s H ∧ (∀ p, ¬ w.O p) ∧ SlotRs (G.with p.1 k none) w H vals vs ∧
  vals.all (fun v => !isOwnV v) = true ∧ EndE (G.with p.1 k none) w H (f vals s) Q NoE
structure FnHot (P : Program) (w : World) (K : PySem.W.Frag) (mg : Str → Option Value) (base : Heap) (k : Nat) (f : Addr) (fd : FuncData) (ps : List Str) (sp : Addr × Obj → Sp) : Prop where
  run : ∀ (A : Around) (outer : List PySem.Env) (s : Shared) (H : Hp) (args : Args) (us : List Value) (vs : List V) (Q : VK) (p : Addr × Obj), L2H.RoomH k A → L2H.Hot1 A p → L2H.PinOk outer H s p → Env0 P w K mg base A outer s H → BindsTo s fd args (ps.zip us) → Vals vs us →
    vs.length = ps.length → sp p vs H Q NoE → codeAny (model P w) A (.call (.ref f) args) (CR (L2N.CX P w) outer P w H s Q NoE) s
theorem FnHot.mono {P : Program} {w : World} {K : PySem.W.Frag} {mg : Str → Option Value} {base : Heap} {j k : Nat} {f : Addr} {fd : FuncData} {ps : List Str} {sp : Addr × Obj → Sp} (F : FnHot P w K mg base j f fd ps sp) (h : j ≤ k) : FnHot P w K mg base k f fd ps sp :=
  ⟨fun A outer s H args us vs Q p hr => F.run A outer s H args us vs Q p (hr.mono h)⟩
section
variable {P : Program} {w : World} {mg : Str → Option Value} {base : Heap} {k : Nat} {f : Addr} {fd : FuncData} {x qual : Str} {params : Arguments} {body : List Stmt} {scope : Scope} {N ps : List Str} {G : Gd}
theorem hot_len {G : Gd} {n : Nat} {g : List Val → S → MP.R Val} {p : Addr × Obj} : ∀ vs H Q E, (fun vs H Q E => vs.length = n ∧ spH G n g p vs H Q E : Sp) vs H Q E → vs.length = n := fun _ _ _ _ h => h.1
theorem def_H {m : MS} (F : FunD G.K x qual params body scope [] [] f fd) (S : FnScope N ps scope)
    (hb : ∀ (cdv : Value) (A : Around) (outer : List PySem.Env) (s : Shared) (H : Hp) (p : Addr × Obj) (c : EC), L2H.RoomH k (A.deeper (envOfC qual scope s.heap.objs.size f cdv)) → HotX (L2H.cxH (L2N.CX P w) P w G.K mg base N qual scope f cdv A outer s H NoE p) p.1 (.ref (G.cA c)) →
      PSs (L2H.cxH (L2N.CX P w) P w G.K mg base N qual scope f cdv A outer s H NoE p) body (tS (G.with p.1 c none) WF m)) :
    FnHot P w G.K mg base (k + 1) f fd ps (spH G ps.length (runE N.length m)) := by
  obtain ⟨oc, od, dV, kV, doc, pm, an, cdv, ct, osl, rfl, lk, hcd, _, _⟩ := F.ex
  refine ⟨fun A outer s H args us vs Q p hr hot hpin e0 hbd r hl hsp => ?_⟩
  have KX : G.K.In s.heap := e0.mod.kin.keeps fun b o e => (e0.bs b o e).1
  have lim : s.heap.NoLimit := e0.mod.nolimit.keeps fun b o e => (e0.bs b o e).1
  have hkind : ∀ y ∈ ps.zip us, scope.names.lookup y.1 = some .local ∨ (scope.names.lookup y.1 = some .cell ∧ ((cellsFrom (s.heap.objs.size + 1) scope.names []).lookup y.1).isSome = true) := fun ⟨n, v⟩ hy => by
    rcases S.par n (List.of_mem_zip hy).1 with q | q
    · exact .inl q
    · exact .inr ⟨q, PySem.W.cellsFrom_some _ _ _ (.inl q)⟩
  refine codeAny_call_function hr.depth (KX _ _ lk) rfl S.co S.gen rfl (PySem.W.codeRec_of KX hcd) (hbd _ _ _ _ ?_)
  refine wpAny_newFunctionEnv_cells S.kind hkind fun env he s1 xx => ?_
  subst he
  refine ⟨lim.keeps xx.toInCall.keep, codeAny_func ?_⟩
  obtain ⟨hl', c, w0, s0, vals, hz, hf, ok, hO, rs, ho, h⟩ := hsp
  have ht := hb cdv A outer s H p c (hr.deeper _) ⟨p.2, List.mem_cons_self, hot, hz, hf⟩
  have I := L2H.inv_startH (CX := L2N.CX P w) (E := NoE) (qual := qual) (f := f) (cd := cdv) S hpin e0 hl r xx
  refine wpAny_mono (ht.run [] s1 (L2.start N vs) H { nx := fun _ H' => Q .non H', rt := Q } I ⟨w0, s0, initE N.length vals, ok, env_start rs ho, ?_⟩) (fun fl s' hs => ?_) fun e s' hs => hs
  · have ext : ∀ {w' : Wd} {H' : Hp}, Step w0 H w' H' → (∀ p, ¬ w'.O p) → Ext w0 H w' H' := fun {w' H'} st h2 => ⟨st.al, st.bm, st.bn, by funext p; exact propext ⟨fun z => absurd z (h2 p), fun z => absurd z (hO p)⟩, fun p o h hp => st.keep p o h hp (hO p)⟩
    unfold runE at h
    cases q : m (initE N.length vals) s0 with
    | nxt e1 s1 => rw [q] at h; exact fun w' H' σ' st ok er => h (dropO w') H' .non (ext (st.trans step_drop) fun _ z => z) ok.dropO (rep_non (K := G.K) (N := (dropO w').N) (H := H'))
    | ret v s1 => rw [q] at h; exact fun w' H' u st ok hO' r => h w' H' u (ext st hO') ok r
    | brk e1 s1 => rw [q] at h; exact h.elim
    | cnt e1 s1 => rw [q] at h; exact h.elim
    | exn c y e1 s1 =>
      rw [q] at h
      intro w' H' σ' cls d st ok er ⟨ec, pay⟩
      exact h (dropO w') H' d (ext (st.trans step_drop) fun _ z => z) ok.dropO (pay.less drop_N)
    | stuck => rw [q] at h; exact h.elim
  · cases fl with
    | ret u =>
      obtain ⟨v, σ', H', J, rv, q⟩ := hs
      exact ⟨v, H', J.os, J.bare, J.base, J.hok, rv, q⟩
    | next =>
      obtain ⟨σ', H', J, q⟩ := hs
      exact ⟨.non, H', J.os, J.bare, J.base, J.hok, rfl, q⟩
    | brk => obtain ⟨_, _, _, q⟩ := hs; exact False.elim q
    | cont => obtain ⟨_, _, _, q⟩ := hs; exact False.elim q
end
/-! ### calls -/
section
variable {G : Gd} {w w1 : Wd} {s s1 : S} {H H1 : Hp}
theorem callee_N (p : Addr) : (Wd.mk w.α w.N fun _ => False).N p → w.N p := fun h => h.elim id False.elim
theorem Ok.callee (ok : Ok G w s H) : Ok G ⟨w.α, w.N, fun _ => False⟩ s H := ⟨ok.nd, ok.len, fun m xs p h1 h2 => by
  obtain ⟨us, h3, hz, h4⟩ := ok.cells m xs p h1 h2
  exact ⟨us, h3, hz, Reps.less callee_N xs h4⟩, fun p h => .inl (ok.ab p h), fun _ _ z => z, fun p h => ok.mu p (callee_N p h)⟩
theorem SlotRs.callee : ∀ {vs : List Val} {us : List V}, vs.all (fun v => !isOwnV v) = true → SlotRs G w H vs us → SlotRs G ⟨w.α, w.N, fun _ => False⟩ H vs us
  | [], us, _, h => h
  | v :: vs, us, ho, h => by
    rw [List.all_cons, Bool.and_eq_true] at ho
    obtain ⟨u, r, e, h1, h2⟩ := h
    refine ⟨u, r, e, h1.less callee_N rfl fun hv => ?_, SlotRs.callee ho.2 h2⟩
    have := ho.1
    cases v <;> first | (exact absurd this Bool.false_ne_true) | cases hv
theorem Ext.callee (ok1 : Ok G w1 s1 H1) {w' : Wd} {s' : S} {H' : Hp} (x : Ext ⟨w1.α, w1.N, fun _ => False⟩ H1 w' H') (o : Ok G w' s' H') :
    (∀ p, (Wd.mk w'.α (fun p => w'.B p ∧ ¬ w1.O p) w1.O).N p → w'.N p) ∧ Ext w1 H1 ⟨w'.α, fun p => w'.B p ∧ ¬ w1.O p, w1.O⟩ H' ∧ Ok G ⟨w'.α, fun p => w'.B p ∧ ¬ w1.O p, w1.O⟩ s' H' := by
  have hN' : ∀ p, (Wd.mk w'.α (fun p => w'.B p ∧ ¬ w1.O p) w1.O).N p → w'.N p := fun p h => by
    rcases h with h | h
    · exact .inl h.1
    · exact .inl (x.bm p (.inr h))
  refine ⟨hN', ⟨x.al, fun p h => ⟨x.bm p (.inl h), ok1.bo p h⟩, fun p h => ?_, rfl, x.keep⟩, ⟨o.nd, o.len, fun m xs p h1 h2 => ?_, fun p h => ⟨o.ab p h, fun z => ?_⟩, fun p h => h.2, fun p h => o.mu p (hN' p h)⟩⟩
  · rcases x.bn p h.1 with (z | z) | z
    · exact .inl z
    · exact absurd z h.2
    · exact .inr z
  · obtain ⟨us, h3, hz, h4⟩ := o.cells m xs p h1 h2
    exact ⟨us, h3, hz, Reps.less hN' xs h4⟩
  · obtain ⟨l, hl, nl⟩ := x.al
    have h : p ∈ w'.α := h
    rw [hl] at h
    rcases List.mem_append.mp h with h | h
    · exact ok1.bo p (ok1.ab p h) z
    · obtain ⟨o', e', _⟩ := ok1.mu p (.inr z)
      rw [nl p h] at e'; cases e'
end
section
variable {X : Cx} {G : Gd} {W : WX} {k n : Nat} {f : Addr} {fd : FuncData} {ps : List Str} {x : Str} {p pos : Pos} {e : Expr} {es : List Expr} {ml : ML} {a : Addr} {c : EC}
theorem call_H {fE : List Val → S → MP.R Val} (F : FnHot X.prog X.w X.K X.mg X.base k f fd ps (spH G n fE)) (hn : ps.length = n) (hr : L2H.RoomH k X.A) (hot : HotX X a (.ref (G.cA c))) (hg : Gl X x) (hm : X.mg x = some (.ref f)) (hk : PySem.W.keepIn X.K (.ref f) = true) (hb : Binds X.K fd ps [])
    (ha : PA X (e :: es) (tL (G.with a c none) W ml)) (hdb : (x == ("__debug__" : Str)) = false) (he : starEach (e :: es) X.env = (false, eval e X.env) :: starEach es X.env) (hpl : (backTo pos (starEach es X.env)).any (·.1) = false) :
    PE X (.Call (.Name x p) (e :: es) [] pos) (tE (G.with a c none) W (mHot (.hot n fE) ml)) := by
  refine ⟨fun pins s σ H Q I ⟨w, s0, e0, ok, er, h⟩ => ?_⟩
  refine wpAny_Call_Name_kw (ld_glob I hg hm ?_ hdb)
  obtain ⟨oe, hp, h1, hz, hf⟩ := hot
  have rd : tL (G.with a c none) W ml σ H fun vs H1 => vs.length = n ∧ spH G n fE (a, oe) vs H1 Q NoE := by
    refine ⟨w, s0, e0, ok, er, Post.bind (rel := relL (G.with a c none)) h fun w1 s1 H1 vs us x1 ok1 r1 h1 => ?_⟩
    dsimp only at h1
    split at h1
    · rename_i hl
      have hlen : us.length = n := by rw [← SlotRs.length r1]; exact hl.1
      refine ⟨hlen, hlen, c, ⟨w1.α, w1.N, fun _ => False⟩, s1, vs, hz, hf, ok1.callee, fun _ z => z, SlotRs.callee hl.2 r1, hl.2, ?_⟩
      cases q2 : fE vs s1 with
      | ok v s' =>
        rw [q2] at h1
        intro w' H' u x o r
        obtain ⟨b1, b2, b3⟩ := Ext.callee ok1 x o
        refine h1 _ H' u b2 b3 (r.less b1 rfl fun ho q _ hq => ?_)
        rw [show w'.O = fun _ => False from x.oo] at hq
        exact hq.elim
      | exn c y s' => rw [q2] at h1; exact h1.elim
      | stuck => rw [q2] at h1; exact h1.elim
    · exact h1.elim
  refine PySem.W.callWith_K (h₀ := X.base) I.ok.mod.kin hk (thn (ha.run pos pins s σ H _ I rd) fun us s1 ⟨vs, H1, I1, r, hl, q⟩ => ⟨I1.kIn, ?_⟩) he hpl
  have hl2 : us.length = ps.length := by rw [← r.length, hl, hn]
  have b := hb s1 us I1.kIn (by rw [List.append_nil]; exact hl2)
  rw [List.append_nil] at b
  have P1 := I1.pin (a, oe) (List.mem_append_left _ hp)
  have hpin : L2H.PinOk X.stack H1 s1 (a, oe) := ⟨P1.1, P1.2.1, fun hm => (List.mem_cons.mp (I1.stkSub a hm)).elim P1.2.2.1 P1.2.2.2.1, P1.2.2.2.2⟩
  refine wpAny_call (codeAny_mono (F.run X.A X.stack s1 H1 ⟨us, []⟩ us vs Q (a, oe) hr h1 hpin I1.env0 b r (by rw [hl, hn]) q) fun r s' hq => ?_)
  cases r with
  | error e => obtain ⟨a', B, H', cls, d, _, _, _, _, _, _, _, z⟩ := hq; exact z.elim
  | ok fl =>
    cases fl with
    | ret u => exact I1.after hq
    | next => exact False.elim hq
    | brk => exact False.elim hq
    | cont => exact False.elim hq
end
end MP
end

section
set_option Elab.async false
set_option linter.all false
set_option maxRecDepth 100000
set_option maxHeartbeats 4000000
/-! MP, part ox: chained comparisons, x += e, count, tables of the module, dicts of one's own. -/
namespace MP
open PySem PySem.Spec PyProof.Rows L2
section
variable {X : Cx} {G : Gd} {W : WX} {pos p : Pos} {a b c : Expr} {ma mb mc : ME} {st : Stmt} {sts : List Stmt}
theorem s_chain (hK : G.K = X.K) (hu : X.A.units + 64 < cLine) (o o' : Cmp) (ha : PE X a (tE G W ma)) (hb : PE X b (tE G W mb)) (hc : PE X c (tE G W mc)) (hm : lastMarks [o.o, o'.o] [b, c] = false) :
    PT X (.Compare a [o.o, o'.o] [b, c] pos) (tT G W (mChain o o' ma mb mc)) := by
  refine impT (pt_chain (op_rC hu o) (op_rC hu o') ha hb hc hm) fun σ H Q ⟨w, s, e, ok, er, h⟩ => ?_
  refine two (W := W) (R := fun x y H => rC X.K o x y H fun z H3 => ∃ k, z = .bl k ∧ if k = true then tE G W mc σ H3 (fun w' H4 => rC X.K o' y w' H4 fun x H' => ∃ k, x = .bl k ∧ Q k H') else ∃ k, V.bl false = .bl k ∧ Q k H3) ok er h fun w s H v v' u u' ok r r' er h => ?_
  cases q1 : rd s v with
  | none => rw [q1] at h; exact h.elim
  | some x =>
    cases q2 : rd s v' with
    | none => rw [q1, q2] at h; exact h.elim
    | some y =>
      rw [q1, q2] at h
      dsimp only at h
      cases q3 : cmpD o x y with
      | none => simp only [q3] at h; exact h.elim
      | some k =>
        simp only [q3] at h
        rw [← hK]
        refine cmp_ok (rd_ok ok r q1) (rd_ok ok r' q2) q3 ⟨k, rfl, ?_⟩
        cases k with
        | false => exact ⟨false, rfl, Post.hereB ok h⟩
        | true =>
          rw [if_pos rfl]
          have h : Post G W relB w H σ ((mc e s).bind fun z s => match rd s v', rd s z with
            | some y, some z => R.of (cmpD o' y z) s
            | _, _ => .stuck) Q := h
          refine ⟨w, s, e, ok, er, Post.bind (rel := relV G) h fun w2 s2 H2 v2 u2 x2 ok2 r2 h2 => ?_⟩
          obtain ⟨y, z, ry, rz, h2⟩ := rds_two ok2 (r'.ext ok x2) r2 h2
          obtain ⟨k, e, h2⟩ := of_ok h2
          exact cmp_ok ry rz e ⟨k, rfl, Post.hereB ok2 h2⟩
theorem s_chainV (hK : G.K = X.K) (hu : X.A.units + 64 < cLine) (o o' : Cmp) (ha : PE X a (tE G W ma)) (hb : PE X b (tE G W mb)) (hc : PE X c (tE G W mc)) (hm : lastMarks [o.o, o'.o] [b, c] = false) :
    PE X (.Compare a [o.o, o'.o] [b, c] pos) (tE G W (mBl (mChain o o' ma mb mc))) := by
  refine impE (pe_chain (op_rC hu o) (op_rC hu o') ha hb hc hm) fun σ H Q ⟨w, s, e, ok, er, h⟩ => ?_
  unfold mBl mChain at h
  have h : Post G W (relV G) w H σ ((ma e s).bind fun x s => (mb e s).bind fun y s => (match rd s x, rd s y with
  | some x, some y' => (R.of (cmpD o x y') s).bind fun k s => if k then (mc e s).bind fun z s => (match rd s y, rd s z with
    | some y, some z => R.of (cmpD o' y z) s
    | _, _ => .stuck) else .ok false s
  | _, _ => .stuck).bind fun b s => .ok (.d (.bl b)) s) Q := by
    revert h
    cases ma e s with
    | ok v s => dsimp only [R.bind_ok]; cases mb e s <;> exact id
    | exn c x s => exact id
    | stuck => exact id
  refine two (W := W) (R := fun x y H => rC X.K o x y H fun z H3 => ∃ k, z = .bl k ∧ if k = true then tE G W mc σ H3 (fun w' H4 => rC X.K o' y w' H4 Q) else Q (.bl false) H3) ok er h fun w s H v v' u u' ok r r' er h => ?_
  cases q1 : rd s v with
  | none => rw [q1] at h; exact h.elim
  | some x =>
    cases q2 : rd s v' with
    | none => rw [q1, q2] at h; exact h.elim
    | some y =>
      rw [q1, q2] at h
      dsimp only at h
      cases q3 : cmpD o x y with
      | none => simp only [q3] at h; exact h.elim
      | some k =>
        simp only [q3] at h
        rw [← hK]
        refine cmp_ok (rd_ok ok r q1) (rd_ok ok r' q2) q3 ⟨k, rfl, ?_⟩
        cases k with
        | false => exact Post.hereD ok h (rep_bl false)
        | true =>
          rw [if_pos rfl]
          have h : Post G W (relV G) w H σ ((mc e s).bind fun z s => (match rd s v', rd s z with
            | some y, some z => R.of (cmpD o' y z) s
            | _, _ => .stuck).bind fun b s => .ok (.d (.bl b)) s) Q := by
            revert h
            simp only [R.of_some, R.bind_ok, if_true]
            cases mc e s <;> exact id
          refine ⟨w, s, e, ok, er, Post.bind (rel := relV G) h fun w2 s2 H2 v2 u2 x2 ok2 r2 h2 => ?_⟩
          cases q4 : rd s2 v' with
          | none => rw [q4] at h2; exact h2.elim
          | some y2 =>
            cases q5 : rd s2 v2 with
            | none => rw [q4, q5] at h2; exact h2.elim
            | some z =>
              rw [q4, q5] at h2
              cases q6 : cmpD o' y2 z with
              | none => simp only [q6] at h2; exact h2.elim
              | some k =>
                simp only [q6] at h2
                exact cmp_ok (rd_ok ok2 (r'.ext ok x2) q4) (rd_ok ok2 r2 q5) q6 (Post.hereD ok2 h2 (rep_bl k))
/-! ### x += e -/
def augOf : Operator → Option Op
  | .Add => some .add
  | .Sub => some .sub
  | _ => none
theorem ip_aug {o : Op} {op : Operator} (h : augOf op = some o) : PIp X op (fun x y H Q => ∃ i j k, x = .int i ∧ y = .int j ∧ opI o i j = some k ∧ Q (.int k) H) := by
  intro pins s σ H x y v u Q I r1 r2 ⟨i, j, k, e1, e2, e3, q⟩
  cases op <;> cases h
  · cases e3
    exact ip_add pins s σ H x y v u Q I r1 r2 ⟨i, j, e1, e2, q⟩
  · cases e3
    exact ip_sub pins s σ H x y v u Q I r1 r2 ⟨i, j, e1, e2, q⟩
theorem s_aug {i : Nat} {x : Str} {o : Op} {op : Operator} {pos' : Pos} (ho : augOf op = some o) (hN : X.N.Nodup) (hi : X.N[i]? = some x) (hx : Loc X.env.scope x) (he : PE X a (tE G W ma)) (hf : X.fn x = true ∨ X.env.scope.names.lookup x = some .local) :
    PS X (.AugAssign (.Name x pos') op a pos) (tS G W (mAug i o ma)) := by
  refine impS (ps_aug hN hi hx he (ip_aug ho) hf) fun D σ H ⟨w, s, e, ok, er, h⟩ => ?_
  unfold mAug at h
  split at h
  · rename_i k q
    obtain ⟨u, hu, r⟩ := er.slot i _ q
    have hk := int_inv (slot_d r)
    subst hk
    refine ⟨_, hu, w, s, e, ok, er, PostS.go ok er h fun w1 s1 H1 v u x1 ok1 r1 er1 h3 => ?_⟩
    split at h3
    · rename_i l
      split at h3
      · rename_i m q2
        exact ⟨k, l, m, rfl, int_inv (slot_d r1), q2, h3 w1 H1 _ (Step.refl) ok1 (er1.setV (v := .d (.int m)) (u := .int m) i (rep_int (K := G.K) (N := w1.N) (H := H1) m) rfl)⟩
      · exact h3.elim
    · exact h3.elim
  · exact h.elim
/-! ### t.count(i) -/
def rCntT (K : PySem.W.Frag) : V → List V → Hp → VK → Prop := fun x xs H Q => ∃ (p : Addr) (ns : List Int) (k : Int), x = .ref p ∧ xs = [.int k] ∧ SqT K H p (ns.map V.int) ∧ Q (.int (ns.count k : Nat)) H
theorem mt_tcount : MtR X "tuple.count" (rCntT X.K) := by
  intro pins s σ H x xs v us Q I rx rxs h
  obtain ⟨p, ns, k, rfl, rfl, hs, q⟩ := h
  cases rx
  obtain ⟨u, rfl, ru⟩ := rxs.one
  obtain ⟨t, rfl⟩ := ru
  obtain ⟨its, rv, ⟨⟨cls, dd, data, sl⟩, ho, hc, n, hd⟩, hlen⟩ := I.tuple hs
  simp only at hc hd
  subst hc hd
  have hi := ints_of_vals rv
  refine call_meets PySem.F.slot_tuple_count ⟨_, ho, rfl⟩ PySem.F.entry_tuple_count (PySem.F.args_tuple_count_2 _ _)
    (SeqAt.tuple_countAt p its.toArray n dd sl (.int k t) (eqk k)) ⟨ho, fun y hy => (eqk_gives hi y (by simpa using hy)).at _ _, ?_⟩
  have ec : its.toArray.toList.countP (eqk k) = ns.count k := eqk_count hi
  refine ⟨.int (ns.count k : Nat), H, I.tok _, ⟨s.toks, ?_⟩, q⟩
  show Value.int ((its.toArray.toList.countP (eqk k) : Nat) : Int) s.toks = Value.int ((ns.count k : Nat) : Int) s.toks
  rw [ec]
/-- a method of a tuple whose own dict is known to be none -/
def tBQ (r : V → List V → Hp → VK → Prop) (to : TE) (t : TA) : TE := fun σ H Q => to σ H fun x H1 => (∃ (q : Addr) (o : Obj) (ys : List V), x = .ref q ∧ o.dict = none ∧ H1 q = some (.frz o (.tup ys))) ∧ t σ H1 fun xs H2 => r x xs H2 Q
theorem pe_bq {o1 e1 : Expr} {es : List Expr} {to : TE} {ta : TA} {nm : Str} {ap cp : Pos} {id : String} {r : V → List V → Hp → VK → Prop} (sl : Slot "tuple" nm id) (ty : typeOf (.builtin id) = pure (.type "method_descriptor")) (mr : MtR X id r)
    (po : PE X o1 to) (pa : PA X (e1 :: es) ta) (hb : attrOk o1 nm X.env) (hf : few X (e1 :: es) cp) (hl : (ap.endLine == cp.line) = true) (hs : starEach (e1 :: es) X.env = (false, eval e1 X.env) :: starEach es X.env) (hp : (backTo cp (starEach es X.env)).any (·.1) = false) :
    PE X (.Call (.Attribute o1 nm ap) (e1 :: es) [] cp) (tBQ r to ta) := by
  refine ⟨fun pins s σ H Q I h => ?_⟩
  refine wpAny_Call_method_late hb hf hl rfl (thn (po.run pins s σ H _ I h) fun v s1 ⟨x, H1, J, rx, ⟨q, o, ys, ex, hd, hq⟩, h1⟩ => ?_)
  subst ex
  cases rx
  obtain ⟨_, _, tt, _⟩ := J.tuple (xs := ys) (.inl (.inr ⟨o, hq⟩))
  obtain ⟨o2, g2, c2, _⟩ := tt
  have g1 : s1.heap.get? q = some o := (show s1.heap.get? q = some o ∧ ObjOk X.prog X.w H1 s1.heap q (.tup ys) from J.hok q _ hq).1
  have eo : o2 = o := by rw [g1] at g2; exact (Option.some.inj g2).symm
  subst eo
  refine ⟨"tuple", id, PySem.F.plainAttrs_tuple, sl, ty, ⟨o2, g1, c2⟩, fun z ez => by cases ez; exact ⟨o2, g1, hd⟩, ?_⟩
  have hA := pa.run cp pins s1 σ H1 _ J h1
  rw [hs] at hA ⊢
  refine Calls.callWith_builtin (by show (false || (backTo cp (starEach es X.env)).any (·.1)) = false; rw [hp]; rfl) (Calls.evalArgs_plain ?_)
  exact thn hA fun us s2 ⟨vs, H2, J2, r2, q2⟩ => mr pins s2 σ H2 (.ref q) vs (.ref q) us Q J2 rfl r2 q2
theorem s_count (hK : G.K = X.K) {apos : Pos} (ha : PE X a (tE G W ma)) (hb : PE X b (tE G W mb)) (hbase : attrOk a "count" X.env) (hf : few X [b] pos) (hl : (apos.endLine == pos.line) = true) (hs : starEach [b] X.env = (false, eval b X.env) :: starEach [] X.env) :
    PE X (.Call (.Attribute a "count" apos) [b] [] pos) (tE G W (mCount ma mb)) := by
  refine impE (pe_bq PySem.F.slot_tuple_count PySem.F.type_tuple_count mt_tcount ha (pa_cons hb pa_nil hs) hbase hf hl hs rfl) fun σ H Q ⟨w, s, e, ok, er, h⟩ => ?_
  refine ⟨w, s, e, ok, er, Post.bind (rel := relV G) h fun w1 s1 H1 v u x1 ok1 r1 h1 => ?_⟩
  split at h1
  · rename_i xs
    obtain ⟨q, vs, rfl, ⟨o, hd, hq⟩, hz, hr⟩ := rep_tuq_inv (slot_d r1)
    refine ⟨⟨q, o, vs, rfl, hd, hq⟩, w1, s1, e, ok1, er.ext ok x1, Post.bind (rel := relV G) h1 fun w2 s2 H2 v2 u2 x2 ok2 r2 h2 => ?_⟩
    split at h2
    · rename_i i
      split at h2
      · rename_i ns qn
        have r3 := slot_d (r1.ext ok1 x2)
        obtain ⟨q', vs', e', ⟨o', _, hq'⟩, _, hr'⟩ := rep_tuq_inv r3
        cases e'
        rw [ints_ok qn] at hr'
        rw [reps_int hr'] at hq'
        exact ⟨q, ns, i, rfl, by rw [int_inv (slot_d r2)], .inl (.inr ⟨o', hq'⟩), Post.hereD ok2 h2 (rep_int _)⟩
      · exact h2.elim
    · exact h2.elim
  · exact h1.elim
/-! ### a tuple whose own dict is known to be none -/
def tTuqE (t : TA) : TE := fun σ H Q => t σ H fun xs H1 => xs.length ≤ sizeLine ∧ ∀ (q : Addr) (o : Obj), H1 q = none → o.dict = none → Q (.ref q) (upd H1 q (.frz o (.tup xs)))
theorem pe_tuq {es : List Expr} {t : TA} {x1} (h : PA X es t) : PE X (.Tuple es x1 pos) (tTuqE t) := by
  refine ⟨fun pins s σ H Q I hq => ?_⟩
  refine wpAny_Tuple_spliced (thn (h.run pos pins s σ H _ I hq) fun us s1 ⟨xs, H1, J, r, hz, q⟩ => ⟨by rw [← r.length]; exact hz, ?_⟩)
  have ho : ObjOk X.prog X.w H1 (s1.heap.push { cls := .type "tuple", data := .seq us.toArray }) s1.heap.objs.size (.tup xs) := ⟨hz, us, r, IsTup.new _ _⟩
  have J2 := J.laid (t' := s1.toks) (o := .frz { cls := .type "tuple", data := .seq us.toArray } (.tup xs)) (fun _ _ e => Heap.get?_push_of_some _ e) (Nat.le_refl _) ⟨Heap.get?_push_size _ rfl, ho⟩
  exact ⟨.ref s1.heap.objs.size, _, J2, rfl, q _ _ (J.hok.fresh (Nat.le_refl _)) rfl⟩
theorem s_tuq {es : List Expr} {ms : ML} {x1} (hl : PA X es (tL G W ms)) : PE X (.Tuple es x1 pos) (tE G W (mTuq ms)) := by
  refine impE (pe_tuq hl) fun σ H Q ⟨w, s, e, ok, er, h⟩ => ?_
  refine ⟨w, s, e, ok, er, Post.bind (rel := relL G) h fun w1 s1 H1 v u x1 ok1 r1 h1 => ?_⟩
  cases q : datas v with
  | none => rw [q] at h1; exact h1.elim
  | some xs =>
    rw [q] at h1
    dsimp only at h1
    split at h1
    · rename_i hl
      have r := datas_rep r1 q
      rw [r.length] at hl
      exact ⟨by rw [← line_eq]; exact hl, Post.newQ ok1 h1 r hl⟩
    · exact h1.elim
/-! ### a table of the module -/
/-- the table at x -/
def TabAt (X : Cx) (K : PySem.W.Frag) (x : Str) (kvs : List (Str × D)) : Prop := ∃ a : Addr, X.mg x = some (.ref a) ∧ ∀ z y, kvs.lookup z = some y → ∀ (N : Addr → Prop) (H : Hp), ∃ v, KDct X.K X.w a z v ∧ Rep K N H y v
theorem s_tab {x : Str} {p1 : Pos} {kvs : List (Str × D)} (ht : TabAt X G.K x kvs) (hg : Gl X x) (hd : (x == ("__debug__" : Str)) = false) (hs : PlainIx a) (ha : PE X a (tE G W ma)) : PE X (.Subscript (.Name x p1) a pos) (tE G W (mTab kvs ma)) := by
  obtain ⟨ad, hm, hk⟩ := ht
  refine impE (pe_ix ix_kdict (pe_glob (v := .ref ad) hg hm rfl hd) ha hs) fun σ H Q ⟨w, s, e, ok, er, h⟩ => ?_
  refine ⟨w, s, e, ok, er, Post.bind (rel := relV G) h fun w1 s1 H1 v u x1 ok1 r1 h1 => ?_⟩
  split at h1
  · rename_i z
    split at h1
    · rename_i y q
      obtain ⟨v, k1, k2⟩ := hk z y q w1.N H1
      exact ⟨ad, z, v, rfl, str_inv (slot_d r1), k1, Post.hereD ok1 h1 k2⟩
    · exact h1.elim
  · exact h1.elim
/-! ### dicts of one's own -/
variable {w w1 : Wd} {s : S} {H H1 : Hp} {e : Env} {σ : L2.St} {q : Addr}
theorem EnvR.lastO (L : Last w.N w1.N H H1) (ha : w1.α = w.α) (hO : ∀ q, w.O q → w1.O q) (hk : ∀ q o, H q = some o → w.O q → H1 q = some o) (er : EnvR G w H e σ) : EnvR G w1 H1 e σ := by
  refine ⟨er.len, fun i v hv => ?_, er.sep⟩
  obtain ⟨u, h1, h2⟩ := er.slot i v hv
  refine ⟨u, h1, ?_⟩
  cases v with
  | d y => exact Rep.last L y h2
  | ref n => obtain ⟨q, e1, e2⟩ := h2; exact ⟨q, ha ▸ e1, e2⟩
  | own xs => obtain ⟨q, vs, e1, ho, e2, hz, e3⟩ := h2; exact ⟨q, vs, e1, hO q ho, hk q _ e2 ho, hz, Reps.last L xs e3⟩
  | snap xs => obtain ⟨q, vs, e1, ho, e2, hz, e3⟩ := h2; exact ⟨q, vs, e1, hO q ho, hk q _ e2 ho, hz, Reps.last L xs e3⟩
  | ownT ks xs => obtain ⟨q, vs, e1, ho, e2, hk', hz, e3⟩ := h2; exact ⟨q, vs, e1, hO q ho, hk q _ e2 ho, hk', hz, Reps.last L xs e3⟩
  | exc c y => obtain ⟨a, d, e1, e2, e3⟩ := h2; exact ⟨a, d, e1, e2, e3.last L⟩
  | scr ns =>
    obtain ⟨q, e1, e2, hz⟩ := h2
    refine ⟨q, e1, ?_, hz⟩
    rcases e2 with ⟨o, e2⟩ | e2
    · exact .inl ⟨o, frz.last L e2⟩
    · exact .inr e2
/-- a new object is one's own -/
theorem Ok.newO (ok : Ok G w s H) (hn : H q = none) {o : HO} (n1 : ∀ xs, o ≠ .tup xs) (n2 : ∀ ob u, o ≠ .frz ob u) :
    Ok G { w with O := fun r => w.O r ∨ r = q } s (upd H q o) ∧ Last w.N (Wd.mk w.α w.B fun r => w.O r ∨ r = q).N H (upd H q o) ∧ Step w H { w with O := fun r => w.O r ∨ r = q } (upd H q o) := by
  have nb : ¬ w.N q := ok.notN hn
  have L : Last w.N (Wd.mk w.α w.B fun r => w.O r ∨ r = q).N H (upd H q o) := by
    refine ⟨fun r u h _ => grow_upd hn r u h, fun r h => ?_, ok.mu⟩
    rcases h with h | h | h
    · exact .inl (.inl h)
    · exact .inl (.inr h)
    · subst h; exact .inr hn
  refine ⟨⟨ok.nd, ok.len, fun n xs r h1 h2 => ?_, ok.ab, fun r hb hr => ?_, fun r hr => ?_⟩, L, ⟨⟨[], by simp, by simp⟩, fun _ h => h, fun _ h => .inl h, fun r h => ?_, fun r u h _ _ => grow_upd hn r u h, fun r hr => ?_⟩⟩
  · obtain ⟨vs, h3, hz, h4⟩ := ok.cells n xs r h1 h2
    exact ⟨vs, grow_upd hn r _ h3, hz, Reps.last L xs h4⟩
  · rcases hr with hr | hr
    · exact ok.bo r hb hr
    · subst hr; exact nb (.inl hb)
  · by_cases e : r = q
    · subst e; exact ⟨o, upd_same, n1, n2⟩
    · have hr' : w.N r := by
        rcases hr with h | h | h
        · exact .inl h
        · exact .inr h
        · exact absurd h e
      obtain ⟨u, e1, e2⟩ := ok.mu r hr'
      exact ⟨u, by rw [upd_ne e]; exact e1, e2⟩
  · rcases h with h | h
    · exact .inl h
    · subst h; exact .inr hn
  · by_cases e : r = q
    · subst e; exact hn
    · rw [upd_ne e] at hr; exact hr
theorem s_asgE {i : Nat} {x : Str} {pos' : Pos} (hN : X.N.Nodup) (hi : X.N[i]? = some x) (hx : Loc X.env.scope x) (hs : swapsWith (.Dict [] [] p) (some (.Name x pos')) pos.line X.env = pure false) (hf : X.fn x = true ∨ X.env.scope.names.lookup x = some .local) :
    PS X (.Assign [.Name x pos'] (.Dict [] [] p) pos) (tS G W (mAsgE i)) := impS (ps_set hN hi hx pe_dnewT hs hf) fun D σ H ⟨w, s, e, ok, er, h⟩ => by
  intro q hn
  obtain ⟨ok2, L, st⟩ := ok.newO hn (o := .dT []) (fun xs h => by cases h) (fun ob u h => by cases h)
  have er2 := er.lastO (w1 := Wd.mk w.α w.B fun r => w.O r ∨ r = q) L rfl (fun _ h => .inl h) (fun r o h _ => grow_upd hn r o h)
  refine h _ _ _ st ok2 (er2.setG i ⟨q, [], rfl, .inr rfl, upd_same, rfl, ⟨Nat.zero_le _, fun k hk => by cases hk⟩, .nil⟩ fun j v hj hv hov z => ?_)
  obtain ⟨u, h1, h2⟩ := er.slot j v hv
  rw [z] at h1
  cases h1
  cases v with
  | own ys => obtain ⟨r, _, e1, ho, _⟩ := h2; cases e1; exact ok.notN hn (.inr ho)
  | snap ys => obtain ⟨r, _, e1, ho, _⟩ := h2; cases e1; exact ok.notN hn (.inr ho)
  | ownT ks ys => obtain ⟨r, _, e1, ho, _⟩ := h2; cases e1; exact ok.notN hn (.inr ho)
  | _ => cases hov
theorem keys_rep {N : Addr → Prop} : ∀ {ds : List D} {k : List Key} {vs : List V}, keysOfD ds = some k → Reps G.K N H ds vs → vs = k.map kV
  | [], k, vs, h, r => by cases h; unfold Reps at r; exact r
  | d :: ds, k, vs, h, r => by
    unfold Reps at r
    obtain ⟨v, r', rfl, h1, h2⟩ := r
    unfold keysOfD at h
    cases d with
    | int i =>
      dsimp only [keyOfD] at h
      cases q : keysOfD ds with
      | none => rw [q] at h; cases h
      | some k' =>
        rw [q] at h; cases h
        unfold Rep at h1
        rw [h1, keys_rep q h2]; rfl
    | str i =>
      dsimp only [keyOfD] at h
      cases q : keysOfD ds with
      | none => rw [q] at h; cases h
      | some k' =>
        rw [q] at h; cases h
        unfold Rep at h1
        rw [h1, keys_rep q h2]; rfl
    | _ => cases h
theorem keysOf_len : ∀ {ds : List D} {k : List Key}, keysOfD ds = some k → k.length = ds.length
  | [], k, h => by cases h; rfl
  | d :: ds, k, h => by
    unfold keysOfD at h
    split at h
    · cases q : keysOfD ds with
      | none => rw [q] at h; cases h
      | some k' => rw [q] at h; cases h; rw [List.length_cons, List.length_cons, keysOf_len q]
    · cases h
theorem put_map {N : Addr → Prop} {k : List Key} {x : D} {u : V} (r : Rep G.K N H x u) : ∀ {kvs : List (List Key × V)} {xs : List D}, Reps G.K N H xs (kvs.map fun (q : List Key × V) => q.2) →
    Reps G.K N H (((kvs.map fun (q : List Key × V) => q.1).zip xs).map fun q => if q.1 = k then x else q.2) ((kvs.map fun kv => if kv.1 = k then (kv.1, u) else kv).map fun (q : List Key × V) => q.2)
  | [], xs, h => by unfold Reps; rfl
  | p :: kvs, xs, h => by
    cases xs with
    | nil => unfold Reps at h; cases h
    | cons y ys =>
      unfold Reps at h
      obtain ⟨v, r', e, h1, h2⟩ := h
      cases e
      refine .cons ?_ (put_map r h2)
      by_cases hk : p.1 = k
      · dsimp only
        rw [if_pos hk, if_pos hk]; exact r
      · dsimp only
        rw [if_neg hk, if_neg hk]; exact h1
theorem put_rep {N : Addr → Prop} {k : List Key} {x : D} {u : V} (r : Rep G.K N H x u) {kvs : List (List Key × V)} {xs : List D} (h : Reps G.K N H xs (kvs.map fun (q : List Key × V) => q.2)) :
    (putK kvs k u).map (fun (q : List Key × V) => q.1) = (putT (kvs.map fun (q : List Key × V) => q.1) xs k x).1 ∧ Reps G.K N H (putT (kvs.map fun (q : List Key × V) => q.1) xs k x).2 ((putK kvs k u).map fun (q : List Key × V) => q.2) := by
  have e : ((kvs.map fun (q : List Key × V) => q.1).any fun l => decide (l = k)) = kvs.any fun kv => decide (kv.1 = k) := by
    rw [List.any_map]; rfl
  unfold putT putK
  rw [e]
  split
  · refine ⟨?_, put_map r h⟩
    rw [List.map_map]
    refine List.map_congr_left fun kv _ => ?_
    dsimp only [Function.comp]
    split <;> rfl
  · rw [List.map_append, List.map_append]
    exact ⟨rfl, h.append (.one r)⟩
theorem put_len {k : List Key} {u : V} {kvs : List (List Key × V)} : (putK kvs k u).length ≤ kvs.length + 1 := by
  unfold putK
  split
  · rw [List.length_map]; omega
  · rw [List.length_append]; exact Nat.le_refl _
theorem putT_len {k : List Key} {ks : List (List Key)} {xs : List D} {x : D} (h : ∀ l ∈ ks, l.length ≤ line) (hk : k.length ≤ line) : ∀ l ∈ (putT ks xs k x).1, l.length ≤ line := by
  intro l hl
  unfold putT at hl
  split at hl
  · exact h l hl
  · rcases List.mem_append.mp hl with hl | hl
    · exact h l hl
    · rw [List.mem_singleton.mp hl]; exact hk
theorem ownT_of {w : Wd} {H : Hp} {e : Env} {i : Nat} {f : List (List Key) → List D → F} {D : Ends} (h : PostS G W w H (match e[i]? with
    | some (some (.ownT ks xs)) => f ks xs
    | _ => .stuck) D) : ∃ ks xs, e[i]? = some (some (.ownT ks xs)) ∧ PostS G W w H (f ks xs) D := by
  split at h
  · rename_i ks xs q; exact ⟨ks, xs, q, h⟩
  · exact h.elim
theorem s_setT {i : Nat} {x : Str} {p1 p2 p4 : Pos} {j : Expr} {mj : ME} {p3 : Pos} (hu : X.A.units + 1 < cLine) (hN : X.N[i]? = some x) (hv : Vis X.env.scope x) (hd : (x == ("__debug__" : Str)) = false) (hcd : (x == ("__classdict__" : Str)) = false)
    (ha : PE X a (tE G W ma)) (hj : PE X j (tE G W mj)) (hg : Gl X "tuple") (hm : X.mg "tuple" = none) (hst : starEach [j] X.env = (false, eval j X.env) :: starEach [] X.env) (hK : G.K = X.K)
    (hsw : swapsWithSole [.Subscript (.Name x p1) (.Call (.Name "tuple" p2) [j] [] p4) p3] a pos.line X.env = pure false) (hw : swappedStores [.Subscript (.Name x p1) (.Call (.Name "tuple" p2) [j] [] p4) p3] a X.env = pure none)
    (hasg : ∀ v, assign (.Subscript (.Name x p1) (.Call (.Name "tuple" p2) [j] [] p4) p3) X.env v = (do
      let ov ← holding [v] (eval (.Name x p1) X.env)
      let iv ← holding [v, ov] (eval (.Call (.Name "tuple" p2) [j] [] p4) X.env)
      standAt p3
      holding [v, ov, iv] (setItem ov iv v)
      release [v, ov, iv] [])) : PS X (.Assign [.Subscript (.Name x p1) (.Call (.Name "tuple" p2) [j] [] p4) p3] a pos) (tS G W (mSetT i mj ma)) := by
  have pa : PA X [j] (tCons (tE G W mj) tNil) := pa_cons hj pa_nil hst
  have pt := pe_callTy (pos := p4) (p := p2) (cr_b1 (X := X) .tuple (fun h => nomatch h)) hg hm (by decide +kernel) pa (by decide +kernel) (by decide +kernel) hst rfl
  refine impS (ps_asg ha (pg_sub (pe_var hN hv hd hcd) pt (set_dict hu) hasg) hsw hw rfl) fun D σ H ⟨w, s, e, ok, er, h⟩ => ?_
  refine ⟨w, s, e, ok, er, PostS.go ok er h fun w1 s1 H1 v u x1 ok1 r1 er1 h3 => ?_⟩
  obtain ⟨ks, xs, q, h3⟩ := ownT_of h3
  obtain ⟨u0, hu0, pd, kvs, rfl, ho, h1, hk, hz, h2⟩ := er1.slot i _ q
  refine ⟨.ref pd, hu0, w1, s1, e, ok1, er1, PostS.go ok1 er1 h3 fun w2 s2 H2 v2 u2 x2 ok2 r2 er2 h4 => ?_⟩
  have r1 := r1.ext ok1 x2
  cases v with
  | d y =>
    cases v2 with
    | d z =>
      cases z with
      | lst ds =>
        cases qk : keysOfD ds with
        | none => simp only [qk] at h4; exact h4.elim
        | some k =>
          simp only [qk] at h4
          split at h4
          · rename_i hl
            have rl : Rep G.K w2.N H2 (.lst ds) u2 := r2
            unfold Rep at rl
            obtain ⟨pl, vs, rfl, _, hpl, hvz, hr⟩ := rl
            have hvs := keys_rep qk hr
            subst hvs
            refine ⟨pl, _, rfl, .inl ⟨.inl (.inl hpl), fun l hl2 => ?_⟩⟩
            obtain ⟨ok3, x3⟩ := ok2.grow (grow_upd (o := .tup (k.map kV)) hl2)
            have er3 := er2.ext ok2 x3
            obtain ⟨u3, hu3, pd3, kvs3, e3, ho3, hd3, hk3, ⟨hz3, hkz3⟩, hr3⟩ := er3.slot i _ q
            rw [hu0] at hu3
            cases hu3
            cases e3
            have hlen : kvs3.length < line := by
              have z := congrArg List.length hk3
              rw [List.length_map] at z
              rw [z]; exact hl.1
            obtain ⟨ok4, L4, st4⟩ := ok3.putG ho3 (.dT (putK kvs3 k u)) (fun xs h => by cases h) (fun ob u h => by cases h)
            obtain ⟨g1, g2⟩ := put_rep (k := k) (kvs := kvs3) (r1.ext ok2 x3 : Rep G.K w2.N _ y u) hr3
            rw [hk3] at g1 g2
            refine ⟨pd, _, rfl, DPut.t hd3 upd_same (by rw [← line_eq]; exact hlen), ?_⟩
            refine h4 w2 _ σ ((x3.step ok3).trans st4) ok4 (er3.putG ok3 q rfl hu0 ho3 L4 ⟨pd, putK kvs3 k u, rfl, ho3, upd_same, g1, ⟨Nat.le_trans put_len hlen, putT_len hkz3 (by rw [keysOf_len qk]; exact hl.2)⟩, Reps.last L4 _ g2⟩)
          · exact h4.elim
      | _ => exact h4.elim
    | _ => exact h4.elim
  | _ => exact h4.elim
end
end MP
end

section
set_option Elab.async false
set_option linter.all false
set_option maxRecDepth 100000
set_option maxHeartbeats 4000000
/-! MP, part p: from the text to its meaning: expressions. -/
namespace MP
open PySem PySem.Spec PyProof.Rows L2
abbrev Nm := List (Str × NameKind)
/-- what is known of a place in the text -/
structure Inf where
  N : List Str
  sc : Nm
  own : Nm
  hot : Bool
  T : Str → FK
  cls : Str → Option EC
  glo : Str → Option D
  gd : Str → Option (List (Str × D))
  tq : List Nat
  bl : List Str
def idx : List Str → Str → Option Nat
  | [], _ => none
  | y :: r, x => if y = x then some 0 else (idx r x).map (· + 1)
theorem idx_ok : ∀ {l : List Str} {x : Str} {i : Nat}, idx l x = some i → l[i]? = some x
  | [], x, i, h => by cases h
  | y :: r, x, i, h => by
    unfold idx at h
    split at h
    · rename_i e; cases h; rw [e]; rfl
    · cases q : idx r x with
      | none => rw [q] at h; cases h
      | some j =>
        rw [q] at h
        cases h
        show r[j]? = some x
        exact idx_ok q
def okName (x : Str) : Bool := !(x == ("__debug__" : Str)) && !(x == ("__classdict__" : Str))
def Inf.vis (Γ : Inf) (x : Str) : Option Nat := if okName x then (match Γ.sc.lookup x with
  | some .local => idx Γ.N x
  | some .cell => idx Γ.N x
  | some .free => idx Γ.N x
  | _ => none) else none
def Inf.gl (Γ : Inf) (x : Str) : Bool := decide (Γ.sc.lookup x = some .globalImplicit) && okName x
def Inf.blt (Γ : Inf) (x : Str) : Bool := Γ.gl x && decide (x ∈ Γ.bl)
/-- a name that may be set here -/
def Inf.st (Γ : Inf) (x : Str) : Option Nat := match Γ.own.lookup x with
  | some .local => idx Γ.N x
  | some .cell => idx Γ.N x
  | _ => none
def noStar : Expr → Bool
  | .Starred .. => false
  | _ => true
def noCall : Expr → Bool
  | .Call .. => false
  | _ => true
def noSlice : Expr → Bool
  | .Slice .. => false
  | _ => true
def plainT : Expr → Bool
  | .UnaryOp .Not _ _ => false
  | .BoolOp .. => false
  | .IfExp .. => false
  | .Compare .. => false
  | _ => true
def isNone : Expr → Bool
  | .Constant .none _ _ => true
  | _ => false
def opOf : Operator → Option Op
  | .Add => some .add | .Sub => some .sub | .Mult => some .mul | .FloorDiv => some .fdiv | .Mod => some .mod | .Pow => some .pow | .LShift => some .shl | .RShift => some .shr | .BitAnd => some .band | .BitOr => some .bor | .BitXor => some .bxor
  | _ => none
theorem opOf_ok {o : Operator} {k : Op} (h : opOf o = some k) : o = k.o := by cases o <;> first | (cases h; rfl) | cases h
def cmpOf : CmpOp → Option Cmp
  | .Lt => some .lt | .LtE => some .le | .Gt => some .gt | .GtE => some .ge | .Eq => some .eq | .NotEq => some .ne | .In => some .in_ | .NotIn => some .notin
  | _ => none
theorem cmpOf_ok {o : CmpOp} {k : Cmp} (h : cmpOf o = some k) : o = k.o := by cases o <;> first | (cases h; rfl) | cases h
def b1B : List (Str × B1) := [("len", .len), ("int", .int), ("bool", .bool), ("str", .str), ("abs", .abs), ("tuple", .tuple), ("list", .list), ("sum", .sum), ("sorted", .sorted), ("all", .all), ("any", .any), ("max", .max), ("min", .min)]
def tyB : List (Str × Ty) := [("int", .int), ("bool", .bool), ("str", .str), ("list", .list), ("tuple", .tuple), ("dict", .dict), ("ValueError", .valueError)]
def Inf.ty (Γ : Inf) : Expr → Option Ty
  | .Name x _ => if Γ.blt x then tyB.lookup x else if Γ.gl x then (Γ.cls x).map .ec else none
  | _ => none
def Inf.tys (Γ : Inf) : List Expr → Option (List Ty)
  | [] => some []
  | e :: r => (Γ.ty e).bind fun t => (Γ.tys r).map (t :: ·)
/-- a block's names -/
def relN (names sc : Nm) : Nm := names.map fun (n, k) => if k = .free ∧ sc.lookup n = some .cell then (n, .cell) else (n, k)
def ownOf (N : List Str) : Nm → List (Str × Nat)
  | [] => []
  | (n, k) :: r => if k = .local ∨ k = .cell then (match idx N n with
    | some i => (n, i) :: ownOf N r
    | none => ownOf N r) else ownOf N r
def Inf.blk (Γ : Inf) (scope : Scope) : Inf := { Γ with sc := relN scope.names Γ.sc, own := scope.names }
def Inf.tg (Γ : Inf) : Expr → Option Tg
  | .Name x _ => (Γ.st x).map .nm
  | .Tuple es _ _ => if Γ.hot then none else (go es).map .tp
  | _ => none
where go : List Expr → Option (List Nat)
  | [] => some []
  | .Name x _ :: r => (Γ.st x).bind fun i => (go r).map (i :: ·)
  | _ => none
structure CF where
  e : Inf → Expr → Option ME
  t : Inf → Expr → Option MT
  l : Inf → List Expr → Option ML
  i : Inf → Expr → Option MI
  r : Inf → Expr → Option MI
def stC (c : CF) (Γ : Inf) (a : Expr) (op : CmpOp) (b : Expr) : Option MT := match op with
  | .Is => if isNone b then (c.e Γ a).map mIsN else none
  | .IsNot => if isNone b then (c.e Γ a).map mNotN else none
  | op => (cmpOf op).bind fun o => if behindInMarks o.o b = false then (c.e Γ a).bind fun ma => (c.e Γ b).map fun mb => mCmp o ma mb else none
/-- a o b o' d -/
def stCh (c : CF) (Γ : Inf) (a : Expr) (op op' : CmpOp) (b d : Expr) : Option MT := (cmpOf op).bind fun o => (cmpOf op').bind fun o' =>
  if lastMarks [o.o, o'.o] [b, d] = false then (c.e Γ a).bind fun ma => (c.e Γ b).bind fun mb => (c.e Γ d).map fun md => mChain o o' ma mb md else none
def isTupleE : Expr → Option (List Expr)
  | .Tuple es _ _ => some es
  | _ => none
def stCall (c : CF) (Γ : Inf) (x : Str) (args : List Expr) : Option ME :=
  if Γ.blt x then (match args with
    | [a] => if noStar a then (match (if Γ.hot then none else c.r Γ a) with
      | some mi => if x = ("tuple" : Str) then some (mTupI mi) else if x = ("list" : Str) then some (mLstI mi) else none
      | none => (b1B.lookup x).bind fun f => if f.walks && Γ.hot then none else (c.e Γ a).map (mB1 f)) else none
    | [a, b] => if noStar a && noStar b then
        (if x = ("isinstance" : Str) then (match isTupleE b with
          | some es => (Γ.tys es).bind fun ts => if es.all noStar && decide (ts.length ≤ 100) then (c.e Γ a).map fun ma => mBl (mIsIs ma ts) else none
          | none => (Γ.ty b).bind fun t => (c.e Γ a).map fun ma => mBl (mIsI ma t))
        else if Γ.hot then none else if x = ("min" : Str) then (c.e Γ a).bind fun ma => (c.e Γ b).map fun mb => mMin2 ma mb
        else if x = ("max" : Str) then (c.e Γ a).bind fun ma => (c.e Γ b).map fun mb => mMax2 ma mb else none) else none
    | _ => none)
  else if Γ.gl x && args.all noStar then (c.l Γ args).bind fun ml => (match Γ.T x with
    | .hot n f => if Γ.hot && !args.isEmpty then some (mHot (.hot n f) ml) else none
    | .none => none
    | fk => if Γ.hot then none else some (mCall fk ml)) else none
def stMeth (c : CF) (Γ : Inf) (a : Expr) (m : Str) (el : Bool) (args : List Expr) : Option ME :=
  if noCall a && el then (match args with
    | [] => if m = ("split" : Str) then (c.e Γ a).map mWords else none
    | [b] => if noStar b then (if m = ("count" : Str) then (c.e Γ a).bind fun ma => (c.e Γ b).map fun mb => mCount ma mb
        else if m = ("join" : Str) then (c.e Γ a).bind fun ma => (c.e Γ b).map fun mb => mJoin ma mb
        else if m = ("split" : Str) then (c.e Γ a).bind fun ma => (c.e Γ b).map fun mb => mSplit ma mb else none) else none
    | _ => none) else none
def blkOk (Γ : Inf) (scope : Scope) : Bool := blkC Γ.N { scope with names := Γ.sc } scope (ownOf Γ.N scope.names)
def tgIn (own : List (Str × Nat)) (tg : Tg) : Bool := (tgSlots tg).all fun i => decide (i ∈ own.map fun (q : Str × Nat) => q.2)
def stLc (c : CF) (Γ : Inf) (elt tg iter : Expr) (ifs : List Expr) (scope : Scope) : Option ME :=
  if blkOk Γ scope then (c.i Γ iter).bind fun mi => ((Γ.blk scope).tg tg).bind fun tgm => (c.e (Γ.blk scope) elt).bind fun me =>
    (match ifs with
      | [] => some mYes
      | [f] => c.t (Γ.blk scope) f
      | _ => none).bind fun mt => if tgIn (ownOf Γ.N scope.names) tgm then some (mLc ((ownOf Γ.N scope.names).map fun (q : Str × Nat) => q.2) tgm mi mt me) else none
  else none
def stO (c : CF) (Γ : Inf) : Option Expr → Option (Option ME)
  | none => some none
  | some e => (c.e Γ e).map some
def stTab (Γ : Inf) : Expr → Option (List (Str × D))
  | .Name x _ => if Γ.gl x then Γ.gd x else none
  | _ => none
def stSub (c : CF) (Γ : Inf) (a b : Expr) : Option ME := match b with
  | .Slice none none (some (.UnaryOp .USub (.Constant (.int 1) _ _) _)) _ => (c.e Γ a).map mRev
  | .Slice lo hi none _ => (c.e Γ a).bind fun ma => (stO c Γ lo).bind fun ml => (stO c Γ hi).map fun mh => mSl ma ml mh
  | .Slice .. => none
  | b => match stTab Γ a with
    | some kvs => (c.e Γ b).map fun mb => mTab kvs mb
    | none => (c.e Γ a).bind fun ma => (c.e Γ b).map fun mb => mIx ma mb
def stBool (c : CF) (Γ : Inf) (op : BoolOp) (pos : Pos) : List Expr → Option ME
  | [a] => c.e Γ a
  | a :: b :: r => (c.e Γ a).bind fun ma => (c.e Γ (.BoolOp op (b :: r) pos)).map fun mb => match op with
    | .And => mAndV ma mb
    | .Or => mOrV ma mb
  | [] => none
def stE (c : CF) (Γ : Inf) : Expr → Option ME
  | .Constant (.int i) _ _ => some (mCon (.int i))
  | .Constant (.bool b) _ _ => some (mCon (.bl b))
  | .Constant (.str s) _ _ => some (mCon (.str s))
  | .Constant .none _ _ => some (mCon .non)
  | .Name x _ => (match Γ.vis x with
    | some i => some (mVar i)
    | none => if Γ.gl x then (Γ.glo x).map mCon else none)
  | .BinOp a o b _ => (opOf o).bind fun o => (c.e Γ a).bind fun ma => (c.e Γ b).map fun mb => mBin o ma mb
  | .UnaryOp .USub a _ => (c.e Γ a).map mNeg
  | .UnaryOp .Not a _ => (c.e Γ a).map fun m => mBl (mNot (mTru m))
  | .Compare a [op] [b] _ => (stC c Γ a op b).map mBl
  | .Compare a [op, op'] [b, d] _ => (stCh c Γ a op op' b d).map mBl
  | .BoolOp op es pos => stBool c Γ op pos es
  | .IfExp t a b _ => (c.t Γ t).bind fun mt => (c.e Γ a).bind fun ma => (c.e Γ b).map fun mb => mIfE mt ma mb
  | .Tuple es _ p => (c.l Γ es).map (if p.line ∈ Γ.tq then mTuq else mTup)
  | .List es _ => (c.l Γ es).map mLst
  | .Dict [] [] _ => some mDic0
  | .Subscript a b _ => stSub c Γ a b
  | .ListComp elt [⟨tg, iter, ifs, 0⟩] scope _ => stLc c Γ elt tg iter ifs scope
  | .Call (.Name x _) args [] _ => stCall c Γ x args
  | .Call (.Attribute a m apos) args [] pos => stMeth c Γ a m (apos.endLine == pos.line) args
  | _ => none
def stBT (c : CF) (Γ : Inf) (op : BoolOp) (pos : Pos) : List Expr → Option MT
  | [a] => c.t Γ a
  | a :: b :: r => (c.t Γ a).bind fun ma => (c.t Γ (.BoolOp op (b :: r) pos)).map fun mb => match op with
    | .And => mAnd ma mb
    | .Or => mOr ma mb
  | [] => none
def stT (c : CF) (Γ : Inf) : Expr → Option MT
  | .BoolOp op es pos => stBT c Γ op pos es
  | .UnaryOp .Not a _ => (c.t Γ a).map mNot
  | .Compare a [op] [b] _ => stC c Γ a op b
  | .Compare a [op, op'] [b, d] _ => stCh c Γ a op op' b d
  | e => if plainT e then (c.e Γ e).map mTru else none
def stL (c : CF) (Γ : Inf) : List Expr → Option ML
  | [] => some mNil
  | a :: r => if noStar a then (c.e Γ a).bind fun ma => (c.l Γ r).map fun mr => mCons ma mr else none
def stR (c : CF) (Γ : Inf) : Expr → Option MI
  | .Call (.Name x _) [a] [] _ => if Γ.blt x && decide (x = ("range" : Str)) && noStar a then (c.e Γ a).map mRg1 else none
  | .Call (.Name x _) [a, b] [] _ => if Γ.blt x && decide (x = ("range" : Str)) && noStar a && noStar b then (c.e Γ a).bind fun ma => (c.e Γ b).map fun mb => mRg2 ma mb else none
  | _ => none
def noSet : Expr → Bool
  | .Set .. => false
  | _ => true
def stI (c : CF) (Γ : Inf) (e : Expr) : Option MI := match c.r Γ e with
  | some mi => if Γ.hot then (match e with
    | .Call (.Name _ _) [_] [] _ => some mi
    | _ => none) else some mi
  | none => if Γ.hot || !noSet e then none else (c.e Γ e).map mItV
def cf : Nat → CF
  | 0 => ⟨fun _ _ => none, fun _ _ => none, fun _ _ => none, fun _ _ => none, fun _ _ => none⟩
  | n + 1 => ⟨stE (cf n), stT (cf n), stL (cf n), stI (cf n), stR (cf n)⟩
end MP
end

section
set_option Elab.async false
set_option linter.all false
set_option maxRecDepth 100000
set_option maxHeartbeats 4000000
/-! MP, part q: the meaning is right: expressions. -/
namespace MP
open PySem PySem.Spec PyProof.Rows L2
/-- a def of the table keeps its promise -/
def FnFact (P : Program) (w : World) (mg : Str → Option Value) (base : Heap) (G : Gd) (k : Nat) (x : Str) : FK → Prop
  | .pure n f => ∃ a fd ps, ps.length = n ∧ FnOk P w G.K mg base (L2N.CX P w) k a fd ps (spP G n f) ∧ mg x = some (.ref a) ∧ PySem.W.keepIn G.K (.ref a) = true ∧ Binds G.K fd ps []
  | .eff n f => ∃ a fd ps, ps.length = n ∧ FnOk P w G.K mg base (L2N.CX P w) k a fd ps (spE G n f) ∧ mg x = some (.ref a) ∧ PySem.W.keepIn G.K (.ref a) = true ∧ Binds G.K fd ps []
  | .hot n f => ∃ a fd ps, ps.length = n ∧ FnHot P w G.K mg base k a fd ps (spH G n f) ∧ mg x = some (.ref a) ∧ PySem.W.keepIn G.K (.ref a) = true ∧ Binds G.K fd ps []
  | .none => True
/-- a place in the text, as it is reached -/
structure Ctx (Γ : Inf) (k : Nat) (G0 : Gd) (X : Cx) (G : Gd) (W : WX) : Prop where
  N : X.N = Γ.N
  nd : Γ.N.Nodup
  kind : X.env.scope.kind = .function
  sc : X.env.scope.names = Γ.sc
  K : G0.K = X.K
  h0 : G0.hx = none
  cold : Γ.hot = false → G = G0 ∧ X.calm = true ∧ Room k X.A ∧ L2N.Takes X W
  warm : Γ.hot = true → ∃ a c, G = G0.with a c none ∧ HotX X a (.ref (G0.cA c))
  hx : HxOk X G
  roomH : L2H.RoomH k X.A
  st : ∀ x i, Γ.st x = some i → Loc X.env.scope x ∧ (X.fn x = true ∨ X.env.scope.names.lookup x = some .local)
  bl : ∀ x ∈ Γ.bl, X.mg x = none
  fns : ∀ x, FnFact X.prog X.w X.mg X.base G0 k x (Γ.T x)
  cls : ∀ x c, Γ.cls x = some c → X.mg x = some (.ref (G0.cA c))
  glo : ∀ x d, Γ.glo x = some d → ∃ v u, X.mg x = some u ∧ RelV v u ∧ ∀ N H, Rep G0.K N H d v
  gd : ∀ x kvs, Γ.gd x = some kvs → TabAt X G0.K x kvs
section
variable {Γ : Inf} {k : Nat} {G0 : Gd} {X : Cx} {G : Gd} {W : WX} {pos p : Pos} {x : Str} {i : Nat} {a b e : Expr} {es : List Expr}
theorem Ctx.gk (C : Ctx Γ k G0 X G W) : G.K = X.K ∧ G.cA = G0.cA ∧ G.K = G0.K := by
  cases h : Γ.hot with
  | false => obtain ⟨rfl, _⟩ := C.cold h; exact ⟨C.K, rfl, rfl⟩
  | true => obtain ⟨a, c, rfl, _⟩ := C.warm h; exact ⟨C.K, rfl, rfl⟩
theorem Ctx.units (C : Ctx Γ k G0 X G W) : X.A.units + 64 < cLine := by have := C.roomH.un; omega
theorem okName_ok (h : okName x = true) : (x == ("__debug__" : Str)) = false ∧ (x == ("__classdict__" : Str)) = false := by
  unfold okName at h
  rw [Bool.and_eq_true, Bool.not_eq_true', Bool.not_eq_true'] at h
  exact h
theorem Ctx.vis (C : Ctx Γ k G0 X G W) (h : Γ.vis x = some i) : X.N[i]? = some x ∧ Vis X.env.scope x ∧ (x == ("__debug__" : Str)) = false ∧ (x == ("__classdict__" : Str)) = false := by
  unfold Inf.vis at h
  split at h
  · rename_i hn
    obtain ⟨h1, h2⟩ := okName_ok hn
    rw [C.N]
    unfold Vis
    rw [C.sc]
    split at h
    · rename_i q; exact ⟨idx_ok h, .inl q, h1, h2⟩
    · rename_i q; exact ⟨idx_ok h, .inr (.inl q), h1, h2⟩
    · rename_i q; exact ⟨idx_ok h, .inr (.inr q), h1, h2⟩
    · cases h
  · cases h
theorem Ctx.gl (C : Ctx Γ k G0 X G W) (h : Γ.gl x = true) : Gl X x ∧ (x == ("__debug__" : Str)) = false := by
  unfold Inf.gl at h
  rw [Bool.and_eq_true] at h
  refine ⟨?_, (okName_ok h.2).1⟩
  show X.env.scope.names.lookup x = _
  rw [C.sc]
  exact of_decide_eq_true h.1
theorem Ctx.blt (C : Ctx Γ k G0 X G W) (h : Γ.blt x = true) : Gl X x ∧ (x == ("__debug__" : Str)) = false ∧ X.mg x = none := by
  unfold Inf.blt at h
  rw [Bool.and_eq_true] at h
  exact ⟨(C.gl h.1).1, (C.gl h.1).2, C.bl x (of_decide_eq_true h.2)⟩
theorem Ctx.set (C : Ctx Γ k G0 X G W) (h : Γ.st x = some i) : X.N[i]? = some x ∧ X.N.Nodup ∧ Loc X.env.scope x ∧ (X.fn x = true ∨ X.env.scope.names.lookup x = some .local) := by
  obtain ⟨h1, h2⟩ := C.st x i h
  refine ⟨?_, by rw [C.N]; exact C.nd, h1, h2⟩
  rw [C.N]
  unfold Inf.st at h
  split at h
  · exact idx_ok h
  · exact idx_ok h
  · cases h
theorem star (h : noStar a = true) : starEach (a :: es) X.env = (false, eval a X.env) :: starEach es X.env := by cases a <;> first | rfl | cases h
theorem stars : ∀ {es : List Expr}, es.all noStar = true → (starEach es X.env).any (·.1) = false
  | [], _ => rfl
  | a :: es, h => by
    rw [List.all_cons, Bool.and_eq_true] at h
    rw [star h.1, List.any_cons, stars h.2]
    rfl
theorem backs {pos : Pos} {l : List (Bool × Sem Value)} (h : l.any (·.1) = false) : (backTo pos l).any (·.1) = false := by
  unfold backTo
  rw [List.any_map]
  exact h
theorem plain {es : List Expr} {pos : Pos} (h : es.all noStar = true) : (backTo pos (starEach es X.env)).any (·.1) = false := backs (stars h)
theorem few1 {pos : Pos} (h : noStar a = true) : few X [a] pos := by
  unfold few
  rw [star h]
  rfl
theorem attr_ok {n : Str} (h : noCall a = true) : attrOk a n X.env := by
  unfold attrOk
  cases a <;> first | rfl | cases h
theorem plainIx (h : noSlice a = true) : PlainIx a := by
  intro o i
  cases a <;> first | rfl | cases h
theorem plainTru (h : plainT a = true) : ∀ whole, isTrue a X.env whole = (do let v ← whole; standAt a.pos; holding [v] (truthy v)) := by
  intro whole
  cases a with
  | UnaryOp op e p => cases op <;> first | rfl | cases h
  | BoolOp _ _ _ => cases h
  | IfExp _ _ _ _ => cases h
  | Compare _ _ _ _ => cases h
  | _ => rfl
theorem noFold (h : noSet a = true) : ∀ x, foldedSetIterable a X.env x = pure x := by
  intro x
  cases a <;> first | rfl | cases h
theorem isNone_ok (h : isNone a = true) : ∃ j p, a = .Constant .none j p := by
  cases a with
  | Constant v j p => cases v <;> first | exact ⟨_, _, rfl⟩ | cases h
  | _ => cases h
theorem pw_pt {op : BoolOp} {t : TT} (h : PT X (.BoolOp op es pos) t) : PW X (.BoolOp op es pos) t := ⟨fun _ pins s σ H Q I q => h.run pins s σ H Q I q⟩
theorem b1B_ok {f : B1} (h : b1B.lookup x = some f) : x = Str.ofString f.nm := by
  have hm := PySem.mem_of_lookup h
  unfold b1B at hm
  simp only [List.mem_cons, Prod.mk.injEq, List.not_mem_nil, or_false] at hm
  rcases hm with ⟨rfl, rfl⟩ | ⟨rfl, rfl⟩ | ⟨rfl, rfl⟩ | ⟨rfl, rfl⟩ | ⟨rfl, rfl⟩ | ⟨rfl, rfl⟩ | ⟨rfl, rfl⟩ | ⟨rfl, rfl⟩ | ⟨rfl, rfl⟩ | ⟨rfl, rfl⟩ | ⟨rfl, rfl⟩ | ⟨rfl, rfl⟩ | ⟨rfl, rfl⟩ <;> rfl
theorem tyB_ok {t : Ty} {cA : EC → Addr} (h : tyB.lookup x = some t) : bootBuiltins x = some (t.u cA) ∧ x ≠ ("__name__" : Str) := by
  have hm := PySem.mem_of_lookup h
  unfold tyB at hm
  simp only [List.mem_cons, Prod.mk.injEq, List.not_mem_nil, or_false] at hm
  rcases hm with ⟨rfl, rfl⟩ | ⟨rfl, rfl⟩ | ⟨rfl, rfl⟩ | ⟨rfl, rfl⟩ | ⟨rfl, rfl⟩ | ⟨rfl, rfl⟩ | ⟨rfl, rfl⟩
  · exact ⟨(by decide +kernel : bootBuiltins (Str.ofString "int") = some (Value.type "int")), by decide +kernel⟩
  · exact ⟨(by decide +kernel : bootBuiltins (Str.ofString "bool") = some (Value.type "bool")), by decide +kernel⟩
  · exact ⟨(by decide +kernel : bootBuiltins (Str.ofString "str") = some (Value.type "str")), by decide +kernel⟩
  · exact ⟨(by decide +kernel : bootBuiltins (Str.ofString "list") = some (Value.type "list")), by decide +kernel⟩
  · exact ⟨(by decide +kernel : bootBuiltins (Str.ofString "tuple") = some (Value.type "tuple")), by decide +kernel⟩
  · exact ⟨(by decide +kernel : bootBuiltins (Str.ofString "dict") = some (Value.type "dict")), by decide +kernel⟩
  · exact ⟨(by decide +kernel : bootBuiltins (Str.ofString "ValueError") = some (Value.type "ValueError")), by decide +kernel⟩
theorem Ctx.ty (C : Ctx Γ k G0 X G W) {t : Ty} (h : Γ.ty e = some t) : PE X e (tC (t.v G.cA)) ∧ noStar e = true := by
  cases e with
  | Name x p =>
    refine ⟨?_, rfl⟩
    unfold Inf.ty at h
    dsimp only at h
    split at h
    · rename_i hb
      obtain ⟨h1, h2, h3⟩ := C.blt hb
      obtain ⟨h4, h5⟩ := tyB_ok (cA := G.cA) h
      exact pe_bltn h1 h3 h4 (t.rel G.cA) h5 h2
    · split at h
      · rename_i hg
        obtain ⟨h1, h2⟩ := C.gl hg
        cases q : Γ.cls x with
        | none => rw [q] at h; cases h
        | some c =>
          rw [q] at h
          cases h
          have e := C.cls x c q
          rw [← C.gk.2.1] at e
          exact pe_glob h1 e rfl h2
      · cases h
  | _ => cases h
theorem Ctx.tys (C : Ctx Γ k G0 X G W) : ∀ {es : List Expr} {ts : List Ty}, Γ.tys es = some ts → Paired (fun t e => PE X e (tC (Ty.v G.cA t))) ts es ∧ es.all noStar = true
  | [], ts, h => by cases h; exact ⟨.nil, rfl⟩
  | e :: es, ts, h => by
    unfold Inf.tys at h
    cases q1 : Γ.ty e with
    | none => rw [q1] at h; cases h
    | some t =>
      rw [q1, Option.bind_some] at h
      cases q2 : Γ.tys es with
      | none => rw [q2] at h; cases h
      | some ts' =>
        rw [q2] at h
        cases h
        obtain ⟨h1, h2⟩ := C.ty q1
        obtain ⟨h3, h4⟩ := C.tys q2
        exact ⟨.cons h1 h3, by rw [List.all_cons, h2, h4]; rfl⟩
end
end MP
end

section
set_option Elab.async false
set_option linter.all false
set_option maxRecDepth 100000
set_option maxHeartbeats 4000000
/-! MP, part r: blocks, targets. -/
namespace MP
open PySem PySem.Spec PyProof.Rows L2
section
variable {Γ : Inf} {k : Nat} {G0 : Gd} {X : Cx} {G : Gd} {W : WX} {pos p : Pos} {x : Str} {i : Nat} {a b e : Expr} {es : List Expr} {scope : Scope}
theorem relN_eq (hk : X.env.scope.kind = .function) (hs : X.env.scope.names = Γ.sc) : (relS scope X.env.scope).names = relN scope.names Γ.sc := by
  unfold relS relN
  refine List.map_congr_left fun q _ => ?_
  obtain ⟨n, kd⟩ := q
  rw [hk, hs]
  dsimp only
  by_cases h : kd = .free ∧ Γ.sc.lookup n = some .cell
  · rw [if_pos h, if_pos (by rw [h.1, h.2]; rfl)]
  · rw [if_neg h, if_neg]
    intro z
    simp only [Bool.and_eq_true, beq_iff_eq] at z
    exact h ⟨z.1.1, z.2⟩
theorem rel_own {names sc : Nm} {x : Str} {kd : NameKind} (h : names.lookup x = some kd) (hk : kd ≠ .free) : (relN names sc).lookup x = some kd := by
  induction names with
  | nil => cases h
  | cons q r ih =>
    obtain ⟨n, k'⟩ := q
    unfold relN
    rw [List.map_cons]
    rw [List.lookup_cons] at h
    dsimp only
    by_cases hn : (x == n) = true
    · rw [hn] at h
      cases h
      rw [if_neg (fun z => hk z.1), List.lookup_cons, hn]
    · have hn : (x == n) = false := by simpa using hn
      rw [hn] at h
      have h2 := ih h
      unfold relN at h2
      by_cases hc : k' = .free ∧ sc.lookup n = some .cell
      · rw [if_pos hc, List.lookup_cons, hn]; exact h2
      · rw [if_neg hc, List.lookup_cons, hn]; exact h2
theorem Ctx.blkO (C : Ctx Γ k G0 X G W) (h : blkOk Γ scope = true) : BlkOk X.N X.env.scope scope (ownOf Γ.N scope.names) := by
  have q := blkOk_by h
  exact ⟨q.kind, q.uniq, by rw [C.N]; exact q.ix, by rw [C.sc]; exact q.free, by rw [C.N]; exact q.own⟩
theorem Ctx.bst (hk : X.env.scope.kind = .function) (hs : X.env.scope.names = Γ.sc) {fn : Str → Bool} (hf : fn = fun x => scope.names.lookup x == some NameKind.cell) : ∀ x i, (Γ.blk scope).st x = some i → Loc (relS scope X.env.scope) x ∧ (fn x = true ∨ (relS scope X.env.scope).names.lookup x = some .local) := by
  intro x i h
  unfold Inf.st at h
  subst hf
  have key : ∀ kd, scope.names.lookup x = some kd → kd ≠ .free → (relS scope X.env.scope).names.lookup x = some kd := fun kd e hn => by
    rw [relN_eq hk hs]
    exact rel_own e hn
  split at h
  · rename_i q
    exact ⟨.inl (key _ q (by decide)), .inr (key _ q (by decide))⟩
  · rename_i q
    refine ⟨.inr (key _ q (by decide)), .inl ?_⟩
    have q : scope.names.lookup x = some NameKind.cell := q
    show (scope.names.lookup x == some NameKind.cell) = true
    rw [q]
    rfl
  · cases h
theorem Ctx.blk (C : Ctx Γ k G0 X G W) (hb : blkOk Γ scope = true) (hh : Γ.hot = false) (s : Shared) (H : Hp) (A : Addr) (cl : List (Str × Addr)) (fp : List Addr) : Ctx (Γ.blk scope) k G0 (X.blk s H scope (compEnvC scope cl A X.env) fp) G WF := by
  obtain ⟨rfl, hc, hr, tk⟩ := C.cold hh
  refine ⟨C.N, C.nd, (C.blkO hb).kind, relN_eq C.kind C.sc, C.K, C.h0, fun _ => ⟨rfl, hc, hr, fun u s' ⟨a, B, sI, pins, σ, H, cls, d, e, I, nb, up, sky, na, os, ag, w⟩ => w.elim⟩, fun z => absurd z (by show Γ.hot ≠ true; rw [hh]; exact Bool.false_ne_true), HxOk.no C.h0, C.roomH, Ctx.bst C.kind C.sc rfl, C.bl, C.fns, C.cls, C.glo, C.gd⟩
theorem Ctx.blkH (C : Ctx Γ k G0 X G W) (K : ClsOk G0) (hb : blkOk Γ scope = true) (hh : Γ.hot = true) (s : Shared) (H : Hp) (A : Addr) (cl : List (Str × Addr)) (fp : List Addr) : Ctx (Γ.blk scope) k G0 (X.blkH s H scope (compEnvC scope cl A X.env) fp) G WF := by
  obtain ⟨a, c, rfl, hx⟩ := C.warm hh
  have hx' : HotX (X.blkH s H scope (compEnvC scope cl A X.env) fp) a (.ref (G0.cA c)) := hx
  exact ⟨C.N, C.nd, (C.blkO hb).kind, relN_eq C.kind C.sc, C.K, C.h0, fun z => absurd z (by show Γ.hot ≠ false; rw [hh]; exact Bool.noConfusion), fun _ => ⟨a, c, rfl, hx'⟩, hxOk C.K K hx', C.roomH, Ctx.bst C.kind C.sc rfl, C.bl, C.fns, C.cls, C.glo, C.gd⟩
theorem Ctx.many (C : Ctx Γ k G0 X G W) : ∀ {es : List Expr} {is : List Nat}, Inf.tg.go Γ es = some is → PGs X es (gMany is) ∧ (assignEach es X.env).length = is.length ∧ (assignEach es X.env).findIdx? (·.1) = none
  | [], is, h => by cases h; exact ⟨pgs_nil, rfl, rfl⟩
  | e :: es, is, h => by
    cases e with
    | Name x p =>
      unfold Inf.tg.go at h
      cases q1 : Γ.st x with
      | none => rw [q1] at h; cases h
      | some i =>
        rw [q1, Option.bind_some] at h
        cases q2 : Inf.tg.go Γ es with
        | none => rw [q2] at h; cases h
        | some is' =>
          rw [q2] at h
          cases h
          obtain ⟨h1, h2, h3⟩ := C.many q2
          obtain ⟨s1, s2, s3, s4⟩ := C.set q1
          refine ⟨pgs_cons (pg_name s2 s1 s3 s4) h1 rfl, ?_, ?_⟩
          · show (_ :: assignEach es X.env).length = _
            rw [List.length_cons, List.length_cons, h2]
          · show (((false, _) : Bool × _) :: assignEach es X.env).findIdx? (·.1) = none
            rw [List.findIdx?_cons, h3]
            rfl
    | _ => cases h
theorem Ctx.tg (C : Ctx Γ k G0 X G W) {t : Tg} (h : Γ.tg e = some t) : PG X e (gTg X.K t) := by
  cases e with
  | Name x p =>
    unfold Inf.tg at h
    dsimp only at h
    cases q1 : Γ.st x with
    | none => rw [q1] at h; cases h
    | some i =>
      rw [q1] at h
      cases h
      obtain ⟨s1, s2, s3, s4⟩ := C.set q1
      exact pg_name s2 s1 s3 s4
  | Tuple es kk p =>
    unfold Inf.tg at h
    dsimp only at h
    split at h
    · cases h
    · rename_i hh
      have hh : Γ.hot = false := by simpa using hh
      cases q2 : Inf.tg.go Γ es with
      | none => rw [q2] at h; cases h
      | some is' =>
        rw [q2] at h
        cases h
        obtain ⟨h1, h2, h3⟩ := C.many q2
        exact pg_tup (C.cold hh).2.1 h1 h2 h3
  | _ => cases h
end
end MP
end

section
set_option Elab.async false
set_option linter.all false
set_option maxRecDepth 100000
set_option maxHeartbeats 4000000
/-! MP, part s: the meaning of expressions is right. -/
namespace MP
open PySem PySem.Spec PyProof.Rows L2
structure CFok (G0 : Gd) (c : CF) : Prop where
  e : ∀ {Γ k X G W}, Ctx Γ k G0 X G W → ∀ {e m}, c.e Γ e = some m → PE X e (tE G W m)
  t : ∀ {Γ k X G W}, Ctx Γ k G0 X G W → ∀ {e m}, c.t Γ e = some m → PT X e (tT G W m)
  l : ∀ {Γ k X G W}, Ctx Γ k G0 X G W → ∀ {e m}, c.l Γ e = some m → PA X e (tL G W m) ∧ (e = [] → m = mNil)
  i : ∀ {Γ k X G W}, Ctx Γ k G0 X G W → ∀ {e m}, c.i Γ e = some m → noSet e = true ∧ (Γ.hot = false → ∀ tg, PI X tg e (tI G W m)) ∧ (Γ.hot = true → ∀ tg, L2H.PIH X tg e (tI G W m))
  r : ∀ {Γ k X G W}, Ctx Γ k G0 X G W → ∀ {e m}, c.r Γ e = some m → noSet e = true ∧ PRg X e (tRgM G W m) ∧ (∀ tg, PI X tg e (tI G W m)) ∧ ∀ f a kw q, e = .Call f [a] kw q → ∀ tg, L2H.PIH X tg e (tI G W m)
section
variable {G0 : Gd} {c : CF} {Γ : Inf} {k : Nat} {X : Cx} {G : Gd} {W : WX}
theorem sound_C (K : CFok G0 c) (C : Ctx Γ k G0 X G W) {a b : Expr} {op : CmpOp} {pos : Pos} {m : MT} (h : stC c Γ a op b = some m) : PT X (.Compare a [op] [b] pos) (tT G W m) ∧ PE X (.Compare a [op] [b] pos) (tE G W (mBl m)) := by
  have gen : ∀ {op : CmpOp}, ((cmpOf op).bind fun o => if behindInMarks o.o b = false then (c.e Γ a).bind fun ma => (c.e Γ b).map fun mb => mCmp o ma mb else none) = some m → PT X (.Compare a [op] [b] pos) (tT G W m) ∧ PE X (.Compare a [op] [b] pos) (tE G W (mBl m)) := fun {op} h => by
    obtain ⟨o, h1, h⟩ := Option.bind_eq_some_iff.mp h
    split at h
    · rename_i hm
      obtain ⟨ma, h2, h⟩ := Option.bind_eq_some_iff.mp h
      obtain ⟨mb, h3, rfl⟩ := Option.map_eq_some_iff.mp h
      rw [cmpOf_ok h1]
      exact ⟨s_cmp C.gk.1 C.units o (K.e C h2) (K.e C h3) hm, s_cmpV C.gk.1 C.units o (K.e C h2) (K.e C h3) hm⟩
    · cases h
  cases op with
  | Is =>
    unfold stC at h
    dsimp only at h
    split at h
    · rename_i hn
      obtain ⟨ma, h2, rfl⟩ := Option.map_eq_some_iff.mp h
      obtain ⟨j, p, rfl⟩ := isNone_ok hn
      exact ⟨s_isN (K.e C h2), s_isNV (K.e C h2)⟩
    · cases h
  | IsNot =>
    unfold stC at h
    dsimp only at h
    split at h
    · rename_i hn
      obtain ⟨ma, h2, rfl⟩ := Option.map_eq_some_iff.mp h
      obtain ⟨j, p, rfl⟩ := isNone_ok hn
      exact ⟨s_notN (K.e C h2), s_notNV (K.e C h2)⟩
    · cases h
  | Eq => exact gen h
  | NotEq => exact gen h
  | Lt => exact gen h
  | LtE => exact gen h
  | Gt => exact gen h
  | GtE => exact gen h
  | In => exact gen h
  | NotIn => exact gen h
theorem sound_call (K : CFok G0 c) (C : Ctx Γ k G0 X G W) {x : Str} {args : List Expr} {p pos : Pos} {m : ME} (h : stCall c Γ x args = some m) : PE X (.Call (.Name x p) args [] pos) (tE G W m) := by
  unfold stCall at h
  split at h
  · rename_i hb
    obtain ⟨h1, h2, h3⟩ := C.blt hb
    split at h
    · rename_i a
      split at h
      · rename_i hs
        split at h
        · rename_i mi hr
          split at hr
          · cases hr
          · rename_i hh
            have hh : Γ.hot = false := by simpa using hh
            obtain ⟨_, hr1, _⟩ := K.r C hr
            split at h
            · rename_i hx; subst hx; cases h
              exact s_tupI (C.cold hh).2.1 h1 h3 hr1 (star hs)
            · split at h
              · rename_i hx; subst hx; cases h
                exact s_lstI (C.cold hh).2.1 h1 h3 hr1 (star hs)
              · cases h
        · obtain ⟨f, hf, h⟩ := Option.bind_eq_some_iff.mp h
          split at h
          · cases h
          · rename_i hw
            obtain ⟨ma, h4, rfl⟩ := Option.map_eq_some_iff.mp h
            have hx := b1B_ok hf
            subst hx
            refine s_b1 C.gk.1 f (fun hfw => ?_) h1 h3 (K.e C h4) (star hs)
            cases hh : Γ.hot with
            | false => exact (C.cold hh).2.1
            | true => rw [hfw, hh] at hw; exact absurd rfl hw
      · cases h
    · rename_i a b
      split at h
      · rename_i hs
        obtain ⟨hs1, hs2⟩ := Bool.and_eq_true_iff.mp hs
        have hpl : ((backTo pos (starEach [b] X.env)).any (·.1)) = false := plain (by rw [List.all_cons, hs2]; rfl)
        split at h
        · rename_i hx
          subst hx
          split at h
          · rename_i es ht
            obtain ⟨x1, p2, rfl⟩ : ∃ x1 p2, b = .Tuple es x1 p2 := by
              cases b <;> first | (cases ht; exact ⟨_, _, rfl⟩) | cases ht
            obtain ⟨ts, h4, h⟩ := Option.bind_eq_some_iff.mp h
            split at h
            · rename_i hz
              obtain ⟨ma, h5, rfl⟩ := Option.map_eq_some_iff.mp h
              obtain ⟨hz1, hz2⟩ := Bool.and_eq_true_iff.mp hz
              obtain ⟨q1, q2⟩ := C.tys h4
              refine s_isIs C.gk.1 C.hx (pa_tys q1 fun e r ⟨i, hi⟩ => ?_) (of_decide_eq_true hz2) h1 h3 (K.e C h5) (star hs1) (star hs2) hpl
              refine star (List.all_eq_true.mp hz1 e ?_)
              exact List.mem_of_mem_drop (by rw [hi]; exact List.mem_cons_self)
            · cases h
          · obtain ⟨t, h4, h⟩ := Option.bind_eq_some_iff.mp h
            obtain ⟨ma, h5, rfl⟩ := Option.map_eq_some_iff.mp h
            obtain ⟨q1, q2⟩ := C.ty h4
            exact s_isI C.gk.1 C.hx q1 h1 h3 (K.e C h5) (star hs1) (star hs2) hpl
        · split at h
          · cases h
          · rename_i hh
            have hh : Γ.hot = false := by simpa using hh
            split at h
            · rename_i hx; subst hx
              obtain ⟨ma, h4, h⟩ := Option.bind_eq_some_iff.mp h
              obtain ⟨mb, h5, rfl⟩ := Option.map_eq_some_iff.mp h
              exact s_min2 (C.cold hh).2.1 h1 h3 (K.e C h4) (K.e C h5) (star hs1) (star hs2) hpl
            · split at h
              · rename_i hx; subst hx
                obtain ⟨ma, h4, h⟩ := Option.bind_eq_some_iff.mp h
                obtain ⟨mb, h5, rfl⟩ := Option.map_eq_some_iff.mp h
                exact s_max2 (C.cold hh).2.1 h1 h3 (K.e C h4) (K.e C h5) (star hs1) (star hs2) hpl
              · cases h
      · cases h
    · cases h
  · split at h
    · rename_i hg
      obtain ⟨hg1, hg2⟩ := Bool.and_eq_true_iff.mp hg
      obtain ⟨h1, h2⟩ := C.gl hg1
      obtain ⟨ml, h3, h⟩ := Option.bind_eq_some_iff.mp h
      obtain ⟨la, l0⟩ := K.l C h3
      have F := C.fns x
      cases hT : Γ.T x with
      | none => rw [hT] at h; cases h
      | pure n f =>
        rw [hT] at h F
        dsimp only at h
        split at h
        · cases h
        · rename_i hh
          have hh : Γ.hot = false := by simpa using hh
          cases h
          obtain ⟨rfl, hc, hr, tk⟩ := C.cold hh
          obtain ⟨a, fd, ps, hl, F, hm, hk, hb⟩ := F
          rw [C.K] at F hk hb
          cases args with
          | nil => rw [l0 rfl]; exact call_P0 F hr h1 hm hk hb tk h2
          | cons e es =>
            rw [List.all_cons, Bool.and_eq_true] at hg2
            exact call_P F hr h1 hm hk hb tk la h2 (star hg2.1) (plain hg2.2)
      | eff n f =>
        rw [hT] at h F
        dsimp only at h
        split at h
        · cases h
        · rename_i hh
          have hh : Γ.hot = false := by simpa using hh
          cases h
          obtain ⟨rfl, hc, hr, tk⟩ := C.cold hh
          obtain ⟨a, fd, ps, hl, F, hm, hk, hb⟩ := F
          rw [C.K] at F hk hb
          cases args with
          | nil => rw [l0 rfl]; exact call_E0 F hr h1 hm hk hb tk h2
          | cons e es =>
            rw [List.all_cons, Bool.and_eq_true] at hg2
            exact call_E F hr h1 hm hk hb tk la h2 (star hg2.1) (plain hg2.2)
      | hot n f =>
        rw [hT] at h F
        dsimp only at h
        split at h
        · rename_i hh
          obtain ⟨hh, hne⟩ := Bool.and_eq_true_iff.mp hh
          cases h
          obtain ⟨a, ck, rfl, hx⟩ := C.warm hh
          obtain ⟨fa, fd, ps, hl, F, hm, hk, hb⟩ := F
          rw [C.K] at F hk hb
          cases args with
          | nil => cases hne
          | cons e es =>
            rw [List.all_cons, Bool.and_eq_true] at hg2
            exact call_H F hl C.roomH hx h1 hm hk hb la h2 (star hg2.1) (plain hg2.2)
        · cases h
    · cases h
theorem sound_meth (K : CFok G0 c) (C : Ctx Γ k G0 X G W) {a : Expr} {nm : Str} {apos pos : Pos} {args : List Expr} {m : ME} (h : stMeth c Γ a nm (apos.endLine == pos.line) args = some m) : PE X (.Call (.Attribute a nm apos) args [] pos) (tE G W m) := by
  unfold stMeth at h
  split at h
  · rename_i hq
    obtain ⟨hn, hl⟩ := Bool.and_eq_true_iff.mp hq
    split at h
    · split at h
      · rename_i hx; subst hx
        obtain ⟨ma, h1, rfl⟩ := Option.map_eq_some_iff.mp h
        exact s_words (K.e C h1) (attr_ok hn) hl
      · cases h
    · rename_i b
      split at h
      · rename_i hs
        split at h
        · rename_i hx; subst hx
          obtain ⟨ma, h1, h⟩ := Option.bind_eq_some_iff.mp h
          obtain ⟨mb, h2, rfl⟩ := Option.map_eq_some_iff.mp h
          exact s_count C.gk.1 (K.e C h1) (K.e C h2) (attr_ok hn) (few1 hs) hl (star hs)
        · split at h
          · rename_i hx; subst hx
            obtain ⟨ma, h1, h⟩ := Option.bind_eq_some_iff.mp h
            obtain ⟨mb, h2, rfl⟩ := Option.map_eq_some_iff.mp h
            exact s_join C.gk.1 (K.e C h1) (K.e C h2) (attr_ok hn) (few1 hs) hl (star hs)
          · split at h
            · rename_i hx; subst hx
              obtain ⟨ma, h1, h⟩ := Option.bind_eq_some_iff.mp h
              obtain ⟨mb, h2, rfl⟩ := Option.map_eq_some_iff.mp h
              exact s_split (K.e C h1) (K.e C h2) (attr_ok hn) (few1 hs) hl (star hs)
            · cases h
      · cases h
    · cases h
  · cases h
theorem lc_parts (K : CFok G0 c) (KC : ClsOk G0) (C : Ctx Γ k G0 X G W) {elt tg iter : Expr} {ifs : List Expr} {scope : Scope} {m : ME} (h : stLc c Γ elt tg iter ifs scope = some m) :
    ∃ tgm mi mt me, m = mLc ((ownOf Γ.N scope.names).map (·.2)) tgm mi mt me ∧ BlkOk X.N X.env.scope scope (ownOf Γ.N scope.names) ∧ (∀ i ∈ tgSlots tgm, i ∈ (ownOf Γ.N scope.names).map (·.2)) ∧ (∀ x, foldedSetIterable iter X.env x = pure x) ∧
    (Γ.hot = false → (∀ tg, PI X tg iter (tI G W mi)) ∧ ∀ s H A cl fp, PG (X.blk s H scope (compEnvC scope cl A X.env) fp) tg (gTg X.K tgm) ∧ PTs (X.blk s H scope (compEnvC scope cl A X.env) fp) ifs (tT G WF mt) ∧ PE (X.blk s H scope (compEnvC scope cl A X.env) fp) elt (tE G WF me)) ∧
    (Γ.hot = true → (∀ tg, L2H.PIH X tg iter (tI G W mi)) ∧ ∀ s H A cl fp, PG (X.blkH s H scope (compEnvC scope cl A X.env) fp) tg (gTg X.K tgm) ∧ PTs (X.blkH s H scope (compEnvC scope cl A X.env) fp) ifs (tT G WF mt) ∧ PE (X.blkH s H scope (compEnvC scope cl A X.env) fp) elt (tE G WF me)) := by
  unfold stLc at h
  split at h
  · rename_i hb
    obtain ⟨mi, h1, h⟩ := Option.bind_eq_some_iff.mp h
    obtain ⟨tgm, h2, h⟩ := Option.bind_eq_some_iff.mp h
    obtain ⟨me, h3, h⟩ := Option.bind_eq_some_iff.mp h
    obtain ⟨mt, h4, h⟩ := Option.bind_eq_some_iff.mp h
    split at h
    · rename_i ht
      cases h
      obtain ⟨i1, i2, i3⟩ := K.i C h1
      have tests : ∀ {Y : Cx} {W' : WX}, Ctx (Γ.blk scope) k G0 Y G W' → PTs Y ifs (tT G W' mt) := fun {Y W'} CY => by
        match ifs, h4 with
        | [], h4 => cases h4; exact s_yes
        | [f], h4 => exact s_if1 (K.t CY h4)
      refine ⟨tgm, mi, mt, me, rfl, C.blkO hb, fun i hi => of_decide_eq_true (List.all_eq_true.mp ht i hi), noFold i1, fun hh => ⟨i2 hh, fun s H A cl fp => ?_⟩, fun hh => ⟨i3 hh, fun s H A cl fp => ?_⟩⟩
      · have CY := C.blk hb hh s H A cl fp
        exact ⟨CY.tg h2, tests CY, K.e CY h3⟩
      · have CY := C.blkH KC hb hh s H A cl fp
        exact ⟨CY.tg h2, tests CY, K.e CY h3⟩
    · cases h
  · cases h
theorem sound_lc (K : CFok G0 c) (KC : ClsOk G0) (C : Ctx Γ k G0 X G W) {elt tg iter : Expr} {ifs : List Expr} {scope : Scope} {pos : Pos} {m : ME} (h : stLc c Γ elt tg iter ifs scope = some m) : PE X (.ListComp elt [⟨tg, iter, ifs, 0⟩] scope pos) (tE G W m) := by
  obtain ⟨tgm, mi, mt, me, rfl, hb, hsl, hfo, cold, warm⟩ := lc_parts K KC C h
  have nd : X.N.Nodup := by rw [C.N]; exact C.nd
  cases hh : Γ.hot with
  | false =>
    obtain ⟨i1, q⟩ := cold hh
    exact s_lc C.gk.1 (C.cold hh).2.1 nd (i1 tg) hb (fun s H A cl fp => (q s H A cl fp).1) (fun s H A cl fp => (q s H A cl fp).2.1) (fun s H A cl fp => (q s H A cl fp).2.2) hfo hsl
  | true =>
    obtain ⟨i1, q⟩ := warm hh
    obtain ⟨a, ck, _, hx⟩ := C.warm hh
    exact s_lcH C.gk.1 hx.hot nd (i1 tg) hb (fun s H A cl fp => (q s H A cl fp).1) (fun s H A cl fp => (q s H A cl fp).2.1) (fun s H A cl fp => (q s H A cl fp).2.2) hfo hsl
theorem sound_O (K : CFok G0 c) (C : Ctx Γ k G0 X G W) {o : Option Expr} {mo : Option ME} (h : stO c Γ o = some mo) : (o = none ∧ mo = none) ∨ ∃ e m, o = some e ∧ mo = some m ∧ PE X e (tE G W m) := by
  cases o with
  | none => cases h; exact .inl ⟨rfl, rfl⟩
  | some e =>
    obtain ⟨m, h1, rfl⟩ := Option.map_eq_some_iff.mp h
    exact .inr ⟨e, m, rfl, rfl, K.e C h1⟩
theorem sound_sub (K : CFok G0 c) (C : Ctx Γ k G0 X G W) {a b : Expr} {pos : Pos} {m : ME} (h : stSub c Γ a b = some m) : PE X (.Subscript a b pos) (tE G W m) := by
  unfold stSub at h
  split at h
  · obtain ⟨ma, h1, rfl⟩ := Option.map_eq_some_iff.mp h
    exact s_rev C.gk.1 (K.e C h1)
  · obtain ⟨ma, h1, h⟩ := Option.bind_eq_some_iff.mp h
    obtain ⟨ml, h2, h⟩ := Option.bind_eq_some_iff.mp h
    obtain ⟨mh, h3, rfl⟩ := Option.map_eq_some_iff.mp h
    exact s_slice C.gk.1 (K.e C h1) (sound_O K C h2) (sound_O K C h3)
  · cases h
  · rename_i h1 h2 h3
    have ns : noSlice b = true := by
      cases b with
      | Slice lo hi st p => exact absurd rfl (h3 lo hi st p)
      | _ => rfl
    split at h
    · rename_i kvs q
      obtain ⟨mb, h2', rfl⟩ := Option.map_eq_some_iff.mp h
      unfold stTab at q
      split at q
      · rename_i x p
        split at q
        · rename_i hg
          obtain ⟨g1, g2⟩ := C.gl hg
          exact s_tab (by rw [C.gk.2.2]; exact C.gd x kvs q) g1 g2 (plainIx ns) (K.e C h2')
        · cases q
      · cases q
    · obtain ⟨ma, h1', h⟩ := Option.bind_eq_some_iff.mp h
      obtain ⟨mb, h2', rfl⟩ := Option.map_eq_some_iff.mp h
      exact s_ix C.gk.1 (plainIx ns) (K.e C h1') (K.e C h2')
theorem sound_Ch (K : CFok G0 c) (C : Ctx Γ k G0 X G W) {a b d : Expr} {op op' : CmpOp} {pos : Pos} {m : MT} (h : stCh c Γ a op op' b d = some m) : PT X (.Compare a [op, op'] [b, d] pos) (tT G W m) ∧ PE X (.Compare a [op, op'] [b, d] pos) (tE G W (mBl m)) := by
  unfold stCh at h
  obtain ⟨o, h1, h⟩ := Option.bind_eq_some_iff.mp h
  obtain ⟨o', h2, h⟩ := Option.bind_eq_some_iff.mp h
  split at h
  · rename_i hm
    obtain ⟨ma, h3, h⟩ := Option.bind_eq_some_iff.mp h
    obtain ⟨mb, h4, h⟩ := Option.bind_eq_some_iff.mp h
    obtain ⟨md, h5, rfl⟩ := Option.map_eq_some_iff.mp h
    rw [cmpOf_ok h1, cmpOf_ok h2]
    exact ⟨s_chain C.gk.1 C.units o o' (K.e C h3) (K.e C h4) (K.e C h5) hm, s_chainV C.gk.1 C.units o o' (K.e C h3) (K.e C h4) (K.e C h5) hm⟩
  · cases h
theorem sound_E (K : CFok G0 c) (KC : ClsOk G0) (C : Ctx Γ k G0 X G W) {e : Expr} {m : ME} (h : stE c Γ e = some m) : PE X e (tE G W m) := by
  unfold stE at h
  split at h
  · cases h; exact s_int
  · cases h; exact s_bl
  · cases h; exact s_str
  · cases h; exact s_non
  · rename_i x p
    cases q : Γ.vis x with
    | some i =>
      rw [q] at h
      cases h
      obtain ⟨h1, h2, h3, h4⟩ := C.vis q
      exact s_var h1 h2 h3 h4
    | none =>
      rw [q] at h
      dsimp only at h
      split at h
      · rename_i hg
        obtain ⟨d, hd, rfl⟩ := Option.map_eq_some_iff.mp h
        obtain ⟨h1, h2⟩ := C.gl hg
        obtain ⟨v, u, h3, h4, h5⟩ := C.glo x d hd
        exact impE (pe_glob h1 h3 h4 h2) fun σ H Q ⟨w, s, e, ok, er, h⟩ => Post.hereD ok h (by rw [C.gk.2.2]; exact h5 _ _)
      · cases h
  · obtain ⟨o, h1, h⟩ := Option.bind_eq_some_iff.mp h
    obtain ⟨ma, h2, h⟩ := Option.bind_eq_some_iff.mp h
    obtain ⟨mb, h3, rfl⟩ := Option.map_eq_some_iff.mp h
    rw [opOf_ok h1]
    exact s_bin C.gk.1 o (K.e C h2) (K.e C h3)
  · obtain ⟨ma, h2, rfl⟩ := Option.map_eq_some_iff.mp h
    exact s_neg (K.e C h2)
  · obtain ⟨ma, h2, rfl⟩ := Option.map_eq_some_iff.mp h
    exact s_notV C.gk.1 (K.e C h2)
  · obtain ⟨mt, h2, rfl⟩ := Option.map_eq_some_iff.mp h
    exact (sound_C K C h2).2
  · obtain ⟨mt, h2, rfl⟩ := Option.map_eq_some_iff.mp h
    exact (sound_Ch K C h2).2
  · rename_i op es pos
    unfold stBool at h
    split at h
    · have q := K.e C h
      exact ⟨fun pins s σ H Q I h => q.run pins s σ H Q I h⟩
    · rename_i a b r
      obtain ⟨ma, h2, h⟩ := Option.bind_eq_some_iff.mp h
      obtain ⟨mb, h3, rfl⟩ := Option.map_eq_some_iff.mp h
      cases op with
      | And => exact s_andV (K.e C h2) (K.e C h3)
      | Or => exact s_orV (K.e C h2) (K.e C h3)
    · cases h
  · obtain ⟨mt, h1, h⟩ := Option.bind_eq_some_iff.mp h
    obtain ⟨ma, h2, h⟩ := Option.bind_eq_some_iff.mp h
    obtain ⟨mb, h3, rfl⟩ := Option.map_eq_some_iff.mp h
    exact s_ifE (K.t C h1) (K.e C h2) (K.e C h3)
  · obtain ⟨ml, h2, rfl⟩ := Option.map_eq_some_iff.mp h
    split
    · exact s_tuq (K.l C h2).1
    · exact s_tup (K.l C h2).1
  · obtain ⟨ml, h2, rfl⟩ := Option.map_eq_some_iff.mp h
    exact s_lst (K.l C h2).1
  · cases h; exact s_dic0
  · exact sound_sub K C h
  · exact sound_lc K KC C h
  · exact sound_call K C h
  · exact sound_meth K C h
  · cases h
theorem sound_T (K : CFok G0 c) (C : Ctx Γ k G0 X G W) {e : Expr} {m : MT} (h : stT c Γ e = some m) : PT X e (tT G W m) := by
  unfold stT at h
  split at h
  · rename_i op es pos
    unfold stBT at h
    split at h
    · have q := K.t C h
      cases op with
      | And => exact (s_and1 q).pt
      | Or => exact (s_or1 q).pt
    · rename_i a b r
      obtain ⟨ma, h2, h⟩ := Option.bind_eq_some_iff.mp h
      obtain ⟨mb, h3, rfl⟩ := Option.map_eq_some_iff.mp h
      cases op with
      | And => exact (s_and (K.t C h2) (pw_pt (K.t C h3))).pt
      | Or => exact (s_or (K.t C h2) (pw_pt (K.t C h3))).pt
    · cases h
  · obtain ⟨ma, h2, rfl⟩ := Option.map_eq_some_iff.mp h
    exact s_not (K.t C h2)
  · exact (sound_C K C h).1
  · exact (sound_Ch K C h).1
  · split at h
    · rename_i hp
      obtain ⟨ma, h2, rfl⟩ := Option.map_eq_some_iff.mp h
      exact s_tru C.gk.1 (K.e C h2) (plainTru hp)
    · cases h
theorem sound_L (K : CFok G0 c) (C : Ctx Γ k G0 X G W) {e : List Expr} {m : ML} (h : stL c Γ e = some m) : PA X e (tL G W m) ∧ (e = [] → m = mNil) := by
  unfold stL at h
  split at h
  · cases h; exact ⟨s_nil, fun _ => rfl⟩
  · split at h
    · rename_i hs
      obtain ⟨ma, h2, h⟩ := Option.bind_eq_some_iff.mp h
      obtain ⟨mr, h3, rfl⟩ := Option.map_eq_some_iff.mp h
      exact ⟨s_cons (K.e C h2) (K.l C h3).1 (star hs), fun z => nomatch z⟩
    · cases h
theorem sound_R (K : CFok G0 c) (C : Ctx Γ k G0 X G W) {e : Expr} {m : MI} (h : stR c Γ e = some m) : noSet e = true ∧ PRg X e (tRgM G W m) ∧ (∀ tg, PI X tg e (tI G W m)) ∧ ∀ f a kw q, e = .Call f [a] kw q → ∀ tg, L2H.PIH X tg e (tI G W m) := by
  unfold stR at h
  split at h
  · split at h
    · rename_i hc
      obtain ⟨hc, hs⟩ := Bool.and_eq_true_iff.mp hc
      obtain ⟨hb, hx⟩ := Bool.and_eq_true_iff.mp hc
      obtain ⟨ma, h2, rfl⟩ := Option.map_eq_some_iff.mp h
      have hx := of_decide_eq_true hx
      subst hx
      obtain ⟨h1, _, h3⟩ := C.blt hb
      exact ⟨rfl, s_prg1 h1 h3 (K.e C h2) (star hs), fun tg => s_rg1 h1 h3 (K.e C h2) (star hs), fun f a kw q he tg => s_rg1H h1 h3 (K.e C h2) (star hs)⟩
    · cases h
  · split at h
    · rename_i hc
      obtain ⟨hc, hs2⟩ := Bool.and_eq_true_iff.mp hc
      obtain ⟨hc, hs⟩ := Bool.and_eq_true_iff.mp hc
      obtain ⟨hb, hx⟩ := Bool.and_eq_true_iff.mp hc
      obtain ⟨ma, h2, h⟩ := Option.bind_eq_some_iff.mp h
      obtain ⟨mb, h4, rfl⟩ := Option.map_eq_some_iff.mp h
      have hx := of_decide_eq_true hx
      subst hx
      obtain ⟨h1, _, h3⟩ := C.blt hb
      refine ⟨rfl, s_prg2 h1 h3 (K.e C h2) (K.e C h4) (star hs) (star hs2) (plain (by rw [List.all_cons, hs2]; rfl)), fun tg => s_rg2 h1 h3 (K.e C h2) (K.e C h4) ?_ ?_, fun f a kw q he => nomatch he⟩
      · rw [star hs, star hs2]; rfl
      · rw [star hs2]; rfl
    · cases h
  · cases h
theorem sound_I (K : CFok G0 c) (C : Ctx Γ k G0 X G W) {e : Expr} {m : MI} (h : stI c Γ e = some m) : noSet e = true ∧ (Γ.hot = false → ∀ tg, PI X tg e (tI G W m)) ∧ (Γ.hot = true → ∀ tg, L2H.PIH X tg e (tI G W m)) := by
  unfold stI at h
  split at h
  · rename_i mi hr
    obtain ⟨r1, r2, r3, r4⟩ := K.r C hr
    split at h
    · rename_i hh
      split at h
      · cases h
        exact ⟨r1, fun z => absurd hh (by rw [z]; exact Bool.false_ne_true), fun _ => r4 _ _ _ _ rfl⟩
      · cases h
    · rename_i hh
      cases h
      exact ⟨r1, fun _ => r3, fun z => absurd z hh⟩
  · split at h
    · cases h
    · rename_i hc
      have hc : Γ.hot = false ∧ noSet e = true := by simpa using hc
      obtain ⟨ma, h2, rfl⟩ := Option.map_eq_some_iff.mp h
      exact ⟨hc.2, fun _ tg => s_itV C.gk.1 (K.e C h2), fun z => absurd z (by rw [hc.1]; exact Bool.false_ne_true)⟩
end
theorem cf_ok {G0 : Gd} (KC : ClsOk G0) : ∀ n, CFok G0 (cf n)
  | 0 => ⟨fun _ _ _ h => (nomatch h), fun _ _ _ h => (nomatch h), fun _ _ _ h => (nomatch h), fun _ _ _ h => (nomatch h), fun _ _ _ h => (nomatch h)⟩
  | n + 1 => ⟨fun C _ _ h => sound_E (cf_ok KC n) KC C h, fun C _ _ h => sound_T (cf_ok KC n) C h, fun C _ _ h => sound_L (cf_ok KC n) C h, fun C _ _ h => sound_I (cf_ok KC n) C h, fun C _ _ h => sound_R (cf_ok KC n) C h⟩
end MP
end

section
set_option Elab.async false
set_option linter.all false
set_option maxRecDepth 100000
set_option maxHeartbeats 4000000
/-! MP, part t: from the text to its meaning: statements. -/
namespace MP
open PySem PySem.Spec PyProof.Rows L2
/-- hints, by lines: where a list is one's own from now on; where a list that is returned is tracked; which names are looked at only from a line on -/
structure Hn where
  own : List Nat
  trk : List Nat
  frz : List (Nat × Nat)
  tq : List Nat := []
def lineS : Stmt → Nat
  | .Expr _ p => p.line
  | .Return _ p => p.line
  | .If _ _ _ p => p.line
  | .For _ _ _ _ p => p.line
  | .While _ _ _ p => p.line
  | .Assign _ _ p => p.line
  | .Raise _ _ p => p.line
  | .AugAssign _ _ _ p => p.line
  | .Try _ _ _ _ p => p.line
  | _ => 0
def frzs (h : Hn) (n : Nat) (m : MS) : MS := go h.frz
where go : List (Nat × Nat) → MS
  | [] => m
  | (l, i) :: r => if l = n then mSeq (mFrz i) (go r) else go r
def noComp : Expr → Bool
  | .ListComp .. => false
  | .SetComp .. => false
  | .DictComp .. => false
  | _ => true
def noTup : Expr → Bool
  | .Tuple .. => false
  | _ => true
/-- a new list -/
def stNew (c : CF) (Γ : Inf) : Expr → Option ME
  | .List es _ => (c.l Γ es).map mLst
  | .Call (.Name x _) [a] [] _ => if Γ.blt x && noStar a then
      (if x = ("list" : Str) then (match (if Γ.hot then none else c.r Γ a) with
        | some mi => some (mLstI mi)
        | none => if Γ.hot then none else (c.e Γ a).map (mB1 .list))
      else if x = ("sorted" : Str) then (c.e Γ a).map (mB1 .sorted) else none) else none
  | .BinOp a .Mult b _ => (c.e Γ a).bind fun ma => (c.e Γ b).map fun mb => mBin .mul ma mb
  | _ => none
def wfuel : Nat := 1048576
def dict0 : Expr → Bool
  | .Dict [] [] _ => true
  | _ => false
/-- tuple(e) -/
def tupOf (Γ : Inf) : Expr → Option Expr
  | .Call (.Name x _) [a] [] _ => if Γ.blt x && noStar a && decide (x = ("tuple" : Str)) then some a else none
  | _ => none
def stAsg (c : CF) (h : Hn) (Γ : Inf) (x : Str) (e : Expr) (line : Nat) : Option MS := (Γ.st x).bind fun i => match e with
  | .ListComp elt [⟨tg, iter, ifs, 0⟩] scope _ => (stLc c Γ elt tg iter ifs scope).map fun m => if line ∈ h.own then mAsgO i m else mAsg i m
  | e => if noComp e then (if line ∈ h.own then (if dict0 e then some (mAsgE i) else (stNew c Γ e).map (mAsgO i)) else (c.e Γ e).map (mAsg i)) else none
def stTo (c : CF) (h : Hn) (Γ : Inf) (t : Expr) (e : Expr) (line : Nat) : Option MS := match t with
  | .Name x _ => stAsg c h Γ x e line
  | .Tuple es _ _ => if Γ.hot || !noComp e || !noTup e then none else (Inf.tg.go Γ es).bind fun is => (c.e Γ e).map (mAsgT is)
  | .Subscript o j _ => if !noComp e || !noSlice j then none else if line ∈ h.own then (match o with
      | .Name x _ => (Γ.vis x).bind fun i => match tupOf Γ j with
        | some jj => (c.e Γ jj).bind fun mj => (c.e Γ e).map fun me => mSetT i mj me
        | none => (c.e Γ j).bind fun mj => (c.e Γ e).map fun me => mSetO i mj me
      | _ => none) else (c.e Γ o).bind fun mo => (c.e Γ j).bind fun mj => (c.e Γ e).map fun me => mSetR mo mj me
  | _ => none
def stMethS (c : CF) (Γ : Inf) (x m : Str) (args : List Expr) : Option MS := (Γ.vis x).bind fun i => match args with
  | [a] => if noStar a then (if m = ("append" : Str) then (c.e Γ a).map (mApp i) else if m = ("extend" : Str) then (c.e Γ a).map (mExt i) else none) else none
  | [] => if m = ("clear" : Str) then some (mClr i) else none
  | _ => none
def stExpr (c : CF) (Γ : Inf) (a : Expr) : Option MS := match a with
  | .Constant (.str _) _ _ => some mPass
  | .Call (.Attribute (.Name x _) m apos) args [] pos => if apos.endLine == pos.line then stMethS c Γ x m args else none
  | a => if noComp a then (c.e Γ a).map mExpr else none
def stRaise (Γ : Inf) : Expr → Option MS
  | .Call (.Name x _) [.Constant (.str _) _ _] [] _ => if Γ.gl x && !Γ.hot then (Γ.cls x).bind fun k => if k.fld = Str.empty then some (mRaise k) else none else none
  | _ => none
def stS (c : CF) (h : Hn) (rec : Inf → List Stmt → Option MS) (Γ : Inf) : Stmt → Option MS
  | .Expr a _ => stExpr c Γ a
  | .Pass _ => some mPass
  | .Break _ => some mBrk
  | .Continue _ => some mCnt
  | .Return none _ => some mRetN
  | .Return (some e) p => (match (if p.line ∈ h.trk then some e else none) with
    | some (.List es _) => (c.l Γ es).map mRetL
    | some _ => none
    | none => (c.e Γ e).map mRet)
  | .If t a b _ => (c.t Γ t).bind fun mt => (rec Γ a).bind fun ma => (rec Γ b).map fun mb => mIf mt ma mb
  | .For tg iter body [] _ => if Γ.hot then none else (Γ.tg tg).bind fun t => (c.i Γ iter).bind fun mi => (rec Γ body).map fun mb => mFor t mi mb
  | .While t body [] _ => if Γ.hot then none else (c.t Γ t).bind fun mt => (rec Γ body).map fun mb => whileGo mt mb wfuel
  | .Assign [t] e p => stTo c h Γ t e p.line
  | .AugAssign (.Name x _) op e _ => if noComp e then (augOf op).bind fun o => (Γ.st x).bind fun i => (c.e Γ e).map (mAug i o) else none
  | .Raise (some e) none _ => stRaise Γ e
  | .Try body [.ExceptHandler (some x) (some n) (b0 :: suite) _] [] [] _ => if Γ.hot || !decide (Γ.sc.lookup n = some .local) then none else
      (Γ.st n).bind fun i => (Γ.ty x).bind fun t => if t.data then none else (rec Γ body).bind fun mb => (rec { Γ with hot := true } (b0 :: suite)).map fun mh => mTry mb t i mh
  | _ => none
def cs (c : CF) (h : Hn) : Nat → Inf → List Stmt → Option MS
  | 0 => fun _ _ => none
  | n + 1 => fun Γ sts => match sts with
    | [] => some mPass
    | st :: r => (stS c h (cs c h n) Γ st).bind fun m => (cs c h n Γ r).map fun mr => frzs h (lineS st) (mSeq m mr)
end MP
end

section
set_option Elab.async false
set_option linter.all false
set_option maxRecDepth 100000
set_option maxHeartbeats 4000000
/-! MP, part u: the meaning of statements is right. -/
namespace MP
open PySem PySem.Spec PyProof.Rows L2
structure SC (Γ : Inf) (k : Nat) (G0 : Gd) (X : Cx) (G : Gd) (W : WX) : Prop extends Ctx Γ k G0 X G W where
  pass : Γ.hot = false → PassesOwn (model X.prog X.w) X.A X.env X.xe
  stk : X.stack = X.env :: X.outer
  fr : X.env.frame = some X.env.locals
section
variable {G0 : Gd} {c : CF} {hn : Hn} {Γ : Inf} {k : Nat} {X : Cx} {G : Gd} {W : WX}
theorem sw_not {e : Expr} {tg : Option Expr} {l : Nat} {env : PySem.Env} (h : noComp e = true) : swapsWith e tg l env = pure false := by
  cases e <;> first | rfl | cases h
theorem sw_sole {e t : Expr} {l : Nat} {env : PySem.Env} (h : noComp e = true) : swapsWithSole [t] e l env = pure false := by
  show swapsWith e (some t) l env = pure false
  exact sw_not h
theorem sw_name {x : Str} {p : Pos} {e : Expr} {l : Nat} {env : PySem.Env} (h : noComp e = true) : swapsWith e (some (.Name x p)) l env = pure false := sw_not h
theorem frzs_ok {st : List Stmt} {n : Nat} {m : MS} (h : PSs X st (tS G W m)) : PSs X st (tS G W (frzs hn n m)) := by
  unfold frzs
  induction hn.frz with
  | nil => exact h
  | cons q r ih =>
    obtain ⟨l, i⟩ := q
    unfold frzs.go
    split
    · exact s_frz ih
    · exact ih
theorem sound_new (K : CFok G0 c) (C : Ctx Γ k G0 X G W) {e : Expr} {m : ME} (h : stNew c Γ e = some m) : PE X e (tEO G W m) := by
  unfold stNew at h
  split at h
  · obtain ⟨ml, h1, rfl⟩ := Option.map_eq_some_iff.mp h
    exact o_lst (K.l C h1).1
  · split at h
    · rename_i hc
      obtain ⟨hb, hs⟩ := Bool.and_eq_true_iff.mp hc
      obtain ⟨h1, h2, h3⟩ := C.blt hb
      split at h
      · rename_i hx; subst hx
        split at h
        · rename_i mi hr
          cases h
          split at hr
          · cases hr
          · rename_i hh
            exact o_lstI (C.cold (by simpa using hh)).2.1 h1 h3 (K.r C hr).2.1 (star hs)
        · split at h
          · cases h
          · rename_i hh
            obtain ⟨ma, h4, rfl⟩ := Option.map_eq_some_iff.mp h
            exact o_list C.gk.1 (C.cold (by simpa using hh)).2.1 h1 h3 (K.e C h4) (star hs)
      · split at h
        · rename_i hx; subst hx
          obtain ⟨ma, h4, rfl⟩ := Option.map_eq_some_iff.mp h
          exact o_sorted C.gk.1 h1 h3 (K.e C h4) (star hs)
        · cases h
    · cases h
  · obtain ⟨ma, h1, h⟩ := Option.bind_eq_some_iff.mp h
    obtain ⟨mb, h2, rfl⟩ := Option.map_eq_some_iff.mp h
    exact o_mul C.gk.1 (K.e C h1) (K.e C h2)
  · cases h
theorem sound_asgLc (K : CFok G0 c) (KC : ClsOk G0) (C : Ctx Γ k G0 X G W) {elt tg iter : Expr} {ifs : List Expr} {scope : Scope} {pos spos p' : Pos} {x : Str} {i : Nat} {m : ME} (hx : Γ.st x = some i) (h : stLc c Γ elt tg iter ifs scope = some m) :
    PS X (.Assign [.Name x p'] (.ListComp elt [⟨tg, iter, ifs, 0⟩] scope pos) spos) (tS G W (mAsg i m)) ∧ PS X (.Assign [.Name x p'] (.ListComp elt [⟨tg, iter, ifs, 0⟩] scope pos) spos) (tS G W (mAsgO i m)) := by
  obtain ⟨tgm, mi, mt, me, rfl, hb, hsl, hfo, cold, warm⟩ := lc_parts K KC C h
  obtain ⟨s1, s2, s3, s4⟩ := C.set hx
  have hsw : swapsWith (.ListComp elt [⟨tg, iter, ifs, 0⟩] scope pos) (some (.Name x p')) spos.line X.env = pure (X.env.blockKind == .function && X.env.kindOf x == some .local && p'.line == pos.line && !(scope.names.any fun (n, k) => n == x && (k == .local || k == .cell))) := rfl
  have core : PS X (.Assign [.Name x p'] (.ListComp elt [⟨tg, iter, ifs, 0⟩] scope pos) spos) (tAsg (tLc (tI G W mi) (gTg G.K tgm) (tT G WF mt) (tE G WF me) ((ownOf Γ.N scope.names).map (·.2))) (gName i)) := by
    rw [C.gk.1]
    cases hsb : (X.env.blockKind == .function && X.env.kindOf x == some .local && p'.line == pos.line && !(scope.names.any fun (n, k) => n == x && (k == .local || k == .cell))) with
    | false =>
      rw [hsb] at hsw
      cases hh : Γ.hot with
      | false =>
        obtain ⟨i1, q⟩ := cold hh
        exact ps_set s2 s1 s3 (pe_lc (C.cold hh).2.1 s2 (i1 tg) hb (fun s H A cl fp => (q s H A cl fp).1) (fun s H A cl fp => (q s H A cl fp).2.1) (fun s H A cl fp => (q s H A cl fp).2.2) hfo) hsw s4
      | true =>
        obtain ⟨i1, q⟩ := warm hh
        obtain ⟨a, ck, _, hx⟩ := C.warm hh
        exact ps_set s2 s1 s3 (pe_lcH hx.hot s2 (i1 tg) hb (fun s H A cl fp => (q s H A cl fp).1) (fun s H A cl fp => (q s H A cl fp).2.1) (fun s H A cl fp => (q s H A cl fp).2.2) hfo) hsw s4
    | true =>
      have hl : X.env.scope.names.lookup x = some .local := by
        simp only [Bool.and_eq_true] at hsb
        have := hsb.1.1.2
        simpa [Env.kindOf] using this
      rw [hsb] at hsw
      cases hh : Γ.hot with
      | false =>
        obtain ⟨i1, q⟩ := cold hh
        exact ps_setLc (C.cold hh).2.1 s2 s1 hl hsw (i1 tg) hb (fun s H A cl fp => (q s H A cl fp).1) (fun s H A cl fp => (q s H A cl fp).2.1) (fun s H A cl fp => (q s H A cl fp).2.2) hfo
      | true =>
        obtain ⟨i1, q⟩ := warm hh
        obtain ⟨a, ck, _, hx⟩ := C.warm hh
        exact ps_setLcH hx.hot s2 s1 hl hsw (i1 tg) hb (fun s H A cl fp => (q s H A cl fp).1) (fun s H A cl fp => (q s H A cl fp).2.1) (fun s H A cl fp => (q s H A cl fp).2.2) hfo
  exact ⟨impS core fun D σ H h => lc_read hsl (asg_read h), impS core fun D σ H h => lcO_read hsl (asgO_read h)⟩
theorem sound_asg (K : CFok G0 c) (KC : ClsOk G0) (C : Ctx Γ k G0 X G W) {x : Str} {p' pos : Pos} {e : Expr} {l : Nat} {m : MS} (h : stAsg c hn Γ x e l = some m) : PS X (.Assign [.Name x p'] e pos) (tS G W m) := by
  unfold stAsg at h
  obtain ⟨i, hx, h⟩ := Option.bind_eq_some_iff.mp h
  obtain ⟨s1, s2, s3, s4⟩ := C.set hx
  split at h
  · obtain ⟨ml, h1, h2⟩ := Option.map_eq_some_iff.mp h
    have q := sound_asgLc K KC C (pos := ‹Pos›) (spos := pos) (p' := p') hx h1
    split at h2
    · subst h2; exact q.2
    · subst h2; exact q.1
  · split at h
    · rename_i hc
      split at h
      · split at h
        · rename_i h0
          cases h
          unfold dict0 at h0
          split at h0
          · exact s_asgE s2 s1 s3 (sw_not hc) s4
          · cases h0
        · obtain ⟨ma, h1, rfl⟩ := Option.map_eq_some_iff.mp h
          exact s_asgO s2 s1 s3 (sound_new K C h1) (sw_not hc) s4
      · obtain ⟨ma, h1, rfl⟩ := Option.map_eq_some_iff.mp h
        exact s_asg s2 s1 s3 (K.e C h1) (sw_not hc) s4
    · cases h
theorem asg_sub {o j : Expr} {p3 : Pos} (h : noSlice j = true) : ∀ v, assign (.Subscript o j p3) X.env v = (do
      let ov ← holding [v] (eval o X.env)
      let iv ← holding [v, ov] (eval j X.env)
      standAt p3
      holding [v, ov, iv] (setItem ov iv v)
      release [v, ov, iv] []) := by
  intro v
  cases j <;> first | rfl | cases h
theorem sw_st {ts : List Expr} {e : Expr} {env : PySem.Env} (h : ∀ a b c, ts ≠ [.Tuple a b c] ∧ ts ≠ [.List a c]) : swappedStores ts e env = pure none := by
  unfold swappedStores
  split
  · rename_i h2
    split at h2
    · exact absurd rfl (h _ _ _).1
    · exact absurd rfl (h _ 0 _).2
    · cases h2
  · rfl
theorem sw_tup {t : Expr} {e : Expr} {env : PySem.Env} (h : noTup e = true) : swappedStores [t] e env = pure none := by
  unfold swappedStores
  split
  · rename_i h2
    split at h2
    · cases h
    · cases h
    · cases h2
  · rfl
theorem sound_to (K : CFok G0 c) (KC : ClsOk G0) (C : Ctx Γ k G0 X G W) {t e : Expr} {pos : Pos} {l : Nat} {m : MS} (h : stTo c hn Γ t e l = some m) : PS X (.Assign [t] e pos) (tS G W m) := by
  unfold stTo at h
  split at h
  · exact sound_asg K KC C h
  · split at h
    · cases h
    · rename_i hc
      have hc : (Γ.hot = false ∧ noComp e = true) ∧ noTup e = true := by simpa using hc
      obtain ⟨is, h1, h⟩ := Option.bind_eq_some_iff.mp h
      obtain ⟨me, h2, rfl⟩ := Option.map_eq_some_iff.mp h
      have g := C.many h1
      exact s_asgT C.gk.1 (K.e C h2) (pg_tup (C.cold hc.1.1).2.1 g.1 g.2.1 g.2.2) (sw_sole hc.1.2) (sw_tup hc.2) rfl
  · split at h
    · cases h
    · rename_i hc
      have hc : noComp e = true ∧ noSlice ‹Expr› = true := by simpa using hc
      split at h
      · split at h
        · obtain ⟨i, h1, h⟩ := Option.bind_eq_some_iff.mp h
          obtain ⟨v1, v2, v3, v4⟩ := C.vis h1
          split at h
          · rename_i jj qj
            obtain ⟨mj, h2, h⟩ := Option.bind_eq_some_iff.mp h
            obtain ⟨me, h3, rfl⟩ := Option.map_eq_some_iff.mp h
            unfold tupOf at qj
            split at qj
            · split at qj
              · rename_i hq
                cases qj
                simp only [Bool.and_eq_true, decide_eq_true_eq] at hq
                obtain ⟨⟨hb, hs⟩, rfl⟩ := hq
                obtain ⟨g1, g2, g3⟩ := C.blt hb
                exact s_setT (by have := C.units; omega) v1 v2 v3 v4 (K.e C h3) (K.e C h2) g1 g3 (star hs) C.gk.1 (sw_sole hc.1) (sw_st fun _ _ _ => ⟨fun z => (nomatch z), fun z => (nomatch z)⟩) (asg_sub hc.2)
              · cases qj
            · cases qj
          obtain ⟨mj, h2, h⟩ := Option.bind_eq_some_iff.mp h
          obtain ⟨me, h3, rfl⟩ := Option.map_eq_some_iff.mp h
          exact s_setO v1 v2 v3 v4 (K.e C h3) (K.e C h2) (sw_sole hc.1) (sw_st fun _ _ _ => ⟨fun z => (nomatch z), fun z => (nomatch z)⟩) (asg_sub hc.2)
        · cases h
      · obtain ⟨mo, h1, h⟩ := Option.bind_eq_some_iff.mp h
        obtain ⟨mj, h2, h⟩ := Option.bind_eq_some_iff.mp h
        obtain ⟨me, h3, rfl⟩ := Option.map_eq_some_iff.mp h
        exact s_setR (K.e C h3) (K.e C h1) (K.e C h2) (sw_sole hc.1) (sw_st fun _ _ _ => ⟨fun z => (nomatch z), fun z => (nomatch z)⟩) (asg_sub hc.2) rfl
  · cases h
theorem sound_expr (K : CFok G0 c) (C : Ctx Γ k G0 X G W) {a : Expr} {pos : Pos} {m : MS} (h : stExpr c Γ a = some m) : PS X (.Expr a pos) (tS G W m) := by
  unfold stExpr at h
  split at h
  · cases h; exact s_doc
  · split at h
    · rename_i hl
      unfold stMethS at h
      obtain ⟨i, h1, h5⟩ := Option.bind_eq_some_iff.mp h
      obtain ⟨v1, v2, v3, v4⟩ := C.vis h1
      split at h5
      · split at h5
        · rename_i hs
          split at h5
          · rename_i hx; subst hx
            obtain ⟨ma, h2, rfl⟩ := Option.map_eq_some_iff.mp h5
            exact s_app v1 v2 v3 v4 (K.e C h2) (few1 hs) hl (star hs)
          · split at h5
            · rename_i hx; subst hx
              obtain ⟨ma, h2, rfl⟩ := Option.map_eq_some_iff.mp h5
              exact s_ext v1 v2 v3 v4 (K.e C h2) (few1 hs) hl (star hs)
            · cases h5
        · cases h5
      · split at h5
        · rename_i hx; subst hx
          cases h5
          exact s_clr v1 v2 v3 v4 hl
        · cases h5
      · cases h5
    · cases h
  · split at h
    · rename_i hc
      obtain ⟨ma, h2, rfl⟩ := Option.map_eq_some_iff.mp h
      exact s_expr (K.e C h2) (sw_not hc)
    · cases h
theorem sound_raise (KC : ClsOk G0) (C : Ctx Γ k G0 X G W) {e : Expr} {pos : Pos} {m : MS} (h : stRaise Γ e = some m) : PS X (.Raise (some e) none pos) (tS G W m) := by
  unfold stRaise at h
  split at h
  · split at h
    · rename_i hc
      obtain ⟨hg, hh⟩ := Bool.and_eq_true_iff.mp hc
      have hh : Γ.hot = false := by simpa using hh
      obtain ⟨kk, h1, h⟩ := Option.bind_eq_some_iff.mp h
      split at h
      · rename_i hf
        cases h
        obtain ⟨g1, g2⟩ := C.gl hg
        obtain ⟨rfl, h2, h3, h4⟩ := C.cold hh
        have e1 := KC.own kk hf
        have e2 := KC.keep kk
        have e3 := KC.sub kk
        have e4 := KC.typ kk
        rw [C.K] at e1 e2 e3 e4
        exact s_raise h2 h4 (L2N.pmk_own PySem.F.excBase_ValueError e1 (C.cls _ _ h1) e2 (raises_own e3 e4) g1 g2)
      · cases h
    · cases h
  · cases h
theorem Ctx.names (C : Ctx Γ k G0 X G W) {e : Expr} {t : Ty} (h : Γ.ty e = some t) : ∃ x p, e = .Name x p ∧ L2.Names X x (t.u G.cA) := by
  cases e with
  | Name x p =>
    refine ⟨x, p, rfl, ?_⟩
    unfold Inf.ty at h
    dsimp only at h
    split at h
    · rename_i hb
      obtain ⟨h1, h2, h3⟩ := C.blt hb
      obtain ⟨h4, h5⟩ := tyB_ok (cA := G.cA) h
      exact ⟨h1, h2, .inr ⟨h3, h4, h5⟩⟩
    · split at h
      · rename_i hg
        obtain ⟨h1, h2⟩ := C.gl hg
        cases q : Γ.cls x with
        | none => rw [q] at h; cases h
        | some c =>
          rw [q] at h
          cases h
          have e := C.cls x c q
          rw [← C.gk.2.1] at e
          exact ⟨h1, h2, .inl e⟩
      · cases h
  | _ => cases h
theorem SC.tr (C : SC Γ k G0 X G W) (hh : Γ.hot = false) {W' : WX} {pn : List (Addr × Obj)} {xe : Value → Shared → Prop} (tk : L2N.Takes (X.tr pn xe) W') (hp : PassesOwn (model X.prog X.w) X.A X.env xe) : SC Γ k G0 (X.tr pn xe) G W' := by
  obtain ⟨rfl, h2, h3, h4⟩ := C.cold hh
  exact ⟨⟨C.N, C.nd, C.kind, C.sc, C.K, C.h0, fun _ => ⟨rfl, h2, h3, tk⟩, fun z => absurd z (by rw [hh]; exact Bool.false_ne_true), HxOk.no C.h0, C.roomH, C.st, C.bl, C.fns, C.cls, C.glo, C.gd⟩, fun _ => hp, C.stk, C.fr⟩
theorem SC.suite (KC : ClsOk G0) (C : SC Γ k G0 X G0 W) {a : Addr} {oe : Obj} {ck : EC} {pn : List (Addr × Obj)} (hz : L2N.Zn (.ref (G0.cA ck)) none oe) (hf : ∃ vs, oe.data = .fields vs) : SC { Γ with hot := true } k G0 (X.suite a ((a, oe) :: pn)) (G0.with a ck none) WF := by
  have hx : HotX (X.suite a ((a, oe) :: pn)) a (.ref (G0.cA ck)) := by
    obtain ⟨vs, hv⟩ := hf
    exact ⟨oe, List.mem_cons_self, ⟨rfl, vs, hv, hz.2.2 vs hv⟩, hz.zc, vs, hv⟩
  exact ⟨⟨C.N, C.nd, C.kind, C.sc, C.K, C.h0, fun z => (nomatch z), fun _ => ⟨a, ck, rfl, hx⟩, hxOk C.K KC hx, ⟨C.roomH.dp, C.roomH.un⟩, C.st, C.bl, C.fns, C.cls, C.glo, C.gd⟩, fun z => (nomatch z), C.stk, C.fr⟩
end
theorem cs_ok {G0 : Gd} {c : CF} {hn : Hn} (KC : ClsOk G0) (K : CFok G0 c) : ∀ (n : Nat) {Γ : Inf} {k : Nat} {X : Cx} {G : Gd} {W : WX}, SC Γ k G0 X G W → ∀ {sts : List Stmt} {m : MS}, cs c hn n Γ sts = some m → PSs X sts (tS G W m)
  | 0, Γ, k, X, G, W, C, sts, m, h => nomatch h
  | n + 1, Γ, k, X, G, W, C, sts, m, h => by
    have nd : X.N.Nodup := by rw [C.N]; exact C.nd
    unfold cs at h
    cases sts with
    | nil => cases h; exact s_none
    | cons st r =>
      obtain ⟨m1, h1, h⟩ := Option.bind_eq_some_iff.mp h
      obtain ⟨m2, h2, rfl⟩ := Option.map_eq_some_iff.mp h
      refine frzs_ok (s_seq ?_ (cs_ok KC K n C h2))
      unfold stS at h1
      split at h1
      · exact sound_expr K C.toCtx h1
      · cases h1; exact s_pass
      · cases h1; exact s_brk
      · cases h1; exact s_cnt
      · cases h1; exact s_retN
      · split at h1
        · rename_i hq
          obtain ⟨ml, h3, rfl⟩ := Option.map_eq_some_iff.mp h1
          split at hq
          · cases hq; exact s_retL (K.l C.toCtx h3).1
          · cases hq
        · cases h1
        · obtain ⟨me, h3, rfl⟩ := Option.map_eq_some_iff.mp h1
          exact s_ret (K.e C.toCtx h3)
      · obtain ⟨mt, h3, h1⟩ := Option.bind_eq_some_iff.mp h1
        obtain ⟨ma, h4, h1⟩ := Option.bind_eq_some_iff.mp h1
        obtain ⟨mb, h5, rfl⟩ := Option.map_eq_some_iff.mp h1
        exact s_if (K.t C.toCtx h3) (cs_ok KC K n C h4) (cs_ok KC K n C h5)
      · split at h1
        · cases h1
        · rename_i hh
          have hh : Γ.hot = false := by simpa using hh
          obtain ⟨t, h3, h1⟩ := Option.bind_eq_some_iff.mp h1
          obtain ⟨mi, h4, h1⟩ := Option.bind_eq_some_iff.mp h1
          obtain ⟨mb, h5, rfl⟩ := Option.map_eq_some_iff.mp h1
          obtain ⟨i1, i2, i3⟩ := K.i C.toCtx h4
          exact s_for C.toCtx.gk.1 (C.pass hh) (C.cold hh).2.1 (i2 hh _) (C.toCtx.tg h3) (cs_ok KC K n C h5) (noFold i1)
      · split at h1
        · cases h1
        · rename_i hh
          have hh : Γ.hot = false := by simpa using hh
          obtain ⟨mt, h3, h1⟩ := Option.bind_eq_some_iff.mp h1
          obtain ⟨mb, h5, rfl⟩ := Option.map_eq_some_iff.mp h1
          exact s_while (C.pass hh) (K.t C.toCtx h3) (cs_ok KC K n C h5)
      · exact sound_to K KC C.toCtx h1
      · split at h1
        · obtain ⟨o, h3, h1⟩ := Option.bind_eq_some_iff.mp h1
          obtain ⟨i, h4, h1⟩ := Option.bind_eq_some_iff.mp h1
          obtain ⟨me, h5, rfl⟩ := Option.map_eq_some_iff.mp h1
          obtain ⟨s1, s2, s3, s4⟩ := C.toCtx.set h4
          exact s_aug h3 s2 s1 s3 (K.e C.toCtx h5) s4
        · cases h1
      · exact sound_raise KC C.toCtx h1
      · split at h1
        · cases h1
        · rename_i hc
          have hc := Bool.or_eq_false_iff.mp (Bool.eq_false_iff.mpr hc)
          have hl := of_decide_eq_true (p := Γ.sc.lookup _ = some NameKind.local) (by simpa using hc.2)
          obtain ⟨i, h3, h1⟩ := Option.bind_eq_some_iff.mp h1
          obtain ⟨t, h4, h1⟩ := Option.bind_eq_some_iff.mp h1
          split at h1
          · cases h1
          · rename_i ht
            have ht : t.data = false := by simpa using ht
            obtain ⟨mb, h5, h1⟩ := Option.bind_eq_some_iff.mp h1
            obtain ⟨mh, h6, rfl⟩ := Option.map_eq_some_iff.mp h1
            obtain ⟨x, p, rfl, hN⟩ := C.toCtx.names h4
            obtain ⟨s1, s2, s3, s4⟩ := C.toCtx.set h3
            obtain ⟨rfl, _, _, tk⟩ := C.cold hc.1
            refine s_try C.K C.h0 C.stk C.fr s2 s1 ?_ hN tk (fun k => KC.exm k t ht) (fun W' pn xe tk' hp => cs_ok KC K n (C.tr hc.1 tk' hp) h5) fun a oe ck pn hz hf => cs_ok KC K n (C.suite KC hz hf) h6
            show X.env.scope.names.lookup _ = some .local
            rw [C.sc]
            exact hl
      · cases h1
end MP
end

section
set_option Elab.async false
set_option linter.all false
set_option maxRecDepth 100000
set_option maxHeartbeats 4000000
/-! MP, part v: the table of defs; the law's end. -/
namespace MP
open PySem PySem.Spec PyProof.Rows L2
theorem fm_cong {α β : Type} {f g : α → Option β} : ∀ {l : List α}, (∀ a ∈ l, f a = g a) → l.filterMap f = l.filterMap g
  | [], _ => rfl
  | a :: l, h => by rw [List.filterMap_cons, List.filterMap_cons, h a List.mem_cons_self, fm_cong fun b hb => h b (List.mem_cons_of_mem _ hb)]
theorem zip_lookup : ∀ {ps : List Str} {us : List Value}, ps.Nodup → us.length = ps.length → (ps.filterMap fun n => ((ps.zip us).lookup n).map (n, ·)) = ps.zip us ∧ ∀ n ∈ ps, ((ps.zip us).lookup n).isNone = false
  | [], us, _, h => by cases us <;> first | (refine ⟨rfl, fun n h => ?_⟩; simp at h) | simp at h
  | p :: ps, [], _, h => by simp at h
  | p :: ps, u :: us, nd, h => by
    obtain ⟨n1, n2⟩ := List.nodup_cons.mp nd
    obtain ⟨i1, i2⟩ := zip_lookup (ps := ps) (us := us) n2 (by simpa using h)
    have ne : ∀ n ∈ ps, (n == p) = false := fun n hn => by
      simp only [beq_eq_false_iff_ne]
      intro e; subst e; exact n1 hn
    refine ⟨?_, fun n hn => ?_⟩
    · rw [List.zip_cons_cons, List.filterMap_cons, List.lookup_cons_self, Option.map_some]
      dsimp only
      have e : (ps.filterMap fun n => (List.lookup n ((p, u) :: ps.zip us)).map (n, ·)) = ps.filterMap fun n => ((ps.zip us).lookup n).map (n, ·) := by
        exact fm_cong fun n hn => by rw [List.lookup_cons, ne n hn]
      rw [e, i1]
    · rw [List.zip_cons_cons, List.lookup_cons]
      rcases List.mem_cons.mp hn with hn | hn
      · subst hn; simp
      · rw [ne n hn]; exact i2 n hn
theorem bind_plain {fd : FuncData} {ps : List Str} {us : List Value} (h1 : fd.params.posonlyargs = []) (h2 : fd.params.args.map (·.arg) = ps) (h3 : fd.params.vararg = none) (h4 : fd.params.kwonlyargs = []) (h5 : fd.params.kwarg = none) (h6 : fd.defaults = .none) (nd : ps.Nodup) (hl : us.length = ps.length) :
    bindArgs fd ⟨us, []⟩ = pure (ps.zip us) := by
  obtain ⟨z1, z2⟩ := zip_lookup nd hl
  have hm : (ps.filter fun n => ((ps.zip us).lookup n).isNone) = [] := List.filter_eq_nil_iff.mpr fun n hn => by rw [z2 n hn]; exact Bool.false_ne_true
  have hs : seqItems? Value.none = pure none := rfl
  unfold bindArgs
  simp only [h1, h2, h3, h4, h5, h6, hs, List.map_nil, List.nil_append, List.append_nil, pure_bind, hl, Option.isNone_none, Bool.and_true, List.forIn_nil]
  simp [hl, hm, z1]

inductive Kd where
  | pure | eff | hot | rc (n : Nat)
/-- a def of the text: what is known of it, its names by slots, its parameters, hints -/
structure DC where
  d : He.DefD
  N : List Str
  ps : List Str
  hn : Hn
  kd : Kd
/-- what all defs share -/
structure Gt where
  cls : Str → Option EC
  glo : Str → Option D
  gd : Str → Option (List (Str × D))
  bl : List Str
abbrev Tb := List (Str × FK)
def tbT (tb : Tb) (x : Str) : FK := (tb.lookup x).getD .none
def DC.inf (q : DC) (gt : Gt) (hot : Bool) (tb : Tb) : Inf := ⟨q.N, q.d.scope.names, q.d.scope.names, hot, tbT tb, gt.cls, gt.glo, gt.gd, q.hn.tq, gt.bl⟩
def DC.ms (q : DC) (gt : Gt) (hot : Bool) (tb : Tb) : Option MS := cs (cf 120) q.hn 200 (q.inf gt hot tb) q.d.body
def mNo : MS := fun _ _ => .stuck
def DC.m (q : DC) (gt : Gt) (hot : Bool) (tb : Tb) : MS := (q.ms gt hot tb).getD mNo
def recP (q : DC) (gt : Gt) (tb : Tb) : Nat → List D → P
  | 0 => fun _ => .stuck
  | j + 1 => runP q.N.length (q.m gt false ((q.d.name, .pure q.ps.length (recP q gt tb j)) :: tb))
def fkOf (gt : Gt) (tb : Tb) (q : DC) : FK := match q.kd with
  | .pure => .pure q.ps.length (runP q.N.length (q.m gt false tb))
  | .eff => .eff q.ps.length (runE q.N.length (q.m gt false tb))
  | .hot => .hot q.ps.length (runE q.N.length (q.m gt true tb))
  | .rc n => .pure q.ps.length (recP q gt tb n)
def tab (gt : Gt) : Tb → List DC → Tb
  | tb, [] => tb
  | tb, q :: r => tab gt ((q.d.name, fkOf gt tb q) :: tb) r
def DC.lv (q : DC) : Nat := match q.kd with
  | .rc n => n + 1
  | _ => 1
def lev : List DC → Nat
  | [] => 0
  | q :: r => q.lv + lev r
def DC.ok (q : DC) : Bool := decide (q.d.scope.kind = .function) && (q.d.scope.isCoroutine == false) && (q.d.scope.isGenerator == false) && decide q.N.Nodup && decide (q.N.take q.ps.length = q.ps) && (q.ps.all fun x => decide (q.d.scope.names.lookup x = some .local) || decide (q.d.scope.names.lookup x = some .cell)) &&
  (q.d.scope.names.all fun y => decide (y.2 ≠ .free)) && q.d.dfl.isEmpty && q.d.kwd.isEmpty && q.d.params.posonlyargs.isEmpty && decide (q.d.params.args.map (·.arg) = q.ps) && q.d.params.vararg.isNone && q.d.params.kwonlyargs.isEmpty && q.d.params.kwarg.isNone
section
variable {Pr : Program} {wo : World} {mg : Str → Option Value} {base : Heap} {G : Gd} {k : Nat}
theorem DC.scope {q : DC} (h : q.ok = true) : FnScope q.N q.ps q.d.scope := by
  unfold DC.ok at h
  simp only [Bool.and_eq_true, decide_eq_true_eq, beq_iff_eq, List.all_eq_true, Bool.or_eq_true] at h
  obtain ⟨⟨⟨⟨⟨⟨⟨⟨⟨⟨⟨⟨⟨h1, h2⟩, h3⟩, h4⟩, h5⟩, h6⟩, h7⟩, _⟩, _⟩, _⟩, _⟩, _⟩, _⟩, _⟩ := h
  exact ⟨h1, h2, h3, h4, h5, h6, h7⟩
theorem DC.plain {q : DC} (h : q.ok = true) : q.d.dfl = [] ∧ q.d.kwd = [] ∧ q.d.params.posonlyargs = [] ∧ q.d.params.args.map (·.arg) = q.ps ∧ q.d.params.vararg = none ∧ q.d.params.kwonlyargs = [] ∧ q.d.params.kwarg = none ∧ q.ps.Nodup := by
  have S := DC.scope h
  unfold DC.ok at h
  simp only [Bool.and_eq_true, decide_eq_true_eq, List.isEmpty_iff, Option.isNone_iff_eq_none] at h
  obtain ⟨⟨⟨⟨⟨⟨⟨_, h8⟩, h9⟩, h10⟩, h11⟩, h12⟩, h13⟩, h14⟩ := h
  exact ⟨h8, h9, h10, h11, h12, h13, h14, by rw [← S.pre]; exact S.nd.sublist (List.take_sublist _ _)⟩
/-- where a def stands -/
structure At (K : PySem.W.Frag) (mg : Str → Option Value) (q : DC) (f : Addr) (fd : FuncData) : Prop where
  F : FunD K q.d.name q.d.qual q.d.params q.d.body q.d.scope [] [] f fd
  g : mg q.d.name = some (.ref f)
theorem At.binds {q : DC} {f : Addr} {fd : FuncData} {K : PySem.W.Frag} (A : At K mg q f fd) (h : q.ok = true) : Binds K fd q.ps [] := by
  obtain ⟨_, _, h1, h2, h3, h4, h5, nd⟩ := DC.plain h
  exact A.F.bindsN fun kV doc pm an cdv ct us hl => bind_plain h1 h2 h3 h4 h5 rfl nd hl
theorem At.bindsA {q : DC} {f : Addr} {fd : FuncData} {K : PySem.W.Frag} (A : At K mg q f fd) (h : q.ok = true) (s : Shared) (us : List Value) (hl : us.length = q.ps.length) : BindsTo s fd ⟨us, []⟩ (q.ps.zip us) := by
  obtain ⟨_, _, h1, h2, h3, h4, h5, nd⟩ := DC.plain h
  exact A.F.bindsA (fun kV doc pm an cdv ct us hl => bind_plain h1 h2 h3 h4 h5 rfl nd hl) s us hl
theorem FnFact.mono {x : Str} {fk : FK} {j : Nat} (h : FnFact Pr wo mg base G j x fk) (hk : j ≤ k) : FnFact Pr wo mg base G k x fk := by
  cases fk with
  | pure n f => obtain ⟨a, fd, ps, h1, F, h2⟩ := h; exact ⟨a, fd, ps, h1, F.mono hk, h2⟩
  | eff n f => obtain ⟨a, fd, ps, h1, F, h2⟩ := h; exact ⟨a, fd, ps, h1, F.mono hk, h2⟩
  | hot n f => obtain ⟨a, fd, ps, h1, F, h2⟩ := h; exact ⟨a, fd, ps, h1, F.mono hk, h2⟩
  | none => trivial
def TbOk (Pr : Program) (wo : World) (mg : Str → Option Value) (base : Heap) (G : Gd) (k : Nat) (tb : Tb) : Prop := ∀ x, FnFact Pr wo mg base G k x (tbT tb x)
theorem TbOk.cons {tb : Tb} {x : Str} {fk : FK} {j : Nat} (h : TbOk Pr wo mg base G j tb) (hk : j ≤ k) (f : FnFact Pr wo mg base G k x fk) : TbOk Pr wo mg base G k ((x, fk) :: tb) := fun y => by
  unfold tbT
  rw [List.lookup_cons]
  by_cases hy : (y == x) = true
  · rw [hy]
    have : y = x := by simpa using hy
    subst this
    exact f
  · have hy : (y == x) = false := by simpa using hy
    rw [hy]
    exact (h y).mono hk
structure GtOk (wo : World) (G : Gd) (mg : Str → Option Value) (gt : Gt) : Prop where
  bl : ∀ x ∈ gt.bl, mg x = none
  cls : ∀ x c, gt.cls x = some c → mg x = some (.ref (G.cA c))
  glo : ∀ x d, gt.glo x = some d → ∃ v u, mg x = some u ∧ RelV v u ∧ ∀ N H, Rep G.K N H d v
  gd : ∀ x kvs, gt.gd x = some kvs → ∃ a : Addr, mg x = some (.ref a) ∧ ∀ z y, kvs.lookup z = some y → ∀ (N : Addr → Prop) (H : Hp), ∃ v, KDct G.K wo a z v ∧ Rep G.K N H y v
variable {gt : Gt} {tb : Tb}
theorem psNo {X : Cx} {W : WX} {G : Gd} {sts : List Stmt} : PSs X sts (tS G W mNo) := ⟨fun _ _ _ _ _ _ ⟨_, _, _, _, _, h⟩ => h.elim⟩
theorem cold_ok (h0 : G.hx = none) (KC : ClsOk G) (GO : GtOk wo G mg gt) {q : DC} (h : q.ok = true) (T : TbOk Pr wo mg base G k tb) {f : Addr} (cdv : Value) (A : Around) (outer : List PySem.Env) (s : Shared) (H : Hp) (E : XK) (hr : Room k (A.deeper (envOfC q.d.qual q.d.scope s.heap.objs.size f cdv))) :
    PSs (cxOf (L2N.CX Pr wo) Pr wo G.K mg base q.N q.d.qual q.d.scope f cdv A outer s H E) q.d.body (tS G (WO E) (q.m gt false tb)) := by
  have S := DC.scope h
  unfold DC.m
  cases hm : q.ms gt false tb with
  | none => exact psNo
  | some m =>
    refine cs_ok KC (cf_ok KC 120) 200 (Γ := q.inf gt false tb) (k := k) ⟨⟨rfl, S.nd, S.kind, rfl, rfl, h0, fun _ => ⟨rfl, rfl, hr, takes_def⟩, fun z => (nomatch z), HxOk.no h0, L2H.roomH_of hr, fun x i hx => ⟨?_, .inl rfl⟩, GO.bl, T, GO.cls, GO.glo, GO.gd⟩, fun _ => L2.passes_of rfl, rfl, rfl⟩ hm
    unfold Inf.st at hx
    split at hx
    · rename_i e; exact .inl e
    · rename_i e; exact .inr e
    · cases hx
theorem hot_ok (h0 : G.hx = none) (KC : ClsOk G) (GO : GtOk wo G mg gt) {q : DC} (h : q.ok = true) (T : TbOk Pr wo mg base G k tb) {f : Addr} (cdv : Value) (A : Around) (outer : List PySem.Env) (s : Shared) (H : Hp) (p : Addr × Obj) (c : EC) (hr : L2H.RoomH k (A.deeper (envOfC q.d.qual q.d.scope s.heap.objs.size f cdv)))
    (hx : HotX (L2H.cxH (L2N.CX Pr wo) Pr wo G.K mg base q.N q.d.qual q.d.scope f cdv A outer s H NoE p) p.1 (.ref (G.cA c))) :
    PSs (L2H.cxH (L2N.CX Pr wo) Pr wo G.K mg base q.N q.d.qual q.d.scope f cdv A outer s H NoE p) q.d.body (tS (G.with p.1 c none) WF (q.m gt true tb)) := by
  have S := DC.scope h
  unfold DC.m
  cases hm : q.ms gt true tb with
  | none => exact psNo
  | some m =>
    refine cs_ok KC (cf_ok KC 120) 200 (Γ := q.inf gt true tb) (k := k) ⟨⟨rfl, S.nd, S.kind, rfl, rfl, h0, fun z => (nomatch z), fun _ => ⟨p.1, c, rfl, hx⟩, hxOk rfl KC hx, hr, fun x i hx => ⟨?_, .inl rfl⟩, GO.bl, T, GO.cls, GO.glo, GO.gd⟩, fun z => (nomatch z), rfl, rfl⟩ hm
    unfold Inf.st at hx
    split at hx
    · rename_i e; exact .inl e
    · rename_i e; exact .inr e
    · cases hx
theorem fact_rec (h0 : G.hx = none) (KC : ClsOk G) (GO : GtOk wo G mg gt) {q : DC} (h : q.ok = true) (T : TbOk Pr wo mg base G k tb) {f : Addr} {fd : FuncData} (A : At G.K mg q f fd) : ∀ n, FnFact Pr wo mg base G (k + n + 1) q.d.name (.pure q.ps.length (recP q gt tb n))
  | 0 => ⟨f, fd, q.ps, rfl, def_P (m := mNo) A.F (DC.scope h) fun _ _ _ _ _ _ _ => psNo, A.g, A.F.kp, A.binds h⟩
  | n + 1 => by
    have ih := fact_rec h0 KC GO h T A n
    have T' : TbOk Pr wo mg base G (k + n + 1) ((q.d.name, .pure q.ps.length (recP q gt tb n)) :: tb) := T.cons (by omega) ih
    exact ⟨f, fd, q.ps, rfl, def_P A.F (DC.scope h) fun cdv A' outer s H E hr => cold_ok h0 KC GO h T' cdv A' outer s H E hr, A.g, A.F.kp, A.binds h⟩
theorem fact_ok (h0 : G.hx = none) (KC : ClsOk G) (GO : GtOk wo G mg gt) {q : DC} (h : q.ok = true) (T : TbOk Pr wo mg base G k tb) {f : Addr} {fd : FuncData} (A : At G.K mg q f fd) : FnFact Pr wo mg base G (k + q.lv) q.d.name (fkOf gt tb q) := by
  cases hk : q.kd with
  | pure =>
    unfold fkOf DC.lv; rw [hk]
    exact ⟨f, fd, q.ps, rfl, def_P A.F (DC.scope h) fun cdv A' outer s H E hr => cold_ok h0 KC GO h T cdv A' outer s H E hr, A.g, A.F.kp, A.binds h⟩
  | eff =>
    unfold fkOf DC.lv; rw [hk]
    exact ⟨f, fd, q.ps, rfl, def_E A.F (DC.scope h) fun cdv A' outer s H E hr => cold_ok h0 KC GO h T cdv A' outer s H E hr, A.g, A.F.kp, A.binds h⟩
  | hot =>
    unfold fkOf DC.lv; rw [hk]
    exact ⟨f, fd, q.ps, rfl, def_H A.F (DC.scope h) fun cdv A' outer s H p c hr hx => hot_ok h0 KC GO h T cdv A' outer s H p c hr hx, A.g, A.F.kp, A.binds h⟩
  | rc n =>
    unfold fkOf DC.lv; rw [hk]
    exact fact_rec h0 KC GO h T A n
theorem tab_ok (h0 : G.hx = none) (KC : ClsOk G) (GO : GtOk wo G mg gt) : ∀ (qs : List DC) {k : Nat} {tb : Tb}, (∀ q ∈ qs, q.ok = true ∧ ∃ f fd, At G.K mg q f fd) → TbOk Pr wo mg base G k tb → TbOk Pr wo mg base G (k + lev qs) (tab gt tb qs)
  | [], k, tb, _, T => T
  | q :: qs, k, tb, h, T => by
    obtain ⟨h1, f, fd, A⟩ := h q List.mem_cons_self
    have T' : TbOk Pr wo mg base G (k + q.lv) ((q.d.name, fkOf gt tb q) :: tb) := T.cons (Nat.le_add_right _ _) (fact_ok h0 KC GO h1 T A)
    have r := tab_ok h0 KC GO qs (fun q hq => h q (List.mem_cons_of_mem _ hq)) T'
    unfold tab lev
    rw [← Nat.add_assoc]
    exact r
theorem TbOk.nil : TbOk Pr wo mg base G 0 [] := fun _ => trivial
/-- what is promised of the law's def, at the script -/
theorem law_sp {K : PySem.W.Frag} {G : Gd} (hK : G.K = K) {f : List Val → S → MP.R Val} {ns : List Int} {H : Hp} {a : Addr} (hl : ns.length ≤ 16777216) (hO : Only H) (hS : SqL K H a (ns.map V.int)) {s' : S} (h : f [.scr ns] [] = .ok (.d (.bl true)) s') : spE G 1 f [.ref a] H (fun v _ => v = .bl true) (fun _ _ _ => False) := by
  subst hK
  refine ⟨rfl, ⟨[], fun _ => False, fun _ => False⟩, [], [.scr ns], ⟨List.nodup_nil, rfl, fun n xs p h => by simp at h, fun p h => by simp at h, fun _ _ z => z, fun p h => h.elim False.elim False.elim⟩, fun _ z => z, ⟨.ref a, [], rfl, ⟨a, rfl, ?_, hl⟩, rfl⟩, rfl, ?_⟩
  · rcases hS with (h | ⟨o, h⟩) | h
    · rcases hO a with z | ⟨o, xs, z⟩
      · rw [z] at h; cases h
      · rw [z] at h; cases h
    · exact .inl ⟨o, h⟩
    · exact .inr (.inr h)
  · rw [h]
    intro w' H' u x o r
    have r : Rep G.K w'.N H' (.bl true) u := r
    unfold Rep at r
    exact r
end
end MP
end

section
set_option Elab.async false
set_option linter.all false
set_option maxRecDepth 100000
set_option maxHeartbeats 4000000
/-! MP, part w: the head. -/
namespace MP
open PySem PySem.Spec PyProof.Rows L2
def allEC : List EC := [.JoinError, .BadLetters, .BadNumber, .BadKind, .BadRenaming, .BadTable, .BadChart, .BadPlace, .BadFilling, .BadLot, .BadPlan, .BadNamed, .BadRecord, .BadMove, .BadText, .TooMany, .Unlike, .NoChart, .NoPlan]
def EC.nm : EC → Str
  | .JoinError => "JoinError" | .BadLetters => "BadLetters" | .BadNumber => "BadNumber" | .BadKind => "BadKind" | .BadRenaming => "BadRenaming" | .BadTable => "BadTable" | .BadChart => "BadChart" | .BadPlace => "BadPlace" | .BadFilling => "BadFilling"
  | .BadLot => "BadLot" | .BadPlan => "BadPlan" | .BadNamed => "BadNamed" | .BadRecord => "BadRecord" | .BadMove => "BadMove" | .BadText => "BadText" | .TooMany => "TooMany" | .Unlike => "Unlike" | .NoChart => "NoChart" | .NoPlan => "NoPlan"
theorem mem_all (k : EC) : k ∈ allEC := by cases k <;> simp [allEC]
def ecOf (x : Str) : Option EC := allEC.find? fun k => decide (k.nm = x)
def gdOf (K : PySem.W.Frag) : Gd := ⟨K, fun k => He.ga K k.nm, none⟩
def allTy : List Ty := .valueError :: allEC.map .ec
def clsB (K : PySem.W.Frag) : Bool := allEC.all fun k =>
  He.eqO (PySem.W.findIn K (.ref (He.ga K k.nm)) "__getattribute__") (some (some (.builtin "BaseException.__getattribute__"))) && He.eqO (PySem.W.findIn K (.ref (He.ga K k.nm)) "__getattr__") (some none) &&
  decide (PySem.W.subIn K (.ref (He.ga K k.nm)) (.type "BaseException") = some true) && PySem.W.hasDictIn K (He.ga K k.nm) && He.eqO (PySem.W.findIn K (.ref (He.ga K k.nm)) "__class__") (some (some (.builtin "object.__class__"))) &&
  decide (PySem.W.mroIn K (He.ga K k.nm) (.type "object") = some true) && PySem.W.keepIn K (.ref (He.ga K k.nm)) && decide (PySem.W.typeIn K (.ref (He.ga K k.nm)) = some (.type "type")) &&
  (!decide (k.fld = Str.empty) || PySem.W.excIn K (He.ga K k.nm) He.veBase "ValueError.__new__") &&
  allTy.all fun t => decide (PySem.W.kitOne K (.ref (He.ga K k.nm)) (t.u fun k => He.ga K k.nm) = some (isEx k t)) && decide (PySem.W.exmOne K (.ref (He.ga K k.nm)) (t.u fun k => He.ga K k.nm) = some (isEx k t))
def objB (K : PySem.W.Frag) : Bool := He.eqO (PySem.W.specialIn K (.builtin "object.__class__") "__get__") (some (some (.builtin "getset_descriptor.__get__"))) && decide (PySem.W.takesIn K (.builtin "object.__class__") = some true)
theorem ty_mem {t : Ty} (h : t.data = false) : t ∈ allTy := by
  cases t with
  | ec k => exact List.mem_cons_of_mem _ (List.mem_map.mpr ⟨k, mem_all k, rfl⟩)
  | valueError => exact List.mem_cons_self
  | _ => cases h
theorem clsB_ok {K : PySem.W.Frag} (h : clsB K = true) (h2 : objB K = true) : ClsOk (gdOf K) := by
  have h := fun k => List.all_eq_true.mp h k (mem_all k)
  simp only [Bool.and_eq_true, decide_eq_true_eq, List.all_eq_true, Bool.or_eq_true, Bool.not_eq_true', decide_eq_false_iff_not] at h
  unfold objB at h2
  rw [Bool.and_eq_true, decide_eq_true_eq] at h2
  refine ⟨fun k => ?_, fun k t ht => ?_, fun k t ht => ?_, fun k => ?_, fun k => ?_, fun k => ?_, fun k hf => ?_⟩
  · obtain ⟨⟨⟨⟨⟨⟨⟨⟨⟨a1, a2⟩, a3⟩, a4⟩, a5⟩, a6⟩, a7⟩, a8⟩, a9⟩, a10⟩ := h k
    exact ⟨He.eqO_ok a1, He.eqO_ok a2, a3, a4, He.eqO_ok a5, He.eqO_ok h2.1, h2.2, a6⟩
  · exact ((h k).2 t (ty_mem ht)).1
  · exact ((h k).2 t (ty_mem ht)).2
  · exact (h k).1.1.1.2
  · exact (h k).1.1.1.1.1.1.1.2
  · exact (h k).1.1.2
  · rcases (h k).1.2 with z | z
    · exact absurd hf z
    · exact z
/-! ### data of the module -/
mutual
/-- a value of the module is this data -/
def repK (K : PySem.W.Frag) : D → Value → Bool
  | .non, u => He.relB .non u
  | .bl b, u => He.relB (.bl b) u
  | .int i, u => He.relB (.int i) u
  | .str z, u => He.relB (.str z) u
  | .tup xs, .ref a => (match K.lookup a with
    | some ⟨.type c, _, .seq its _, _⟩ => decide (c = "tuple") && (decide (its.size ≤ sizeLine) && repsK K xs its.toList)
    | _ => false)
  | _, _ => false
def repsK (K : PySem.W.Frag) : List D → List Value → Bool
  | [], [] => true
  | x :: xs, u :: us => repK K x u && repsK K xs us
  | _, _ => false
end
mutual
theorem repK_ok {K : PySem.W.Frag} : ∀ {d : D} {u : Value}, repK K d u = true → ∃ v, RelV v u ∧ ∀ N H, Rep K N H d v
  | .non, u, h => by unfold repK at h; exact ⟨_, He.relB_ok h, fun _ _ => rep_non⟩
  | .bl b, u, h => by unfold repK at h; exact ⟨_, He.relB_ok h, fun _ _ => rep_bl b⟩
  | .int i, u, h => by unfold repK at h; exact ⟨_, He.relB_ok h, fun _ _ => rep_int i⟩
  | .str z, u, h => by unfold repK at h; exact ⟨_, He.relB_ok h, fun _ _ => rep_str z⟩
  | .tup xs, u, h => by
    cases u with
    | ref a =>
      unfold repK at h
      split at h
      · rename_i c dd its n sl q
        simp only [Bool.and_eq_true, decide_eq_true_eq] at h
        obtain ⟨hc, hz, h⟩ := h
        obtain ⟨vs, h1, h2⟩ := repsK_ok h
        have hl : vs.length ≤ line := by
          have e1 := h1.length
          have e2 : its.toList.length = its.size := Array.length_toList
          rw [e1, e2, line_eq]; exact hz
        exact ⟨.ref a, rfl, fun N H => rep_tup (.inr ⟨_, its, n, q, congrArg Value.type hc, rfl, hz, h1⟩) hl (h2 N H)⟩
      · cases h
    | _ => unfold repK at h; cases h
  | .tuq _, u, h => by cases u <;> (unfold repK at h; cases h)
  | .lst _, u, h => by cases u <;> (unfold repK at h; cases h)
  | .dic _ _, u, h => by cases u <;> (unfold repK at h; cases h)
theorem repsK_ok {K : PySem.W.Frag} : ∀ {xs : List D} {us : List Value}, repsK K xs us = true → ∃ vs, Vals vs us ∧ ∀ N H, Reps K N H xs vs
  | [], [], _ => ⟨[], .nil, fun _ _ => .nil⟩
  | [], _ :: _, h => by unfold repsK at h; cases h
  | _ :: _, [], h => by unfold repsK at h; cases h
  | x :: xs, u :: us, h => by
    unfold repsK at h
    obtain ⟨h1, h2⟩ := Bool.and_eq_true_iff.mp h
    obtain ⟨v, r1, q1⟩ := repK_ok h1
    obtain ⟨vs, r2, q2⟩ := repsK_ok h2
    exact ⟨v :: vs, .cons r1 r2, fun N H => .cons (q1 N H) (q2 N H)⟩
end
/-- what the module's names hold: values; tables by texts -/
structure Gl where
  val : List (Str × D)
  dic : List (Str × List (Str × D)) := []
def valB (K : PySem.W.Frag) (q : Str × D) : Bool := match PySem.W.nsIn K mainGlobals q.1 with
  | some (some u) => repK K q.2 u
  | _ => false
def entB (K : PySem.W.Frag) (a : Addr) (kvs : List (Str × D)) : Bool := kvs.all fun q => match PySem.W.nsIn K a q.1 with
  | some (some u) => repK K q.2 u
  | _ => false
/-- what the head tells: the classes, the data, the facts by names, the defs; the tables' keys -/
abbrev AlM : Type := (Bool × He.AlD) × List (Option (List (Option (Str × Int))))
def obsM (gl : Gl) (fa : List He.Fa) (fn : List He.DefD) (K : PySem.W.Frag) : AlM := ((clsB K && objB K && gl.val.all (valB K) && gl.dic.all (fun q => entB K (He.ga K q.1) q.2), He.obsD fa fn K), gl.dic.map fun q => He.dicW K (He.ga K q.1))
def valM (gl : Gl) (fn : List He.DefD) (w : World) : AlM := ((true, He.valD fn), gl.dic.map fun q => some (He.keysIn w.params (q.2.map (·.1))))
def hookM (n : Nat) (gl : Gl) (fa : List He.Fa) (fn : List He.DefD) : PySem.W.Hook where
  α := AlM
  obs := fun s => obsM gl fa fn (He.frG s.heap.get? (He.asD s.heap.get? n))
  val := fun w => valM gl fn w
  says := fun w h => ∃ K : PySem.W.Frag, K.In h ∧ obsM gl fa fn K = valM gl fn w
  of := fun _ _ e => ⟨_, He.frG_in, e⟩
  keeps := fun _ _ _ ⟨K, hK, c⟩ k => ⟨K, PySem.W.Frag.In.keeps hK k, c⟩
def obM (n : Nat) (gl : Gl) (fa : List He.Fa) (fn : List He.DefD) (s : PySem.W.SharedT) : AlM := obsM gl fa fn (He.frG (HandSHeadRun.getT s) (He.asD (HandSHeadRun.getT s) n))
theorem obM_eq {n : Nat} {gl : Gl} {fa : List He.Fa} {fn : List He.DefD} (s : PySem.W.SharedT) : obM n gl fa fn s = (hookM n gl fa fn).obs s.abs := by
  have e : HandSHeadRun.getT s = s.abs.heap.get? := funext (HandSHeadRun.getT_eq s)
  unfold obM
  rw [e] <;> rfl
/-- the shared facts, by the module's data and the built-ins' names -/
def gtOf (gl : Gl) (bl : List Str) : Gt := ⟨ecOf, fun x => gl.val.lookup x, fun x => gl.dic.lookup x, bl⟩
/-- the facts that are asked for: the classes', the tables', the defs' names; the built-ins that are free -/
def faOf (gl : Gl) (bl : List Str) (fn : List He.DefD) : List He.Fa := allEC.map (fun k => .glo k.nm) ++ gl.dic.map (fun q => .glo q.1) ++ fn.map (fun d => .glo d.name) ++ bl.map .free
theorem gt_ok {gl : Gl} {bl : List Str} {fn : List He.DefD} {K : PySem.W.Frag} {wo : World} {h : Heap} {mg : Str → Option Value} (X : K.In h) (G : h.Ns mainGlobals mg) (c : obsM gl (faOf gl bl fn) fn K = valM gl fn wo) :
    ClsOk (gdOf K) ∧ GtOk wo (gdOf K) mg (gtOf gl bl) ∧ ∀ d ∈ fn, ∃ f fd, FunD K d.name d.qual d.params d.body d.scope (d.dvs K) (d.kws K) f fd ∧ (d.at_ = (d.name, none) → mg d.name = some (.ref f)) := by
  have c1 : (clsB K && objB K && gl.val.all (valB K) && gl.dic.all (fun q => entB K (He.ga K q.1) q.2)) = true := congrArg (fun z : AlM => z.1.1) c
  have c2 : He.SaysD (faOf gl bl fn) fn K := congrArg (fun z : AlM => z.1.2) c
  have c3 : (gl.dic.map fun q => He.dicW K (He.ga K q.1)) = gl.dic.map fun q => some (He.keysIn wo.params (q.2.map (·.1))) := congrArg (fun z : AlM => z.2) c
  rw [Bool.and_eq_true, Bool.and_eq_true, Bool.and_eq_true] at c1
  have fact : ∀ f ∈ faOf gl bl fn, f.ok K = true := fun f hf => by
    obtain ⟨i, hi⟩ := List.mem_iff_getElem?.mp hf
    exact c2.fact i hi
  refine ⟨clsB_ok c1.1.1.1 c1.1.1.2, ⟨fun x hx => ?_, fun x k hk => ?_, fun x d hd => ?_, fun x kvs hd => ?_⟩, fun d hd => ?_⟩
  · exact He.free_ok X G (fact (.free x) (List.mem_append_right _ (List.mem_map.mpr ⟨x, hx, rfl⟩)))
  · have hm := List.mem_of_find?_eq_some hk
    have hp := List.find?_some hk
    have e : k.nm = x := of_decide_eq_true hp
    subst e
    exact He.glo_ok X G (fact (.glo k.nm) (List.mem_append_left _ (List.mem_append_left _ (List.mem_append_left _ (List.mem_map.mpr ⟨k, hm, rfl⟩)))))
  · have hm := PySem.mem_of_lookup (show gl.val.lookup x = some d from hd)
    have hv := List.all_eq_true.mp c1.1.2 _ hm
    unfold valB at hv
    split at hv
    · rename_i u q
      obtain ⟨v, h1, h2⟩ := repK_ok hv
      exact ⟨v, u, PySem.W.mg_of X G q, h1, h2⟩
    · cases hv
  · have hm := PySem.mem_of_lookup (show gl.dic.lookup x = some kvs from hd)
    have hg := He.glo_ok X G (fact (.glo x) (List.mem_append_left _ (List.mem_append_left _ (List.mem_append_right _ (List.mem_map.mpr ⟨_, hm, rfl⟩)))))
    have he := List.all_eq_true.mp c1.2 _ hm
    have hw : He.dicW K (He.ga K x) = some (He.keysIn wo.params (kvs.map (·.1))) := by
      obtain ⟨i, hi⟩ := List.mem_iff_getElem?.mp hm
      have e := congrArg (fun l => l[i]?) c3
      simp only [List.getElem?_map, hi, Option.map_some] at e
      exact Option.some.inj e
    obtain ⟨es, n, D⟩ := He.dicW_ok hw
    refine ⟨He.ga K x, hg, fun z y hz N H => ?_⟩
    have hz := List.all_eq_true.mp he _ (PySem.mem_of_lookup hz)
    dsimp only at hz
    split at hz
    · rename_i u q
      obtain ⟨v, h1, h2⟩ := repK_ok hz
      exact ⟨v, ⟨es, n, u, D.at_, D.lit, q, h1⟩, h2 N H⟩
    · cases hz
  · obtain ⟨i, hi⟩ := List.mem_iff_getElem?.mp hd
    obtain ⟨fd, F⟩ := c2.def_ i hi
    refine ⟨_, fd, F, fun ha => ?_⟩
    have hg := He.glo_ok X G (fact (.glo d.name) (List.mem_append_left _ (List.mem_append_right _ (List.mem_map.mpr ⟨d, hd, rfl⟩))))
    have e : He.fAd K d.at_ = He.ga K d.name := by rw [ha]; rfl
    rw [e]
    exact hg
/-- what the law answers, by its table -/
def lawM (tu : Gl) (bl : List Str) (qs : List DC) (ql : DC) : List Val → S → R Val := runE ql.N.length (ql.m (gtOf tu bl) false (tab (gtOf tu bl) [] qs))
/-- the law, by its table -/
theorem law_facts {P : Program} {w : World} {K : PySem.W.Frag} {h : Heap} {mg : Str → Option Value} {tu : Gl} {bl : List Str} {fn : List He.DefD} {qs : List DC} {ql : DC} {x : Str} (X : K.In h) (G : h.Ns mainGlobals mg) (c : obsM tu (faOf tu bl fn) fn K = valM tu fn w)
    (hq : ((ql :: qs).all fun q => q.ok && decide (q.d.at_ = (q.d.name, none))) = true) (hm : ∀ q ∈ ql :: qs, q.d ∈ fn) (hqx : mg x = mg ql.d.name) (hps : ql.ps = [("script" : Str)]) {fa : Addr} (hfa : mg x = some (.ref fa)) :
    ∃ fd : FuncData, (∀ (s : Shared) (v : Value), BindsTo s fd ⟨[v], []⟩ [(("script" : Str), v)]) ∧ ∀ base : Heap, FnOk P w K mg base (L2N.CX P w) (lev qs + 1) fa fd [("script" : Str)] (spE (gdOf K) 1 (lawM tu bl qs ql)) := by
  obtain ⟨KC, GO, df⟩ := gt_ok (wo := w) X G c
  have at_ : ∀ q ∈ ql :: qs, q.ok = true ∧ ∃ f fd, At (gdOf K).K mg q f fd := fun q h => by
    have h1 := List.all_eq_true.mp hq q h
    rw [Bool.and_eq_true, decide_eq_true_eq] at h1
    obtain ⟨f, fd, F, hg⟩ := df q.d (hm q h)
    obtain ⟨e1, e2, _⟩ := DC.plain h1.1
    unfold He.DefD.dvs He.DefD.kws at F
    rw [e1, e2] at F
    exact ⟨h1.1, f, fd, F, hg h1.2⟩
  obtain ⟨okq, f', fd', A'⟩ := at_ ql List.mem_cons_self
  have ef : f' = fa := by
    have e := A'.g
    rw [← hqx, hfa] at e
    cases e
    rfl
  subst ef
  refine ⟨fd', fun s v => ?_, fun base => ?_⟩
  · have := A'.bindsA okq s [v] (by rw [hps]; rfl)
    rw [hps] at this
    exact this
  · have T := tab_ok (Pr := P) (wo := w) (base := base) (G := gdOf K) rfl KC GO qs (fun q h => at_ q (List.mem_cons_of_mem _ h)) TbOk.nil
    rw [Nat.zero_add] at T
    have F := def_E (Pr := P) (wo := w) (mg := mg) (base := base) A'.F (DC.scope okq) fun cdv A' outer s H E hr => cold_ok (f := f') rfl KC GO okq T cdv A' outer s H E hr
    rw [hps] at F
    exact F
/-- what an error leaves, whatever the world -/
def CXZ (P : Program) : CXT := fun outer H s E u s' => ∃ w, L2N.CX P w outer H s E u s'
theorem cxz {P : Program} {w : World} {K : PySem.W.Frag} {mg : Str → Option Value} {base : Heap} {k : Nat} {f : Addr} {fd : FuncData} {ps : List Str} {sp : Sp} (F : FnOk P w K mg base (L2N.CX P w) k f fd ps sp) : FnOk P w K mg base (CXZ P) k f fd ps sp :=
  ⟨F.len, fun A outer s H args us vs Q E hr he hb hv hs => codeAny_mono (F.run A outer s H args us vs Q E hr he hb hv hs) fun r s' hq => by
    cases r with
    | error e => exact ⟨w, hq⟩
    | ok fl => cases fl <;> exact hq⟩
theorem cxz_no {P : Program} : ∀ (H : Hp) (s : Shared) (e : Value) (s' : Shared), CXZ P [] H s (fun _ _ _ => False) e s' → False := fun _ _ _ _ ⟨_, _, _, _, _, _, _, _, _, _, _, _, _, z⟩ => z
end MP
end

section
set_option Elab.async false
set_option linter.all false
set_option maxRecDepth 100000
set_option maxHeartbeats 0
namespace MPL
open PySem PySem.Spec PyProof.Rows L2 MP
def top (i : Nat) : Stmt := PySem.Challenge.pw_slipsjoined_k63_unlike_tables_are_counte.main.body.getD i (.Pass ⟨0, 0, 0, 0⟩)
def mkD (i : Nat) : He.DefD := match top i with
  | .FunctionDef n a b _ _ _ sc _ _ _ => ⟨(n, none), n, n, a, b, sc, [], []⟩
  | _ => ⟨("law", none), "law", "law", defArgs (top i), defBody (top i), defScope (top i), [], []⟩
def q_checked_letters : DC := ⟨mkD 23, ["q"], ["q"], ⟨[], [], [], []⟩, .pure⟩
def q_loops_count : DC := ⟨mkD 30, ["q"], ["q"], ⟨[], [], [], []⟩, .pure⟩
def q_checked_kind : DC := ⟨mkD 24, ["kind"], ["kind"], ⟨[], [], [], []⟩, .pure⟩
def q_kind_size : DC := ⟨mkD 25, ["kind"], ["kind"], ⟨[], [], [], []⟩, .pure⟩
def q_groups_by_kind : DC := ⟨mkD 31, ["q", "whole", "k", "kind"], ["q"], ⟨[], [], [], []⟩, .pure⟩
def q_groups_count : DC := ⟨mkD 32, ["q", "pairs", "common", "other", "kind", "number"], ["q"], ⟨[], [], [], []⟩, .pure⟩
def q_chosen : DC := ⟨mkD 34, ["n", "k", "number", "step"], ["n", "k"], ⟨[], [], [], []⟩, .pure⟩
def q_record_number : DC := ⟨mkD 35, ["q", "n", "loops", "plain", "all_records", "no_heaps", "no_rows", "m", "common", "other", "heaps", "rows", "pairs", "k", "number", "rest"], ["q", "n"], ⟨[100, 101, 102], [], [(116, 4), (116, 5), (116, 6)], []⟩, .pure⟩
def q_function_number : DC := ⟨mkD 36, ["q", "n", "number", "orders", "k", "spare"], ["q", "n"], ⟨[], [], [], []⟩, .pure⟩
def q__law_store : DC := ⟨mkD 38, ["script", "wide", "cells", "seed", "k", "cell", "small"], ["script"], ⟨[131], [141], [(141, 2)], []⟩, .eff⟩
def q__law_mix : DC := ⟨mkD 39, ["seed", "turn", "one", "two", "three"], ["seed", "turn"], ⟨[], [], [], []⟩, .pure⟩
def q__law_take : DC := ⟨mkD 40, ["store", "many", "cells", "k", "cell", "got"], ["store", "many"], ⟨[], [], [], []⟩, .eff⟩
def q__law_pick : DC := ⟨mkD 41, ["store", "row"], ["store", "row"], ⟨[], [], [], []⟩, .eff⟩
def q__law_equals : DC := ⟨mkD 45, ["actual", "expected", "value", "k"], ["actual", "expected"], ⟨[], [], [], []⟩, .rc 8⟩
def q__law_next_rows : DC := ⟨mkD 47, ["q", "rows", "unit", "x", "lines", "y", "longer", "taken", "line", "z", "row", "fits"], ["q", "rows", "unit"], ⟨[212], [], [(219, 6)], []⟩, .pure⟩
def q__law_squares : DC := ⟨mkD 48, ["q", "unit", "found", "x", "longer", "rows", "row"], ["q", "unit"], ⟨[224], [], [(228, 4)], []⟩, .pure⟩
def q__law_fillings : DC := ⟨mkD 43, ["q", "n", "rows", "k", "longer", "row", "x"], ["q", "n"], ⟨[180], [], [(184, 4)], []⟩, .pure⟩
def q__law_index : DC := ⟨mkD 44, ["q", "row", "number", "x"], ["q", "row"], ⟨[], [], [], []⟩, .pure⟩
def q__law_built : DC := ⟨mkD 49, ["q", "n", "grids", "made", "size", "fillings", "fresh", "choice", "near", "far", "ones", "twos", "f", "g", "k", "row", "grid", "i"], ["q", "n", "grids"], ⟨[231, 234, 243], [], [(244, 6), (245, 3)], []⟩, .pure⟩
def q__law_shares : DC := ⟨mkD 50, ["n", "least", "found", "k", "rest"], ["n", "least"], ⟨[249], [248], [(253, 2)], [248, 252]⟩, .rc 10⟩
def q__law_times : DC := ⟨mkD 52, ["row", "value", "x"], ["row"], ⟨[], [], [], []⟩, .pure⟩
def q__law_chosen : DC := ⟨mkD 53, ["n", "sizes", "value", "size"], ["n", "sizes"], ⟨[], [], [], []⟩, .pure⟩
def q__law_weights : DC := ⟨mkD 51, ["q", "most", "whole", "a", "b", "w", "g", "s", "n", "h", "r", "p", "share", "ways", "orders", "k"], ["q", "most"], ⟨[258, 259, 260], [], [(274, 5), (274, 6), (274, 7)], []⟩, .pure⟩
def q__law_words : DC := ⟨mkD 46, ["marks", "plain", "extra", "names", "k"], ["marks", "plain", "extra"], ⟨[], [], [], []⟩, .hot⟩
def q__law_refused : DC := ⟨mkD 54, ["door", "args", "e", "marks", "extra"], ["door", "args"], ⟨[], [], [], []⟩, .pure⟩
def q__law_power : DC := ⟨mkD 42, ["q", "n", "value", "k"], ["q", "n"], ⟨[], [], [], []⟩, .pure⟩
def q__law_right : DC := ⟨mkD 55, ["q", "n", "w", "many"], ["q", "n", "w"], ⟨[], [], [], []⟩, .pure⟩
def q_law : DC := ⟨mkD 56, ["script", "store", "q", "n", "w", "other", "many", "whole", "a", "crossing", "bad", "door", "pairs", "pair", "built", "k", "due", "args"], ["script"], ⟨[], [], [], []⟩, .eff⟩
def qs : List DC := [q_checked_letters, q_loops_count, q_checked_kind, q_kind_size, q_groups_by_kind, q_groups_count, q_chosen, q_record_number, q_function_number, q__law_store, q__law_mix, q__law_take, q__law_pick, q__law_equals, q__law_next_rows, q__law_squares, q__law_fillings, q__law_index, q__law_built, q__law_shares, q__law_times, q__law_chosen, q__law_weights, q__law_words, q__law_refused, q__law_power, q__law_right]
def fn : List He.DefD := [mkD 23, mkD 30, mkD 24, mkD 25, mkD 31, mkD 32, mkD 34, mkD 35, mkD 36, mkD 38, mkD 39, mkD 40, mkD 41, mkD 45, mkD 47, mkD 48, mkD 43, mkD 44, mkD 49, mkD 50, mkD 52, mkD 53, mkD 51, mkD 46, mkD 54, mkD 42, mkD 55, mkD 56]
def bl : List Str := ["len", "int", "bool", "str", "tuple", "list", "sum", "min", "range", "isinstance", "ValueError"]
def tu : Gl := ⟨[("KINDS", .tup [.str (Str.ofString "Z1"), .str (Str.ofString "Z2"), .str (Str.ofString "Z3"), .str (Str.ofString "Z4"), .str (Str.ofString "V4"), .str (Str.ofString "Z5"), .str (Str.ofString "Z6"), .str (Str.ofString "S3"), .str (Str.ofString "Z7"), .str (Str.ofString "Z8"), .str (Str.ofString "Z4xZ2"), .str (Str.ofString "Z2xZ2xZ2"), .str (Str.ofString "D4"), .str (Str.ofString "Q8")]), ("LOOPS", .tup [.int 1, .int 1, .int 1, .int 4, .int 56, .int 9408, .int 16942080, .int 535281401856]), ("UNCOMMON", .tup [.str (Str.ofString "S3"), .str (Str.ofString "D4"), .str (Str.ofString "Q8")])], [("ORDERS", [("Z1", .tup [.int 1]), ("Z2", .tup [.int 1, .int 2]), ("Z3", .tup [.int 1, .int 3, .int 3]), ("Z4", .tup [.int 1, .int 2, .int 4, .int 4]), ("V4", .tup [.int 1, .int 2, .int 2, .int 2]), ("Z5", .tup [.int 1, .int 5, .int 5, .int 5, .int 5]), ("Z6", .tup [.int 1, .int 2, .int 3, .int 3, .int 6, .int 6]), ("S3", .tup [.int 1, .int 2, .int 2, .int 2, .int 3, .int 3]), ("Z7", .tup [.int 1, .int 7, .int 7, .int 7, .int 7, .int 7, .int 7]), ("Z8", .tup [.int 1, .int 2, .int 4, .int 4, .int 8, .int 8, .int 8, .int 8]), ("Z4xZ2", .tup [.int 1, .int 2, .int 2, .int 2, .int 4, .int 4, .int 4, .int 4]), ("Z2xZ2xZ2", .tup [.int 1, .int 2, .int 2, .int 2, .int 2, .int 2, .int 2, .int 2]), ("D4", .tup [.int 1, .int 2, .int 2, .int 2, .int 2, .int 2, .int 4, .int 4]), ("Q8", .tup [.int 1, .int 2, .int 4, .int 4, .int 4, .int 4, .int 4, .int 4])]), ("ONTO", [("Z1", .int 1), ("Z2", .int 1), ("Z3", .int 2), ("Z4", .int 2), ("V4", .int 6), ("Z5", .int 4), ("Z6", .int 2), ("S3", .int 6), ("Z7", .int 6), ("Z8", .int 4), ("Z4xZ2", .int 8), ("Z2xZ2xZ2", .int 168), ("D4", .int 8), ("Q8", .int 24)])]⟩
def lastI : Nat := 56
def gd_ORDERS : List (Str × D) := [("Z1", .tup [.int 1]), ("Z2", .tup [.int 1, .int 2]), ("Z3", .tup [.int 1, .int 3, .int 3]), ("Z4", .tup [.int 1, .int 2, .int 4, .int 4]), ("V4", .tup [.int 1, .int 2, .int 2, .int 2]), ("Z5", .tup [.int 1, .int 5, .int 5, .int 5, .int 5]), ("Z6", .tup [.int 1, .int 2, .int 3, .int 3, .int 6, .int 6]), ("S3", .tup [.int 1, .int 2, .int 2, .int 2, .int 3, .int 3]), ("Z7", .tup [.int 1, .int 7, .int 7, .int 7, .int 7, .int 7, .int 7]), ("Z8", .tup [.int 1, .int 2, .int 4, .int 4, .int 8, .int 8, .int 8, .int 8]), ("Z4xZ2", .tup [.int 1, .int 2, .int 2, .int 2, .int 4, .int 4, .int 4, .int 4]), ("Z2xZ2xZ2", .tup [.int 1, .int 2, .int 2, .int 2, .int 2, .int 2, .int 2, .int 2]), ("D4", .tup [.int 1, .int 2, .int 2, .int 2, .int 2, .int 2, .int 4, .int 4]), ("Q8", .tup [.int 1, .int 2, .int 4, .int 4, .int 4, .int 4, .int 4, .int 4])]
def gd_ONTO : List (Str × D) := [("Z1", .int 1), ("Z2", .int 1), ("Z3", .int 2), ("Z4", .int 2), ("V4", .int 6), ("Z5", .int 4), ("Z6", .int 2), ("S3", .int 6), ("Z7", .int 6), ("Z8", .int 4), ("Z4xZ2", .int 8), ("Z2xZ2xZ2", .int 168), ("D4", .int 8), ("Q8", .int 24)]
def m_checked_letters : MS := (mSeq (mIf (mOr (mNot (mTru (mBl (mIsI (mVar 0) .int)))) (mOr (mTru (mBl (mIsI (mVar 0) .bool))) (mNot (mChain .le .le (mCon (.int 1)) (mVar 0) (mCon (.int 8)))))) (mSeq (mRaise .BadLetters) mPass) mPass) (mSeq (mRet (mVar 0)) mPass))
def f_checked_letters : List D → P := runP 1 m_checked_letters
abbrev fk_checked_letters : FK := .pure 1 f_checked_letters
theorem e_checked_letters : fkOf (gtOf tu bl) [] q_checked_letters = fk_checked_letters := by kernel_rfl
def tb_checked_letters : Tb := (q_checked_letters.d.name, fk_checked_letters) :: []
def m_loops_count : MS := (mSeq (mRet (mIx (mCon (.tup [.int 1, .int 1, .int 1, .int 4, .int 56, .int 9408, .int 16942080, .int 535281401856])) (mBin .sub (mCall fk_checked_letters (mCons (mVar 0) mNil)) (mCon (.int 1))))) mPass)
def f_loops_count : List D → P := runP 1 m_loops_count
abbrev fk_loops_count : FK := .pure 1 f_loops_count
theorem e_loops_count : fkOf (gtOf tu bl) tb_checked_letters q_loops_count = fk_loops_count := by kernel_rfl
def tb_loops_count : Tb := (q_loops_count.d.name, fk_loops_count) :: tb_checked_letters
def m_checked_kind : MS := (mSeq (mIf (mOr (mNot (mTru (mBl (mIsI (mVar 0) .str)))) (mCmp .notin (mVar 0) (mCon (.tup [.str (Str.ofString "Z1"), .str (Str.ofString "Z2"), .str (Str.ofString "Z3"), .str (Str.ofString "Z4"), .str (Str.ofString "V4"), .str (Str.ofString "Z5"), .str (Str.ofString "Z6"), .str (Str.ofString "S3"), .str (Str.ofString "Z7"), .str (Str.ofString "Z8"), .str (Str.ofString "Z4xZ2"), .str (Str.ofString "Z2xZ2xZ2"), .str (Str.ofString "D4"), .str (Str.ofString "Q8")])))) (mSeq (mRaise .BadKind) mPass) mPass) (mSeq (mRet (mVar 0)) mPass))
def f_checked_kind : List D → P := runP 1 m_checked_kind
abbrev fk_checked_kind : FK := .pure 1 f_checked_kind
theorem e_checked_kind : fkOf (gtOf tu bl) tb_loops_count q_checked_kind = fk_checked_kind := by kernel_rfl
def tb_checked_kind : Tb := (q_checked_kind.d.name, fk_checked_kind) :: tb_loops_count
def m_kind_size : MS := (mSeq (mRet (mB1 .len (mTab gd_ORDERS (mCall fk_checked_kind (mCons (mVar 0) mNil))))) mPass)
def f_kind_size : List D → P := runP 1 m_kind_size
abbrev fk_kind_size : FK := .pure 1 f_kind_size
theorem e_kind_size : fkOf (gtOf tu bl) tb_checked_kind q_kind_size = fk_kind_size := by kernel_rfl
def tb_kind_size : Tb := (q_kind_size.d.name, fk_kind_size) :: tb_checked_kind
def m_groups_by_kind : MS := (mSeq (mExpr (mCall fk_checked_letters (mCons (mVar 0) mNil))) (mSeq (mAsg 1 (mCon (.int 1))) (mSeq (mFor (.nm 2) (mRg2 (mCon (.int 1)) (mVar 0)) (mSeq (mAsg 1 (mBin .mul (mVar 1) (mVar 2))) mPass)) (mSeq (mRet (mB1 .tuple (mLc [3] (.nm 3) (mItV (mCon (.tup [.str (Str.ofString "Z1"), .str (Str.ofString "Z2"), .str (Str.ofString "Z3"), .str (Str.ofString "Z4"), .str (Str.ofString "V4"), .str (Str.ofString "Z5"), .str (Str.ofString "Z6"), .str (Str.ofString "S3"), .str (Str.ofString "Z7"), .str (Str.ofString "Z8"), .str (Str.ofString "Z4xZ2"), .str (Str.ofString "Z2xZ2xZ2"), .str (Str.ofString "D4"), .str (Str.ofString "Q8")]))) (mCmp .eq (mCall fk_kind_size (mCons (mVar 3) mNil)) (mVar 0)) (mTup (mCons (mVar 3) (mCons (mBin .fdiv (mVar 1) (mTab gd_ONTO (mVar 3))) mNil)))))) mPass))))
def f_groups_by_kind : List D → P := runP 4 m_groups_by_kind
abbrev fk_groups_by_kind : FK := .pure 1 f_groups_by_kind
theorem e_groups_by_kind : fkOf (gtOf tu bl) tb_kind_size q_groups_by_kind = fk_groups_by_kind := by kernel_rfl
def tb_groups_by_kind : Tb := (q_groups_by_kind.d.name, fk_groups_by_kind) :: tb_kind_size
def m_groups_count : MS := (mSeq (mAsg 1 (mCall fk_groups_by_kind (mCons (mVar 0) mNil))) (mSeq (mAsg 2 (mB1 .sum (mLc [4, 5] (.tp [4, 5]) (mItV (mVar 1)) (mCmp .notin (mVar 4) (mCon (.tup [.str (Str.ofString "S3"), .str (Str.ofString "D4"), .str (Str.ofString "Q8")]))) (mVar 5)))) (mSeq (mAsg 3 (mB1 .sum (mLc [4, 5] (.tp [4, 5]) (mItV (mVar 1)) (mCmp .in_ (mVar 4) (mCon (.tup [.str (Str.ofString "S3"), .str (Str.ofString "D4"), .str (Str.ofString "Q8")]))) (mVar 5)))) (mSeq (mRet (mTup (mCons (mVar 2) (mCons (mVar 3) mNil)))) mPass))))
def f_groups_count : List D → P := runP 6 m_groups_count
abbrev fk_groups_count : FK := .pure 1 f_groups_count
theorem e_groups_count : fkOf (gtOf tu bl) tb_groups_by_kind q_groups_count = fk_groups_count := by kernel_rfl
def tb_groups_count : Tb := (q_groups_count.d.name, fk_groups_count) :: tb_groups_by_kind
def m_chosen : MS := (mSeq (mAsg 2 (mCon (.int 1))) (mSeq (mFor (.nm 3) (mRg1 (mVar 1)) (mSeq (mAsg 2 (mBin .fdiv (mBin .mul (mVar 2) (mBin .sub (mVar 0) (mVar 3))) (mBin .add (mVar 3) (mCon (.int 1))))) mPass)) (mSeq (mRet (mVar 2)) mPass)))
def f_chosen : List D → P := runP 4 m_chosen
abbrev fk_chosen : FK := .pure 2 f_chosen
theorem e_chosen : fkOf (gtOf tu bl) tb_groups_count q_chosen = fk_chosen := by kernel_rfl
def tb_chosen : Tb := (q_chosen.d.name, fk_chosen) :: tb_groups_count
def m_record_number : MS := (mSeq (mAsg 2 (mCall fk_loops_count (mCons (mVar 0) mNil))) (mSeq (mAsgT [8, 9] (mCall fk_groups_count (mCons (mVar 0) mNil))) (mSeq (mIf (mOr (mTru (mBl (mIsI (mVar 1) .bool))) (mOr (mNot (mTru (mBl (mIsI (mVar 1) .int)))) (mNot (mChain .le .le (mCon (.int 1)) (mVar 1) (mCon (.int 8)))))) (mSeq (mRaise .BadNumber) mPass) mPass) (mSeq (mAsg 3 (mBin .sub (mBin .sub (mVar 2) (mVar 8)) (mVar 9))) (mSeq (mAsgO 4 (mLst (mCons (mCon (.int 1)) (mCons (mCon (.int 1)) mNil)))) (mSeq (mAsgO 5 (mLst (mCons (mCon (.int 0)) (mCons (mCon (.int 1)) mNil)))) (mSeq (mAsgO 6 (mLst (mCons (mCon (.int 0)) (mCons (mCon (.int 1)) mNil)))) (mSeq (mFor (.nm 7) (mRg2 (mCon (.int 2)) (mBin .add (mVar 1) (mCon (.int 1)))) (mSeq (mAsg 10 (mCon (.int 0))) (mSeq (mAsg 11 (mCon (.int 0))) (mSeq (mAsg 12 (mCon (.int 0))) (mSeq (mFor (.nm 13) (mRg2 (mCon (.int 1)) (mVar 7)) (mSeq (mAsg 15 (mIx (mVar 4) (mBin .sub (mVar 7) (mVar 13)))) (mSeq (mAug 10 .add (mBin .mul (mBin .mul (mCall fk_chosen (mCons (mBin .sub (mVar 7) (mCon (.int 1))) (mCons (mBin .sub (mVar 13) (mCon (.int 1))) mNil))) (mIx (mVar 5) (mVar 13))) (mVar 15))) (mSeq (mAug 11 .add (mBin .mul (mBin .mul (mCall fk_chosen (mCons (mVar 7) (mCons (mVar 13) mNil))) (mIx (mVar 6) (mVar 13))) (mVar 15))) (mSeq (mAug 12 .add (mBin .mul (mBin .mul (mCall fk_chosen (mCons (mVar 7) (mCons (mVar 13) mNil))) (mIx (mVar 4) (mVar 13))) (mVar 15))) mPass))))) (mSeq (mAsg 14 (mBin .add (mBin .mul (mVar 8) (mVar 10)) (mBin .fdiv (mBin .add (mBin .mul (mVar 9) (mVar 11)) (mBin .mul (mVar 3) (mVar 12))) (mCon (.int 2))))) (mSeq (mApp 4 (mVar 14)) (mSeq (mApp 5 (mBin .sub (mVar 14) (mVar 10))) (mSeq (mApp 6 (mBin .sub (mVar 14) (mVar 11))) mPass))))))))) (mSeq (mFrz 4) (mSeq (mFrz 5) (mSeq (mFrz 6) (mSeq (mRet (mIx (mVar 4) (mVar 1))) mPass))))))))))))
def f_record_number : List D → P := runP 16 m_record_number
abbrev fk_record_number : FK := .pure 2 f_record_number
theorem e_record_number : fkOf (gtOf tu bl) tb_chosen q_record_number = fk_record_number := by kernel_rfl
def tb_record_number : Tb := (q_record_number.d.name, fk_record_number) :: tb_chosen
def m_function_number : MS := (mSeq (mAsg 2 (mCall fk_record_number (mCons (mVar 0) (mCons (mVar 1) mNil)))) (mSeq (mIf (mCmp .eq (mVar 1) (mCon (.int 1))) (mSeq (mRet (mCon (.int 1))) mPass) mPass) (mSeq (mAsg 3 (mCon (.int 1))) (mSeq (mFor (.nm 4) (mRg2 (mCon (.int 2)) (mVar 0)) (mSeq (mAsg 3 (mBin .mul (mVar 3) (mVar 4))) mPass)) (mSeq (mFor (.nm 5) (mRg1 (mVar 1)) (mSeq (mAsg 2 (mBin .mul (mVar 2) (mVar 3))) mPass)) (mSeq (mRet (mBin .mul (mVar 0) (mVar 2))) mPass))))))
def f_function_number : List D → P := runP 6 m_function_number
abbrev fk_function_number : FK := .pure 2 f_function_number
theorem e_function_number : fkOf (gtOf tu bl) tb_record_number q_function_number = fk_function_number := by kernel_rfl
def tb_function_number : Tb := (q_function_number.d.name, fk_function_number) :: tb_record_number
def m__law_store : MS := (mSeq (mAsg 1 (mBin .pow (mCon (.int 10)) (mCon (.int 60)))) (mSeq (mAsg 1 (mBin .mul (mBin .mul (mBin .mul (mVar 1) (mVar 1)) (mVar 1)) (mVar 1))) (mSeq (mAsgO 2 (mLst mNil)) (mSeq (mAsg 3 (mCon (.int 7))) (mSeq (mFor (.nm 4) (mRg1 (mMin2 (mCon (.int 63)) (mB1 .len (mVar 0)))) (mSeq (mAsg 5 (mB1 .int (mIx (mVar 0) (mVar 4)))) (mSeq (mAsg 6 (mBin .mod (mB1 .int (mVar 5)) (mCon (.int 2147483647)))) (mSeq (mIf (mCmp .ge (mVar 5) (mBin .pow (mCon (.int 10)) (mCon (.int 18)))) (mSeq (mApp 2 (mTup (mCons (mCon (.int 1)) (mCons (mBin .mod (mB1 .int (mVar 5)) (mVar 1)) mNil)))) mPass) (mSeq (mApp 2 (mTup (mCons (mCon (.int 0)) (mCons (mBin .mod (mB1 .int (mBin .add (mVar 6) (mBin .mul (mVar 4) (mCon (.int 104729))))) (mCon (.int 2147483647))) mNil)))) mPass)) (mSeq (mAsg 3 (mBin .mod (mB1 .int (mBin .add (mBin .add (mBin .mul (mVar 3) (mCon (.int 48271))) (mVar 6)) (mCon (.int 11)))) (mCon (.int 2147483629)))) mPass))))) (mSeq (mFrz 2) (mSeq (mRetL (mCons (mVar 2) (mCons (mCon (.int 0)) (mCons (mCon (.int 0)) (mCons (mCon (.int 0)) (mCons (mCon (.int 0)) (mCons (mCon (.int 0)) (mCons (mVar 3) mNil)))))))) mPass)))))))
def f__law_store : List Val → S → R Val := runE 7 m__law_store
abbrev fk__law_store : FK := .eff 1 f__law_store
theorem e__law_store : fkOf (gtOf tu bl) tb_function_number q__law_store = fk__law_store := by kernel_rfl
def tb__law_store : Tb := (q__law_store.d.name, fk__law_store) :: tb_function_number
def m__law_mix : MS := (mSeq (mAsg 2 (mBin .mod (mB1 .int (mBin .add (mBin .add (mBin .mul (mVar 0) (mCon (.int 48271))) (mBin .mul (mVar 1) (mCon (.int 69621)))) (mCon (.int 7919)))) (mCon (.int 2147483647)))) (mSeq (mAsg 3 (mBin .mod (mB1 .int (mBin .add (mBin .add (mBin .mul (mVar 2) (mBin .add (mVar 2) (mCon (.int 16807)))) (mBin .mul (mVar 1) (mCon (.int 40692)))) (mCon (.int 3)))) (mCon (.int 2147483629)))) (mSeq (mAsg 4 (mBin .mod (mB1 .int (mBin .add (mBin .mul (mVar 3) (mBin .add (mVar 3) (mCon (.int 48271)))) (mVar 2))) (mCon (.int 2147483563)))) (mSeq (mRet (mBin .add (mBin .mul (mVar 3) (mCon (.int 2147483563))) (mVar 4))) mPass))))
def f__law_mix : List D → P := runP 5 m__law_mix
abbrev fk__law_mix : FK := .pure 2 f__law_mix
theorem e__law_mix : fkOf (gtOf tu bl) tb__law_store q__law_mix = fk__law_mix := by kernel_rfl
def tb__law_mix : Tb := (q__law_mix.d.name, fk__law_mix) :: tb__law_store
def m__law_take : MS := (mSeq (mIf (mCmp .lt (mVar 1) (mCon (.int 2))) (mSeq (mRet (mCon (.int 0))) mPass) mPass) (mSeq (mAsg 2 (mIx (mVar 0) (mCon (.int 0)))) (mSeq (mFor (.nm 3) (mRg1 (mBin .add (mB1 .len (mVar 2)) (mCon (.int 1)))) (mSeq (mIf (mCmp .gt (mIx (mVar 0) (mCon (.int 1))) (mCon (.int 0))) (mSeq (mAsg 5 (mBin .mod (mB1 .int (mIx (mVar 0) (mCon (.int 1)))) (mVar 1))) (mSeq (mSetR (mVar 0) (mCon (.int 1)) (mBin .fdiv (mB1 .int (mIx (mVar 0) (mCon (.int 1)))) (mVar 1))) (mSeq (mRet (mVar 5)) mPass))) mPass) (mSeq (mIf (mCmp .gt (mIx (mVar 0) (mCon (.int 2))) (mCon (.int 0))) (mSeq (mSetR (mVar 0) (mCon (.int 2)) (mBin .sub (mIx (mVar 0) (mCon (.int 2))) (mCon (.int 1)))) (mSeq (mRet (mBin .mod (mB1 .int (mCall fk__law_mix (mCons (mIx (mVar 0) (mCon (.int 3))) (mCons (mIx (mVar 0) (mCon (.int 2))) mNil)))) (mVar 1))) mPass)) mPass) (mSeq (mIf (mCmp .ge (mIx (mVar 0) (mCon (.int 4))) (mB1 .len (mVar 2))) (mSeq mBrk mPass) mPass) (mSeq (mAsg 4 (mIx (mVar 2) (mIx (mVar 0) (mCon (.int 4))))) (mSeq (mSetR (mVar 0) (mCon (.int 4)) (mBin .add (mIx (mVar 0) (mCon (.int 4))) (mCon (.int 1)))) (mSeq (mIf (mCmp .eq (mIx (mVar 4) (mCon (.int 0))) (mCon (.int 1))) (mSeq (mSetR (mVar 0) (mCon (.int 1)) (mIx (mVar 4) (mCon (.int 1)))) mPass) (mSeq (mSetR (mVar 0) (mCon (.int 2)) (mCon (.int 3))) (mSeq (mSetR (mVar 0) (mCon (.int 3)) (mIx (mVar 4) (mCon (.int 1)))) mPass))) mPass))))))) (mSeq (mSetR (mVar 0) (mCon (.int 5)) (mBin .add (mIx (mVar 0) (mCon (.int 5))) (mCon (.int 1)))) (mSeq (mRet (mBin .mod (mB1 .int (mCall fk__law_mix (mCons (mIx (mVar 0) (mCon (.int 6))) (mCons (mIx (mVar 0) (mCon (.int 5))) mNil)))) (mVar 1))) mPass)))))
def f__law_take : List Val → S → R Val := runE 6 m__law_take
abbrev fk__law_take : FK := .eff 2 f__law_take
theorem e__law_take : fkOf (gtOf tu bl) tb__law_mix q__law_take = fk__law_take := by kernel_rfl
def tb__law_take : Tb := (q__law_take.d.name, fk__law_take) :: tb__law_mix
def m__law_pick : MS := (mSeq (mRet (mIx (mVar 1) (mCall fk__law_take (mCons (mVar 0) (mCons (mB1 .len (mVar 1)) mNil))))) mPass)
def f__law_pick : List Val → S → R Val := runE 2 m__law_pick
abbrev fk__law_pick : FK := .eff 2 f__law_pick
theorem e__law_pick : fkOf (gtOf tu bl) tb__law_take q__law_pick = fk__law_pick := by kernel_rfl
def tb__law_pick : Tb := (q__law_pick.d.name, fk__law_pick) :: tb__law_take
def m__law_equals (rec : List D → P) : MS := (mSeq (mIf (mTru (mBl (mIsIs (mVar 1) [.tuple, .list]))) (mSeq (mIf (mOr (mNot (mTru (mBl (mIsIs (mVar 0) [.tuple, .list])))) (mCmp .ne (mBl (mIsI (mVar 0) .tuple)) (mBl (mIsI (mVar 1) .tuple)))) (mSeq (mRet (mCon (.bl false))) mPass) mPass) (mSeq (mIf (mCmp .ne (mB1 .len (mVar 0)) (mB1 .len (mVar 1))) (mSeq (mRet (mCon (.bl false))) mPass) mPass) (mSeq (mRet (mBl (mCmp .eq (mLc [3] (.nm 3) (mRg1 (mB1 .len (mVar 1))) (mNot (mTru (mCall (.pure 2 rec) (mCons (mIx (mVar 0) (mVar 3)) (mCons (mIx (mVar 1) (mVar 3)) mNil))))) (mVar 3)) (mLst mNil)))) mPass))) mPass) (mSeq (mFor (.nm 2) (mItV (mTup (mCons (mVar 0) (mCons (mVar 1) mNil)))) (mSeq (mIf (mAnd (mNotN (mVar 2)) (mNot (mTru (mBl (mIsIs (mVar 2) [.int, .str]))))) (mSeq (mRet (mCon (.bl false))) mPass) mPass) mPass)) (mSeq (mIf (mCmp .ne (mBl (mIsI (mVar 0) .bool)) (mBl (mIsI (mVar 1) .bool))) (mSeq (mRet (mCon (.bl false))) mPass) mPass) (mSeq (mRet (mAndV (mBl (mCmp .eq (mBl (mIsI (mVar 0) .str)) (mBl (mIsI (mVar 1) .str)))) (mBl (mCmp .eq (mVar 0) (mVar 1))))) mPass))))
def f__law_equals : Nat → List D → P
  | 0 => fun _ => .stuck
  | j + 1 => runP 4 (m__law_equals (f__law_equals j))
abbrev fk__law_equals : FK := .pure 2 (f__law_equals 8)
theorem e__law_equals_m (r : List D → P) : q__law_equals.m (gtOf tu bl) false ((q__law_equals.d.name, .pure 2 r) :: tb__law_pick) = m__law_equals r := by kernel_rfl
theorem e__law_equals_r : ∀ j, recP q__law_equals (gtOf tu bl) tb__law_pick j = f__law_equals j
  | 0 => rfl
  | j + 1 => by
    show runP q__law_equals.N.length (q__law_equals.m (gtOf tu bl) false ((q__law_equals.d.name, .pure q__law_equals.ps.length (recP q__law_equals (gtOf tu bl) tb__law_pick j)) :: tb__law_pick)) = runP 4 (m__law_equals (f__law_equals j))
    rw [e__law_equals_r j]
    exact congrArg (runP 4) (e__law_equals_m (f__law_equals j))
theorem e__law_equals : fkOf (gtOf tu bl) tb__law_pick q__law_equals = fk__law_equals := by
  show FK.pure 2 (recP q__law_equals (gtOf tu bl) tb__law_pick 8) = _
  rw [e__law_equals_r]
def tb__law_equals : Tb := (q__law_equals.d.name, fk__law_equals) :: tb__law_pick
def m__law_next_rows : MS := (mSeq (mAsg 3 (mB1 .len (mVar 1))) (mSeq (mAsg 4 (mLst (mCons (mTup mNil) mNil))) (mSeq (mFor (.nm 5) (mRg1 (mVar 0)) (mSeq (mAsgO 6 (mLst mNil)) (mSeq (mAsg 7 (mLc [10] (.nm 10) (mItV (mVar 1)) mYes (mIx (mVar 10) (mVar 5)))) (mSeq (mFor (.nm 8) (mItV (mVar 4)) (mSeq (mFor (.nm 9) (mRg1 (mVar 0)) (mSeq (mAsg 11 (mOrV (mBl (mNot (mTru (mVar 2)))) (mAndV (mOrV (mBl (mCmp .gt (mVar 3) (mCon (.int 0)))) (mBl (mCmp .eq (mVar 9) (mVar 5)))) (mOrV (mBl (mCmp .gt (mVar 5) (mCon (.int 0)))) (mBl (mCmp .eq (mVar 9) (mVar 3))))))) (mSeq (mIf (mAnd (mTru (mVar 11)) (mAnd (mCmp .notin (mVar 9) (mVar 8)) (mCmp .notin (mVar 9) (mVar 7)))) (mSeq (mApp 6 (mBin .add (mVar 8) (mTup (mCons (mVar 9) mNil)))) mPass) mPass) mPass))) mPass)) (mSeq (mFrz 6) (mSeq (mAsg 4 (mB1 .list (mVar 6))) mPass)))))) (mSeq (mRet (mVar 4)) mPass))))
def f__law_next_rows : List D → P := runP 12 m__law_next_rows
abbrev fk__law_next_rows : FK := .pure 3 f__law_next_rows
theorem e__law_next_rows : fkOf (gtOf tu bl) tb__law_equals q__law_next_rows = fk__law_next_rows := by kernel_rfl
def tb__law_next_rows : Tb := (q__law_next_rows.d.name, fk__law_next_rows) :: tb__law_equals
def m__law_squares : MS := (mSeq (mAsg 2 (mLst (mCons (mLst mNil) mNil))) (mSeq (mFor (.nm 3) (mRg1 (mVar 0)) (mSeq (mAsgO 4 (mLst mNil)) (mSeq (mFor (.nm 5) (mItV (mVar 2)) (mSeq (mFor (.nm 6) (mItV (mCall fk__law_next_rows (mCons (mVar 0) (mCons (mVar 5) (mCons (mVar 1) mNil))))) (mSeq (mApp 4 (mBin .add (mVar 5) (mLst (mCons (mVar 6) mNil)))) mPass)) mPass)) (mSeq (mFrz 4) (mSeq (mAsg 2 (mB1 .list (mVar 4))) mPass))))) (mSeq (mRet (mVar 2)) mPass)))
def f__law_squares : List D → P := runP 7 m__law_squares
abbrev fk__law_squares : FK := .pure 2 f__law_squares
theorem e__law_squares : fkOf (gtOf tu bl) tb__law_next_rows q__law_squares = fk__law_squares := by kernel_rfl
def tb__law_squares : Tb := (q__law_squares.d.name, fk__law_squares) :: tb__law_next_rows
def m__law_fillings : MS := (mSeq (mAsg 2 (mLst (mCons (mTup mNil) mNil))) (mSeq (mFor (.nm 3) (mRg1 (mVar 1)) (mSeq (mAsgO 4 (mLst mNil)) (mSeq (mFor (.nm 5) (mItV (mVar 2)) (mSeq (mFor (.nm 6) (mRg1 (mVar 0)) (mSeq (mApp 4 (mBin .add (mVar 5) (mTup (mCons (mVar 6) mNil)))) mPass)) mPass)) (mSeq (mFrz 4) (mSeq (mAsg 2 (mB1 .list (mVar 4))) mPass))))) (mSeq (mRet (mVar 2)) mPass)))
def f__law_fillings : List D → P := runP 7 m__law_fillings
abbrev fk__law_fillings : FK := .pure 2 f__law_fillings
theorem e__law_fillings : fkOf (gtOf tu bl) tb__law_squares q__law_fillings = fk__law_fillings := by kernel_rfl
def tb__law_fillings : Tb := (q__law_fillings.d.name, fk__law_fillings) :: tb__law_squares
def m__law_index : MS := (mSeq (mAsg 2 (mCon (.int 0))) (mSeq (mFor (.nm 3) (mItV (mVar 1)) (mSeq (mAsg 2 (mBin .add (mBin .mul (mVar 2) (mVar 0)) (mVar 3))) mPass)) (mSeq (mRet (mVar 2)) mPass)))
def f__law_index : List D → P := runP 4 m__law_index
abbrev fk__law_index : FK := .pure 2 f__law_index
theorem e__law_index : fkOf (gtOf tu bl) tb__law_fillings q__law_index = fk__law_index := by kernel_rfl
def tb__law_index : Tb := (q__law_index.d.name, fk__law_index) :: tb__law_fillings
def m__law_built : MS := (mSeq (mAsgO 3 (mLst (mCons (mLst mNil) (mCons (mLst (mCons (mTupI (mRg1 (mVar 0))) mNil)) mNil)))) (mSeq (mFor (.nm 4) (mRg2 (mCon (.int 2)) (mBin .add (mVar 1) (mCon (.int 1)))) (mSeq (mAsg 5 (mCall fk__law_fillings (mCons (mVar 0) (mCons (mVar 4) mNil)))) (mSeq (mAsgE 6) (mSeq (mFor (.nm 7) (mRg1 (mBin .sub (mBin .shl (mCon (.int 1)) (mBin .sub (mVar 4) (mCon (.int 1)))) (mCon (.int 1)))) (mSeq (mAsg 8 (mBin .add (mLst (mCons (mCon (.int 0)) mNil)) (mLc [14] (.nm 14) (mRg2 (mCon (.int 1)) (mVar 4)) (mCmp .eq (mBin .band (mBin .shr (mVar 7) (mBin .sub (mVar 14) (mCon (.int 1)))) (mCon (.int 1))) (mCon (.int 1))) (mVar 14)))) (mSeq (mAsg 9 (mLc [14] (.nm 14) (mRg1 (mVar 4)) (mCmp .notin (mVar 14) (mVar 8)) (mVar 14))) (mSeq (mAsg 10 (mLc [15] (.nm 15) (mItV (mVar 5)) mYes (mCall fk__law_index (mCons (mVar 0) (mCons (mLc [14] (.nm 14) (mItV (mVar 8)) mYes (mIx (mVar 15) (mVar 14))) mNil))))) (mSeq (mAsg 11 (mLc [15] (.nm 15) (mItV (mVar 5)) mYes (mCall fk__law_index (mCons (mVar 0) (mCons (mLc [14] (.nm 14) (mItV (mVar 9)) mYes (mIx (mVar 15) (mVar 14))) mNil))))) (mSeq (mFor (.nm 12) (mItV (mIx (mVar 3) (mB1 .len (mVar 8)))) (mSeq (mFor (.nm 13) (mItV (mIx (mVar 3) (mB1 .len (mVar 9)))) (mSeq (mFor (.nm 16) (mItV (mVar 2)) (mSeq (mSetT 6 (mLc [17] (.nm 17) (mRg1 (mB1 .len (mVar 10))) mYes (mIx (mIx (mVar 16) (mIx (mVar 12) (mIx (mVar 10) (mVar 17)))) (mIx (mVar 13) (mIx (mVar 11) (mVar 17))))) (mCon (.bl true))) mPass)) mPass)) mPass)) mPass)))))) (mSeq (mFrz 6) (mSeq (mApp 3 (mB1 .list (mVar 6))) mPass)))))) (mSeq (mFrz 3) (mSeq (mRet (mIx (mVar 3) (mVar 1))) mPass))))
def f__law_built : List D → P := runP 18 m__law_built
abbrev fk__law_built : FK := .pure 3 f__law_built
theorem e__law_built : fkOf (gtOf tu bl) tb__law_index q__law_built = fk__law_built := by kernel_rfl
def tb__law_built : Tb := (q__law_built.d.name, fk__law_built) :: tb__law_index
def m__law_shares (rec : List D → P) : MS := (mSeq (mIf (mCmp .eq (mVar 0) (mCon (.int 0))) (mSeq (mRetL (mCons (mTuq mNil) mNil)) mPass) mPass) (mSeq (mAsgO 2 (mLst mNil)) (mSeq (mFor (.nm 3) (mRg2 (mVar 1) (mBin .add (mVar 0) (mCon (.int 1)))) (mSeq (mFor (.nm 4) (mItV (mCall (.pure 2 rec) (mCons (mBin .sub (mVar 0) (mVar 3)) (mCons (mVar 3) mNil)))) (mSeq (mApp 2 (mBin .add (mTuq (mCons (mVar 3) mNil)) (mVar 4))) mPass)) mPass)) (mSeq (mFrz 2) (mSeq (mRet (mVar 2)) mPass)))))
def f__law_shares : Nat → List D → P
  | 0 => fun _ => .stuck
  | j + 1 => runP 5 (m__law_shares (f__law_shares j))
abbrev fk__law_shares : FK := .pure 2 (f__law_shares 10)
theorem e__law_shares_m (r : List D → P) : q__law_shares.m (gtOf tu bl) false ((q__law_shares.d.name, .pure 2 r) :: tb__law_built) = m__law_shares r := by kernel_rfl
theorem e__law_shares_r : ∀ j, recP q__law_shares (gtOf tu bl) tb__law_built j = f__law_shares j
  | 0 => rfl
  | j + 1 => by
    show runP q__law_shares.N.length (q__law_shares.m (gtOf tu bl) false ((q__law_shares.d.name, .pure q__law_shares.ps.length (recP q__law_shares (gtOf tu bl) tb__law_built j)) :: tb__law_built)) = runP 5 (m__law_shares (f__law_shares j))
    rw [e__law_shares_r j]
    exact congrArg (runP 5) (e__law_shares_m (f__law_shares j))
theorem e__law_shares : fkOf (gtOf tu bl) tb__law_built q__law_shares = fk__law_shares := by
  show FK.pure 2 (recP q__law_shares (gtOf tu bl) tb__law_built 10) = _
  rw [e__law_shares_r]
def tb__law_shares : Tb := (q__law_shares.d.name, fk__law_shares) :: tb__law_built
def m__law_times : MS := (mSeq (mAsg 1 (mCon (.int 1))) (mSeq (mFor (.nm 2) (mItV (mVar 0)) (mSeq (mAsg 1 (mBin .mul (mVar 1) (mVar 2))) mPass)) (mSeq (mRet (mVar 1)) mPass)))
def f__law_times : List D → P := runP 3 m__law_times
abbrev fk__law_times : FK := .pure 1 f__law_times
theorem e__law_times : fkOf (gtOf tu bl) tb__law_shares q__law_times = fk__law_times := by kernel_rfl
def tb__law_times : Tb := (q__law_times.d.name, fk__law_times) :: tb__law_shares
def m__law_chosen : MS := (mSeq (mAsg 2 (mCall fk__law_times (mCons (mLstI (mRg2 (mCon (.int 1)) (mBin .add (mVar 0) (mCon (.int 1))))) mNil))) (mSeq (mFor (.nm 3) (mItV (mVar 1)) (mSeq (mAsg 2 (mBin .fdiv (mVar 2) (mCall fk__law_times (mCons (mLstI (mRg2 (mCon (.int 1)) (mBin .add (mVar 3) (mCon (.int 1))))) mNil)))) mPass)) (mSeq (mRet (mVar 2)) mPass)))
def f__law_chosen : List D → P := runP 4 m__law_chosen
abbrev fk__law_chosen : FK := .pure 2 f__law_chosen
theorem e__law_chosen : fkOf (gtOf tu bl) tb__law_times q__law_chosen = fk__law_chosen := by kernel_rfl
def tb__law_chosen : Tb := (q__law_chosen.d.name, fk__law_chosen) :: tb__law_times
def m__law_weights : MS := (mSeq (mAsg 2 (mIx (mTup (mCons (mCon (.int 1)) (mCons (mCon (.int 1)) (mCons (mCon (.int 1)) (mCons (mCon (.int 4)) (mCons (mCon (.int 56)) (mCons (mCon (.int 9408)) (mCons (mCon (.int 16942080)) (mCons (mCon (.int 535281401856)) mNil))))))))) (mBin .sub (mVar 0) (mCon (.int 1))))) (mSeq (mAsg 3 (mIx (mTup (mCons (mCon (.int 1)) (mCons (mCon (.int 1)) (mCons (mCon (.int 1)) (mCons (mCon (.int 4)) (mCons (mCon (.int 6)) (mCons (mCon (.int 60)) (mCons (mCon (.int 120)) (mCons (mCon (.int 1920)) mNil))))))))) (mBin .sub (mVar 0) (mCon (.int 1))))) (mSeq (mAsg 4 (mIx (mTup (mCons (mCon (.int 0)) (mCons (mCon (.int 0)) (mCons (mCon (.int 0)) (mCons (mCon (.int 0)) (mCons (mCon (.int 0)) (mCons (mCon (.int 20)) (mCons (mCon (.int 0)) (mCons (mCon (.int 840)) mNil))))))))) (mBin .sub (mVar 0) (mCon (.int 1))))) (mSeq (mAsgO 5 (mLst (mCons (mCon (.int 0)) (mCons (mCon (.int 1)) mNil)))) (mSeq (mAsgO 6 (mLst (mCons (mCon (.int 0)) (mCons (mCon (.int 1)) mNil)))) (mSeq (mAsgO 7 (mLst (mCons (mCon (.int 0)) (mCons (mCon (.int 1)) mNil)))) (mSeq (mFor (.nm 8) (mRg2 (mCon (.int 2)) (mBin .add (mVar 1) (mCon (.int 1)))) (mSeq (mAsg 9 (mCon (.int 0))) (mSeq (mAsg 10 (mCon (.int 0))) (mSeq (mAsg 11 (mB1 .sum (mLc [15] (.nm 15) (mRg2 (mCon (.int 1)) (mVar 8)) mYes (mBin .mul (mBin .mul (mCall fk__law_chosen (mCons (mVar 8) (mCons (mTup (mCons (mVar 15) (mCons (mBin .sub (mVar 8) (mVar 15)) mNil))) mNil))) (mIx (mVar 5) (mVar 15))) (mIx (mVar 5) (mBin .sub (mVar 8) (mVar 15))))))) (mSeq (mFor (.nm 12) (mItV (mCall fk__law_shares (mCons (mVar 8) (mCons (mCon (.int 1)) mNil)))) (mSeq (mIf (mCmp .gt (mB1 .len (mVar 12)) (mCon (.int 1))) (mSeq (mAsg 13 (mCall fk__law_chosen (mCons (mVar 8) (mCons (mVar 12) mNil)))) (mSeq (mAsg 14 (mCall fk__law_chosen (mCons (mB1 .len (mVar 12)) (mCons (mLc [15] (.nm 15) (mRg2 (mCon (.int 1)) (mVar 8)) mYes (mCount (mVar 12) (mVar 15))) mNil)))) (mSeq (mAsg 9 (mBin .add (mVar 9) (mBin .mul (mBin .fdiv (mBin .mul (mVar 13) (mVar 14)) (mCall fk__law_chosen (mCons (mB1 .len (mVar 12)) (mCons (mBin .mul (mTup (mCons (mCon (.int 1)) mNil)) (mB1 .len (mVar 12))) mNil)))) (mCall fk__law_times (mCons (mLc [15] (.nm 15) (mItV (mVar 12)) mYes (mIx (mVar 6) (mVar 15))) mNil))))) (mSeq (mAsg 10 (mBin .add (mVar 10) (mBin .mul (mBin .mul (mVar 13) (mVar 14)) (mCall fk__law_times (mCons (mLc [15] (.nm 15) (mItV (mVar 12)) mYes (mIx (mVar 7) (mVar 15))) mNil))))) mPass)))) mPass) mPass)) (mSeq (mApp 5 (mBin .fdiv (mBin .add (mBin .add (mBin .mul (mBin .mul (mCon (.int 2)) (mVar 3)) (mVar 9)) (mBin .mul (mVar 4) (mVar 10))) (mBin .mul (mBin .sub (mBin .sub (mVar 2) (mVar 3)) (mVar 4)) (mVar 11))) (mCon (.int 2)))) (mSeq (mApp 6 (mBin .sub (mIx (mVar 5) (mVar 8)) (mVar 9))) (mSeq (mApp 7 (mBin .sub (mIx (mVar 5) (mVar 8)) (mVar 10))) mPass)))))))) (mSeq (mFrz 5) (mSeq (mFrz 6) (mSeq (mFrz 7) (mSeq (mRet (mVar 5)) mPass)))))))))))
def f__law_weights : List D → P := runP 16 m__law_weights
abbrev fk__law_weights : FK := .pure 2 f__law_weights
theorem e__law_weights : fkOf (gtOf tu bl) tb__law_chosen q__law_weights = fk__law_weights := by kernel_rfl
def tb__law_weights : Tb := (q__law_weights.d.name, fk__law_weights) :: tb__law_chosen
def m__law_words : MS := (mSeq (mAsg 3 (mSplit (mCon (.str (Str.ofString "BadLetters BadNumber BadKind BadRenaming BadTable BadChart BadPlace BadFilling BadLot BadPlan"))) (mCon (.str (Str.ofString " "))))) (mSeq (mAsg 3 (mBin .add (mVar 3) (mSplit (mCon (.str (Str.ofString "BadNamed BadRecord BadMove BadText TooMany Unlike NoChart NoPlan"))) (mCon (.str (Str.ofString " ")))))) (mSeq (mRet (mBin .add (mB1 .tuple (mLc [4] (.nm 4) (mRg1 (mCon (.int 18))) (mAnd (mTru (mIx (mVar 0) (mVar 4))) (mTru (mVar 1))) (mIx (mVar 3) (mVar 4)))) (mTup (mCons (mVar 2) mNil)))) mPass)))
abbrev fk__law_words : FK := .hot 3 (runE 5 m__law_words)
theorem e__law_words : fkOf (gtOf tu bl) tb__law_weights q__law_words = fk__law_words := by kernel_rfl
def tb__law_words : Tb := (q__law_words.d.name, fk__law_words) :: tb__law_weights
def m__law_refused : MS := (mSeq (mTry (mSeq (mIf (mCmp .eq (mVar 0) (mCon (.int 0))) (mSeq (mExpr (mCall fk_record_number (mCons (mIx (mVar 1) (mCon (.int 0))) (mCons (mIx (mVar 1) (mCon (.int 1))) mNil)))) mPass) mPass) (mSeq (mIf (mCmp .eq (mVar 0) (mCon (.int 1))) (mSeq (mExpr (mCall fk_function_number (mCons (mIx (mVar 1) (mCon (.int 0))) (mCons (mIx (mVar 1) (mCon (.int 1))) mNil)))) mPass) mPass) mPass)) (.ec .JoinError) 2 (mSeq (mAsg 3 (mLst (mCons (mBl (mIsI (mVar 2) (.ec .BadLetters))) (mCons (mBl (mIsI (mVar 2) (.ec .BadNumber))) (mCons (mBl (mIsI (mVar 2) (.ec .BadKind))) mNil))))) (mSeq (mAsg 3 (mBin .add (mVar 3) (mLst (mCons (mBl (mIsI (mVar 2) (.ec .BadRenaming))) (mCons (mBl (mIsI (mVar 2) (.ec .BadTable))) (mCons (mBl (mIsI (mVar 2) (.ec .BadChart))) mNil)))))) (mSeq (mAsg 3 (mBin .add (mVar 3) (mLst (mCons (mBl (mIsI (mVar 2) (.ec .BadPlace))) (mCons (mBl (mIsI (mVar 2) (.ec .BadFilling))) (mCons (mBl (mIsI (mVar 2) (.ec .BadLot))) mNil)))))) (mSeq (mAsg 3 (mBin .add (mVar 3) (mLst (mCons (mBl (mIsI (mVar 2) (.ec .BadPlan))) (mCons (mBl (mIsI (mVar 2) (.ec .BadNamed))) (mCons (mBl (mIsI (mVar 2) (.ec .BadRecord))) mNil)))))) (mSeq (mAsg 3 (mBin .add (mVar 3) (mLst (mCons (mBl (mIsI (mVar 2) (.ec .BadMove))) (mCons (mBl (mIsI (mVar 2) (.ec .BadText))) (mCons (mBl (mIsI (mVar 2) (.ec .TooMany))) mNil)))))) (mSeq (mAsg 3 (mBin .add (mVar 3) (mLst (mCons (mBl (mIsI (mVar 2) (.ec .Unlike))) (mCons (mBl (mIsI (mVar 2) (.ec .NoChart))) (mCons (mBl (mIsI (mVar 2) (.ec .NoPlan))) mNil)))))) (mSeq (mAsg 4 (mCon (.int 0))) (mSeq (mRet (mHot fk__law_words (mCons (mVar 3) (mCons (mBl (mIsI (mVar 2) .valueError)) (mCons (mVar 4) mNil))))) mPass))))))))) (mSeq (mRet (mTup (mCons (mCon (.str (Str.ofString "nothing"))) (mCons (mCon (.int 0)) mNil)))) mPass))
def f__law_refused : List D → P := runP 5 m__law_refused
abbrev fk__law_refused : FK := .pure 2 f__law_refused
theorem e__law_refused : fkOf (gtOf tu bl) tb__law_words q__law_refused = fk__law_refused := by kernel_rfl
def tb__law_refused : Tb := (q__law_refused.d.name, fk__law_refused) :: tb__law_words
def m__law_power : MS := (mSeq (mAsg 2 (mCon (.int 1))) (mSeq (mFor (.nm 3) (mRg1 (mVar 1)) (mSeq (mAsg 2 (mBin .mul (mVar 2) (mVar 0))) mPass)) (mSeq (mRet (mVar 2)) mPass)))
def f__law_power : List D → P := runP 4 m__law_power
abbrev fk__law_power : FK := .pure 2 f__law_power
theorem e__law_power : fkOf (gtOf tu bl) tb__law_refused q__law_power = fk__law_power := by kernel_rfl
def tb__law_power : Tb := (q__law_power.d.name, fk__law_power) :: tb__law_refused
def m__law_right : MS := (mSeq (mAsg 3 (mCon (.int 1))) (mSeq (mIf (mCmp .gt (mVar 1) (mCon (.int 1))) (mSeq (mAsg 3 (mBin .mul (mBin .mul (mVar 0) (mCall fk__law_power (mCons (mCall fk__law_times (mCons (mLstI (mRg2 (mCon (.int 1)) (mVar 0))) mNil)) (mCons (mVar 1) mNil)))) (mVar 2))) mPass) mPass) (mSeq (mRet (mAndV (mCall fk__law_equals (mCons (mCall fk_record_number (mCons (mVar 0) (mCons (mVar 1) mNil))) (mCons (mVar 2) mNil))) (mCall fk__law_equals (mCons (mCall fk_function_number (mCons (mVar 0) (mCons (mVar 1) mNil))) (mCons (mVar 3) mNil))))) mPass)))
def f__law_right : List D → P := runP 4 m__law_right
abbrev fk__law_right : FK := .pure 3 f__law_right
theorem e__law_right : fkOf (gtOf tu bl) tb__law_power q__law_right = fk__law_right := by kernel_rfl
def tb__law_right : Tb := (q__law_right.d.name, fk__law_right) :: tb__law_power
def m_law : MS := (mSeq (mAsg 1 (mCall fk__law_store (mCons (mVar 0) mNil))) (mSeq (mAsg 2 (mBin .add (mCon (.int 1)) (mCall fk__law_take (mCons (mVar 1) (mCons (mCon (.int 8)) mNil))))) (mSeq (mAsg 3 (mBin .add (mCon (.int 1)) (mCall fk__law_take (mCons (mVar 1) (mCons (mCon (.int 8)) mNil))))) (mSeq (mAsg 4 (mIx (mCall fk__law_weights (mCons (mVar 2) (mCons (mVar 3) mNil))) (mVar 3))) (mSeq (mAsg 5 (mBin .add (mCon (.int 1)) (mCall fk__law_take (mCons (mVar 1) (mCons (mCon (.int 8)) mNil))))) (mSeq (mAsg 6 (mBin .add (mCon (.int 1)) (mCall fk__law_take (mCons (mVar 1) (mCons (mCon (.int 8)) mNil))))) (mSeq (mIf (mOr (mNot (mTru (mCall fk__law_right (mCons (mVar 2) (mCons (mVar 3) (mCons (mVar 4) mNil)))))) (mNot (mTru (mCall fk__law_right (mCons (mVar 5) (mCons (mVar 6) (mCons (mIx (mCall fk__law_weights (mCons (mVar 5) (mCons (mVar 6) mNil))) (mVar 6)) mNil))))))) (mSeq (mRet (mCon (.bl false))) mPass) mPass) (mSeq (mIf (mNot (mTru (mCall fk__law_right (mCons (mVar 2) (mCons (mVar 3) (mCons (mVar 4) mNil)))))) (mSeq (mRet (mCon (.bl false))) mPass) mPass) (mSeq (mAsg 7 (mIx (mTup (mCons (mCon (.int 1)) (mCons (mCon (.int 1)) (mCons (mCon (.int 1)) (mCons (mCon (.int 4)) (mCons (mCon (.int 56)) (mCons (mCon (.int 9408)) (mCons (mCon (.int 16942080)) (mCons (mCon (.int 535281401856)) mNil))))))))) (mBin .sub (mVar 2) (mCon (.int 1))))) (mSeq (mAsg 8 (mIx (mTup (mCons (mCon (.int 1)) (mCons (mCon (.int 1)) (mCons (mCon (.int 1)) (mCons (mCon (.int 4)) (mCons (mCon (.int 6)) (mCons (mCon (.int 60)) (mCons (mCon (.int 120)) (mCons (mCon (.int 1920)) mNil))))))))) (mBin .sub (mVar 2) (mCon (.int 1))))) (mSeq (mAsg 9 (mBin .add (mVar 8) (mIx (mTup (mCons (mCon (.int 0)) (mCons (mCon (.int 0)) (mCons (mCon (.int 0)) (mCons (mCon (.int 0)) (mCons (mCon (.int 0)) (mCons (mCon (.int 20)) (mCons (mCon (.int 0)) (mCons (mCon (.int 840)) mNil))))))))) (mBin .sub (mVar 2) (mCon (.int 1)))))) (mSeq (mIf (mNot (mTru (mCall fk__law_equals (mCons (mCall fk_record_number (mCons (mVar 2) (mCons (mCon (.int 3)) mNil))) (mCons (mBin .add (mBin .sub (mBin .mul (mBin .mul (mCon (.int 3)) (mVar 7)) (mVar 7)) (mBin .mul (mCon (.int 3)) (mVar 9))) (mVar 8)) mNil))))) (mSeq (mRet (mCon (.bl false))) mPass) mPass) (mSeq (mIf (mCmp .eq (mCall fk__law_take (mCons (mVar 1) (mCons (mCon (.int 2)) mNil))) (mCon (.int 0))) (mSeq (mAsg 12 (mTup (mCons (mTup (mCons (mCon (.int 4)) (mCons (mCon (.int 3)) mNil))) (mCons (mTup (mCons (mCon (.int 3)) (mCons (mCon (.int 5)) mNil))) (mCons (mTup (mCons (mCon (.int 2)) (mCons (mCon (.int 5)) mNil))) (mCons (mTup (mCons (mCon (.int 1)) (mCons (mCon (.int 8)) mNil))) (mCons (mTup (mCons (mCon (.int 4)) (mCons (mCon (.int 2)) mNil))) (mCons (mTup (mCons (mCon (.int 3)) (mCons (mCon (.int 4)) mNil))) (mCons (mTup (mCons (mCon (.int 2)) (mCons (mCon (.int 4)) mNil))) (mCons (mTup (mCons (mCon (.int 5)) (mCons (mCon (.int 2)) mNil))) (mCons (mTup (mCons (mCon (.int 4)) (mCons (mCon (.int 3)) mNil))) (mCons (mTup (mCons (mCon (.int 1)) (mCons (mCon (.int 1)) mNil))) (mCons (mTup (mCons (mCon (.int 4)) (mCons (mCon (.int 1)) mNil))) mNil))))))))))))) (mSeq (mAsg 13 (mCall fk__law_pick (mCons (mVar 1) (mCons (mVar 12) mNil)))) (mSeq (mAsg 14 (mCall fk__law_built (mCons (mIx (mVar 13) (mCon (.int 0))) (mCons (mIx (mVar 13) (mCon (.int 1))) (mCons (mCall fk__law_squares (mCons (mIx (mVar 13) (mCon (.int 0))) (mCons (mCon (.bl true)) mNil))) mNil))))) (mSeq (mIf (mNot (mTru (mCall fk__law_equals (mCons (mCall fk_record_number (mCons (mIx (mVar 13) (mCon (.int 0))) (mCons (mIx (mVar 13) (mCon (.int 1))) mNil))) (mCons (mB1 .len (mVar 14)) mNil))))) (mSeq (mRet (mCon (.bl false))) mPass) mPass) mPass)))) (mSeq (mAsg 13 (mCall fk__law_pick (mCons (mVar 1) (mCons (mTup (mCons (mTup (mCons (mCon (.int 3)) (mCons (mCon (.int 3)) mNil))) (mCons (mTup (mCons (mCon (.int 2)) (mCons (mCon (.int 6)) mNil))) (mCons (mTup (mCons (mCon (.int 3)) (mCons (mCon (.int 2)) mNil))) (mCons (mTup (mCons (mCon (.int 2)) (mCons (mCon (.int 3)) mNil))) (mCons (mTup (mCons (mCon (.int 1)) (mCons (mCon (.int 5)) mNil))) (mCons (mTup (mCons (mCon (.int 3)) (mCons (mCon (.int 1)) mNil))) (mCons (mTup (mCons (mCon (.int 2)) (mCons (mCon (.int 4)) mNil))) (mCons (mTup (mCons (mCon (.int 2)) (mCons (mCon (.int 2)) mNil))) (mCons (mTup (mCons (mCon (.int 1)) (mCons (mCon (.int 2)) mNil))) mNil)))))))))) mNil)))) (mSeq (mAsg 14 (mCall fk__law_built (mCons (mIx (mVar 13) (mCon (.int 0))) (mCons (mIx (mVar 13) (mCon (.int 1))) (mCons (mCall fk__law_squares (mCons (mIx (mVar 13) (mCon (.int 0))) (mCons (mCon (.bl false)) mNil))) mNil))))) (mSeq (mIf (mNot (mTru (mCall fk__law_equals (mCons (mCall fk_function_number (mCons (mIx (mVar 13) (mCon (.int 0))) (mCons (mIx (mVar 13) (mCon (.int 1))) mNil))) (mCons (mB1 .len (mVar 14)) mNil))))) (mSeq (mRet (mCon (.bl false))) mPass) mPass) mPass)))) (mSeq (mIf (mOr (mNot (mTru (mCall fk__law_right (mCons (mCon (.int 1)) (mCons (mVar 3) (mCons (mCon (.int 1)) mNil)))))) (mNot (mTru (mCall fk__law_right (mCons (mVar 2) (mCons (mCon (.int 1)) (mCons (mCon (.int 1)) mNil))))))) (mSeq (mRet (mCon (.bl false))) mPass) mPass) (mSeq (mAsg 10 (mCall fk__law_pick (mCons (mVar 1) (mCons (mTup (mCons (mCon (.int 0)) (mCons (mCon (.int 9)) (mCons (mNeg (mCon (.int 1))) (mCons (mCon (.bl true)) (mCons (mCon (.bl false)) (mCons (mCon (.str (Str.ofString "2"))) (mCons (mTup (mCons (mCon (.int 2)) mNil)) (mCons (mCon .non) (mCons (mBin .pow (mCon (.int 10)) (mCon (.int 59))) (mCons (mLst (mCons (mCon (.int 1)) mNil)) (mCons (mCon (.int 16)) mNil)))))))))))) mNil)))) (mSeq (mFor (.nm 11) (mItV (mTup (mCons (mCon (.int 0)) (mCons (mCon (.int 1)) mNil)))) (mSeq (mFor (.nm 15) (mItV (mTup (mCons (mCon (.int 0)) (mCons (mCon (.int 1)) mNil)))) (mSeq (mAsg 16 (mIx (mTup (mCons (mCon (.str (Str.ofString "BadLetters"))) (mCons (mCon (.str (Str.ofString "BadNumber"))) mNil))) (mVar 15))) (mSeq (mAsg 17 (mIx (mTup (mCons (mTup (mCons (mTup (mCons (mVar 10) (mCons (mVar 3) mNil))) (mCons (mTup (mCons (mCon (.bl true)) (mCons (mVar 3) mNil))) mNil))) (mCons (mTup (mCons (mTup (mCons (mVar 2) (mCons (mVar 10) mNil))) (mCons (mTup (mCons (mVar 2) (mCons (mCon (.bl true)) mNil))) mNil))) mNil))) (mVar 15))) (mSeq (mFor (.nm 13) (mItV (mBin .add (mVar 17) (mSl (mTup (mCons (mTup (mCons (mVar 10) (mCons (mVar 10) mNil))) mNil)) (some (mVar 15)) none))) (mSeq (mIf (mNot (mTru (mCall fk__law_equals (mCons (mCall fk__law_refused (mCons (mVar 11) (mCons (mVar 13) mNil))) (mCons (mTup (mCons (mVar 16) (mCons (mCon (.int 0)) mNil))) mNil))))) (mSeq (mRet (mCon (.bl false))) mPass) mPass) mPass)) mPass)))) mPass)) (mSeq (mRet (mCall fk__law_right (mCons (mVar 2) (mCons (mVar 3) (mCons (mVar 4) mNil))))) mPass)))))))))))))))))
def f_law : List Val → S → R Val := runE 18 m_law
abbrev fk_law : FK := .eff 1 f_law
theorem tab_eq : tab (gtOf tu bl) [] qs = tb__law_right := by
  unfold qs
  rw [tab, e_checked_letters]
  change tab (gtOf tu bl) tb_checked_letters _ = _
  rw [tab, e_loops_count]
  change tab (gtOf tu bl) tb_loops_count _ = _
  rw [tab, e_checked_kind]
  change tab (gtOf tu bl) tb_checked_kind _ = _
  rw [tab, e_kind_size]
  change tab (gtOf tu bl) tb_kind_size _ = _
  rw [tab, e_groups_by_kind]
  change tab (gtOf tu bl) tb_groups_by_kind _ = _
  rw [tab, e_groups_count]
  change tab (gtOf tu bl) tb_groups_count _ = _
  rw [tab, e_chosen]
  change tab (gtOf tu bl) tb_chosen _ = _
  rw [tab, e_record_number]
  change tab (gtOf tu bl) tb_record_number _ = _
  rw [tab, e_function_number]
  change tab (gtOf tu bl) tb_function_number _ = _
  rw [tab, e__law_store]
  change tab (gtOf tu bl) tb__law_store _ = _
  rw [tab, e__law_mix]
  change tab (gtOf tu bl) tb__law_mix _ = _
  rw [tab, e__law_take]
  change tab (gtOf tu bl) tb__law_take _ = _
  rw [tab, e__law_pick]
  change tab (gtOf tu bl) tb__law_pick _ = _
  rw [tab, e__law_equals]
  change tab (gtOf tu bl) tb__law_equals _ = _
  rw [tab, e__law_next_rows]
  change tab (gtOf tu bl) tb__law_next_rows _ = _
  rw [tab, e__law_squares]
  change tab (gtOf tu bl) tb__law_squares _ = _
  rw [tab, e__law_fillings]
  change tab (gtOf tu bl) tb__law_fillings _ = _
  rw [tab, e__law_index]
  change tab (gtOf tu bl) tb__law_index _ = _
  rw [tab, e__law_built]
  change tab (gtOf tu bl) tb__law_built _ = _
  rw [tab, e__law_shares]
  change tab (gtOf tu bl) tb__law_shares _ = _
  rw [tab, e__law_times]
  change tab (gtOf tu bl) tb__law_times _ = _
  rw [tab, e__law_chosen]
  change tab (gtOf tu bl) tb__law_chosen _ = _
  rw [tab, e__law_weights]
  change tab (gtOf tu bl) tb__law_weights _ = _
  rw [tab, e__law_words]
  change tab (gtOf tu bl) tb__law_words _ = _
  rw [tab, e__law_refused]
  change tab (gtOf tu bl) tb__law_refused _ = _
  rw [tab, e__law_power]
  change tab (gtOf tu bl) tb__law_power _ = _
  rw [tab, e__law_right]
  change tab (gtOf tu bl) tb__law_right _ = _
  rfl
theorem law_eq : lawM tu bl qs q_law = f_law := by
  unfold lawM
  rw [tab_eq]
  exact congrArg (runE 18) (by kernel_rfl : q_law.m (gtOf tu bl) false tb__law_right = m_law)
end MPL
end

section
set_option Elab.async false
set_option linter.all false
set_option maxRecDepth 100000
set_option maxHeartbeats 0
namespace MPL
open PySem PySem.Spec PyProof.Rows L2 MP
def fa : List He.Fa := faOf tu bl fn
abbrev R : PySem.W.OpenRow := PySem.W.OpenLaw.row PySem.Challenge.rw_slipsjoined_k63_unlike_tables_are_counte
abbrev hk : PySem.W.Hook := hookM 4 tu fa fn
def ob (s : PySem.W.SharedT) : AlM := obM 4 tu fa fn s
theorem ob_eq (s : PySem.W.SharedT) : ob s = hk.obs s.abs := obM_eq s
def loose : List Str := (PySem.Challenge.pw_slipsjoined_k63_unlike_tables_are_counte.main.scope.names.map (·.1)).filter fun n => n != ("law" : Str) && n != ("__name__" : Str)
theorem runF (w : World) : HandSHeadRun.RunEq R (PySem.W.view R.prog [lastI]) hk ob 60000 loose (w.withFollow "special-get-raises" false) := by
  intro os
  kernel_rfl
theorem runT (w : World) : HandSHeadRun.RunEq R (PySem.W.view R.prog [lastI]) hk ob 60000 loose (w.withFollow "special-get-raises" true) := by
  intro os
  kernel_rfl
theorem run (w : World) : HandSHeadRun.RunEq R (PySem.W.view R.prog [lastI]) hk ob 60000 loose w := PySem.W.byRow2 "special-get-raises" (P := fun w => HandSHeadRun.RunEq R (PySem.W.view R.prog [lastI]) hk ob 60000 loose w) runF runT w
end MPL
end

section
set_option Elab.async false
set_option linter.all false
set_option maxRecDepth 100000
set_option maxHeartbeats 4000000
namespace MPL
open PySem MP
theorem small_mul {i j : Int} (h : -(2 ^ 64) < j ∧ j < 2 ^ 64) : mulOk i j = true := decide_eq_true (.inr (.inl h))
theorem small_mul' {i j : Int} (h : -(2 ^ 64) < i ∧ i < 2 ^ 64) : mulOk i j = true := decide_eq_true (.inl h)
theorem mix_ok (a b : Int) : ∃ r, f__law_mix [.int a, .int b] = .ok (.int r) := by
  unfold f__law_mix runP m__law_mix
  have h1 : ∀ i : Int, mulOk i 48271 = true := fun i => small_mul (by decide)
  have h2 : ∀ i : Int, mulOk i 69621 = true := fun i => small_mul (by decide)
  have h3 : ∀ i : Int, mulOk i 40692 = true := fun i => small_mul (by decide)
  have h4 : ∀ i : Int, mulOk i 2147483563 = true := fun i => small_mul (by decide)
  have h5 : ∀ i j : Int, mulOk (i % 2147483647) j = true := fun i j => small_mul' ⟨by have := Int.emod_nonneg i (b := 2147483647) (by decide); omega, by have := Int.emod_lt_of_pos i (b := 2147483647) (by decide); omega⟩
  have h6 : ∀ i j : Int, mulOk (i % 2147483629) j = true := fun i j => small_mul' ⟨by have := Int.emod_nonneg i (b := 2147483629) (by decide); omega, by have := Int.emod_lt_of_pos i (b := 2147483629) (by decide); omega⟩
  simp [mSeq, mAsg, mB1, mBin, mVar, mCon, mRet, mPass, R.go, R.bind, R.of, rd, opD, opI, b1V, b1, initE, h1, h2, h3, h4, h5, h6]

theorem oadd (i j : Int) : MP.opI .add i j = some (i + j) := rfl
theorem osub (i j : Int) : MP.opI .sub i j = some (i - j) := rfl
theorem omod {i j : Int} (h : 0 < j) : MP.opI .mod i j = some (i % j) := if_pos h
structure Bnd (n : Int) : Prop where
  lt : n < 2 ^ 2000
theorem ofd {i j : Int} (h : 0 < j) (hb : Bnd j) : MP.opI .fdiv i j = some (i / j) := if_pos ⟨h, hb.lt⟩
def takeB : MS := (mSeq (mIf (mCmp .gt (mIx (mVar 0) (mCon (.int 1))) (mCon (.int 0))) (mSeq (mAsg 5 (mBin .mod (mB1 .int (mIx (mVar 0) (mCon (.int 1)))) (mVar 1))) (mSeq (mSetR (mVar 0) (mCon (.int 1)) (mBin .fdiv (mB1 .int (mIx (mVar 0) (mCon (.int 1)))) (mVar 1))) (mSeq (mRet (mVar 5)) mPass))) mPass) (mSeq (mIf (mCmp .gt (mIx (mVar 0) (mCon (.int 2))) (mCon (.int 0))) (mSeq (mSetR (mVar 0) (mCon (.int 2)) (mBin .sub (mIx (mVar 0) (mCon (.int 2))) (mCon (.int 1)))) (mSeq (mRet (mBin .mod (mB1 .int (mCall fk__law_mix (mCons (mIx (mVar 0) (mCon (.int 3))) (mCons (mIx (mVar 0) (mCon (.int 2))) mNil)))) (mVar 1))) mPass)) mPass) (mSeq (mIf (mCmp .ge (mIx (mVar 0) (mCon (.int 4))) (mB1 .len (mVar 2))) (mSeq mBrk mPass) mPass) (mSeq (mAsg 4 (mIx (mVar 2) (mIx (mVar 0) (mCon (.int 4))))) (mSeq (mSetR (mVar 0) (mCon (.int 4)) (mBin .add (mIx (mVar 0) (mCon (.int 4))) (mCon (.int 1)))) (mSeq (mIf (mCmp .eq (mIx (mVar 4) (mCon (.int 0))) (mCon (.int 1))) (mSeq (mSetR (mVar 0) (mCon (.int 1)) (mIx (mVar 4) (mCon (.int 1)))) mPass) (mSeq (mSetR (mVar 0) (mCon (.int 2)) (mCon (.int 3))) (mSeq (mSetR (mVar 0) (mCon (.int 3)) (mIx (mVar 4) (mCon (.int 1)))) mPass))) mPass))))))
theorem take_eq : m__law_take = (mSeq (mIf (mCmp .lt (mVar 1) (mCon (.int 2))) (mSeq (mRet (mCon (.int 0))) mPass) mPass) (mSeq (mAsg 2 (mIx (mVar 0) (mCon (.int 0)))) (mSeq (mFor (.nm 3) (mRg1 (mBin .add (mB1 .len (mVar 2)) (mCon (.int 1)))) takeB) (mSeq (mSetR (mVar 0) (mCon (.int 5)) (mBin .add (mIx (mVar 0) (mCon (.int 5))) (mCon (.int 1)))) (mSeq (mRet (mBin .mod (mB1 .int (mCall fk__law_mix (mCons (mIx (mVar 0) (mCon (.int 6))) (mCons (mIx (mVar 0) (mCon (.int 5))) mNil)))) (mVar 1))) mPass))))) := rfl
/-- the store -/
structure Cells (cells : List D) : Prop where
  len : cells.length ≤ 63
  it : ∀ x ∈ cells, ∃ t v : Int, x = .tup [.int t, .int v]
def Sto (cells : List D) (s : S) : Prop := ∃ a b c i j d : Int, 0 ≤ i ∧ s = [[.lst cells, .int a, .int b, .int c, .int i, .int j, .int d]]
abbrev takeE (n : Int) (cells : List D) (x3 x4 x5 : Option Val) : MP.Env := [some (.ref 0), some (.d (.int n)), some (.d (.lst cells)), x3, x4, x5]
theorem take_turn {n : Int} (hn : 2 ≤ n) (hb : Bnd n) {cells : List D} (hc : Cells cells) {s : S} (hs : Sto cells s) (x3 x4 x5 : Option Val) :
    (∃ t s', takeB (takeE n cells x3 x4 x5) s = .ret (.d (.int t)) s' ∧ 0 ≤ t ∧ t < n ∧ Sto cells s') ∨ takeB (takeE n cells x3 x4 x5) s = .brk (takeE n cells x3 x4 x5) s ∨ ∃ y4 s', takeB (takeE n cells x3 x4 x5) s = .nxt (takeE n cells x3 y4 x5) s' ∧ Sto cells s' := by
  obtain ⟨a, b, c, i, j, d, hi, rfl⟩ := hs
  have hn0 : 0 < n := by omega
  unfold takeB
  by_cases ha : 0 < a
  · refine .inl ⟨a % n, [[.lst cells, .int (a / n), .int b, .int c, .int i, .int j, .int d]], ?_, Int.emod_nonneg _ (by omega), Int.emod_lt_of_pos _ hn0, _, _, _, _, _, _, hi, rfl⟩
    simp [mSeq, mIf, mAsg, mAsgO, mApp, mFrz, mRet, mRetL, mSetR, mFor, forGo, mPass, mBrk, mTru, mNot, mAnd, mOr, mBl, mB1, mBin, mNeg, mCmp, mIx, mVar, mCon, mTup, mLst, mCons, mNil, mCall, mMin2, mRg1, mRg2, mItV, R.go, R.goT, R.bind, R.of, rd, rds, datas, frefs, frees, opD, oadd, osub, cmpD, eqD, ixV, ixD, MP.atI, MP.ixN, b1V, b1, truV, truD, tgSet, P.to, items, ha, omod hn0, ofd hn0 hb]
  · by_cases hbb : 0 < b
    · obtain ⟨r, hr⟩ := mix_ok c (b - 1)
      refine .inl ⟨r % n, [[.lst cells, .int a, .int (b - 1), .int c, .int i, .int j, .int d]], ?_, Int.emod_nonneg _ (by omega), Int.emod_lt_of_pos _ hn0, _, _, _, _, _, _, hi, rfl⟩
      simp [mSeq, mIf, mAsg, mAsgO, mApp, mFrz, mRet, mRetL, mSetR, mFor, forGo, mPass, mBrk, mTru, mNot, mAnd, mOr, mBl, mB1, mBin, mNeg, mCmp, mIx, mVar, mCon, mTup, mLst, mCons, mNil, mCall, mMin2, mRg1, mRg2, mItV, R.go, R.goT, R.bind, R.of, rd, rds, datas, frefs, frees, opD, oadd, osub, cmpD, eqD, ixV, ixD, MP.atI, MP.ixN, b1V, b1, truV, truD, tgSet, P.to, items, ha, hbb, omod hn0, hr]
    · by_cases hl : (cells.length : Int) ≤ i
      · refine .inr (.inl ?_)
        simp [mSeq, mIf, mAsg, mAsgO, mApp, mFrz, mRet, mRetL, mSetR, mFor, forGo, mPass, mBrk, mTru, mNot, mAnd, mOr, mBl, mB1, mBin, mNeg, mCmp, mIx, mVar, mCon, mTup, mLst, mCons, mNil, mCall, mMin2, mRg1, mRg2, mItV, R.go, R.goT, R.bind, R.of, rd, rds, datas, frefs, frees, opD, oadd, osub, cmpD, eqD, ixV, ixD, MP.atI, MP.ixN, b1V, b1, truV, truD, tgSet, P.to, items, ha, hbb, hl]
      · have hlt : i.toNat < cells.length := by omega
        obtain ⟨t, v, hx⟩ := hc.it cells[i.toNat] (List.getElem_mem hlt)
        have hx' : cells[i.toNat]? = some (.tup [.int t, .int v]) := by rw [List.getElem?_eq_getElem hlt, hx]
        have hi2 : i < cells.length := by omega
        refine .inr (.inr ?_)
        by_cases ht : t = 1
        · refine ⟨some (.d (.tup [.int t, .int v])), [[.lst cells, .int v, .int b, .int c, .int (i + 1), .int j, .int d]], ?_, _, _, _, _, _, _, by omega, rfl⟩
          simp [mSeq, mIf, mAsg, mAsgO, mApp, mFrz, mRet, mRetL, mSetR, mFor, forGo, mPass, mBrk, mTru, mNot, mAnd, mOr, mBl, mB1, mBin, mNeg, mCmp, mIx, mVar, mCon, mTup, mLst, mCons, mNil, mCall, mMin2, mRg1, mRg2, mItV, R.go, R.goT, R.bind, R.of, rd, rds, datas, frefs, frees, opD, oadd, osub, cmpD, eqD, ixV, ixD, MP.atI, MP.ixN, b1V, b1, truV, truD, tgSet, P.to, items, ha, hbb, hl, hi, hi2, hx, ht]
        · refine ⟨some (.d (.tup [.int t, .int v])), [[.lst cells, .int a, .int 3, .int v, .int (i + 1), .int j, .int d]], ?_, _, _, _, _, _, _, by omega, rfl⟩
          simp [mSeq, mIf, mAsg, mAsgO, mApp, mFrz, mRet, mRetL, mSetR, mFor, forGo, mPass, mBrk, mTru, mNot, mAnd, mOr, mBl, mB1, mBin, mNeg, mCmp, mIx, mVar, mCon, mTup, mLst, mCons, mNil, mCall, mMin2, mRg1, mRg2, mItV, R.go, R.goT, R.bind, R.of, rd, rds, datas, frefs, frees, opD, oadd, osub, cmpD, eqD, ixV, ixD, MP.atI, MP.ixN, b1V, b1, truV, truD, tgSet, P.to, items, ha, hbb, hl, hi, hi2, hx, ht]

theorem rg0 (j : Int) (h : -1000 ≤ j ∧ j ≤ 1000) : rgOk 0 j = true := by
  unfold rgOk line
  apply decide_eq_true
  refine ⟨by decide, by decide, ?_, ?_, ?_⟩
  · have : -(2 ^ 62 : Int) ≤ -1000 := by decide
    omega
  · have : (1000 : Int) < 2 ^ 62 := by decide
    omega
  · show j - 0 ≤ ((16777216 : Nat) : Int)
    have : (1000 : Int) ≤ ((16777216 : Nat) : Int) := by decide
    omega
theorem take_loop {n : Int} (hn : 2 ≤ n) (hb : Bnd n) {cells : List D} (hc : Cells cells) (x5 : Option Val) : ∀ (m : Nat) (lo : Int) (x3 x4 : Option Val) {s : S}, Sto cells s →
    (∃ t s', forGo (.nm 3) takeB (rangeI lo m) (takeE n cells x3 x4 x5) s = .ret (.d (.int t)) s' ∧ 0 ≤ t ∧ t < n ∧ Sto cells s') ∨ ∃ y3 y4 s', forGo (.nm 3) takeB (rangeI lo m) (takeE n cells x3 x4 x5) s = .nxt (takeE n cells y3 y4 x5) s' ∧ Sto cells s'
  | 0, lo, x3, x4, s, hs => .inr ⟨x3, x4, s, rfl, hs⟩
  | m + 1, lo, x3, x4, s, hs => by
    have e : forGo (.nm 3) takeB (rangeI lo (m + 1)) (takeE n cells x3 x4 x5) s = (match takeB (takeE n cells (some (.d (.int lo))) x4 x5) s with
      | .nxt e s => forGo (.nm 3) takeB (rangeI (lo + 1) m) e s
      | .cnt e s => forGo (.nm 3) takeB (rangeI (lo + 1) m) e s
      | .brk e s => .nxt e s
      | r => r) := rfl
    rw [e]
    rcases take_turn hn hb hc hs (some (.d (.int lo))) x4 x5 with ⟨t, s', h1, h2⟩ | h1 | ⟨y4, s', h1, h2⟩
    · rw [h1]; exact .inl ⟨t, s', rfl, h2⟩
    · rw [h1]; exact .inr ⟨_, _, s, rfl, hs⟩
    · rw [h1]; exact take_loop hn hb hc x5 m (lo + 1) _ y4 h2
theorem toNat1 (n : Nat) : ((n : Int) + 1).toNat = n + 1 := rfl
theorem rg1_ok {m : ME} {e : MP.Env} {s s1 : S} {j : Int} (h : m e s = .ok (.d (.int j)) s1) (hr : rgOk 0 j = true) : mRg1 m e s = .ok (rangeI 0 j.toNat) s1 := by
  unfold mRg1
  rw [h]
  simp only [R.bind_ok]
  rw [if_pos hr]
theorem rg_len {cells : List D} (hc : Cells cells) (n : Int) (x3 x4 x5 : Option Val) (s : S) : mRg1 (mBin .add (mB1 .len (mVar 2)) (mCon (.int 1))) (takeE n cells x3 x4 x5) s = .ok (rangeI 0 (cells.length + 1)) s := by
  have hr : rgOk 0 (cells.length + 1 : Int) = true := rg0 _ (by have := hc.len; omega)
  have e : mBin .add (mB1 .len (mVar 2)) (mCon (.int 1)) (takeE n cells x3 x4 x5) s = .ok (.d (.int (cells.length + 1))) s := by simp [takeE, mSeq, mIf, mAsg, mAsgO, mApp, mFrz, mRet, mRetL, mSetR, mPass, mBrk, mTru, mNot, mAnd, mOr, mBl, mB1, mBin, mNeg, mCmp, mIx, mVar, mCon, mTup, mLst, mCons, mNil, mCall, mMin2, mRg1, mRg2, mItV, R.go, R.goT, R.bind, R.of, rd, rds, datas, frefs, frees, opD, oadd, osub, cmpD, eqD, ixV, ixD, MP.atI, MP.ixN, b1V, b1, truV, truD, tgSet, P.to, items]
  rw [rg1_ok e hr, toNat1]
theorem for_eq {tg : Tg} {it : MI} {b : MS} {e : MP.Env} {s s1 : S} {xs : List D} (h : it e s = .ok xs s1) : mFor tg it b e s = forGo tg b xs e s1 := by
  unfold mFor
  rw [h]
/-- on behind a loop -/
def fseq (r : F) (k : MS) : F := match r with
  | .nxt e s => k e s
  | q => q
theorem seq_for {tg : Tg} {it : MI} {b r : MS} {e : MP.Env} {s s1 : S} {xs : List D} (h : it e s = .ok xs s1) : mSeq (mFor tg it b) r e s = fseq (forGo tg b xs e s1) r := by
  unfold mSeq fseq
  rw [for_eq h]
  try (cases forGo tg b xs e s1 <;> rfl)
def takeR : MS := mSeq (mSetR (mVar 0) (mCon (.int 5)) (mBin .add (mIx (mVar 0) (mCon (.int 5))) (mCon (.int 1)))) (mSeq (mRet (mBin .mod (mB1 .int (mCall fk__law_mix (mCons (mIx (mVar 0) (mCon (.int 6))) (mCons (mIx (mVar 0) (mCon (.int 5))) mNil)))) (mVar 1))) mPass)
def takeF : MS := mSeq (mFor (.nm 3) (mRg1 (mBin .add (mB1 .len (mVar 2)) (mCon (.int 1)))) takeB) takeR
theorem take_eq2 : m__law_take = (mSeq (mIf (mCmp .lt (mVar 1) (mCon (.int 2))) (mSeq (mRet (mCon (.int 0))) mPass) mPass) (mSeq (mAsg 2 (mIx (mVar 0) (mCon (.int 0)))) takeF)) := rfl
theorem takeF_ok {n : Int} (hn : 2 ≤ n) (hb : Bnd n) {cells : List D} (hc : Cells cells) {s : S} (hs : Sto cells s) : ∃ t s', takeF (takeE n cells none none none) s = .ret (.d (.int t)) s' ∧ 0 ≤ t ∧ t < n ∧ Sto cells s' := by
  have hn0 : 0 < n := by omega
  have e1 : takeF (takeE n cells none none none) s = fseq (forGo (.nm 3) takeB (rangeI 0 (cells.length + 1)) (takeE n cells none none none) s) takeR := by
    unfold takeF
    rw [seq_for (rg_len hc n none none none s)]
  rw [e1]
  rcases take_loop hn hb hc none (cells.length + 1) 0 none none hs with ⟨t, s', h1, h2⟩ | ⟨y3, y4, s', h1, h2⟩
  · rw [h1]
    exact ⟨t, s', rfl, h2⟩
  · rw [h1]
    obtain ⟨a', b', c', i', j', d', hi', rfl⟩ := h2
    obtain ⟨r, hr'⟩ := mix_ok d' (j' + 1)
    refine ⟨r % n, [[.lst cells, .int a', .int b', .int c', .int i', .int (j' + 1), .int d']], ?_, Int.emod_nonneg _ (by omega), Int.emod_lt_of_pos _ hn0, _, _, _, _, _, _, hi', rfl⟩
    show takeR _ _ = _
    unfold takeR
    simp [mSeq, mIf, mAsg, mAsgO, mApp, mFrz, mRet, mRetL, mSetR, mPass, mBrk, mTru, mNot, mAnd, mOr, mBl, mB1, mBin, mNeg, mCmp, mIx, mVar, mCon, mTup, mLst, mCons, mNil, mCall, mMin2, mRg1, mRg2, mItV, R.go, R.goT, R.bind, R.of, rd, rds, datas, frefs, frees, opD, oadd, osub, cmpD, eqD, ixV, ixD, MP.atI, MP.ixN, b1V, b1, truV, truD, tgSet, P.to, items, hr', omod hn0]
theorem seq_nxt {a b : MS} {e e1 : MP.Env} {s s1 : S} (h : a e s = .nxt e1 s1) : mSeq a b e s = b e1 s1 := by
  unfold mSeq
  rw [h]
theorem runE_ret {n : Nat} {b : MS} {vs : List Val} {s s' : S} {v : Val} (h : b (initE n vs) s = .ret v s') : runE n b vs s = .ok v s' := by
  unfold runE
  rw [h]
theorem take_ok {n : Int} (hb : Bnd n) {cells : List D} (hc : Cells cells) {s : S} (hs : Sto cells s) : ∃ t s', f__law_take [.ref 0, .d (.int n)] s = .ok (.d (.int t)) s' ∧ 0 ≤ t ∧ (2 ≤ n → t < n) ∧ (n < 2 → t = 0) ∧ Sto cells s' := by
  have hs0 := hs
  obtain ⟨a, b, c, i, j, d, hi, rfl⟩ := hs
  unfold f__law_take
  rw [take_eq2]
  by_cases h2 : n < 2
  · refine ⟨0, _, runE_ret ?_, Int.le_refl _, fun z => absurd h2 (by omega), fun _ => rfl, hs0⟩
    simp [initE, mSeq, mIf, mAsg, mAsgO, mApp, mFrz, mRet, mRetL, mSetR, mPass, mBrk, mTru, mNot, mAnd, mOr, mBl, mB1, mBin, mNeg, mCmp, mIx, mVar, mCon, mTup, mLst, mCons, mNil, mCall, mMin2, mRg1, mRg2, mItV, R.go, R.goT, R.bind, R.of, rd, rds, datas, frefs, frees, opD, oadd, osub, cmpD, eqD, ixV, ixD, MP.atI, MP.ixN, b1V, b1, truV, truD, tgSet, P.to, items, h2]
  · obtain ⟨t, s', h1, h3, h4, h5⟩ := takeF_ok (by omega) hb hc hs0
    refine ⟨t, s', runE_ret ?_, h3, fun _ => h4, fun z => absurd z h2, h5⟩
    have e1 : mIf (mCmp .lt (mVar 1) (mCon (.int 2))) (mSeq (mRet (mCon (.int 0))) mPass) mPass (initE 6 [.ref 0, .d (.int n)]) [[.lst cells, .int a, .int b, .int c, .int i, .int j, .int d]] = .nxt [some (.ref 0), some (.d (.int n)), none, none, none, none] [[.lst cells, .int a, .int b, .int c, .int i, .int j, .int d]] := by
      simp [initE, mSeq, mIf, mAsg, mAsgO, mApp, mFrz, mRet, mRetL, mSetR, mPass, mBrk, mTru, mNot, mAnd, mOr, mBl, mB1, mBin, mNeg, mCmp, mIx, mVar, mCon, mTup, mLst, mCons, mNil, mCall, mMin2, mRg1, mRg2, mItV, R.go, R.goT, R.bind, R.of, rd, rds, datas, frefs, frees, opD, oadd, osub, cmpD, eqD, ixV, ixD, MP.atI, MP.ixN, b1V, b1, truV, truD, tgSet, P.to, items, h2]
    have e2 : mAsg 2 (mIx (mVar 0) (mCon (.int 0))) [some (.ref 0), some (.d (.int n)), none, none, none, none] [[.lst cells, .int a, .int b, .int c, .int i, .int j, .int d]] = .nxt (takeE n cells none none none) [[.lst cells, .int a, .int b, .int c, .int i, .int j, .int d]] := by
      simp [takeE, mSeq, mIf, mAsg, mAsgO, mApp, mFrz, mRet, mRetL, mSetR, mPass, mBrk, mTru, mNot, mAnd, mOr, mBl, mB1, mBin, mNeg, mCmp, mIx, mVar, mCon, mTup, mLst, mCons, mNil, mCall, mMin2, mRg1, mRg2, mItV, R.go, R.goT, R.bind, R.of, rd, rds, datas, frefs, frees, opD, oadd, osub, cmpD, eqD, ixV, ixD, MP.atI, MP.ixN, b1V, b1, truV, truD, tgSet, P.to, items]
    rw [seq_nxt e1, seq_nxt e2]
    exact h1
end MPL
end

section
set_option Elab.async false
set_option linter.all false
set_option maxRecDepth 100000
set_option maxHeartbeats 4000000
namespace MPL
open PySem MP
theorem bnd_len {n : Nat} (h : n ≤ 100000) : Bnd (n : Int) := ⟨by
  have h1 : (n : Int) ≤ 100000 := by omega
  have h2 : (100000 : Int) < 2 ^ 2000 := by decide +kernel
  exact Int.lt_of_le_of_lt h1 h2⟩
theorem at_ok {xs : List D} {t : Int} (h0 : 0 ≤ t) (h : t < xs.length) : ∃ x, x ∈ xs ∧ MP.atI xs t = some x := by
  have hl : t.toNat < xs.length := by omega
  refine ⟨xs[t.toNat], List.getElem_mem hl, ?_⟩
  unfold MP.atI MP.ixN
  rw [if_pos h0, if_pos h]
  show xs[t.toNat]? = _
  rw [List.getElem?_eq_getElem hl]
theorem pick_ok {xs : List D} (hx : xs ≠ []) (hl : xs.length ≤ 100000) {y : D} (hy : y = .lst xs ∨ y = .tup xs) {cells : List D} (hc : Cells cells) {s : S} (hs : Sto cells s) : ∃ x s', f__law_pick [.ref 0, .d y] s = .ok (.d x) s' ∧ x ∈ xs ∧ Sto cells s' := by
  obtain ⟨t, s', h1, h2, h3, h4, h5⟩ := take_ok (bnd_len hl) hc hs
  have hlen : 0 < xs.length := List.length_pos_iff.mpr hx
  have ht : t < xs.length := by
    by_cases h : 2 ≤ (xs.length : Int)
    · exact h3 h
    · rw [h4 (by omega)]; omega
  obtain ⟨x, hm, hat⟩ := at_ok h2 ht
  refine ⟨x, s', ?_, hm, h5⟩
  unfold f__law_pick
  refine runE_ret ?_
  unfold m__law_pick
  rcases hy with rfl | rfl
  · simp [initE, mSeq, mIf, mAsg, mAsgO, mApp, mFrz, mRet, mRetL, mSetR, mPass, mBrk, mTru, mNot, mAnd, mOr, mBl, mB1, mBin, mNeg, mCmp, mIx, mVar, mCon, mTup, mLst, mCons, mNil, mCall, mMin2, mRg1, mRg2, mItV, R.go, R.goT, R.bind, R.of, rd, rds, datas, frefs, frees, opD, oadd, osub, cmpD, eqD, ixV, ixD, b1V, b1, truV, truD, tgSet, P.to, items, h1, hat]
  · simp [initE, mSeq, mIf, mAsg, mAsgO, mApp, mFrz, mRet, mRetL, mSetR, mPass, mBrk, mTru, mNot, mAnd, mOr, mBl, mB1, mBin, mNeg, mCmp, mIx, mVar, mCon, mTup, mLst, mCons, mNil, mCall, mMin2, mRg1, mRg2, mItV, R.go, R.goT, R.bind, R.of, rd, rds, datas, frefs, frees, opD, oadd, osub, cmpD, eqD, ixV, ixD, b1V, b1, truV, truD, tgSet, P.to, items, h1, hat]
end MPL
end

section
set_option Elab.async false
set_option linter.all false
set_option maxRecDepth 100000
set_option maxHeartbeats 4000000
namespace MPL
open PySem MP
def storeB : MS := (mSeq (mAsg 5 (mB1 .int (mIx (mVar 0) (mVar 4)))) (mSeq (mAsg 6 (mBin .mod (mB1 .int (mVar 5)) (mCon (.int 2147483647)))) (mSeq (mIf (mCmp .ge (mVar 5) (mBin .pow (mCon (.int 10)) (mCon (.int 18)))) (mSeq (mApp 2 (mTup (mCons (mCon (.int 1)) (mCons (mBin .mod (mB1 .int (mVar 5)) (mVar 1)) mNil)))) mPass) (mSeq (mApp 2 (mTup (mCons (mCon (.int 0)) (mCons (mBin .mod (mB1 .int (mBin .add (mVar 6) (mBin .mul (mVar 4) (mCon (.int 104729))))) (mCon (.int 2147483647))) mNil)))) mPass)) (mSeq (mAsg 3 (mBin .mod (mB1 .int (mBin .add (mBin .add (mBin .mul (mVar 3) (mCon (.int 48271))) (mVar 6)) (mCon (.int 11)))) (mCon (.int 2147483629)))) mPass))))
theorem opw : MP.opI .pow 10 18 = some 1000000000000000000 := by decide +kernel
theorem om1 (i : Int) : MP.opI .mul i 104729 = some (i * 104729) := if_pos (small_mul (by decide))
theorem om2 (i : Int) : MP.opI .mul i 48271 = some (i * 48271) := if_pos (small_mul (by decide))
theorem two_line : (2 ≤ line) = True := eq_true (by decide)
theorem seven_line : (7 ≤ line) = True := eq_true (by decide)
abbrev stE (ns : List Int) (w : Int) (cells : List D) (sd : Int) (x4 x5 x6 : Option Val) : MP.Env := [some (.scr ns), some (.d (.int w)), some (.own cells), some (.d (.int sd)), x4, x5, x6]
theorem store_turn {ns : List Int} {w : Int} (hw : 0 < w) {cells : List D} (hl : cells.length < 63) (hi : ∀ x ∈ cells, ∃ t v : Int, x = .tup [.int t, .int v]) {lo : Int} (h0 : 0 ≤ lo) (h1 : lo < ns.length) (sd : Int) (x5 x6 : Option Val) (s : S) :
    ∃ c sd' y5 y6, storeB (stE ns w cells sd (some (.d (.int lo))) x5 x6) s = .nxt (stE ns w (cells ++ [c]) sd' (some (.d (.int lo))) y5 y6) s ∧ ∃ t v : Int, c = .tup [.int t, .int v] := by
  have hat : ∃ v, MP.atI ns lo = some v := by
    have hlt : lo.toNat < ns.length := by omega
    refine ⟨ns[lo.toNat], ?_⟩
    unfold MP.atI MP.ixN
    rw [if_pos h0, if_pos h1]
    show ns[lo.toNat]? = _
    rw [List.getElem?_eq_getElem hlt]
  obtain ⟨v, hv⟩ := hat
  have hline : cells.length < line := Nat.lt_trans hl (by decide)
  unfold storeB
  by_cases hb : 1000000000000000000 ≤ v
  · refine ⟨.tup [.int 1, .int (v % w)], (sd * 48271 + v % 2147483647 + 11) % 2147483629, some (.d (.int v)), some (.d (.int (v % 2147483647))), ?_, _, _, rfl⟩
    simp [mSeq, mIf, mAsg, mAsgO, mApp, mFrz, mRet, mRetL, mSetR, mPass, mBrk, mTru, mNot, mAnd, mOr, mBl, mB1, mBin, mNeg, mCmp, mIx, mVar, mCon, mTup, mLst, mCons, mNil, mCall, mMin2, mRg1, mRg2, mItV, R.go, R.goT, R.bind, R.of, rd, rds, datas, frefs, frees, opD, oadd, osub, cmpD, eqD, ixV, ixD, b1V, b1, truV, truD, tgSet, P.to, items, hv, opw, om1, om2, omod hw, omod (show (0 : Int) < 2147483647 by decide), omod (show (0 : Int) < 2147483629 by decide), hb, hline, two_line]
  · refine ⟨.tup [.int 0, .int ((v % 2147483647 + lo * 104729) % 2147483647)], (sd * 48271 + v % 2147483647 + 11) % 2147483629, some (.d (.int v)), some (.d (.int (v % 2147483647))), ?_, _, _, rfl⟩
    simp [mSeq, mIf, mAsg, mAsgO, mApp, mFrz, mRet, mRetL, mSetR, mPass, mBrk, mTru, mNot, mAnd, mOr, mBl, mB1, mBin, mNeg, mCmp, mIx, mVar, mCon, mTup, mLst, mCons, mNil, mCall, mMin2, mRg1, mRg2, mItV, R.go, R.goT, R.bind, R.of, rd, rds, datas, frefs, frees, opD, oadd, osub, cmpD, eqD, ixV, ixD, b1V, b1, truV, truD, tgSet, P.to, items, hv, opw, om1, om2, omod hw, omod (show (0 : Int) < 2147483647 by decide), omod (show (0 : Int) < 2147483629 by decide), hb, hline, two_line]
theorem store_loop {ns : List Int} {w : Int} (hw : 0 < w) : ∀ (m : Nat) {cells : List D} {lo : Int} (sd : Int) (x4 x5 x6 : Option Val) (s : S), cells.length + m ≤ 63 → (∀ x ∈ cells, ∃ t v : Int, x = .tup [.int t, .int v]) → 0 ≤ lo → lo + m ≤ ns.length →
    ∃ cells' sd' y4 y5 y6, forGo (.nm 4) storeB (rangeI lo m) (stE ns w cells sd x4 x5 x6) s = .nxt (stE ns w cells' sd' y4 y5 y6) s ∧ Cells cells'
  | 0, cells, lo, sd, x4, x5, x6, s, hl, hi, _, _ => ⟨cells, sd, x4, x5, x6, rfl, ⟨by omega, hi⟩⟩
  | m + 1, cells, lo, sd, x4, x5, x6, s, hl, hi, h0, h1 => by
    obtain ⟨c, sd', y5, y6, h2, h3⟩ := store_turn (ns := ns) hw (cells := cells) (by omega) hi h0 (by omega) sd x5 x6 s
    have e : forGo (.nm 4) storeB (rangeI lo (m + 1)) (stE ns w cells sd x4 x5 x6) s = (match storeB (stE ns w cells sd (some (.d (.int lo))) x5 x6) s with
      | .nxt e s => forGo (.nm 4) storeB (rangeI (lo + 1) m) e s
      | .cnt e s => forGo (.nm 4) storeB (rangeI (lo + 1) m) e s
      | .brk e s => .nxt e s
      | r => r) := rfl
    rw [e, h2]
    refine store_loop hw m sd' _ y5 y6 s (by rw [List.length_append, List.length_singleton]; omega) (fun x hx => ?_) (by omega) (by omega)
    rcases List.mem_append.mp hx with hx | hx
    · exact hi x hx
    · rw [List.mem_singleton.mp hx]; exact h3

def storeT : MS := mSeq (mFrz 2) (mSeq (mRetL (mCons (mVar 2) (mCons (mCon (.int 0)) (mCons (mCon (.int 0)) (mCons (mCon (.int 0)) (mCons (mCon (.int 0)) (mCons (mCon (.int 0)) (mCons (mVar 3) mNil)))))))) mPass)
theorem store_eq : m__law_store = mSeq (mAsg 1 (mBin .pow (mCon (.int 10)) (mCon (.int 60)))) (mSeq (mAsg 1 (mBin .mul (mBin .mul (mBin .mul (mVar 1) (mVar 1)) (mVar 1)) (mVar 1))) (mSeq (mAsgO 2 (mLst mNil)) (mSeq (mAsg 3 (mCon (.int 7))) (mSeq (mFor (.nm 4) (mRg1 (mMin2 (mCon (.int 63)) (mB1 .len (mVar 0)))) storeB) storeT)))) := rfl
theorem ow1 : MP.opI .pow 10 60 = some (10 ^ 60) := by decide +kernel
theorem ow2 : MP.opI .mul (10 ^ 60) (10 ^ 60) = some (10 ^ 120) := by decide +kernel
theorem ow3 : MP.opI .mul (10 ^ 120) (10 ^ 60) = some (10 ^ 180) := by decide +kernel
theorem ow4 : MP.opI .mul (10 ^ 180) (10 ^ 60) = some (10 ^ 240) := by decide +kernel
theorem bin_eq {o : Op} {a b : ME} {e : MP.Env} {s : S} {i j k : Int} (ha : a e s = .ok (.d (.int i)) s) (hb : b e s = .ok (.d (.int j)) s) (h : MP.opI o i j = some k) : mBin o a b e s = .ok (.d (.int k)) s := by
  unfold mBin
  rw [ha]
  simp only [R.bind_ok]
  rw [hb]
  simp only [R.bind_ok, rd_d]
  unfold opD
  simp only [h, Option.map_some, R.of_some]
theorem asg_int {i : Nat} {a : ME} {e : MP.Env} {s : S} {k : Int} (h : a e s = .ok (.d (.int k)) s) : mAsg i a e s = .nxt (e.set i (some (.d (.int k)))) s := by
  unfold mAsg
  rw [h]
  rfl
theorem store_ok (ns : List Int) : ∃ cells s, f__law_store [.scr ns] [] = .ok (.ref 0) s ∧ Cells cells ∧ Sto cells s := by
  obtain ⟨m, hm, h63, hle⟩ : ∃ m : Nat, (if (ns.length : Int) < 63 then (ns.length : Int) else 63) = (m : Int) ∧ m ≤ 63 ∧ m ≤ ns.length := by
    by_cases h : (ns.length : Int) < 63
    · exact ⟨ns.length, by rw [if_pos h], by omega, Nat.le_refl _⟩
    · exact ⟨63, by rw [if_neg h]; rfl, Nat.le_refl _, by omega⟩
  obtain ⟨cells, sd, y4, y5, y6, h1, hc⟩ := store_loop (ns := ns) (w := 10 ^ 240) (by decide) m (cells := []) (lo := 0) 7 none none none [] (by simpa using h63) (by simp) (by decide) (by omega)
  refine ⟨cells, [[.lst cells, .int 0, .int 0, .int 0, .int 0, .int 0, .int sd]], ?_, hc, _, _, _, _, _, _, Int.le_refl _, rfl⟩
  unfold f__law_store
  refine runE_ret ?_
  rw [store_eq]
  have e1 : mAsg 1 (mBin .pow (mCon (.int 10)) (mCon (.int 60))) (initE 7 [.scr ns]) [] = .nxt [some (.scr ns), some (.d (.int (10 ^ 60))), none, none, none, none, none] [] := asg_int (bin_eq rfl rfl ow1)
  have e2 : mAsg 1 (mBin .mul (mBin .mul (mBin .mul (mVar 1) (mVar 1)) (mVar 1)) (mVar 1)) [some (.scr ns), some (.d (.int (10 ^ 60))), none, none, none, none, none] [] = .nxt [some (.scr ns), some (.d (.int (10 ^ 240))), none, none, none, none, none] [] := asg_int (bin_eq (bin_eq (bin_eq rfl rfl ow2) rfl ow3) rfl ow4)
  have e3 : mAsgO 2 (mLst mNil) [some (.scr ns), some (.d (.int (10 ^ 240))), none, none, none, none, none] [] = .nxt [some (.scr ns), some (.d (.int (10 ^ 240))), some (.own []), none, none, none, none] [] := rfl
  have e4 : mAsg 3 (mCon (.int 7)) [some (.scr ns), some (.d (.int (10 ^ 240))), some (.own []), none, none, none, none] [] = .nxt (stE ns (10 ^ 240) [] 7 none none none) [] := rfl
  have e5 : mRg1 (mMin2 (mCon (.int 63)) (mB1 .len (mVar 0))) (stE ns (10 ^ 240) [] 7 none none none) [] = .ok (rangeI 0 m) [] := by
    have q : mMin2 (mCon (.int 63)) (mB1 .len (mVar 0)) (stE ns (10 ^ 240) [] 7 none none none) [] = .ok (.d (.int (m : Int))) [] := by
      rw [← hm]
      rfl
    rw [rg1_ok q (rg0 _ (by omega))]
    rfl
  rw [seq_nxt e1, seq_nxt e2, seq_nxt e3, seq_nxt e4, seq_for e5, h1]
  show storeT _ _ = _
  rfl
end MPL
end

section
set_option Elab.async false
set_option linter.all false
set_option maxRecDepth 100000
set_option maxHeartbeats 4000000
namespace MPL
open PySem MP
/-! quick forms of two comprehensions in _law_built (the same at every place, proved below) -/
def onesE (j : Nat) : ME := mLc [15] (.nm 15) (mItV (mVar 5)) mYes (mCall fk__law_index (mCons (mVar 0) (mCons (mLc [14] (.nm 14) (mItV (mVar j)) mYes (mIx (mVar 15) (mVar 14))) mNil)))
def entE : ME := (mLc [17] (.nm 17) (mRg1 (mB1 .len (mVar 10))) mYes (mIx (mIx (mVar 16) (mIx (mVar 12) (mIx (mVar 10) (mVar 17)))) (mIx (mVar 13) (mIx (mVar 11) (mVar 17)))))
def builtT (a b c : ME) : MS := (mSeq (mAsgO 3 (mLst (mCons (mLst mNil) (mCons (mLst (mCons (mTupI (mRg1 (mVar 0))) mNil)) mNil)))) (mSeq (mFor (.nm 4) (mRg2 (mCon (.int 2)) (mBin .add (mVar 1) (mCon (.int 1)))) (mSeq (mAsg 5 (mCall fk__law_fillings (mCons (mVar 0) (mCons (mVar 4) mNil)))) (mSeq (mAsgE 6) (mSeq (mFor (.nm 7) (mRg1 (mBin .sub (mBin .shl (mCon (.int 1)) (mBin .sub (mVar 4) (mCon (.int 1)))) (mCon (.int 1)))) (mSeq (mAsg 8 (mBin .add (mLst (mCons (mCon (.int 0)) mNil)) (mLc [14] (.nm 14) (mRg2 (mCon (.int 1)) (mVar 4)) (mCmp .eq (mBin .band (mBin .shr (mVar 7) (mBin .sub (mVar 14) (mCon (.int 1)))) (mCon (.int 1))) (mCon (.int 1))) (mVar 14)))) (mSeq (mAsg 9 (mLc [14] (.nm 14) (mRg1 (mVar 4)) (mCmp .notin (mVar 14) (mVar 8)) (mVar 14))) (mSeq (mAsg 10 a) (mSeq (mAsg 11 b) (mSeq (mFor (.nm 12) (mItV (mIx (mVar 3) (mB1 .len (mVar 8)))) (mSeq (mFor (.nm 13) (mItV (mIx (mVar 3) (mB1 .len (mVar 9)))) (mSeq (mFor (.nm 16) (mItV (mVar 2)) (mSeq (mSetT 6 c (mCon (.bl true))) mPass)) mPass)) mPass)) mPass)))))) (mSeq (mFrz 6) (mSeq (mApp 3 (mB1 .list (mVar 6))) mPass)))))) (mSeq (mFrz 3) (mSeq (mRet (mIx (mVar 3) (mVar 1))) mPass))))
theorem built_eq : m__law_built = builtT (onesE 8) (onesE 9) entE := rfl
def mapO (g : D → Option D) : List D → Option (List D)
  | [] => some []
  | x :: xs => match g x with
    | some y => (match mapO g xs with
      | some ys => some (y :: ys)
      | none => none)
    | none => none
theorem lc_map {i : Nat} {e : MP.Env} {s : S} {m : ME} {g : D → Option D} (h : ∀ x y, g x = some y → m (e.set i (some (.d x))) s = .ok (.d y) s) : ∀ (xs : List D) {ys : List D} (acc : List D), mapO g xs = some ys → lcGo e (.nm i) mYes m xs acc s = .ok (acc ++ ys) s
  | [], ys, acc, q => by cases q; simp [lcGo]
  | x :: xs, ys, acc, q => by
    unfold mapO at q
    cases q1 : g x with
    | none => rw [q1] at q; cases q
    | some y =>
      rw [q1] at q
      dsimp only at q
      cases q2 : mapO g xs with
      | none => rw [q2] at q; cases q
      | some zs =>
        rw [q2] at q
        cases q
        have e1 : tgSet (.nm i) x e = some (e.set i (some (.d x))) := rfl
        rw [lcGo, e1]
        simp only [mYes]
        rw [h x y q1]
        dsimp only
        rw [lc_map h xs (acc ++ [y]) q2]
        simp
/-- the number of a row -/
def foldI (q : Int) : Int → List Int → Int
  | v, [] => v
  | v, x :: xs => foldI q (v * q + x) xs
def idxB : MS := (mSeq (mAsg 2 (mBin .add (mBin .mul (mVar 2) (mVar 0)) (mVar 3))) mPass)
theorem idx_loop {q : Int} (hq : -(2 ^ 64) < q ∧ q < 2 ^ 64) (r : Option Val) (s : S) : ∀ (ns : List Int) (v : Int) (x3 : Option Val), ∃ y3, forGo (.nm 3) idxB (ns.map .int) [some (.d (.int q)), r, some (.d (.int v)), x3] s = .nxt [some (.d (.int q)), r, some (.d (.int (foldI q v ns))), y3] s
  | [], v, x3 => ⟨x3, rfl⟩
  | n :: ns, v, x3 => by
    obtain ⟨y3, h⟩ := idx_loop hq r s ns (v * q + n) (some (.d (.int n)))
    refine ⟨y3, ?_⟩
    have e1 : idxB [some (.d (.int q)), r, some (.d (.int v)), some (.d (.int n))] s = .nxt [some (.d (.int q)), r, some (.d (.int (v * q + n))), some (.d (.int n))] s := by
      unfold idxB
      have hm : MP.opI .mul v q = some (v * q) := if_pos (small_mul hq)
      simp [mSeq, mAsg, mPass, mBin, mVar, R.go, R.bind, R.of, rd, opD, oadd, hm]
    have e : forGo (.nm 3) idxB ((n :: ns).map .int) [some (.d (.int q)), r, some (.d (.int v)), x3] s = (match idxB [some (.d (.int q)), r, some (.d (.int v)), some (.d (.int n))] s with
      | .nxt e s => forGo (.nm 3) idxB (ns.map .int) e s
      | .cnt e s => forGo (.nm 3) idxB (ns.map .int) e s
      | .brk e s => .nxt e s
      | r => r) := rfl
    rw [e, e1]
    exact h
theorem index_ok {q : Int} (hq : -(2 ^ 64) < q ∧ q < 2 ^ 64) (ns : List Int) : f__law_index [.int q, .lst (ns.map .int)] = .ok (.int (foldI q 0 ns)) := by
  have eq : m__law_index = mSeq (mAsg 2 (mCon (.int 0))) (mSeq (mFor (.nm 3) (mItV (mVar 1)) idxB) (mSeq (mRet (mVar 2)) mPass)) := rfl
  obtain ⟨y3, h⟩ := idx_loop hq (some (.d (.lst (ns.map .int)))) [] ns 0 none
  have e1 : mAsg 2 (mCon (.int 0)) [some (.d (.int q)), some (.d (.lst (ns.map .int))), none, none] [] = .nxt [some (.d (.int q)), some (.d (.lst (ns.map .int))), some (.d (.int 0)), none] [] := rfl
  have e2 : mItV (mVar 1) [some (.d (.int q)), some (.d (.lst (ns.map .int))), some (.d (.int 0)), none] [] = .ok (ns.map .int) [] := rfl
  have e3 : m__law_index [some (.d (.int q)), some (.d (.lst (ns.map .int))), none, none] [] = .ret (.d (.int (foldI q 0 ns))) [] := by
    rw [eq, seq_nxt e1, seq_for e2, h]
    rfl
  unfold f__law_index runP
  show (match m__law_index [some (.d (.int q)), some (.d (.lst (ns.map .int))), none, none] [] with | .ret (.ref n) s => _ | .ret v s => _ | .nxt _ _ => _ | .exn c x _ _ => _ | _ => _) = _
  rw [e3]
  rfl
end MPL
end

section
set_option Elab.async false
set_option linter.all false
set_option maxRecDepth 100000
set_option maxHeartbeats 4000000
namespace MPL
open PySem MP
/-- an item, walked to -/
def nth : List D → Nat → Option D
  | [], _ => none
  | x :: xs, n => match n with
    | 0 => some x
    | n + 1 => nth xs n
theorem nth_eq : ∀ (xs : List D) (n : Nat), nth xs n = xs[n]?
  | [], _ => by simp [nth]
  | x :: xs, 0 => by simp [nth]
  | x :: xs, n + 1 => by simp [nth, nth_eq xs n]
def at0 (xs : List D) (i : Int) : Option D := match i with
  | .ofNat n => nth xs n
  | _ => none
theorem at0_ok {xs : List D} {i : Int} {y : D} (h : at0 xs i = some y) : MP.atI xs i = some y := by
  unfold at0 at h
  split at h
  · rename_i n
    rw [nth_eq] at h
    have hl : n < xs.length := (List.getElem?_eq_some_iff.mp h).1
    unfold MP.atI MP.ixN
    rw [if_pos (show (0 : Int) ≤ Int.ofNat n from Int.ofNat_nonneg n), if_pos (show Int.ofNat n < (xs.length : Int) by exact Int.ofNat_lt.mpr hl)]
    exact h
  · cases h
def gPick (row : List D) : D → Option D
  | .int k => at0 row k
  | _ => none
def gRow (q : Int) (ks : List D) : D → Option D
  | .tup ds => (match mapO (gPick ds) ks with
    | some zs => (match intsD zs with
      | some ns => some (.int (foldI q 0 ns))
      | none => none)
    | none => none)
  | _ => none
def okQ (q : Int) : Bool := decide (-(2 ^ 64) < q ∧ q < 2 ^ 64)
def onesF (j : Nat) : ME := fun e s => match e with
  | [some (.d (.int q)), e1, e2, e3, e4, some (.d (.lst rows)), e6, e7, e8, e9, e10, e11, e12, e13, e14, e15, e16, e17] =>
    (match (if j = 8 then e8 else e9) with
      | some (.d (.lst ks)) => if okQ q then (match mapO (gRow q ks) rows with
        | some ys => .ok (.d (.lst ys)) s
        | none => onesE j e s) else onesE j e s
      | _ => onesE j e s)
  | _ => onesE j e s
theorem inner_ok {q : Int} (hq : okQ q = true) {ks : List D} {x y : D} (hg : gRow q ks x = some y) {j : Nat} {e : MP.Env} {s : S} (h0 : e[0]? = some (some (.d (.int q)))) (h15 : e[15]? = some (some (.d x))) (hl : e.length = 18) (hj : e[j]? = some (some (.d (.lst ks)))) (hj2 : j ≠ 14) :
    mCall fk__law_index (mCons (mVar 0) (mCons (mLc [14] (.nm 14) (mItV (mVar j)) mYes (mIx (mVar 15) (mVar 14))) mNil)) e s = .ok (.d y) s := by
  cases x with
  | tup ds =>
    unfold gRow at hg
    dsimp only at hg
    cases q1 : mapO (gPick ds) ks with
    | none => rw [q1] at hg; cases hg
    | some zs =>
      rw [q1] at hg
      dsimp only at hg
      cases q2 : intsD zs with
      | none => rw [q2] at hg; cases hg
      | some ns =>
        rw [q2] at hg
        cases hg
        have hz := ints_ok q2
        subst hz
        have hb : ∀ x y, gPick ds x = some y → mIx (mVar 15) (mVar 14) ((wipe e [14]).set 14 (some (.d x))) s = .ok (.d y) s := fun x y h => by
          cases x with
          | int k =>
            have ha := at0_ok (show at0 ds k = some y from h)
            have g15 : ((wipe e [14]).set 14 (some (.d (.int k))))[15]? = some (some (.d (.tup ds))) := by
              rw [List.getElem?_set_ne (by decide)]
              show (e.set 14 none)[15]? = _
              rw [List.getElem?_set_ne (by decide)]
              exact h15
            have g14 : ((wipe e [14]).set 14 (some (.d (.int k))))[14]? = some (some (.d (.int k))) := by
              rw [List.getElem?_set_self (by show 14 < (e.set 14 none).length; rw [List.length_set, hl]; decide)]
            simp only [mIx, mVar, g15, g14, R.bind_ok, ixV, rd_d, ixD, ha, Option.map_some, R.of_some]
          | _ => cases h
        have hlc := lc_map hb ks [] q1
        have hi := index_ok (of_decide_eq_true hq) ns
        have hv : mVar j e s = .ok (.d (.lst ks)) s := by simp only [mVar, hj]
        have h0' : mVar 0 e s = .ok (.d (.int q)) s := by simp only [mVar, h0]
        simp only [List.nil_append] at hlc
        simp only [mCall, mCons, mNil, mLc, mItV, hv, h0', R.bind_ok, items, R.of_some, hlc, List.length_cons, List.length_nil, datas, Option.map_some, if_true, hi, P.to, fk__law_index]
  | _ => cases hg
theorem lc_of {own : List Nat} {tg : Tg} {it : MI} {t : MT} {m : ME} {e : MP.Env} {s : S} {xs ys : List D} (h1 : it e s = .ok xs s) (h2 : lcGo (wipe e own) tg t m xs [] s = .ok ys s) : mLc own tg it t m e s = .ok (.d (.lst ys)) s := by
  unfold mLc
  rw [h1]
  simp only [R.bind_ok]
  rw [h2]
  rfl
theorem ones_eq {j : Nat} (hj : j = 8 ∨ j = 9) : onesE j = onesF j := by
  funext e s
  unfold onesF
  split
  · rename_i q e1 e2 e3 e4 rows e6 e7 e8 e9 e10 e11 e12 e13 e14 e15 e16 e17
    split
    · rename_i ks hk
      split
      · rename_i hq
        split
        · rename_i ys hy
          have hb : ∀ x y, gRow q ks x = some y → mCall fk__law_index (mCons (mVar 0) (mCons (mLc [14] (.nm 14) (mItV (mVar j)) mYes (mIx (mVar 15) (mVar 14))) mNil)) ((wipe [some (.d (.int q)), e1, e2, e3, e4, some (.d (.lst rows)), e6, e7, e8, e9, e10, e11, e12, e13, e14, e15, e16, e17] [15]).set 15 (some (.d x))) s = .ok (.d y) s := fun x y h => by
            refine inner_ok hq h rfl rfl rfl ?_ (by rcases hj with rfl | rfl <;> decide)
            rcases hj with rfl | rfl
            · exact congrArg some hk
            · exact congrArg some hk
          have hlc := lc_map hb rows [] hy
          exact lc_of rfl hlc
        · rfl
      · rfl
    · rfl
  · rfl
def entG (grid : List D) (f g : List D) (a b : D) : Option D := match a, b with
  | .int i, .int j => (match at0 f i, at0 g j with
    | some (.int x), some (.int y) => (match at0 grid x with
      | some (.tup r) => at0 r y
      | _ => none)
    | _, _ => none)
  | _, _ => none
def zipO (h : D → D → Option D) : List D → List D → Option (List D)
  | [], [] => some []
  | a :: as, b :: bs => match h a b with
    | some y => (match zipO h as bs with
      | some ys => some (y :: ys)
      | none => none)
    | none => none
  | _, _ => none
def its2 : D → Option (List D)
  | .tup xs => some xs
  | .lst xs => some xs
  | _ => none
def entF : ME := fun e s => match e with
  | [e0, e1, e2, e3, e4, e5, e6, e7, e8, e9, some (.d (.lst ones)), some (.d (.lst twos)), some (.d (.tup f)), some (.d (.tup g)), e14, e15, some (.d (.lst grid)), e17] =>
    (match zipO (entG grid f g) ones twos with
      | some ys => if rgOk 0 ones.length then .ok (.d (.lst ys)) s else entE e s
      | none => entE e s)
  | _ => entE e s
/-- the turns over 0, 1, .. are those over the pairs -/
theorem zip_map {h : D → D → Option D} {g : D → Option D} {ones twos : List D} (hg : ∀ (k : Nat) a b y, ones[k]? = some a → twos[k]? = some b → h a b = some y → g (.int (k : Int)) = some y) : ∀ (as bs : List D) (k : Nat) {ys : List D}, ones.drop k = as → twos.drop k = bs → zipO h as bs = some ys → mapO g (rangeI (k : Int) as.length) = some ys
  | [], bs, k, ys, ha, hb, q => by
    cases bs with
    | nil => cases q; rfl
    | cons b bs => cases q
  | a :: as, bs, k, ys, ha, hb, q => by
    cases bs with
    | nil => cases q
    | cons b bs =>
      unfold zipO at q
      cases q1 : h a b with
      | none => rw [q1] at q; cases q
      | some y =>
        rw [q1] at q
        dsimp only at q
        cases q2 : zipO h as bs with
        | none => rw [q2] at q; cases q
        | some zs =>
          rw [q2] at q
          cases q
          have e1 : ones[k]? = some a := by
            have := congrArg (fun l => l[0]?) ha
            simpa using this
          have e2 : twos[k]? = some b := by
            have := congrArg (fun l => l[0]?) hb
            simpa using this
          have r := zip_map hg as bs (k + 1) (by rw [← List.drop_drop, ha]; rfl) (by rw [← List.drop_drop, hb]; rfl) q2
          rw [List.length_cons, rangeI, mapO, hg k a b y e1 e2 q1]
          have ek : ((k : Int) + 1) = ((k + 1 : Nat) : Int) := by omega
          rw [ek, r]
theorem atI_nat {xs : List D} {k : Nat} {a : D} (h : xs[k]? = some a) : MP.atI xs (k : Int) = some a := at0_ok (show nth xs k = some a by rw [nth_eq]; exact h)
theorem ent_eq : entE = entF := by
  funext e s
  unfold entF
  split
  · rename_i e0 e1 e2 e3 e4 e5 e6 e7 e8 e9 ones twos f g e14 e15 grid e17
    split
    · rename_i ys hz
      split
      · rename_i hr
        have hb : ∀ x y, (fun d : D => match d with
            | .int i => (match MP.atI ones i, MP.atI twos i with
              | some a, some b => entG grid f g a b
              | _, _ => none)
            | _ => none) x = some y → mIx (mIx (mVar 16) (mIx (mVar 12) (mIx (mVar 10) (mVar 17)))) (mIx (mVar 13) (mIx (mVar 11) (mVar 17))) ((wipe [e0, e1, e2, e3, e4, e5, e6, e7, e8, e9, some (.d (.lst ones)), some (.d (.lst twos)), some (.d (.tup f)), some (.d (.tup g)), e14, e15, some (.d (.lst grid)), e17] [17]).set 17 (some (.d x))) s = .ok (.d y) s := fun x y h => by
          cases x with
          | int i =>
            dsimp only at h
            cases q1 : MP.atI ones i with
            | none => rw [q1] at h; cases h
            | some a =>
              cases q2 : MP.atI twos i with
              | none => rw [q1, q2] at h; cases h
              | some b =>
                rw [q1, q2] at h
                dsimp only at h
                unfold entG at h
                split at h
                · rename_i i1 j1
                  split at h
                  · rename_i x1 y1 p1 p2
                    split at h
                    · rename_i r p3
                      have t1 := at0_ok p1
                      have t2 := at0_ok p2
                      have t3 := at0_ok p3
                      have t4 := at0_ok h
                      simp [wipe, mIx, mVar, R.bind, R.of, ixV, rd, ixD, q1, q2, t1, t2, t3, t4]
                    · cases h
                  · cases h
                · cases h
          | _ => cases h
        have hm := zip_map (g := fun d : D => match d with
            | .int i => (match MP.atI ones i, MP.atI twos i with
              | some a, some b => entG grid f g a b
              | _, _ => none)
            | _ => none) (fun k a b y h1 h2 h3 => by
          dsimp only
          rw [atI_nat h1, atI_nat h2]
          exact h3) ones twos 0 rfl rfl hz
        have hlc := lc_map hb _ [] hm
        refine lc_of ?_ hlc
        exact rg1_ok rfl hr
      · rfl
    · rfl
  · rfl
theorem built_fast : m__law_built = builtT (onesF 8) (onesF 9) entF := by
  rw [built_eq, ones_eq (.inl rfl), ones_eq (.inr rfl), ent_eq]
def f_fast : List D → P := runP 18 (builtT (onesF 8) (onesF 9) entF)
theorem f_built : f__law_built = f_fast := by
  unfold f__law_built f_fast
  rw [built_fast]
end MPL
end

section
set_option Elab.async false
set_option linter.all false
set_option maxRecDepth 100000
set_option maxHeartbeats 4000000
namespace MPL
open PySem MP
/-! a quick form of the innermost loop of _law_next_rows (the same at every place, proved below) -/
def zB : MS := (mSeq (mAsg 11 (mOrV (mBl (mNot (mTru (mVar 2)))) (mAndV (mOrV (mBl (mCmp .gt (mVar 3) (mCon (.int 0)))) (mBl (mCmp .eq (mVar 9) (mVar 5)))) (mOrV (mBl (mCmp .gt (mVar 5) (mCon (.int 0)))) (mBl (mCmp .eq (mVar 9) (mVar 3))))))) (mSeq (mIf (mAnd (mTru (mVar 11)) (mAnd (mCmp .notin (mVar 9) (mVar 8)) (mCmp .notin (mVar 9) (mVar 7)))) (mSeq (mApp 6 (mBin .add (mVar 8) (mTup (mCons (mVar 9) mNil)))) mPass) mPass) mPass))
def zL : MS := mFor (.nm 9) (mRg1 (mVar 0)) zB
def nextT (a : MS) : MS := (mSeq (mAsg 3 (mB1 .len (mVar 1))) (mSeq (mAsg 4 (mLst (mCons (mTup mNil) mNil))) (mSeq (mFor (.nm 5) (mRg1 (mVar 0)) (mSeq (mAsgO 6 (mLst mNil)) (mSeq (mAsg 7 (mLc [10] (.nm 10) (mItV (mVar 1)) mYes (mIx (mVar 10) (mVar 5)))) (mSeq (mFor (.nm 8) (mItV (mVar 4)) (mSeq a mPass)) (mSeq (mFrz 6) (mSeq (mAsg 4 (mB1 .list (mVar 6))) mPass)))))) (mSeq (mRet (mVar 4)) mPass))))
theorem next_cut : m__law_next_rows = nextT zL := rfl
def fitB (u : Bool) (x y z : Int) : Bool := !u || ((decide (0 < x) || z == y) && (decide (0 < y) || z == x))
def condB (u : Bool) (x y : Int) (ls ts : List Int) (z : Int) : Bool := fitB u x y z && (!(ls.any fun k => k == z) && !(ts.any fun k => k == z))
theorem one_line' : (1 ≤ line) = True := eq_true (by decide)
theorem flats (xs : List Int) : (xs.map D.int).all flat = true := by
  induction xs with
  | nil => rfl
  | cons x xs ih => rw [List.map_cons, List.all_cons, ih]; rfl
theorem in_tup (y : Int) (xs : List Int) : inD (.int y) (.tup (xs.map D.int)) = some (xs.any fun x => x == y) := by
  have e : ((xs.map D.int).any fun z => eqF z (.int y)) = xs.any fun x => x == y := by
    rw [List.any_map]
    rfl
  show (if flat (.int y) && (xs.map D.int).all flat then some ((xs.map D.int).any fun z => eqF z (.int y)) else none) = _
  rw [flats, e]
  rfl
theorem in_lst (y : Int) (xs : List Int) : inD (.int y) (.lst (xs.map D.int)) = some (xs.any fun x => x == y) := in_tup y xs
theorem z_fit {q x y z : Int} {u : Bool} {ls ts : List Int} {acc : List D} (e1 e4 x10 x11 : Option Val) (s : S) : (mOrV (mBl (mNot (mTru (mVar 2)))) (mAndV (mOrV (mBl (mCmp .gt (mVar 3) (mCon (.int 0)))) (mBl (mCmp .eq (mVar 9) (mVar 5)))) (mOrV (mBl (mCmp .gt (mVar 5) (mCon (.int 0)))) (mBl (mCmp .eq (mVar 9) (mVar 3)))))) [some (.d (.int q)), e1, some (.d (.bl u)), some (.d (.int x)), e4, some (.d (.int y)), some (.own acc), some (.d (.lst (ts.map .int))), some (.d (.tup (ls.map .int))), some (.d (.int z)), x10, x11] s = .ok (.d (.bl (fitB u x y z))) s := by
  unfold fitB
  cases u <;> by_cases h1 : 0 < x <;> cases h2 : (z == y) <;> by_cases h3 : 0 < y <;> cases h4 : (z == x) <;> simp [mOrV, mAndV, mBl, mNot, mTru, mCmp, mVar, mCon, R.bind, R.of, rd, cmpD, eqD, truV, truD, h1, h2, h3, h4]
theorem z_turn {q x y z : Int} {u : Bool} {ls ts : List Int} {acc : List D} (hl : ls.length ≤ 1000) (ha : acc.length < 100000) (e1 e4 x10 x11 : Option Val) (s : S) : zB [some (.d (.int q)), e1, some (.d (.bl u)), some (.d (.int x)), e4, some (.d (.int y)), some (.own acc), some (.d (.lst (ts.map .int))), some (.d (.tup (ls.map .int))), some (.d (.int z)), x10, x11] s = .nxt [some (.d (.int q)), e1, some (.d (.bl u)), some (.d (.int x)), e4, some (.d (.int y)), some (.own (if condB u x y ls ts z then acc ++ [.tup ((ls ++ [z]).map .int)] else acc)), some (.d (.lst (ts.map .int))), some (.d (.tup (ls.map .int))), some (.d (.int z)), x10, some (.d (.bl (fitB u x y z)))] s := by
  have hf := z_fit (q := q) (x := x) (y := y) (z := z) (u := u) (ls := ls) (ts := ts) (acc := acc) e1 e4 x10 x11 s
  have l1 : (ls.length + 1 ≤ line) = True := eq_true (by have : 1001 ≤ line := by decide
                                                         omega)
  have l2 : (acc.length < line) = True := eq_true (by have : 100000 ≤ line := by decide
                                                      omega)
  have i1 := in_tup z ls
  have i2 := in_lst z ts
  have a1 : mAsg 11 (mOrV (mBl (mNot (mTru (mVar 2)))) (mAndV (mOrV (mBl (mCmp .gt (mVar 3) (mCon (.int 0)))) (mBl (mCmp .eq (mVar 9) (mVar 5)))) (mOrV (mBl (mCmp .gt (mVar 5) (mCon (.int 0)))) (mBl (mCmp .eq (mVar 9) (mVar 3)))))) [some (.d (.int q)), e1, some (.d (.bl u)), some (.d (.int x)), e4, some (.d (.int y)), some (.own acc), some (.d (.lst (ts.map .int))), some (.d (.tup (ls.map .int))), some (.d (.int z)), x10, x11] s = .nxt [some (.d (.int q)), e1, some (.d (.bl u)), some (.d (.int x)), e4, some (.d (.int y)), some (.own acc), some (.d (.lst (ts.map .int))), some (.d (.tup (ls.map .int))), some (.d (.int z)), x10, some (.d (.bl (fitB u x y z)))] s := by
    unfold mAsg
    rw [hf]
    rfl
  unfold zB
  rw [seq_nxt a1]
  unfold condB
  generalize fitB u x y z = f
  generalize (ls.any fun k => k == z) = b1 at i1 ⊢
  generalize (ts.any fun k => k == z) = b2 at i2 ⊢
  cases f <;> cases b1 <;> cases b2 <;> simp [mSeq, mIf, mAnd, mTru, mCmp, mVar, mApp, mBin, mTup, mCons, mNil, mPass, R.go, R.goT, R.bind, R.of, rd, datas, opD, cmpD, truV, truD, i1, i2, l1, l2, one_line']
def zRun (u : Bool) (x y : Int) (ls ts : List Int) : Nat → Int → List D → Option Val → Option Val → List D × Option Val × Option Val
  | 0, _, acc, a, b => (acc, a, b)
  | n + 1, lo, acc, _, _ => zRun u x y ls ts n (lo + 1) (if condB u x y ls ts lo then acc ++ [.tup ((ls ++ [lo]).map .int)] else acc) (some (.d (.int lo))) (some (.d (.bl (fitB u x y lo))))
theorem z_loop {q x y : Int} {u : Bool} {ls ts : List Int} (hl : ls.length ≤ 1000) (e1 e4 x10 : Option Val) (s : S) : ∀ (n : Nat) (lo : Int) (acc : List D) (x9 x11 : Option Val), acc.length + n ≤ 100000 → forGo (.nm 9) zB (rangeI lo n) [some (.d (.int q)), e1, some (.d (.bl u)), some (.d (.int x)), e4, some (.d (.int y)), some (.own acc), some (.d (.lst (ts.map .int))), some (.d (.tup (ls.map .int))), x9, x10, x11] s = .nxt [some (.d (.int q)), e1, some (.d (.bl u)), some (.d (.int x)), e4, some (.d (.int y)), some (.own (zRun u x y ls ts n lo acc x9 x11).1), some (.d (.lst (ts.map .int))), some (.d (.tup (ls.map .int))), (zRun u x y ls ts n lo acc x9 x11).2.1, x10, (zRun u x y ls ts n lo acc x9 x11).2.2] s
  | 0, lo, acc, x9, x11, _ => rfl
  | n + 1, lo, acc, x9, x11, h => by
    have e : forGo (.nm 9) zB (rangeI lo (n + 1)) [some (.d (.int q)), e1, some (.d (.bl u)), some (.d (.int x)), e4, some (.d (.int y)), some (.own acc), some (.d (.lst (ts.map .int))), some (.d (.tup (ls.map .int))), x9, x10, x11] s = (match zB [some (.d (.int q)), e1, some (.d (.bl u)), some (.d (.int x)), e4, some (.d (.int y)), some (.own acc), some (.d (.lst (ts.map .int))), some (.d (.tup (ls.map .int))), some (.d (.int lo)), x10, x11] s with
      | .nxt e s => forGo (.nm 9) zB (rangeI (lo + 1) n) e s
      | .cnt e s => forGo (.nm 9) zB (rangeI (lo + 1) n) e s
      | .brk e s => .nxt e s
      | r => r) := rfl
    rw [e, z_turn hl (by omega)]
    refine (z_loop hl e1 e4 x10 s n (lo + 1) _ _ _ ?_).trans ?_
    · split
      · rw [List.length_append, List.length_singleton]; omega
      · omega
    · rfl
def zF : MS := fun e s => match e with
  | [some (.d (.int q)), e1, some (.d (.bl u)), some (.d (.int x)), e4, some (.d (.int y)), some (.own acc), some (.d (.lst t)), some (.d (.tup l)), e9, e10, e11] =>
    (match intsD t, intsD l with
      | some ts, some ls => if rgOk 0 q ∧ acc.length + q.toNat ≤ 100000 ∧ ls.length ≤ 1000 then (match zRun u x y ls ts q.toNat 0 acc e9 e11 with
        | (a, b, c) => .nxt [some (.d (.int q)), e1, some (.d (.bl u)), some (.d (.int x)), e4, some (.d (.int y)), some (.own a), some (.d (.lst t)), some (.d (.tup l)), b, e10, c] s) else zL e s
      | _, _ => zL e s)
  | _ => zL e s
theorem z_eq : zL = zF := by
  funext e s
  unfold zF
  split
  · rename_i q e1 u x e4 y acc t l e9 e10 e11
    split
    · rename_i ts ls ht hl
      split
      · rename_i hc
        obtain ⟨hr, h1, h2⟩ := hc
        rw [ints_ok ht, ints_ok hl]
        unfold zL
        rw [for_eq (rg1_ok rfl hr), z_loop h2 e1 e4 e10 s q.toNat 0 acc e9 e11 h1]
      · rfl
    · rfl
  · rfl
def f_next : List D → P := runP 12 (nextT zF)
theorem f_next_eq : f__law_next_rows = f_next := by
  unfold f__law_next_rows f_next
  rw [next_cut, z_eq]
end MPL
end

section
set_option Elab.async false
set_option linter.all false
set_option maxRecDepth 100000
set_option maxHeartbeats 0
namespace MPL
open PySem MP
def isTrue1 (p : P) : Bool := match p with
  | .ok (.bl b) => b
  | _ => false
theorem isTrue1_ok {p : P} (h : isTrue1 p = true) : p = .ok (.bl true) := by
  unfold isTrue1 at h
  split at h
  · rw [h]
  · cases h
/-- the law's number for q letters and n slips -/
def wOf (q n : Nat) : Option Int := match f__law_weights [.int q, .int n] with
  | .ok (.lst ws) => (match MP.atI ws (n : Int) with
    | some (.int w) => some w
    | _ => none)
  | _ => none
def W (q n : Nat) : Int := (wOf q n).getD 0
def eight (f : Nat → Bool) : Bool := (List.range 8).all fun k => f (k + 1)
theorem eight_ok {f : Nat → Bool} (h : eight f = true) {k : Nat} (h1 : 1 ≤ k) (h2 : k ≤ 8) : f k = true := by
  have q := List.all_eq_true.mp h (k - 1) (List.mem_range.mpr (by omega))
  rwa [show k - 1 + 1 = k by omega] at q
def rowF (q : Nat) : Bool := eight fun n => (wOf q n).isSome && isTrue1 (f__law_right [.int q, .int n, .int (W q n)])
theorem row_1 : rowF 1 = true := by decide +kernel
theorem row_2 : rowF 2 = true := by decide +kernel
theorem row_3 : rowF 3 = true := by decide +kernel
theorem row_4 : rowF 4 = true := by decide +kernel
theorem row_5 : rowF 5 = true := by decide +kernel
theorem row_6 : rowF 6 = true := by decide +kernel
theorem row_7 : rowF 7 = true := by decide +kernel
theorem row_8 : rowF 8 = true := by decide +kernel
theorem row_all {q : Nat} (h1 : 1 ≤ q) (h2 : q ≤ 8) : rowF q = true := by
  have h : q = 1 ∨ q = 2 ∨ q = 3 ∨ q = 4 ∨ q = 5 ∨ q = 6 ∨ q = 7 ∨ q = 8 := by omega
  rcases h with rfl | rfl | rfl | rfl | rfl | rfl | rfl | rfl
  · exact row_1
  · exact row_2
  · exact row_3
  · exact row_4
  · exact row_5
  · exact row_6
  · exact row_7
  · exact row_8
theorem one_all : (eight fun n => isTrue1 (f__law_right [.int 1, .int n, .int 1]) && isTrue1 (f__law_right [.int n, .int 1, .int 1])) = true := by decide +kernel
theorem right_ok {q n : Nat} (h1 : 1 ≤ q) (h2 : q ≤ 8) (h3 : 1 ≤ n) (h4 : n ≤ 8) : f__law_right [.int q, .int n, .int (W q n)] = .ok (.bl true) ∧ ∃ ws, f__law_weights [.int q, .int n] = .ok (.lst ws) ∧ MP.atI ws (n : Int) = some (.int (W q n)) := by
  have z := eight_ok (f := fun n => (wOf q n).isSome && isTrue1 (f__law_right [.int q, .int n, .int (W q n)])) (row_all h1 h2) h3 h4
  rw [Bool.and_eq_true] at z
  refine ⟨isTrue1_ok z.2, ?_⟩
  have z1 := z.1
  unfold W
  unfold wOf at z1 ⊢
  split at z1
  · rename_i ws e
    split at z1
    · rename_i w e2
      exact ⟨ws, e, by simp only [e, e2]; rfl⟩
    · cases z1
  · cases z1
end MPL
end

section
set_option Elab.async false
set_option linter.all false
set_option maxRecDepth 100000
set_option maxHeartbeats 4000000
namespace MPL
open PySem MP
def L1 : MS := (mAsg 1 (mCall fk__law_store (mCons (mVar 0) mNil)))
def L2 : MS := (mAsg 2 (mBin .add (mCon (.int 1)) (mCall fk__law_take (mCons (mVar 1) (mCons (mCon (.int 8)) mNil)))))
def L3 : MS := (mAsg 3 (mBin .add (mCon (.int 1)) (mCall fk__law_take (mCons (mVar 1) (mCons (mCon (.int 8)) mNil)))))
def L4 : MS := (mAsg 4 (mIx (mCall fk__law_weights (mCons (mVar 2) (mCons (mVar 3) mNil))) (mVar 3)))
def L5 : MS := (mAsg 5 (mBin .add (mCon (.int 1)) (mCall fk__law_take (mCons (mVar 1) (mCons (mCon (.int 8)) mNil)))))
def L6 : MS := (mAsg 6 (mBin .add (mCon (.int 1)) (mCall fk__law_take (mCons (mVar 1) (mCons (mCon (.int 8)) mNil)))))
def L7 : MS := (mIf (mOr (mNot (mTru (mCall fk__law_right (mCons (mVar 2) (mCons (mVar 3) (mCons (mVar 4) mNil)))))) (mNot (mTru (mCall fk__law_right (mCons (mVar 5) (mCons (mVar 6) (mCons (mIx (mCall fk__law_weights (mCons (mVar 5) (mCons (mVar 6) mNil))) (mVar 6)) mNil))))))) (mSeq (mRet (mCon (.bl false))) mPass) mPass)
def L8 : MS := (mIf (mNot (mTru (mCall fk__law_right (mCons (mVar 2) (mCons (mVar 3) (mCons (mVar 4) mNil)))))) (mSeq (mRet (mCon (.bl false))) mPass) mPass)
def L9 : MS := (mAsg 7 (mIx (mTup (mCons (mCon (.int 1)) (mCons (mCon (.int 1)) (mCons (mCon (.int 1)) (mCons (mCon (.int 4)) (mCons (mCon (.int 56)) (mCons (mCon (.int 9408)) (mCons (mCon (.int 16942080)) (mCons (mCon (.int 535281401856)) mNil))))))))) (mBin .sub (mVar 2) (mCon (.int 1)))))
def L10 : MS := (mAsg 8 (mIx (mTup (mCons (mCon (.int 1)) (mCons (mCon (.int 1)) (mCons (mCon (.int 1)) (mCons (mCon (.int 4)) (mCons (mCon (.int 6)) (mCons (mCon (.int 60)) (mCons (mCon (.int 120)) (mCons (mCon (.int 1920)) mNil))))))))) (mBin .sub (mVar 2) (mCon (.int 1)))))
def L11 : MS := (mAsg 9 (mBin .add (mVar 8) (mIx (mTup (mCons (mCon (.int 0)) (mCons (mCon (.int 0)) (mCons (mCon (.int 0)) (mCons (mCon (.int 0)) (mCons (mCon (.int 0)) (mCons (mCon (.int 20)) (mCons (mCon (.int 0)) (mCons (mCon (.int 840)) mNil))))))))) (mBin .sub (mVar 2) (mCon (.int 1))))))
def L12 : MS := (mIf (mNot (mTru (mCall fk__law_equals (mCons (mCall fk_record_number (mCons (mVar 2) (mCons (mCon (.int 3)) mNil))) (mCons (mBin .add (mBin .sub (mBin .mul (mBin .mul (mCon (.int 3)) (mVar 7)) (mVar 7)) (mBin .mul (mCon (.int 3)) (mVar 9))) (mVar 8)) mNil))))) (mSeq (mRet (mCon (.bl false))) mPass) mPass)
def L13 : MS := (mIf (mCmp .eq (mCall fk__law_take (mCons (mVar 1) (mCons (mCon (.int 2)) mNil))) (mCon (.int 0))) (mSeq (mAsg 12 (mTup (mCons (mTup (mCons (mCon (.int 4)) (mCons (mCon (.int 3)) mNil))) (mCons (mTup (mCons (mCon (.int 3)) (mCons (mCon (.int 5)) mNil))) (mCons (mTup (mCons (mCon (.int 2)) (mCons (mCon (.int 5)) mNil))) (mCons (mTup (mCons (mCon (.int 1)) (mCons (mCon (.int 8)) mNil))) (mCons (mTup (mCons (mCon (.int 4)) (mCons (mCon (.int 2)) mNil))) (mCons (mTup (mCons (mCon (.int 3)) (mCons (mCon (.int 4)) mNil))) (mCons (mTup (mCons (mCon (.int 2)) (mCons (mCon (.int 4)) mNil))) (mCons (mTup (mCons (mCon (.int 5)) (mCons (mCon (.int 2)) mNil))) (mCons (mTup (mCons (mCon (.int 4)) (mCons (mCon (.int 3)) mNil))) (mCons (mTup (mCons (mCon (.int 1)) (mCons (mCon (.int 1)) mNil))) (mCons (mTup (mCons (mCon (.int 4)) (mCons (mCon (.int 1)) mNil))) mNil))))))))))))) (mSeq (mAsg 13 (mCall fk__law_pick (mCons (mVar 1) (mCons (mVar 12) mNil)))) (mSeq (mAsg 14 (mCall fk__law_built (mCons (mIx (mVar 13) (mCon (.int 0))) (mCons (mIx (mVar 13) (mCon (.int 1))) (mCons (mCall fk__law_squares (mCons (mIx (mVar 13) (mCon (.int 0))) (mCons (mCon (.bl true)) mNil))) mNil))))) (mSeq (mIf (mNot (mTru (mCall fk__law_equals (mCons (mCall fk_record_number (mCons (mIx (mVar 13) (mCon (.int 0))) (mCons (mIx (mVar 13) (mCon (.int 1))) mNil))) (mCons (mB1 .len (mVar 14)) mNil))))) (mSeq (mRet (mCon (.bl false))) mPass) mPass) mPass)))) (mSeq (mAsg 13 (mCall fk__law_pick (mCons (mVar 1) (mCons (mTup (mCons (mTup (mCons (mCon (.int 3)) (mCons (mCon (.int 3)) mNil))) (mCons (mTup (mCons (mCon (.int 2)) (mCons (mCon (.int 6)) mNil))) (mCons (mTup (mCons (mCon (.int 3)) (mCons (mCon (.int 2)) mNil))) (mCons (mTup (mCons (mCon (.int 2)) (mCons (mCon (.int 3)) mNil))) (mCons (mTup (mCons (mCon (.int 1)) (mCons (mCon (.int 5)) mNil))) (mCons (mTup (mCons (mCon (.int 3)) (mCons (mCon (.int 1)) mNil))) (mCons (mTup (mCons (mCon (.int 2)) (mCons (mCon (.int 4)) mNil))) (mCons (mTup (mCons (mCon (.int 2)) (mCons (mCon (.int 2)) mNil))) (mCons (mTup (mCons (mCon (.int 1)) (mCons (mCon (.int 2)) mNil))) mNil)))))))))) mNil)))) (mSeq (mAsg 14 (mCall fk__law_built (mCons (mIx (mVar 13) (mCon (.int 0))) (mCons (mIx (mVar 13) (mCon (.int 1))) (mCons (mCall fk__law_squares (mCons (mIx (mVar 13) (mCon (.int 0))) (mCons (mCon (.bl false)) mNil))) mNil))))) (mSeq (mIf (mNot (mTru (mCall fk__law_equals (mCons (mCall fk_function_number (mCons (mIx (mVar 13) (mCon (.int 0))) (mCons (mIx (mVar 13) (mCon (.int 1))) mNil))) (mCons (mB1 .len (mVar 14)) mNil))))) (mSeq (mRet (mCon (.bl false))) mPass) mPass) mPass))))
def L14 : MS := (mIf (mOr (mNot (mTru (mCall fk__law_right (mCons (mCon (.int 1)) (mCons (mVar 3) (mCons (mCon (.int 1)) mNil)))))) (mNot (mTru (mCall fk__law_right (mCons (mVar 2) (mCons (mCon (.int 1)) (mCons (mCon (.int 1)) mNil))))))) (mSeq (mRet (mCon (.bl false))) mPass) mPass)
def L15 : MS := (mAsg 10 (mCall fk__law_pick (mCons (mVar 1) (mCons (mTup (mCons (mCon (.int 0)) (mCons (mCon (.int 9)) (mCons (mNeg (mCon (.int 1))) (mCons (mCon (.bl true)) (mCons (mCon (.bl false)) (mCons (mCon (.str (Str.ofString "2"))) (mCons (mTup (mCons (mCon (.int 2)) mNil)) (mCons (mCon .non) (mCons (mBin .pow (mCon (.int 10)) (mCon (.int 59))) (mCons (mLst (mCons (mCon (.int 1)) mNil)) (mCons (mCon (.int 16)) mNil)))))))))))) mNil))))
def L16 : MS := (mFor (.nm 11) (mItV (mTup (mCons (mCon (.int 0)) (mCons (mCon (.int 1)) mNil)))) (mSeq (mFor (.nm 15) (mItV (mTup (mCons (mCon (.int 0)) (mCons (mCon (.int 1)) mNil)))) (mSeq (mAsg 16 (mIx (mTup (mCons (mCon (.str (Str.ofString "BadLetters"))) (mCons (mCon (.str (Str.ofString "BadNumber"))) mNil))) (mVar 15))) (mSeq (mAsg 17 (mIx (mTup (mCons (mTup (mCons (mTup (mCons (mVar 10) (mCons (mVar 3) mNil))) (mCons (mTup (mCons (mCon (.bl true)) (mCons (mVar 3) mNil))) mNil))) (mCons (mTup (mCons (mTup (mCons (mVar 2) (mCons (mVar 10) mNil))) (mCons (mTup (mCons (mVar 2) (mCons (mCon (.bl true)) mNil))) mNil))) mNil))) (mVar 15))) (mSeq (mFor (.nm 13) (mItV (mBin .add (mVar 17) (mSl (mTup (mCons (mTup (mCons (mVar 10) (mCons (mVar 10) mNil))) mNil)) (some (mVar 15)) none))) (mSeq (mIf (mNot (mTru (mCall fk__law_equals (mCons (mCall fk__law_refused (mCons (mVar 11) (mCons (mVar 13) mNil))) (mCons (mTup (mCons (mVar 16) (mCons (mCon (.int 0)) mNil))) mNil))))) (mSeq (mRet (mCon (.bl false))) mPass) mPass) mPass)) mPass)))) mPass))
def L17 : MS := (mRet (mCall fk__law_right (mCons (mVar 2) (mCons (mVar 3) (mCons (mVar 4) mNil)))))
theorem L_cut : m_law = (mSeq L1 (mSeq L2 (mSeq L3 (mSeq L4 (mSeq L5 (mSeq L6 (mSeq L7 (mSeq L8 (mSeq L9 (mSeq L10 (mSeq L11 (mSeq L12 (mSeq L13 (mSeq L14 (mSeq L15 (mSeq L16 (mSeq L17 mPass))))))))))))))))) := rfl
theorem six_take {n : Nat} (hn : 2 ≤ n) (hb : n ≤ 255) {cells : List D} (hc : Cells cells) {s : S} (hs : Sto cells s) : ∃ (t : Nat) (s' : S), f__law_take [.ref 0, .d (.int (n : Int))] s = .ok (.d (.int t)) s' ∧ t < n ∧ Sto cells s' := by
  obtain ⟨t, s', h1, h2, h3, _, h5⟩ := take_ok (bnd_len (n := n) (by omega)) hc hs
  have := h3 (by omega)
  obtain ⟨r, rfl⟩ : ∃ r : Nat, t = r := ⟨t.toNat, by omega⟩
  exact ⟨r, s', h1, by omega, h5⟩
theorem three_ok {q : Nat} (h1 : 1 ≤ q) (h2 : q ≤ 8) (ns : List Int) (x3 x4 x5 x6 : Option Val) (s : S) : ∃ y7 y8 y9, ∀ R : MS, mSeq L9 (mSeq L10 (mSeq L11 (mSeq L12 R))) [some (.scr ns), some (.ref 0), some (.d (.int (q : Int))), x3, x4, x5, x6, none, none, none, none, none, none, none, none, none, none, none] s = R [some (.scr ns), some (.ref 0), some (.d (.int (q : Int))), x3, x4, x5, x6, y7, y8, y9, none, none, none, none, none, none, none, none] s := by
  have h : q = 1 ∨ q = 2 ∨ q = 3 ∨ q = 4 ∨ q = 5 ∨ q = 6 ∨ q = 7 ∨ q = 8 := by omega
  rcases h with rfl | rfl | rfl | rfl | rfl | rfl | rfl | rfl
  · exact ⟨some (.d (.int 1)), some (.d (.int 1)), some (.d (.int 1)), fun R => by kernel_rfl⟩
  · exact ⟨some (.d (.int 1)), some (.d (.int 1)), some (.d (.int 1)), fun R => by kernel_rfl⟩
  · exact ⟨some (.d (.int 1)), some (.d (.int 1)), some (.d (.int 1)), fun R => by kernel_rfl⟩
  · exact ⟨some (.d (.int 4)), some (.d (.int 4)), some (.d (.int 4)), fun R => by kernel_rfl⟩
  · exact ⟨some (.d (.int 56)), some (.d (.int 6)), some (.d (.int 6)), fun R => by kernel_rfl⟩
  · exact ⟨some (.d (.int 9408)), some (.d (.int 60)), some (.d (.int 80)), fun R => by kernel_rfl⟩
  · exact ⟨some (.d (.int 16942080)), some (.d (.int 120)), some (.d (.int 120)), fun R => by kernel_rfl⟩
  · exact ⟨some (.d (.int 535281401856)), some (.d (.int 1920)), some (.d (.int 2760)), fun R => by kernel_rfl⟩
theorem first_ok (ns : List Int) (KK : MS) : ∃ (cells : List D) (s : S) (q n o m : Nat), Cells cells ∧ Sto cells s ∧ (1 ≤ q ∧ q ≤ 8) ∧ (1 ≤ n ∧ n ≤ 8) ∧ (1 ≤ o ∧ o ≤ 8) ∧ (1 ≤ m ∧ m ≤ 8) ∧ mSeq L1 (mSeq L2 (mSeq L3 (mSeq L4 (mSeq L5 (mSeq L6 (mSeq L7 (mSeq L8 KK))))))) (initE 18 [.scr ns]) [] = KK [some (.scr ns), some (.ref 0), some (.d (.int (q : Int))), some (.d (.int (n : Int))), some (.d (.int (W q n))), some (.d (.int (o : Int))), some (.d (.int (m : Int))), none, none, none, none, none, none, none, none, none, none, none] s := by
  obtain ⟨cells, s0, h1, hc, hs⟩ := store_ok ns
  obtain ⟨t1, s1, a1, a2, a3⟩ := six_take (n := 8) (by omega) (by omega) hc hs
  obtain ⟨t2, s2, c1, c2, c3⟩ := six_take (n := 8) (by omega) (by omega) hc a3
  obtain ⟨t3, s3, d1, d2, d3⟩ := six_take (n := 8) (by omega) (by omega) hc c3
  obtain ⟨t4, s4, g1, g2, g3⟩ := six_take (n := 8) (by omega) (by omega) hc d3
  refine ⟨cells, s4, t1 + 1, t2 + 1, t3 + 1, t4 + 1, hc, g3, ⟨by omega, by omega⟩, ⟨by omega, by omega⟩, ⟨by omega, by omega⟩, ⟨by omega, by omega⟩, ?_⟩
  obtain ⟨r1, ws1, w1, v1⟩ := right_ok (q := t1 + 1) (n := t2 + 1) (by omega) (by omega) (by omega) (by omega)
  obtain ⟨r2, ws2, w2, v2⟩ := right_ok (q := t3 + 1) (n := t4 + 1) (by omega) (by omega) (by omega) (by omega)
  have z1 : (1 : Int) + (t1 : Int) = ((t1 + 1 : Nat) : Int) := by omega
  have z2 : (1 : Int) + (t2 : Int) = ((t2 + 1 : Nat) : Int) := by omega
  have z3 : (1 : Int) + (t3 : Int) = ((t3 + 1 : Nat) : Int) := by omega
  have z4 : (1 : Int) + (t4 : Int) = ((t4 + 1 : Nat) : Int) := by omega
  generalize W (t1 + 1) (t2 + 1) = W1 at *
  generalize W (t3 + 1) (t4 + 1) = W2 at *
  generalize ((t1 + 1 : Nat) : Int) = n1 at *
  generalize ((t2 + 1 : Nat) : Int) = n2 at *
  generalize ((t3 + 1 : Nat) : Int) = n3 at *
  generalize ((t4 + 1 : Nat) : Int) = n4 at *
  have a1' : f__law_take [.ref 0, .d (.int 8)] s0 = .ok (.d (.int t1)) s1 := a1
  have c1' : f__law_take [.ref 0, .d (.int 8)] s1 = .ok (.d (.int t2)) s2 := c1
  have d1' : f__law_take [.ref 0, .d (.int 8)] s2 = .ok (.d (.int t3)) s3 := d1
  have g1' : f__law_take [.ref 0, .d (.int 8)] s3 = .ok (.d (.int t4)) s4 := g1
  unfold L1 L2 L3 L4 L5 L6 L7 L8
  simp [initE, mSeq, mIf, mAsg, mRet, mPass, mTru, mNot, mOr, mAnd, mB1, mBin, mCmp, mIx, mVar, mCon, mLst, mCons, mNil, mCall, R.go, R.goT, R.bind, R.of, rd, rds, datas, frefs, opD, oadd, ixV, ixD, b1V, b1, truV, truD, P.to, h1, a1', c1', d1', g1', r1, r2, w1, w2, v1, v2, z1, z2, z3, z4]
end MPL
end

section
set_option Elab.async false
set_option linter.all false
set_option maxRecDepth 100000
set_option maxHeartbeats 0
namespace MPL
open PySem MP
/-- record_number and what is built from small tables -/
def isNumD (p : P) (i : Int) : Bool := match p with
  | .ok (.int j) => i == j
  | _ => false
theorem isNumD_ok {p : P} {i : Int} (h : isNumD p i = true) : p = .ok (.int i) := by
  unfold isNumD at h
  split at h
  · rw [eq_of_beq h]
  · cases h
/-- what is built is as many as the number says -/
def pairC (a : P) (b : D → P) (c : P) : Bool := match a with
  | .ok sq => (match b sq with
    | .ok (.lst bs) => isNumD c bs.length
    | _ => false)
  | _ => false
theorem pairC_ok {a : P} {b : D → P} {c : P} (h : pairC a b c = true) : ∃ sq bs, a = .ok sq ∧ b sq = .ok (.lst bs) ∧ c = .ok (.int bs.length) := by
  unfold pairC at h
  split at h
  · rename_i sq
    split at h
    · rename_i bs e2
      exact ⟨sq, bs, rfl, e2, isNumD_ok h⟩
    · cases h
  · cases h
def squaresT (g : List D → P) : MS := (mSeq (mAsg 2 (mLst (mCons (mLst mNil) mNil))) (mSeq (mFor (.nm 3) (mRg1 (mVar 0)) (mSeq (mAsgO 4 (mLst mNil)) (mSeq (mFor (.nm 5) (mItV (mVar 2)) (mSeq (mFor (.nm 6) (mItV (mCall (.pure 3 g) (mCons (mVar 0) (mCons (mVar 5) (mCons (mVar 1) mNil))))) (mSeq (mApp 4 (mBin .add (mVar 5) (mLst (mCons (mVar 6) mNil)))) mPass)) mPass)) (mSeq (mFrz 4) (mSeq (mAsg 2 (mB1 .list (mVar 4))) mPass))))) (mSeq (mRet (mVar 2)) mPass)))
def f_sq : List D → P := runP 7 (squaresT f_next)
theorem f_sq_eq : f__law_squares = f_sq := by
  have e : f__law_squares = runP 7 (squaresT f__law_next_rows) := rfl
  rw [e, f_next_eq]
  rfl
def pairA (q n : Nat) : Bool := pairC (f_sq [.int q, .bl true]) (fun sq => f_fast [.int q, .int n, sq]) (f_record_number [.int q, .int n])
def pairB (q n : Nat) : Bool := pairC (f_sq [.int q, .bl false]) (fun sq => f_fast [.int q, .int n, sq]) (f_function_number [.int q, .int n])
theorem pa_43 : pairA 4 3 = true := by decide +kernel
theorem pa_35 : pairA 3 5 = true := by decide +kernel
theorem pa_25 : pairA 2 5 = true := by decide +kernel
theorem pa_18 : pairA 1 8 = true := by decide +kernel
theorem pa_42 : pairA 4 2 = true := by decide +kernel
theorem pa_34 : pairA 3 4 = true := by decide +kernel
theorem pa_24 : pairA 2 4 = true := by decide +kernel
theorem pa_52 : pairA 5 2 = true := by decide +kernel
theorem pa_11 : pairA 1 1 = true := by decide +kernel
theorem pa_41 : pairA 4 1 = true := by decide +kernel
theorem pb_33 : pairB 3 3 = true := by decide +kernel
theorem pb_26 : pairB 2 6 = true := by decide +kernel
theorem pb_32 : pairB 3 2 = true := by decide +kernel
theorem pb_23 : pairB 2 3 = true := by decide +kernel
theorem pb_15 : pairB 1 5 = true := by decide +kernel
theorem pb_31 : pairB 3 1 = true := by decide +kernel
theorem pb_24 : pairB 2 4 = true := by decide +kernel
theorem pb_22 : pairB 2 2 = true := by decide +kernel
theorem pb_12 : pairB 1 2 = true := by decide +kernel
end MPL
end

section
set_option Elab.async false
set_option linter.all false
set_option maxRecDepth 100000
set_option maxHeartbeats 4000000
namespace MPL
open PySem MP
theorem equals_int (i : Int) : f__law_equals 8 [.int i, .int i] = .ok (.bl true) := by
  show runP 4 (m__law_equals (f__law_equals 7)) [.int i, .int i] = _
  unfold runP m__law_equals
  simp [initE, mSeq, mIf, mRet, mPass, mTru, mNot, mAnd, mOr, mBl, mNotN, mIsN, mIsI, mIsIs, isV, isVs, isTy, Ty.data, mAndV, mFor, forGo, mItV, items, mTup, mCmp, mVar, mCon, mCons, mNil, R.go, R.goT, R.bind, R.of, rd, datas, cmpD, eqD, truV, truD, tgSet, two_line]
theorem factA {q n : Nat} (h : pairA q n = true) : ∃ sq bs, f__law_squares [.int q, .bl true] = .ok sq ∧ f__law_built [.int q, .int n, sq] = .ok (.lst bs) ∧ f_record_number [.int q, .int n] = .ok (.int bs.length) := by
  rw [f_built, f_sq_eq]
  exact pairC_ok h
theorem factB {q n : Nat} (h : pairB q n = true) : ∃ sq bs, f__law_squares [.int q, .bl false] = .ok sq ∧ f__law_built [.int q, .int n, sq] = .ok (.lst bs) ∧ f_function_number [.int q, .int n] = .ok (.int bs.length) := by
  rw [f_built, f_sq_eq]
  exact pairC_ok h
def pr (q n : Nat) : D := .tup [.int q, .int n]
def prsA : List D := [pr 4 3, pr 3 5, pr 2 5, pr 1 8, pr 4 2, pr 3 4, pr 2 4, pr 5 2, pr 4 3, pr 1 1, pr 4 1]
def prsB : List D := [pr 3 3, pr 2 6, pr 3 2, pr 2 3, pr 1 5, pr 3 1, pr 2 4, pr 2 2, pr 1 2]
theorem memA {x : D} (h : x ∈ prsA) : ∃ q n : Nat, x = pr q n ∧ pairA q n = true := by
  simp only [prsA, List.mem_cons, List.not_mem_nil, or_false] at h
  rcases h with rfl | rfl | rfl | rfl | rfl | rfl | rfl | rfl | rfl | rfl | rfl
  · exact ⟨4, 3, rfl, pa_43⟩
  · exact ⟨3, 5, rfl, pa_35⟩
  · exact ⟨2, 5, rfl, pa_25⟩
  · exact ⟨1, 8, rfl, pa_18⟩
  · exact ⟨4, 2, rfl, pa_42⟩
  · exact ⟨3, 4, rfl, pa_34⟩
  · exact ⟨2, 4, rfl, pa_24⟩
  · exact ⟨5, 2, rfl, pa_52⟩
  · exact ⟨4, 3, rfl, pa_43⟩
  · exact ⟨1, 1, rfl, pa_11⟩
  · exact ⟨4, 1, rfl, pa_41⟩
theorem memB {x : D} (h : x ∈ prsB) : ∃ q n : Nat, x = pr q n ∧ pairB q n = true := by
  simp only [prsB, List.mem_cons, List.not_mem_nil, or_false] at h
  rcases h with rfl | rfl | rfl | rfl | rfl | rfl | rfl | rfl | rfl
  · exact ⟨3, 3, rfl, pb_33⟩
  · exact ⟨2, 6, rfl, pb_26⟩
  · exact ⟨3, 2, rfl, pb_32⟩
  · exact ⟨2, 3, rfl, pb_23⟩
  · exact ⟨1, 5, rfl, pb_15⟩
  · exact ⟨3, 1, rfl, pb_31⟩
  · exact ⟨2, 4, rfl, pb_24⟩
  · exact ⟨2, 2, rfl, pb_22⟩
  · exact ⟨1, 2, rfl, pb_12⟩
def PA1 : MS := (mAsg 12 (mTup (mCons (mTup (mCons (mCon (.int 4)) (mCons (mCon (.int 3)) mNil))) (mCons (mTup (mCons (mCon (.int 3)) (mCons (mCon (.int 5)) mNil))) (mCons (mTup (mCons (mCon (.int 2)) (mCons (mCon (.int 5)) mNil))) (mCons (mTup (mCons (mCon (.int 1)) (mCons (mCon (.int 8)) mNil))) (mCons (mTup (mCons (mCon (.int 4)) (mCons (mCon (.int 2)) mNil))) (mCons (mTup (mCons (mCon (.int 3)) (mCons (mCon (.int 4)) mNil))) (mCons (mTup (mCons (mCon (.int 2)) (mCons (mCon (.int 4)) mNil))) (mCons (mTup (mCons (mCon (.int 5)) (mCons (mCon (.int 2)) mNil))) (mCons (mTup (mCons (mCon (.int 4)) (mCons (mCon (.int 3)) mNil))) (mCons (mTup (mCons (mCon (.int 1)) (mCons (mCon (.int 1)) mNil))) (mCons (mTup (mCons (mCon (.int 4)) (mCons (mCon (.int 1)) mNil))) mNil)))))))))))))
def PA2 : MS := (mAsg 13 (mCall fk__law_pick (mCons (mVar 1) (mCons (mVar 12) mNil))))
def PA3T (g1 g2 : List D → P) : MS := (mAsg 14 (mCall (.pure 3 g2) (mCons (mIx (mVar 13) (mCon (.int 0))) (mCons (mIx (mVar 13) (mCon (.int 1))) (mCons (mCall (.pure 2 g1) (mCons (mIx (mVar 13) (mCon (.int 0))) (mCons (mCon (.bl true)) mNil))) mNil)))))
def PA3 : MS := PA3T f__law_squares f__law_built
def PA4T (g3 g4 : List D → P) : MS := (mIf (mNot (mTru (mCall (.pure 2 g4) (mCons (mCall (.pure 2 g3) (mCons (mIx (mVar 13) (mCon (.int 0))) (mCons (mIx (mVar 13) (mCon (.int 1))) mNil))) (mCons (mB1 .len (mVar 14)) mNil))))) (mSeq (mRet (mCon (.bl false))) mPass) mPass)
def PA4 : MS := PA4T f_record_number (f__law_equals 8)
def PBT : ME := (mTup (mCons (mTup (mCons (mCon (.int 3)) (mCons (mCon (.int 3)) mNil))) (mCons (mTup (mCons (mCon (.int 2)) (mCons (mCon (.int 6)) mNil))) (mCons (mTup (mCons (mCon (.int 3)) (mCons (mCon (.int 2)) mNil))) (mCons (mTup (mCons (mCon (.int 2)) (mCons (mCon (.int 3)) mNil))) (mCons (mTup (mCons (mCon (.int 1)) (mCons (mCon (.int 5)) mNil))) (mCons (mTup (mCons (mCon (.int 3)) (mCons (mCon (.int 1)) mNil))) (mCons (mTup (mCons (mCon (.int 2)) (mCons (mCon (.int 4)) mNil))) (mCons (mTup (mCons (mCon (.int 2)) (mCons (mCon (.int 2)) mNil))) (mCons (mTup (mCons (mCon (.int 1)) (mCons (mCon (.int 2)) mNil))) mNil))))))))))
def PB2 : MS := (mAsg 13 (mCall fk__law_pick (mCons (mVar 1) (mCons PBT mNil))))
theorem pbt (e : MP.Env) (s : S) : PBT e s = .ok (.d (.tup prsB)) s := by kernel_rfl
def PB3T (g1 g2 : List D → P) : MS := (mAsg 14 (mCall (.pure 3 g2) (mCons (mIx (mVar 13) (mCon (.int 0))) (mCons (mIx (mVar 13) (mCon (.int 1))) (mCons (mCall (.pure 2 g1) (mCons (mIx (mVar 13) (mCon (.int 0))) (mCons (mCon (.bl false)) mNil))) mNil)))))
def PB3 : MS := PB3T f__law_squares f__law_built
def PB4T (g3 g4 : List D → P) : MS := (mIf (mNot (mTru (mCall (.pure 2 g4) (mCons (mCall (.pure 2 g3) (mCons (mIx (mVar 13) (mCon (.int 0))) (mCons (mIx (mVar 13) (mCon (.int 1))) mNil))) (mCons (mB1 .len (mVar 14)) mNil))))) (mSeq (mRet (mCon (.bl false))) mPass) mPass)
def PB4 : MS := PB4T f_function_number (f__law_equals 8)
theorem L13_cut : L13 = (mIf (mCmp .eq (mCall fk__law_take (mCons (mVar 1) (mCons (mCon (.int 2)) mNil))) (mCon (.int 0))) (mSeq PA1 (mSeq PA2 (mSeq PA3 (mSeq PA4 mPass)))) (mSeq PB2 (mSeq PB3 (mSeq PB4 mPass)))) := rfl
theorem blkTA {g1 g2 g3 g4 : List D → P} {q n : Int} {sq : D} {bs : List D} (h1 : g1 [.int q, .bl true] = .ok sq) (h2 : g2 [.int q, .int n, sq] = .ok (.lst bs)) (h3 : g3 [.int q, .int n] = .ok (.int bs.length)) (h4 : g4 [.int bs.length, .int bs.length] = .ok (.bl true)) (ns : List Int) (x2 x3 x4 x5 x6 x7 x8 x9 y12 : Option Val) (s : S) : mSeq (PA3T g1 g2) (mSeq (PA4T g3 g4) mPass) [some (.scr ns), some (.ref 0), x2, x3, x4, x5, x6, x7, x8, x9, none, none, y12, some (.d (.tup [.int q, .int n])), none, none, none, none] s = .nxt [some (.scr ns), some (.ref 0), x2, x3, x4, x5, x6, x7, x8, x9, none, none, y12, some (.d (.tup [.int q, .int n])), some (.d (.lst bs)), none, none, none] s := by
  unfold PA3T PA4T
  simp [mSeq, mIf, mAsg, mRet, mPass, mTru, mNot, mOr, mAnd, mB1, mBin, mCmp, mIx, mVar, mCon, mLst, mCons, mNil, mCall, R.go, R.goT, R.bind, R.of, rd, rds, datas, frefs, opD, oadd, cmpD, eqD, ixV, ixD, MP.atI, MP.ixN, b1V, b1, truV, truD, P.to, h1, h2, h3, h4]
theorem blkA {q n : Nat} (h : pairA q n = true) (ns : List Int) (x2 x3 x4 x5 x6 x7 x8 x9 y12 : Option Val) (s : S) : ∃ y14, mSeq PA3 (mSeq PA4 mPass) [some (.scr ns), some (.ref 0), x2, x3, x4, x5, x6, x7, x8, x9, none, none, y12, some (.d (pr q n)), none, none, none, none] s = .nxt [some (.scr ns), some (.ref 0), x2, x3, x4, x5, x6, x7, x8, x9, none, none, y12, some (.d (pr q n)), y14, none, none, none] s := by
  obtain ⟨sq, bs, h1, h2, h3⟩ := factA h
  exact ⟨some (.d (.lst bs)), blkTA h1 h2 h3 (equals_int bs.length) ns x2 x3 x4 x5 x6 x7 x8 x9 y12 s⟩
theorem blkTB {g1 g2 g3 g4 : List D → P} {q n : Int} {sq : D} {bs : List D} (h1 : g1 [.int q, .bl false] = .ok sq) (h2 : g2 [.int q, .int n, sq] = .ok (.lst bs)) (h3 : g3 [.int q, .int n] = .ok (.int bs.length)) (h4 : g4 [.int bs.length, .int bs.length] = .ok (.bl true)) (ns : List Int) (x2 x3 x4 x5 x6 x7 x8 x9 y12 : Option Val) (s : S) : mSeq (PB3T g1 g2) (mSeq (PB4T g3 g4) mPass) [some (.scr ns), some (.ref 0), x2, x3, x4, x5, x6, x7, x8, x9, none, none, y12, some (.d (.tup [.int q, .int n])), none, none, none, none] s = .nxt [some (.scr ns), some (.ref 0), x2, x3, x4, x5, x6, x7, x8, x9, none, none, y12, some (.d (.tup [.int q, .int n])), some (.d (.lst bs)), none, none, none] s := by
  unfold PB3T PB4T
  simp [mSeq, mIf, mAsg, mRet, mPass, mTru, mNot, mOr, mAnd, mB1, mBin, mCmp, mIx, mVar, mCon, mLst, mCons, mNil, mCall, R.go, R.goT, R.bind, R.of, rd, rds, datas, frefs, opD, oadd, cmpD, eqD, ixV, ixD, MP.atI, MP.ixN, b1V, b1, truV, truD, P.to, h1, h2, h3, h4]
theorem blkB {q n : Nat} (h : pairB q n = true) (ns : List Int) (x2 x3 x4 x5 x6 x7 x8 x9 y12 : Option Val) (s : S) : ∃ y14, mSeq PB3 (mSeq PB4 mPass) [some (.scr ns), some (.ref 0), x2, x3, x4, x5, x6, x7, x8, x9, none, none, y12, some (.d (pr q n)), none, none, none, none] s = .nxt [some (.scr ns), some (.ref 0), x2, x3, x4, x5, x6, x7, x8, x9, none, none, y12, some (.d (pr q n)), y14, none, none, none] s := by
  obtain ⟨sq, bs, h1, h2, h3⟩ := factB h
  exact ⟨some (.d (.lst bs)), blkTB h1 h2 h3 (equals_int bs.length) ns x2 x3 x4 x5 x6 x7 x8 x9 y12 s⟩
theorem L13_ok (ns : List Int) (x2 x3 x4 x5 x6 x7 x8 x9 : Option Val) {cells : List D} (hc : Cells cells) {s : S} (hs : Sto cells s) : ∃ y12 y13 y14 s', L13 [some (.scr ns), some (.ref 0), x2, x3, x4, x5, x6, x7, x8, x9, none, none, none, none, none, none, none, none] s = .nxt [some (.scr ns), some (.ref 0), x2, x3, x4, x5, x6, x7, x8, x9, none, none, y12, y13, y14, none, none, none] s' ∧ Sto cells s' := by
  obtain ⟨t, s1, a1, a2, a3⟩ := six_take (n := 2) (by omega) (by omega) hc hs
  have a1' : f__law_take [.ref 0, .d (.int 2)] s = .ok (.d (.int t)) s1 := a1
  rw [L13_cut]
  by_cases ht : t = 0
  · subst ht
    obtain ⟨x, s2, c1, c2, c3⟩ := pick_ok (xs := prsA) (y := .tup prsA) (by simp [prsA]) (by simp [prsA]) (.inr rfl) hc a3
    obtain ⟨q, n, rfl, hp⟩ := memA c2
    obtain ⟨y14, hb⟩ := blkA hp ns x2 x3 x4 x5 x6 x7 x8 x9 (some (.d (.tup prsA))) s2
    refine ⟨some (.d (.tup prsA)), some (.d (pr q n)), y14, s2, ?_, c3⟩
    have e1 : PA1 [some (.scr ns), some (.ref 0), x2, x3, x4, x5, x6, x7, x8, x9, none, none, none, none, none, none, none, none] s1 = .nxt [some (.scr ns), some (.ref 0), x2, x3, x4, x5, x6, x7, x8, x9, none, none, some (.d (.tup prsA)), none, none, none, none, none] s1 := by kernel_rfl
    have e2 : PA2 [some (.scr ns), some (.ref 0), x2, x3, x4, x5, x6, x7, x8, x9, none, none, some (.d (.tup prsA)), none, none, none, none, none] s1 = .nxt [some (.scr ns), some (.ref 0), x2, x3, x4, x5, x6, x7, x8, x9, none, none, some (.d (.tup prsA)), some (.d (pr q n)), none, none, none, none] s2 := by
      unfold PA2
      simp [mAsg, mCall, mCons, mNil, mVar, R.go, R.bind, frefs, c1]
    have e0 : (mSeq PA1 (mSeq PA2 (mSeq PA3 (mSeq PA4 mPass)))) [some (.scr ns), some (.ref 0), x2, x3, x4, x5, x6, x7, x8, x9, none, none, none, none, none, none, none, none] s1 = .nxt [some (.scr ns), some (.ref 0), x2, x3, x4, x5, x6, x7, x8, x9, none, none, some (.d (.tup prsA)), some (.d (pr q n)), y14, none, none, none] s2 := by
      rw [seq_nxt e1, seq_nxt e2]
      exact hb
    generalize (mSeq PA1 (mSeq PA2 (mSeq PA3 (mSeq PA4 mPass)))) = K1 at e0 ⊢
    generalize (mSeq PB2 (mSeq PB3 (mSeq PB4 mPass))) = K2
    simp [mIf, mCmp, mCall, mCons, mNil, mVar, mCon, R.goT, R.bind, R.of, rd, frefs, cmpD, eqD, a1', e0]
  · obtain ⟨x, s2, c1, c2, c3⟩ := pick_ok (xs := prsB) (y := .tup prsB) (by simp [prsB]) (by simp [prsB]) (.inr rfl) hc a3
    obtain ⟨q, n, rfl, hp⟩ := memB c2
    obtain ⟨y14, hb⟩ := blkB hp ns x2 x3 x4 x5 x6 x7 x8 x9 none s2
    refine ⟨none, some (.d (pr q n)), y14, s2, ?_, c3⟩
    have e2 : PB2 [some (.scr ns), some (.ref 0), x2, x3, x4, x5, x6, x7, x8, x9, none, none, none, none, none, none, none, none] s1 = .nxt [some (.scr ns), some (.ref 0), x2, x3, x4, x5, x6, x7, x8, x9, none, none, none, some (.d (pr q n)), none, none, none, none] s2 := by
      unfold PB2
      simp [mAsg, mCall, mCons, mNil, mVar, R.go, R.bind, frefs, pbt, c1]
    have e0 : (mSeq PB2 (mSeq PB3 (mSeq PB4 mPass))) [some (.scr ns), some (.ref 0), x2, x3, x4, x5, x6, x7, x8, x9, none, none, none, none, none, none, none, none] s1 = .nxt [some (.scr ns), some (.ref 0), x2, x3, x4, x5, x6, x7, x8, x9, none, none, none, some (.d (pr q n)), y14, none, none, none] s2 := by
      rw [seq_nxt e2]
      exact hb
    generalize (mSeq PA1 (mSeq PA2 (mSeq PA3 (mSeq PA4 mPass)))) = K1
    generalize (mSeq PB2 (mSeq PB3 (mSeq PB4 mPass))) = K2 at e0 ⊢
    have ht' : ((t : Int) == 0) = false := by simpa using ht
    simp [mIf, mCmp, mCall, mCons, mNil, mVar, mCon, R.goT, R.bind, R.of, rd, frefs, cmpD, eqD, a1', e0, ht]
end MPL
end

section
set_option Elab.async false
set_option linter.all false
set_option maxRecDepth 100000
set_option maxHeartbeats 4000000
namespace MPL
open PySem MP
def BL : D := .str (Str.ofString "BadLetters")
def BN : D := .str (Str.ofString "BadNumber")
def bads : List D := [.int 0, .int 9, .int (-1), .bl true, .bl false, .str (Str.ofString "2"), .tup [.int 2], .non, .int (10 ^ 59), .lst [.int 1], .int 16]
def isRef (p : P) (z : Str) : Bool := match p with
  | .ok (.tup [.str y, .int 0]) => decide (y = z)
  | _ => false
theorem isRef_ok {p : P} {z : Str} (h : isRef p z = true) : p = .ok (.tup [.str z, .int 0]) := by
  unfold isRef at h
  split at h
  · rw [of_decide_eq_true h]
  · cases h
theorem rl_0_0 (v : D) : f__law_refused [.int 0, .tup [.int 0, v]] = .ok (.tup [BL, .int 0]) := by kernel_rfl
theorem rl_0_1 (v : D) : f__law_refused [.int 1, .tup [.int 0, v]] = .ok (.tup [BL, .int 0]) := by kernel_rfl
theorem rl_1_0 (v : D) : f__law_refused [.int 0, .tup [.int 9, v]] = .ok (.tup [BL, .int 0]) := by kernel_rfl
theorem rl_1_1 (v : D) : f__law_refused [.int 1, .tup [.int 9, v]] = .ok (.tup [BL, .int 0]) := by kernel_rfl
theorem rl_2_0 (v : D) : f__law_refused [.int 0, .tup [.int (-1), v]] = .ok (.tup [BL, .int 0]) := by kernel_rfl
theorem rl_2_1 (v : D) : f__law_refused [.int 1, .tup [.int (-1), v]] = .ok (.tup [BL, .int 0]) := by kernel_rfl
theorem rl_3_0 (v : D) : f__law_refused [.int 0, .tup [.bl true, v]] = .ok (.tup [BL, .int 0]) := by kernel_rfl
theorem rl_3_1 (v : D) : f__law_refused [.int 1, .tup [.bl true, v]] = .ok (.tup [BL, .int 0]) := by kernel_rfl
theorem rl_4_0 (v : D) : f__law_refused [.int 0, .tup [.bl false, v]] = .ok (.tup [BL, .int 0]) := by kernel_rfl
theorem rl_4_1 (v : D) : f__law_refused [.int 1, .tup [.bl false, v]] = .ok (.tup [BL, .int 0]) := by kernel_rfl
theorem rl_5_0 (v : D) : f__law_refused [.int 0, .tup [.str (Str.ofString "2"), v]] = .ok (.tup [BL, .int 0]) := by kernel_rfl
theorem rl_5_1 (v : D) : f__law_refused [.int 1, .tup [.str (Str.ofString "2"), v]] = .ok (.tup [BL, .int 0]) := by kernel_rfl
theorem rl_6_0 (v : D) : f__law_refused [.int 0, .tup [.tup [.int 2], v]] = .ok (.tup [BL, .int 0]) := by kernel_rfl
theorem rl_6_1 (v : D) : f__law_refused [.int 1, .tup [.tup [.int 2], v]] = .ok (.tup [BL, .int 0]) := by kernel_rfl
theorem rl_7_0 (v : D) : f__law_refused [.int 0, .tup [.non, v]] = .ok (.tup [BL, .int 0]) := by kernel_rfl
theorem rl_7_1 (v : D) : f__law_refused [.int 1, .tup [.non, v]] = .ok (.tup [BL, .int 0]) := by kernel_rfl
theorem rl_8_0 (v : D) : f__law_refused [.int 0, .tup [.int (10 ^ 59), v]] = .ok (.tup [BL, .int 0]) := by kernel_rfl
theorem rl_8_1 (v : D) : f__law_refused [.int 1, .tup [.int (10 ^ 59), v]] = .ok (.tup [BL, .int 0]) := by kernel_rfl
theorem rl_9_0 (v : D) : f__law_refused [.int 0, .tup [.lst [.int 1], v]] = .ok (.tup [BL, .int 0]) := by kernel_rfl
theorem rl_9_1 (v : D) : f__law_refused [.int 1, .tup [.lst [.int 1], v]] = .ok (.tup [BL, .int 0]) := by kernel_rfl
theorem rl_10_0 (v : D) : f__law_refused [.int 0, .tup [.int 16, v]] = .ok (.tup [BL, .int 0]) := by kernel_rfl
theorem rl_10_1 (v : D) : f__law_refused [.int 1, .tup [.int 16, v]] = .ok (.tup [BL, .int 0]) := by kernel_rfl
theorem ref_L {x : D} (h : x ∈ bads) (v : D) {d : Int} (hd : d = 0 ∨ d = 1) : f__law_refused [.int d, .tup [x, v]] = .ok (.tup [BL, .int 0]) := by
  simp only [bads, List.mem_cons, List.not_mem_nil, or_false] at h
  rcases hd with rfl | rfl
  · rcases h with rfl | rfl | rfl | rfl | rfl | rfl | rfl | rfl | rfl | rfl | rfl
    · exact rl_0_0 v
    · exact rl_1_0 v
    · exact rl_2_0 v
    · exact rl_3_0 v
    · exact rl_4_0 v
    · exact rl_5_0 v
    · exact rl_6_0 v
    · exact rl_7_0 v
    · exact rl_8_0 v
    · exact rl_9_0 v
    · exact rl_10_0 v
  · rcases h with rfl | rfl | rfl | rfl | rfl | rfl | rfl | rfl | rfl | rfl | rfl
    · exact rl_0_1 v
    · exact rl_1_1 v
    · exact rl_2_1 v
    · exact rl_3_1 v
    · exact rl_4_1 v
    · exact rl_5_1 v
    · exact rl_6_1 v
    · exact rl_7_1 v
    · exact rl_8_1 v
    · exact rl_9_1 v
    · exact rl_10_1 v
def refF (q : Nat) : Bool := bads.all fun x => isRef (f__law_refused [.int 0, .tup [.int q, x]]) (Str.ofString "BadNumber") && isRef (f__law_refused [.int 1, .tup [.int q, x]]) (Str.ofString "BadNumber")
theorem refN_all : eight refF = true := by decide +kernel
theorem ref_N {q : Nat} (h1 : 1 ≤ q) (h2 : q ≤ 8) {x : D} (h : x ∈ bads) {d : Int} (hd : d = 0 ∨ d = 1) : f__law_refused [.int d, .tup [.int q, x]] = .ok (.tup [BN, .int 0]) := by
  have z := List.all_eq_true.mp (eight_ok refN_all h1 h2) x h
  rw [Bool.and_eq_true] at z
  rcases hd with rfl | rfl
  · exact isRef_ok z.1
  · exact isRef_ok z.2
theorem eqs_L : f__law_equals 8 [.tup [BL, .int 0], .tup [BL, .int 0]] = .ok (.bl true) := by kernel_rfl
theorem eqs_N : f__law_equals 8 [.tup [BN, .int 0], .tup [BN, .int 0]] = .ok (.bl true) := by kernel_rfl
def IBT (g h : List D → P) : MS := (mSeq (mIf (mNot (mTru (mCall (.pure 2 h) (mCons (mCall (.pure 2 g) (mCons (mVar 11) (mCons (mVar 13) mNil))) (mCons (mTup (mCons (mVar 16) (mCons (mCon (.int 0)) mNil))) mNil))))) (mSeq (mRet (mCon (.bl false))) mPass) mPass) mPass)
def KA16 : MS := (mAsg 16 (mIx (mTup (mCons (mCon (.str (Str.ofString "BadLetters"))) (mCons (mCon (.str (Str.ofString "BadNumber"))) mNil))) (mVar 15)))
def KA17 : MS := (mAsg 17 (mIx (mTup (mCons (mTup (mCons (mTup (mCons (mVar 10) (mCons (mVar 3) mNil))) (mCons (mTup (mCons (mCon (.bl true)) (mCons (mVar 3) mNil))) mNil))) (mCons (mTup (mCons (mTup (mCons (mVar 2) (mCons (mVar 10) mNil))) (mCons (mTup (mCons (mVar 2) (mCons (mCon (.bl true)) mNil))) mNil))) mNil))) (mVar 15)))
def KIT : MI := (mItV (mBin .add (mVar 17) (mSl (mTup (mCons (mTup (mCons (mVar 10) (mCons (mVar 10) mNil))) mNil)) (some (mVar 15)) none)))
def KBT (g h : List D → P) : MS := mSeq KA16 (mSeq KA17 (mSeq (mFor (.nm 13) KIT (IBT g h)) mPass))
def L16T (g h : List D → P) : MS := mFor (.nm 11) (mItV (mTup (mCons (mCon (.int 0)) (mCons (mCon (.int 1)) mNil)))) (mSeq (mFor (.nm 15) (mItV (mTup (mCons (mCon (.int 0)) (mCons (mCon (.int 1)) mNil)))) (KBT g h)) mPass)
theorem L16_cut : L16 = L16T f__law_refused (f__law_equals 8) := rfl
section
variable {g h : List D → P}
theorem ib_ok {d : Int} {x z r : D} (hg : g [.int d, x] = .ok r) (hh : h [r, .tup [z, .int 0]] = .ok (.bl true)) (e0 e1 e2 e3 e4 e5 e6 e7 e8 e9 e10 e12 e14 e15 e17 : Option Val) (s : S) : IBT g h [e0, e1, e2, e3, e4, e5, e6, e7, e8, e9, e10, some (.d (.int d)), e12, some (.d x), e14, e15, some (.d z), e17] s = .nxt [e0, e1, e2, e3, e4, e5, e6, e7, e8, e9, e10, some (.d (.int d)), e12, some (.d x), e14, e15, some (.d z), e17] s := by
  unfold IBT
  simp [mSeq, mIf, mPass, mTru, mNot, mVar, mCon, mTup, mCons, mNil, mCall, R.go, R.goT, R.bind, R.of, rd, datas, truV, truD, P.to, two_line, hg, hh]
theorem pl_ok {d : Int} {z : D} (e0 e1 e2 e3 e4 e5 e6 e7 e8 e9 e10 e12 e14 e15 e17 : Option Val) (s : S) : ∀ (xs : List D) (x13 : Option Val), (∀ x ∈ xs, ∃ r, g [.int d, x] = .ok r ∧ h [r, .tup [z, .int 0]] = .ok (.bl true)) → ∃ y13, forGo (.nm 13) (IBT g h) xs [e0, e1, e2, e3, e4, e5, e6, e7, e8, e9, e10, some (.d (.int d)), e12, x13, e14, e15, some (.d z), e17] s = .nxt [e0, e1, e2, e3, e4, e5, e6, e7, e8, e9, e10, some (.d (.int d)), e12, y13, e14, e15, some (.d z), e17] s
  | [], x13, _ => ⟨x13, rfl⟩
  | x :: xs, x13, hx => by
    obtain ⟨r, hg, hh⟩ := hx x List.mem_cons_self
    obtain ⟨y13, q⟩ := pl_ok e0 e1 e2 e3 e4 e5 e6 e7 e8 e9 e10 e12 e14 e15 e17 s xs (some (.d x)) (fun y hy => hx y (List.mem_cons_of_mem _ hy))
    refine ⟨y13, ?_⟩
    have e : forGo (.nm 13) (IBT g h) (x :: xs) [e0, e1, e2, e3, e4, e5, e6, e7, e8, e9, e10, some (.d (.int d)), e12, x13, e14, e15, some (.d z), e17] s = (match IBT g h [e0, e1, e2, e3, e4, e5, e6, e7, e8, e9, e10, some (.d (.int d)), e12, some (.d x), e14, e15, some (.d z), e17] s with
      | .nxt e s => forGo (.nm 13) (IBT g h) xs e s
      | .cnt e s => forGo (.nm 13) (IBT g h) xs e s
      | .brk e s => .nxt e s
      | r => r) := rfl
    rw [e, ib_ok hg hh]
    exact q
theorem kb0 {q n : Int} {b : D} {d : Int} (hx : ∀ x ∈ ([.tup [b, .int n], .tup [.bl true, .int n], .tup [b, b]] : List D), ∃ r, g [.int d, x] = .ok r ∧ h [r, .tup [BL, .int 0]] = .ok (.bl true)) (e0 e1 e4 e5 e6 e7 e8 e9 e12 e14 x13 x16 x17 : Option Val) (s : S) : ∃ y13 y16 y17, KBT g h [e0, e1, some (.d (.int q)), some (.d (.int n)), e4, e5, e6, e7, e8, e9, some (.d b), some (.d (.int d)), e12, x13, e14, some (.d (.int 0)), x16, x17] s = .nxt [e0, e1, some (.d (.int q)), some (.d (.int n)), e4, e5, e6, e7, e8, e9, some (.d b), some (.d (.int d)), e12, y13, e14, some (.d (.int 0)), y16, y17] s := by
  obtain ⟨y13, p⟩ := pl_ok (g := g) (h := h) (d := d) (z := BL) e0 e1 (some (.d (.int q))) (some (.d (.int n))) e4 e5 e6 e7 e8 e9 (some (.d b)) e12 e14 (some (.d (.int 0))) (some (.d (.tup [.tup [b, .int n], .tup [.bl true, .int n]]))) s _ x13 hx
  refine ⟨y13, some (.d BL), some (.d (.tup [.tup [b, .int n], .tup [.bl true, .int n]])), ?_⟩
  have a1 : KA16 [e0, e1, some (.d (.int q)), some (.d (.int n)), e4, e5, e6, e7, e8, e9, some (.d b), some (.d (.int d)), e12, x13, e14, some (.d (.int 0)), x16, x17] s = .nxt [e0, e1, some (.d (.int q)), some (.d (.int n)), e4, e5, e6, e7, e8, e9, some (.d b), some (.d (.int d)), e12, x13, e14, some (.d (.int 0)), some (.d BL), x17] s := by kernel_rfl
  have a2 : KA17 [e0, e1, some (.d (.int q)), some (.d (.int n)), e4, e5, e6, e7, e8, e9, some (.d b), some (.d (.int d)), e12, x13, e14, some (.d (.int 0)), some (.d BL), x17] s = .nxt [e0, e1, some (.d (.int q)), some (.d (.int n)), e4, e5, e6, e7, e8, e9, some (.d b), some (.d (.int d)), e12, x13, e14, some (.d (.int 0)), some (.d BL), some (.d (.tup [.tup [b, .int n], .tup [.bl true, .int n]]))] s := by kernel_rfl
  have a3 : KIT [e0, e1, some (.d (.int q)), some (.d (.int n)), e4, e5, e6, e7, e8, e9, some (.d b), some (.d (.int d)), e12, x13, e14, some (.d (.int 0)), some (.d BL), some (.d (.tup [.tup [b, .int n], .tup [.bl true, .int n]]))] s = .ok [.tup [b, .int n], .tup [.bl true, .int n], .tup [b, b]] s := by kernel_rfl
  unfold KBT
  rw [seq_nxt a1, seq_nxt a2, seq_for a3, p]
  rfl
theorem kb1 {q n : Int} {b : D} {d : Int} (hx : ∀ x ∈ ([.tup [.int q, b], .tup [.int q, .bl true]] : List D), ∃ r, g [.int d, x] = .ok r ∧ h [r, .tup [BN, .int 0]] = .ok (.bl true)) (e0 e1 e4 e5 e6 e7 e8 e9 e12 e14 x13 x16 x17 : Option Val) (s : S) : ∃ y13 y16 y17, KBT g h [e0, e1, some (.d (.int q)), some (.d (.int n)), e4, e5, e6, e7, e8, e9, some (.d b), some (.d (.int d)), e12, x13, e14, some (.d (.int 1)), x16, x17] s = .nxt [e0, e1, some (.d (.int q)), some (.d (.int n)), e4, e5, e6, e7, e8, e9, some (.d b), some (.d (.int d)), e12, y13, e14, some (.d (.int 1)), y16, y17] s := by
  obtain ⟨y13, p⟩ := pl_ok (g := g) (h := h) (d := d) (z := BN) e0 e1 (some (.d (.int q))) (some (.d (.int n))) e4 e5 e6 e7 e8 e9 (some (.d b)) e12 e14 (some (.d (.int 1))) (some (.d (.tup [.tup [.int q, b], .tup [.int q, .bl true]]))) s _ x13 hx
  refine ⟨y13, some (.d BN), some (.d (.tup [.tup [.int q, b], .tup [.int q, .bl true]])), ?_⟩
  have a1 : KA16 [e0, e1, some (.d (.int q)), some (.d (.int n)), e4, e5, e6, e7, e8, e9, some (.d b), some (.d (.int d)), e12, x13, e14, some (.d (.int 1)), x16, x17] s = .nxt [e0, e1, some (.d (.int q)), some (.d (.int n)), e4, e5, e6, e7, e8, e9, some (.d b), some (.d (.int d)), e12, x13, e14, some (.d (.int 1)), some (.d BN), x17] s := by kernel_rfl
  have a2 : KA17 [e0, e1, some (.d (.int q)), some (.d (.int n)), e4, e5, e6, e7, e8, e9, some (.d b), some (.d (.int d)), e12, x13, e14, some (.d (.int 1)), some (.d BN), x17] s = .nxt [e0, e1, some (.d (.int q)), some (.d (.int n)), e4, e5, e6, e7, e8, e9, some (.d b), some (.d (.int d)), e12, x13, e14, some (.d (.int 1)), some (.d BN), some (.d (.tup [.tup [.int q, b], .tup [.int q, .bl true]]))] s := by kernel_rfl
  have a3 : KIT [e0, e1, some (.d (.int q)), some (.d (.int n)), e4, e5, e6, e7, e8, e9, some (.d b), some (.d (.int d)), e12, x13, e14, some (.d (.int 1)), some (.d BN), some (.d (.tup [.tup [.int q, b], .tup [.int q, .bl true]]))] s = .ok [.tup [.int q, b], .tup [.int q, .bl true]] s := by kernel_rfl
  unfold KBT
  rw [seq_nxt a1, seq_nxt a2, seq_for a3, p]
  rfl
theorem l16_ok {q n : Int} {b : D} (hL : ∀ d : Int, d = 0 ∨ d = 1 → ∀ x ∈ ([.tup [b, .int n], .tup [.bl true, .int n], .tup [b, b]] : List D), ∃ r, g [.int d, x] = .ok r ∧ h [r, .tup [BL, .int 0]] = .ok (.bl true)) (hN : ∀ d : Int, d = 0 ∨ d = 1 → ∀ x ∈ ([.tup [.int q, b], .tup [.int q, .bl true]] : List D), ∃ r, g [.int d, x] = .ok r ∧ h [r, .tup [BN, .int 0]] = .ok (.bl true))
    (e0 e1 e4 e5 e6 e7 e8 e9 e12 e14 x11 x13 x15 x16 x17 : Option Val) (s : S) : ∃ y11 y13 y15 y16 y17, L16T g h [e0, e1, some (.d (.int q)), some (.d (.int n)), e4, e5, e6, e7, e8, e9, some (.d b), x11, e12, x13, e14, x15, x16, x17] s = .nxt [e0, e1, some (.d (.int q)), some (.d (.int n)), e4, e5, e6, e7, e8, e9, some (.d b), y11, e12, y13, e14, y15, y16, y17] s := by
  have two : ∀ (e : MP.Env), mItV (mTup (mCons (mCon (.int 0)) (mCons (mCon (.int 1)) mNil))) e s = .ok [.int 0, .int 1] s := fun e => by kernel_rfl
  have turn : ∀ (d : Int), d = 0 ∨ d = 1 → ∀ (x13 x15 x16 x17 : Option Val), ∃ y13 y15 y16 y17, mSeq (mFor (.nm 15) (mItV (mTup (mCons (mCon (.int 0)) (mCons (mCon (.int 1)) mNil)))) (KBT g h)) mPass [e0, e1, some (.d (.int q)), some (.d (.int n)), e4, e5, e6, e7, e8, e9, some (.d b), some (.d (.int d)), e12, x13, e14, x15, x16, x17] s = .nxt [e0, e1, some (.d (.int q)), some (.d (.int n)), e4, e5, e6, e7, e8, e9, some (.d b), some (.d (.int d)), e12, y13, e14, y15, y16, y17] s := fun d hd x13 x15 x16 x17 => by
    obtain ⟨z13, z16, z17, p1⟩ := kb0 (g := g) (h := h) (q := q) (n := n) (b := b) (d := d) (hL d hd) e0 e1 e4 e5 e6 e7 e8 e9 e12 e14 x13 x16 x17 s
    obtain ⟨w13, w16, w17, p2⟩ := kb1 (g := g) (h := h) (q := q) (n := n) (b := b) (d := d) (hN d hd) e0 e1 e4 e5 e6 e7 e8 e9 e12 e14 z13 z16 z17 s
    refine ⟨w13, some (.d (.int 1)), w16, w17, ?_⟩
    rw [seq_for (two _)]
    have f1 : forGo (.nm 15) (KBT g h) [.int 0, .int 1] [e0, e1, some (.d (.int q)), some (.d (.int n)), e4, e5, e6, e7, e8, e9, some (.d b), some (.d (.int d)), e12, x13, e14, x15, x16, x17] s = (match KBT g h [e0, e1, some (.d (.int q)), some (.d (.int n)), e4, e5, e6, e7, e8, e9, some (.d b), some (.d (.int d)), e12, x13, e14, some (.d (.int 0)), x16, x17] s with
      | .nxt e s => forGo (.nm 15) (KBT g h) [.int 1] e s
      | .cnt e s => forGo (.nm 15) (KBT g h) [.int 1] e s
      | .brk e s => .nxt e s
      | r => r) := rfl
    have f2 : forGo (.nm 15) (KBT g h) [.int 1] [e0, e1, some (.d (.int q)), some (.d (.int n)), e4, e5, e6, e7, e8, e9, some (.d b), some (.d (.int d)), e12, z13, e14, some (.d (.int 0)), z16, z17] s = (match KBT g h [e0, e1, some (.d (.int q)), some (.d (.int n)), e4, e5, e6, e7, e8, e9, some (.d b), some (.d (.int d)), e12, z13, e14, some (.d (.int 1)), z16, z17] s with
      | .nxt e s => forGo (.nm 15) (KBT g h) [] e s
      | .cnt e s => forGo (.nm 15) (KBT g h) [] e s
      | .brk e s => .nxt e s
      | r => r) := rfl
    rw [f1, p1]
    dsimp only
    rw [f2, p2]
    rfl
  obtain ⟨z13, z15, z16, z17, p1⟩ := turn 0 (.inl rfl) x13 x15 x16 x17
  obtain ⟨w13, w15, w16, w17, p2⟩ := turn 1 (.inr rfl) z13 z15 z16 z17
  refine ⟨some (.d (.int 1)), w13, w15, w16, w17, ?_⟩
  unfold L16T
  rw [for_eq (two _)]
  generalize mSeq (mFor (.nm 15) (mItV (mTup (mCons (mCon (.int 0)) (mCons (mCon (.int 1)) mNil)))) (KBT g h)) mPass = BB at p1 p2 ⊢
  have f1 : forGo (.nm 11) BB [.int 0, .int 1] [e0, e1, some (.d (.int q)), some (.d (.int n)), e4, e5, e6, e7, e8, e9, some (.d b), x11, e12, x13, e14, x15, x16, x17] s = (match BB [e0, e1, some (.d (.int q)), some (.d (.int n)), e4, e5, e6, e7, e8, e9, some (.d b), some (.d (.int 0)), e12, x13, e14, x15, x16, x17] s with
      | .nxt e s => forGo (.nm 11) BB [.int 1] e s
      | .cnt e s => forGo (.nm 11) BB [.int 1] e s
      | .brk e s => .nxt e s
      | r => r) := rfl
  have f2 : forGo (.nm 11) BB [.int 1] [e0, e1, some (.d (.int q)), some (.d (.int n)), e4, e5, e6, e7, e8, e9, some (.d b), some (.d (.int 0)), e12, z13, e14, z15, z16, z17] s = (match BB [e0, e1, some (.d (.int q)), some (.d (.int n)), e4, e5, e6, e7, e8, e9, some (.d b), some (.d (.int 1)), e12, z13, e14, z15, z16, z17] s with
      | .nxt e s => forGo (.nm 11) BB [] e s
      | .cnt e s => forGo (.nm 11) BB [] e s
      | .brk e s => .nxt e s
      | r => r) := rfl
  rw [f1, p1]
  dsimp only
  rw [f2, p2]
  rfl
end
def badT : ME := (mTup (mCons (mCon (.int 0)) (mCons (mCon (.int 9)) (mCons (mNeg (mCon (.int 1))) (mCons (mCon (.bl true)) (mCons (mCon (.bl false)) (mCons (mCon (.str (Str.ofString "2"))) (mCons (mTup (mCons (mCon (.int 2)) mNil)) (mCons (mCon .non) (mCons (mBin .pow (mCon (.int 10)) (mCon (.int 59))) (mCons (mLst (mCons (mCon (.int 1)) mNil)) (mCons (mCon (.int 16)) mNil))))))))))))
theorem L15_cut : L15 = mAsg 10 (mCall fk__law_pick (mCons (mVar 1) (mCons badT mNil))) := rfl
theorem badT_ok (e : MP.Env) (s : S) : badT e s = .ok (.d (.tup bads)) s := by kernel_rfl
end MPL
end

section
set_option Elab.async false
set_option linter.all false
set_option maxRecDepth 100000
set_option maxHeartbeats 4000000
namespace MPL
open PySem MP
theorem right_one {q n : Nat} (h1 : 1 ≤ q) (h2 : q ≤ 8) (h3 : 1 ≤ n) (h4 : n ≤ 8) : f__law_right [.int 1, .int n, .int 1] = .ok (.bl true) ∧ f__law_right [.int q, .int 1, .int 1] = .ok (.bl true) := by
  have z1 := eight_ok (f := fun n => isTrue1 (f__law_right [.int 1, .int n, .int 1]) && isTrue1 (f__law_right [.int n, .int 1, .int 1])) one_all h3 h4
  have z2 := eight_ok (f := fun n => isTrue1 (f__law_right [.int 1, .int n, .int 1]) && isTrue1 (f__law_right [.int n, .int 1, .int 1])) one_all h1 h2
  rw [Bool.and_eq_true] at z1 z2
  exact ⟨isTrue1_ok z1.1, isTrue1_ok z2.2⟩
theorem L14_ok {q n : Int} (h1 : f__law_right [.int 1, .int n, .int 1] = .ok (.bl true)) (h2 : f__law_right [.int q, .int 1, .int 1] = .ok (.bl true)) (e0 e1 e4 e5 e6 e7 e8 e9 e10 e11 e12 e13 e14 e15 e16 e17 : Option Val) (s : S) : L14 [e0, e1, some (.d (.int q)), some (.d (.int n)), e4, e5, e6, e7, e8, e9, e10, e11, e12, e13, e14, e15, e16, e17] s = .nxt [e0, e1, some (.d (.int q)), some (.d (.int n)), e4, e5, e6, e7, e8, e9, e10, e11, e12, e13, e14, e15, e16, e17] s := by
  unfold L14
  simp [mSeq, mIf, mAsg, mRet, mPass, mTru, mNot, mOr, mAnd, mB1, mBin, mCmp, mIx, mVar, mCon, mLst, mCons, mNil, mCall, R.go, R.goT, R.bind, R.of, rd, rds, datas, frefs, opD, oadd, ixV, ixD, b1V, b1, truV, truD, P.to, h1, h2]
theorem L17_ok {q n w : Int} (h1 : f__law_right [.int q, .int n, .int w] = .ok (.bl true)) (e0 e1 e5 e6 e7 e8 e9 e10 e11 e12 e13 e14 e15 e16 e17 : Option Val) (s : S) : mSeq L17 mPass [e0, e1, some (.d (.int q)), some (.d (.int n)), some (.d (.int w)), e5, e6, e7, e8, e9, e10, e11, e12, e13, e14, e15, e16, e17] s = .ret (.d (.bl true)) s := by
  unfold L17
  simp [mSeq, mIf, mAsg, mRet, mPass, mTru, mNot, mOr, mAnd, mB1, mBin, mCmp, mIx, mVar, mCon, mLst, mCons, mNil, mCall, R.go, R.goT, R.bind, R.of, rd, rds, datas, frefs, opD, oadd, ixV, ixD, b1V, b1, truV, truD, P.to, h1]
theorem L15_ok (ns : List Int) (x2 x3 x4 x5 x6 x7 x8 x9 x12 x13 x14 : Option Val) {cells : List D} (hc : Cells cells) {s : S} (hs : Sto cells s) : ∃ b s', L15 [some (.scr ns), some (.ref 0), x2, x3, x4, x5, x6, x7, x8, x9, none, none, x12, x13, x14, none, none, none] s = .nxt [some (.scr ns), some (.ref 0), x2, x3, x4, x5, x6, x7, x8, x9, some (.d b), none, x12, x13, x14, none, none, none] s' ∧ b ∈ bads ∧ Sto cells s' := by
  obtain ⟨b, s', c1, c2, c3⟩ := pick_ok (xs := bads) (y := .tup bads) (by simp [bads]) (by simp [bads]) (.inr rfl) hc hs
  refine ⟨b, s', ?_, c2, c3⟩
  rw [L15_cut]
  generalize hT : badT = T
  have hb : ∀ e s, T e s = .ok (.d (.tup bads)) s := fun e s => hT ▸ badT_ok e s
  generalize bads = B at hb c1
  simp [mAsg, mCall, mCons, mNil, mVar, R.go, R.bind, frefs, hb, c1]
theorem true_bad : D.bl true ∈ bads := by simp [bads]
theorem math_law (ns : List Int) : ∃ s', f_law [.scr ns] [] = .ok (.d (.bl true)) s' := by
  obtain ⟨cells, s0, q, n, o, m, hc, hs, hq, hn, ho, hm, e1⟩ := first_ok ns (mSeq L9 (mSeq L10 (mSeq L11 (mSeq L12 (mSeq L13 (mSeq L14 (mSeq L15 (mSeq L16 (mSeq L17 mPass)))))))))
  obtain ⟨y7, y8, y9, e2⟩ := three_ok hq.1 hq.2 ns (some (.d (.int (n : Int)))) (some (.d (.int (W q n)))) (some (.d (.int (o : Int)))) (some (.d (.int (m : Int)))) s0
  obtain ⟨y12, y13, y14, s1, e3, hs1⟩ := L13_ok ns (some (.d (.int (q : Int)))) (some (.d (.int (n : Int)))) (some (.d (.int (W q n)))) (some (.d (.int (o : Int)))) (some (.d (.int (m : Int)))) y7 y8 y9 hc hs
  obtain ⟨r1, r2⟩ := right_one hq.1 hq.2 hn.1 hn.2
  have e4 := L14_ok r1 r2 (some (.scr ns)) (some (.ref 0)) (some (.d (.int (W q n)))) (some (.d (.int (o : Int)))) (some (.d (.int (m : Int)))) y7 y8 y9 none none y12 y13 y14 none none none s1
  obtain ⟨b, s2, e5, hb, hs2⟩ := L15_ok ns (some (.d (.int (q : Int)))) (some (.d (.int (n : Int)))) (some (.d (.int (W q n)))) (some (.d (.int (o : Int)))) (some (.d (.int (m : Int)))) y7 y8 y9 y12 y13 y14 hc hs1
  obtain ⟨z11, z13, z15, z16, z17, e6⟩ := l16_ok (g := f__law_refused) (h := f__law_equals 8) (q := (q : Int)) (n := (n : Int)) (b := b) (fun d hd x hx => by
      simp only [List.mem_cons, List.not_mem_nil, or_false] at hx
      rcases hx with rfl | rfl | rfl
      · exact ⟨_, ref_L hb _ hd, eqs_L⟩
      · exact ⟨_, ref_L true_bad _ hd, eqs_L⟩
      · exact ⟨_, ref_L hb _ hd, eqs_L⟩) (fun d hd x hx => by
      simp only [List.mem_cons, List.not_mem_nil, or_false] at hx
      rcases hx with rfl | rfl
      · exact ⟨_, ref_N hq.1 hq.2 hb hd, eqs_N⟩
      · exact ⟨_, ref_N hq.1 hq.2 true_bad hd, eqs_N⟩) (some (.scr ns)) (some (.ref 0)) (some (.d (.int (W q n)))) (some (.d (.int (o : Int)))) (some (.d (.int (m : Int)))) y7 y8 y9 y12 y14 none y13 none none none s2
  have e7 := L17_ok (right_ok hq.1 hq.2 hn.1 hn.2).1 (some (.scr ns)) (some (.ref 0)) (some (.d (.int (o : Int)))) (some (.d (.int (m : Int)))) y7 y8 y9 (some (.d b)) z11 y12 z13 y14 z15 z16 z17 s2
  refine ⟨s2, ?_⟩
  have e8 : m_law (initE 18 [.scr ns]) [] = .ret (.d (.bl true)) s2 := by
    rw [L_cut, e1, e2, seq_nxt e3, seq_nxt e4, seq_nxt e5, L16_cut, seq_nxt e6]
    exact e7
  unfold f_law
  exact runE_ret e8
end MPL
end

section
set_option Elab.async false
set_option linter.all false
set_option maxRecDepth 100000
set_option maxHeartbeats 0
namespace MPL
open PySem PySem.Spec PyProof.Rows L2 MP
theorem math (ns : List Int) (h : ns.length ≤ 63) : ∃ s', lawM tu bl qs q_law [.scr ns] [] = .ok (.d (.bl true)) s' := by
  rw [law_eq]
  exact math_law ns
theorem qs_ok : ((q_law :: qs).all fun q => q.ok && decide (q.d.at_ = (q.d.name, none))) = true := by kernel_rfl
theorem qs_in : ∀ q ∈ q_law :: qs, q.d ∈ fn := by
  have h : fn.length = (q_law :: qs).length := by kernel_rfl
  have e : (qs ++ [q_law]).map (·.d) = fn := by rfl
  intro q hq
  rw [← e]
  refine List.mem_map.mpr ⟨q, ?_, rfl⟩
  rcases List.mem_cons.mp hq with rfl | hq
  · exact List.mem_append_right _ List.mem_cons_self
  · exact List.mem_append_left _ hq
theorem facts {P : Program} {w : World} {K : PySem.W.Frag} {h : Heap} {mg : Str → Option Value} {f : Addr} (X : K.In h) (G : h.Ns mainGlobals mg) (hfa : mg ("law" : Str) = some (.ref f)) (c : obsM tu fa fn K = valM tu fn w) :
    ∃ fd : FuncData, (∀ (s : Shared) (v : Value), BindsTo s fd ⟨[v], []⟩ [(("script" : Str), v)]) ∧ ∀ base : Heap, FnOk P w K mg base (CXZ P) (lev qs + 1) f fd [("script" : Str)] (spE (gdOf K) 1 (lawM tu bl qs q_law)) := by
  obtain ⟨fd, h1, h2⟩ := law_facts (P := P) (w := w) (ql := q_law) (qs := qs) (x := "law") X G c qs_ok qs_in (by
    have e : q_law.d.name = ("law" : Str) := by kernel_rfl
    rw [e]) rfl hfa
  exact ⟨fd, h1, fun base => cxz (h2 base)⟩
end MPL
open PySem PySem.W PySem.Calls PyProof.Rows
theorem PySem.Challenge.cw_slipsjoined_k63_unlike_tables_are_counte_holds : PySem.Challenge.rw_slipsjoined_k63_unlike_tables_are_counte.Holds := by
  w_on; o_law
  refine HandSHeadRun.head_any (r := OpenLaw.row PySem.Challenge.rw_slipsjoined_k63_unlike_tables_are_counte) (q := view (OpenLaw.row PySem.Challenge.rw_slipsjoined_k63_unlike_tables_are_counte).prog [MPL.lastI]) (H := MPL.hk) (ob := MPL.ob) (M := 60000) (loose := MPL.loose) (d := HandSHeadRun.topDef (OpenLaw.row PySem.Challenge.rw_slipsjoined_k63_unlike_tables_are_counte).prog MPL.lastI) (kwd := []) MPL.ob_eq
    (by kernel_rfl) (fun s => by kernel_rfl) MPL.run (by kernel_rfl) (by kernel_rfl) (by kernel_rfl) (by rfl) (by first | assumption | decide +kernel) (by decide +kernel) ⟨rfl, rfl, rfl, rfl, rfl, by decide +kernel⟩ ?hw ?hc
  case hw => w_witness2
  case hc =>
    refine L2.walk_ofE (l := PySem.Challenge.rw_slipsjoined_k63_unlike_tables_are_counte) (n := 63) (k := 46) (x := "script") (CX := MP.CXZ (PySem.Challenge.rw_slipsjoined_k63_unlike_tables_are_counte).prog) rfl (by decide) (by kernel_rfl) ⟨rfl, by decide, by decide⟩ ?F MP.cxz_no
    intro w mg fa h Y G hmg0
    obtain ⟨K, KX, c⟩ := Y
    have hmg : mg ("law" : PySem.Str) = some (.ref fa) := by
      have e : (HandSHeadRun.topDef (OpenLaw.row PySem.Challenge.rw_slipsjoined_k63_unlike_tables_are_counte).prog MPL.lastI).name = ("law" : PySem.Str) := by kernel_rfl
      rw [← e]
      exact hmg0
    obtain ⟨fd, hb, hF⟩ := MPL.facts (P := (PySem.Challenge.rw_slipsjoined_k63_unlike_tables_are_counte).prog) (w := w) KX G hmg c
    refine ⟨K, fd, MP.spE (MP.gdOf K) 1 (MP.lawM MPL.tu MPL.bl MPL.qs MPL.q_law), KX, hb, fun H a ns hl hO hS => ?_, fun base _ _ => hF base⟩
    obtain ⟨s', hs⟩ := MPL.math ns hl
    exact MP.law_sp rfl (Nat.le_trans hl (by decide)) hO hS hs
end
