import PyProof.Rows.All
import PyProof.EqLayable
import PyProof.StrBlockL
import KE.IntText
import PyProof.RangeIter
import HandS.ForMost
import HandS.ForExc
import HandS.ExcCtx
import HandS.HotCalls
import HandS.Wide
import HandS.TupAny
import HandS.IsInst
import HandS.ExcIs
import HandS.Conv
import HandS.Style
import HandS.Defaults
import HandS.Flow
import HandS.TryMany
import HandS.TupMul
import HandS.SortInts
import HandS.ExcField
import HandS.HeadHook2
import HandS.HeadEnd
import HandS.Head2
import HandS.SetFor
import HandS.Small
import KE.KExcSuper
import HandS.ExcInit
import HandS.HeadHook1
import KE.KStateDown
import HandS.HeadHook3
import PySem.Challenge.RW_slipsjoined_k24_one_answer_line_by_line
section
/-! MP, part a: the meaning of mini-Python on plain data. -/
namespace MP
open PySem

abbrev Key := Sum Int Str
/-- plain data -/
inductive D where
  | non | bl (b : Bool) | int (i : Int) | str (s : Str) | tup (xs : List D) | tuq (xs : List D) | lst (xs : List D) | dic (ks : List Key) (vs : List D)
  deriving Inhabited
/-- the program's error classes -/
inductive EC where
  | JoinError | BadLetters | BadNumber | BadKind | BadRenaming | BadTable | BadChart | BadPlace | BadFilling | BadLot | BadPlan | BadNamed | BadRecord
  | BadMove | BadText | TooMany | Unlike | NoChart | NoPlan
  deriving DecidableEq, Inhabited
/-- what the errors' fields are called -/
def fldOf : EC → Str
  | .BadMove => Str.ofString "at" | .BadText => Str.ofString "at" | .TooMany => Str.ofString "limit" | .Unlike => Str.ofString "filling" | .NoChart => Str.ofString "lot" | .NoPlan => Str.ofString "lots" | _ => Str.empty
/-- what a name may hold: data; a tracked list; a list of one's own; the same while it is looked at; a caught error; the script -/
inductive Val where
  | d (x : D) | ref (n : Nat) | own (xs : List D) | snap (xs : List D) | ownT (ks : List (List Key)) (xs : List D) | own2 (xss : List (List D)) | exc (c : EC) (x : Option D) | scr (ns : List Int)
  deriving Inhabited
abbrev Env := List (Option Val)
/-- the tracked lists -/
abbrev S := List (List D)
inductive R (α : Type) where
  | ok (a : α) (s : S) | exn (c : EC) (x : Option D) (s : S) | stuck
abbrev ME := Env → S → R Val
abbrev MT := Env → S → R Bool
abbrev ML := Env → S → R (List Val)
/-- how a statement ends -/
inductive F where
  | nxt (e : Env) (s : S) | ret (v : Val) (s : S) | brk (e : Env) (s : S) | cnt (e : Env) (s : S) | exn (c : EC) (x : Option D) (e : Env) (s : S) | stuck
abbrev MS := Env → S → F

def R.bind {α β : Type} (r : R α) (f : α → S → R β) : R β := match r with
  | .ok a s => f a s
  | .exn c x s => .exn c x s
  | .stuck => .stuck
@[simp] theorem R.bind_ok {α β : Type} (a : α) (s : S) (f : α → S → R β) : (R.ok a s).bind f = f a s := rfl
@[simp] theorem R.bind_exn {α β : Type} (c : EC) (x : Option D) (s : S) (f : α → S → R β) : (R.exn c x s : R α).bind f = .exn c x s := rfl
@[simp] theorem R.bind_stuck {α β : Type} (f : α → S → R β) : (R.stuck : R α).bind f = .stuck := rfl
def R.of {α : Type} (o : Option α) (s : S) : R α := match o with
  | some a => .ok a s
  | none => .stuck
@[simp] theorem R.of_some {α : Type} (a : α) (s : S) : R.of (some a) s = .ok a s := rfl
@[simp] theorem R.of_none {α : Type} (s : S) : R.of (none : Option α) s = .stuck := rfl

/-! ### reading -/
def rd (s : S) : Val → Option D
  | .d x => some x
  | .own xs => some (.lst xs)
  | .snap xs => some (.lst xs)
  | .ref n => (s[n]?).map .lst
  | .ownT _ _ => none
  | .own2 _ => none
  | .exc _ _ => none
  | .scr _ => none
@[simp] theorem rd_d (s : S) (x : D) : rd s (.d x) = some x := rfl
@[simp] theorem rd_own (s : S) (x : List D) : rd s (.own x) = some (.lst x) := rfl
@[simp] theorem rd_snap (s : S) (x : List D) : rd s (.snap x) = some (.lst x) := rfl
@[simp] theorem rd_ref (s : S) (n : Nat) : rd s (.ref n) = (s[n]?).map .lst := rfl

/-! ### operators on data -/
inductive Op where
  | add | sub | mul | fdiv | mod | pow | shl | shr | band | bor | bxor
  deriving DecidableEq
inductive Cmp where
  | lt | le | gt | ge | eq | ne | in_ | notin
  deriving DecidableEq
abbrev line : Nat := 16777216
def mulOk (i j : Int) : Bool := decide ((-(2 ^ 64) < i ∧ i < 2 ^ 64) ∨ (-(2 ^ 64) < j ∧ j < 2 ^ 64) ∨ (i.natAbs < 2 ^ 2000 ∧ j.natAbs < 2 ^ 2000))
def opI : Op → Int → Int → Option Int
  | .add, i, j => some (i + j)
  | .sub, i, j => some (i - j)
  | .mul, i, j => if mulOk i j then some (i * j) else none
  | .fdiv, i, j => if 0 < j ∧ j < 2 ^ 2000 then some (i / j) else none
  | .mod, i, j => if 0 < j then some (i % j) else none
  | .pow, i, j => if 0 ≤ j ∧ j ≤ 1000 ∧ i.natAbs < 2 ^ 64 then some (i ^ j.toNat) else none
  | .shl, i, j => if 0 ≤ j ∧ j ≤ 1000 ∧ i.natAbs < 2 ^ 64 then some (i * 2 ^ j.toNat) else none
  | .shr, i, j => if 0 ≤ j then some (i / 2 ^ j.toNat) else none
  | .band, i, j => some (Builtin.bitAnd i j)
  | .bor, i, j => some (Builtin.bitOr i j)
  | .bxor, i, j => some (Builtin.bitXor i j)
def strRep (a : Str) (k : Nat) : Str := ⟨(List.replicate k a.cps).foldl (· ++ ·) #[]⟩
def opD (o : Op) (x y : D) : Option D := match x, y with
  | .int i, .int j => (opI o i j).map .int
  | .str a, .str b => if o = .add ∧ a.length + b.length ≤ line then some (.str (a ++ b)) else none
  | .tuq a, .tuq b => if o = .add ∧ a.length + b.length ≤ line then some (.tuq (a ++ b)) else none
  | .tup a, .tup b => if o = .add ∧ a.length + b.length ≤ line then some (.tup (a ++ b)) else none
  | .lst a, .lst b => if o = .add ∧ a.length + b.length ≤ line then some (.lst (a ++ b)) else none
  | .tup a, .int k => if o = .mul ∧ 2 ≤ k ∧ k ≤ 1000 ∧ a ≠ [] ∧ a.length ≤ 1000 then some (.tup (List.replicate k.toNat a).flatten) else none
  | .str a, .int k => if o = .mul ∧ 1 ≤ k ∧ k ≤ 2048 ∧ 1 ≤ a.length ∧ a.length ≤ 2048 then some (.str (strRep a k.toNat)) else none
  | .lst a, .int k => if o = .mul ∧ -(2 ^ 63) ≤ k ∧ k < 2 ^ 63 ∧ a.length * k.toNat ≤ line then some (.lst (List.replicate k.toNat a).flatten) else none
  | _, _ => none

/-! ### equality -/
mutual
def D.py : D → PyData
  | .non => .none
  | .bl b => .bool b
  | .int i => .int i
  | .str s => .str s
  | .tup xs => .tuple (D.pys xs)
  | .tuq xs => .tuple (D.pys xs)
  | .lst xs => .list (D.pys xs)
  | .dic _ _ => .dict []
def D.pys : List D → List PyData
  | [] => []
  | x :: xs => D.py x :: D.pys xs
end
def eqD (x y : D) : Option Bool := match x, y with
  | .non, .non => some true
  | .int i, .int j => some (i == j)
  | .bl i, .bl j => some (i == j)
  | .str i, .str j => some (i == j)
  | .non, .int _ => some false
  | .non, .bl _ => some false
  | .non, .str _ => some false
  | .int _, .non => some false
  | .bl _, .non => some false
  | .str _, .non => some false
  | .int _, .str _ => some false
  | .str _, .int _ => some false
  | .bl _, .str _ => some false
  | .str _, .bl _ => some false
  | x, y => if SeqAt.shaped x.py && SeqAt.shaped y.py then some (PyData.eqv x.py y.py) else none
def flat : D → Bool
  | .non => true
  | .bl _ => true
  | .int _ => true
  | .str _ => true
  | _ => false
def eqF : D → D → Bool
  | .non, .non => true
  | .bl a, .bl b => a == b
  | .bl a, .int b => (if a then 1 else 0) == b
  | .int a, .bl b => a == (if b then 1 else 0)
  | .int a, .int b => a == b
  | .str a, .str b => a == b
  | _, _ => false
def items : D → Option (List D)
  | .tup xs => some xs
  | .tuq xs => some xs
  | .lst xs => some xs
  | _ => none
def inD (x y : D) : Option Bool := match items y with
  | some xs => if flat x && xs.all flat then some (xs.any fun y => eqF y x) else none
  | none => none
/-- x in y: also one sign in a text -/
def inS (x y : D) : Option Bool := match x, y with
  | .str a, .str z => (match a.cps.toList with
    | [c] => some (decide (c ∈ z.cps.toList))
    | _ => none)
  | x, y => inD x y
def cmpD (o : Cmp) (x y : D) : Option Bool := match o with
  | .eq => eqD x y
  | .ne => (eqD x y).map (!·)
  | .in_ => inS x y
  | .notin => (inD x y).map (!·)
  | .lt => match x, y with
    | .int i, .int j => some (decide (i < j))
    | _, _ => none
  | .le => match x, y with
    | .int i, .int j => some (decide (i ≤ j))
    | _, _ => none
  | .gt => match x, y with
    | .int i, .int j => some (decide (j < i))
    | _, _ => none
  | .ge => match x, y with
    | .int i, .int j => some (decide (j ≤ i))
    | _, _ => none

/-! ### items, slices -/
def ixN (n : Nat) (i : Int) : Option Nat := if 0 ≤ i then (if i < n then some i.toNat else none) else if -(n : Int) ≤ i then some (i + n).toNat else none
def atI {α : Type} (xs : List α) (i : Int) : Option α := (ixN xs.length i).bind fun j => xs[j]?
def sIx (n d : Nat) : Option Int → Nat
  | none => d
  | some v => if v < 0 then (v + (n : Int)).toNat else min v.toNat n
def cut {α : Type} (xs : List α) (lo hi : Option Int) : List α := (xs.drop (sIx xs.length 0 lo)).take (sIx xs.length xs.length hi - sIx xs.length 0 lo)
def ixD (x y : D) : Option D := match x, y with
  | .tup xs, .int i => atI xs i
  | .lst xs, .int i => atI xs i
  | .str z, .int i => if z.length ≤ line then (atI z.cps.toList i).map fun c => .str ⟨#[c]⟩ else none
  | _, _ => none
def ixV (s : S) (x y : Val) : Option Val := match x, y with
  | .scr ns, .d (.int i) => (atI ns i).map fun k => .d (.int k)
  | x, .d y => match rd s x with
    | some x => (ixD x y).map .d
    | none => none
  | _, _ => none
def slD (x : D) (lo hi : Option Int) : Option D := match x with
  | .tup xs => some (.tup (cut xs lo hi))
  | .lst xs => some (.lst (cut xs lo hi))
  | .str z => if z.length ≤ line then some (.str ⟨(cut z.cps.toList lo hi).toArray⟩) else none
  | _ => none
def revD : D → Option D
  | .tup xs => some (.tup xs.reverse)
  | .lst xs => some (.lst xs.reverse)
  | _ => none

/-! ### truth, built-ins -/
def truD : D → Option Bool
  | .non => some false
  | .bl b => some b
  | .int i => some (i != 0)
  | .str s => if s.length ≤ line then some ((s.length : Int) != 0) else none
  | .tup xs => some (!xs.isEmpty)
  | .tuq _ => none
  | .lst xs => some (!xs.isEmpty)
  | .dic _ _ => none
def truV (s : S) (v : Val) : Option Bool := match rd s v with
  | some x => truD x
  | none => none
/-- the types that isinstance may ask -/
inductive Ty where
  | int | bool | str | list | tuple | dict
  | ec (c : EC) | valueError
  deriving DecidableEq
def isTy : D → Ty → Bool
  | .int _, .int => true
  | .bl _, .int => true
  | .bl _, .bool => true
  | .str _, .str => true
  | .lst _, .list => true
  | .tup _, .tuple => true
  | .tuq _, .tuple => true
  | .dic _ _, .dict => true
  | _, _ => false
def isEx (c : EC) : Ty → Bool
  | .ec k => k == c || k == .JoinError
  | .valueError => true
  | _ => false
/-- a built-in class of data -/
def Ty.data : Ty → Bool
  | .ec _ => false
  | .valueError => false
  | _ => true
def isV (s : S) (v : Val) (t : Ty) : Option Bool := match v with
  | .exc c _ => if t.data then none else some (isEx c t)
  | v => if t.data then (rd s v).map (isTy · t) else none
def isVs (s : S) (v : Val) (ts : List Ty) : Option Bool := match v with
  | .exc c _ => if ts.any Ty.data then none else some (ts.any (isEx c))
  | v => if ts.all Ty.data then (rd s v).map fun x => ts.any (isTy x) else none
def intsD : List D → Option (List Int)
  | [] => some []
  | .int i :: r => (intsD r).map (i :: ·)
  | _ => none
def insI (i : Int) : List Int → List Int
  | [] => [i]
  | j :: r => if j < i then j :: insI i r else i :: j :: r
def sortI : List Int → List Int
  | [] => []
  | i :: r => insI i (sortI r)
def strsD : List D → Option (List Str)
  | [] => some []
  | .str i :: r => (strsD r).map (i :: ·)
  | _ => none
/-- built-ins of one value -/
inductive B1 where
  | len | int | bool | str | abs | tuple | list | sum | sorted | all | any | max | min
  deriving DecidableEq
def bools : List D → Option (List Bool)
  | [] => some []
  | .bl i :: r => (bools r).map (i :: ·)
  | _ => none
def maxI : List Int → Option Int
  | [] => none
  | i :: r => some (r.foldl (fun a b => if b > a then b else a) i)
def minI : List Int → Option Int
  | [] => none
  | i :: r => some (r.foldl (fun a b => if b < a then b else a) i)
def b1 (b : B1) (x : D) : Option D := match b with
  | .len => match x with
    | .str s => if s.length ≤ line then some (.int s.length) else none
    | .tup xs => some (.int xs.length)
    | .tuq xs => some (.int xs.length)
    | .lst xs => some (.int xs.length)
    | _ => none
  | .int => match x with
    | .int i => some (.int i)
    | .bl b => some (.int (if b then 1 else 0))
    | .str z => if z.length ≤ 640 then (PySem.intText? z).map .int else none
    | _ => none
  | .bool => match x with
    | .int i => some (.bl (i != 0))
    | .bl b => some (.bl b)
    | _ => none
  | .str => match x with
    | .int i => if i.natAbs.log2 < 1920 then some (.str (Str.ofString (toString i))) else none
    | _ => none
  | .abs => match x with
    | .int i => some (.int (if i < 0 then -i else i))
    | _ => none
  | .tuple => (items x).map .tup
  | .list => (items x).map .lst
  | .sum => match x with
    | .lst xs => (intsD xs).map fun ns => .int ns.sum
    | _ => none
  | .sorted => match items x with
    | some xs => (intsD xs).map fun ns => .lst ((sortI ns).map .int)
    | none => none
  | .all => match x with
    | .lst xs => (bools xs).map fun bs => .bl (bs.all id)
    | _ => none
  | .any => match x with
    | .lst xs => (bools xs).map fun bs => .bl (bs.any id)
    | _ => none
  | .max => match x with
    | .lst xs => match intsD xs with
      | some ns => (maxI ns).map .int
      | none => none
    | _ => none
  | .min => match x with
    | .lst xs => match intsD xs with
      | some ns => (minI ns).map .int
      | none => none
    | _ => none
def keyD : Key → D
  | .inl i => .int i
  | .inr z => .str z
def keysD (ks : List (List Key)) : List D := ks.map fun k => .tup (k.map keyD)
def b1V (b : B1) (s : S) (v : Val) : Option Val := match v with
  | .scr ns => if b = .len then some (.d (.int ns.length)) else none
  | .ownT ks _ => if b = .list then some (.d (.lst (keysD ks))) else none
  | v => match rd s v with
    | some x => (b1 b x).map .d
    | none => none

/-! ### expressions -/
def mCon (x : D) : ME := fun _ s => .ok (.d x) s
def mVar (i : Nat) : ME := fun e s => match e[i]? with
  | some (some (.own xs)) => .ok (.snap xs) s
  | some (some v) => .ok v s
  | _ => .stuck
/-- an expression's data -/
def mRd (a : ME) : Env → S → R D := fun e s => (a e s).bind fun v s => R.of (rd s v) s
def mBin (o : Op) (a b : ME) : ME := fun e s => (a e s).bind fun x s => (b e s).bind fun y s => match rd s x, rd s y with
  | some x, some y => R.of ((opD o x y).map .d) s
  | _, _ => .stuck
def mNeg (a : ME) : ME := fun e s => (a e s).bind fun x s => match x with
  | .d (.int i) => .ok (.d (.int (-i))) s
  | _ => .stuck
def mCmp (o : Cmp) (a b : ME) : MT := fun e s => (a e s).bind fun x s => (b e s).bind fun y s => match rd s x, rd s y with
  | some x, some y => R.of (cmpD o x y) s
  | _, _ => .stuck
/-- a < b < c -/
def mChain (o o' : Cmp) (a b c : ME) : MT := fun e s => (a e s).bind fun x s => (b e s).bind fun y s => match rd s x, rd s y with
  | some x, some y' => (R.of (cmpD o x y') s).bind fun k s => if k then (c e s).bind fun z s => (match rd s y, rd s z with
    | some y, some z => R.of (cmpD o' y z) s
    | _, _ => .stuck) else .ok false s
  | _, _ => .stuck
def mIsN (a : ME) : MT := fun e s => (a e s).bind fun x s => match x with
  | .d .non => .ok true s
  | .exc _ _ => .stuck
  | _ => .ok false s
def mNotN (a : ME) : MT := fun e s => (a e s).bind fun x s => match x with
  | .d .non => .ok false s
  | .exc _ _ => .stuck
  | _ => .ok true s
def mTru (a : ME) : MT := fun e s => (a e s).bind fun v s => R.of (truV s v) s
def mNot (t : MT) : MT := fun e s => (t e s).bind fun b s => .ok (!b) s
def mAnd (t u : MT) : MT := fun e s => (t e s).bind fun b s => if b then u e s else .ok false s
def mOr (t u : MT) : MT := fun e s => (t e s).bind fun b s => if b then .ok true s else u e s
/-- a test's value -/
def mBl (t : MT) : ME := fun e s => (t e s).bind fun b s => .ok (.d (.bl b)) s
def mAndV (a b : ME) : ME := fun e s => (a e s).bind fun v s => match v with
  | .d (.bl true) => b e s
  | .d (.bl false) => .ok (.d (.bl false)) s
  | _ => .stuck
def mOrV (a b : ME) : ME := fun e s => (a e s).bind fun v s => match v with
  | .d (.bl true) => .ok (.d (.bl true)) s
  | .d (.bl false) => b e s
  | _ => .stuck
def mIfE (t : MT) (a b : ME) : ME := fun e s => (t e s).bind fun k s => if k then a e s else b e s
def mNil : ML := fun _ s => .ok [] s
def mCons (a : ME) (r : ML) : ML := fun e s => (a e s).bind fun v s => (r e s).bind fun vs s => .ok (v :: vs) s
def datas : List Val → Option (List D)
  | [] => some []
  | .d x :: r => (datas r).map (x :: ·)
  | _ => none
def rds (s : S) : List Val → Option (List D)
  | [] => some []
  | v :: r => match rd s v with
    | some x => (rds s r).map (x :: ·)
    | none => none
def mTup (l : ML) : ME := fun e s => (l e s).bind fun vs s => match datas vs with
  | some xs => if xs.length ≤ line then .ok (.d (.tup xs)) s else .stuck
  | none => .stuck
/-- a tuple whose own dict is known to be none -/
def mTuq (l : ML) : ME := fun e s => (l e s).bind fun vs s => match datas vs with
  | some xs => if xs.length ≤ line then .ok (.d (.tuq xs)) s else .stuck
  | none => .stuck
def mLst (l : ML) : ME := fun e s => (l e s).bind fun vs s => match datas vs with
  | some xs => if xs.length ≤ line then .ok (.d (.lst xs)) s else .stuck
  | none => .stuck
def mDic0 : ME := fun _ s => .ok (.d (.dic [] [])) s
def mIx (a b : ME) : ME := fun e s => (a e s).bind fun x s => (b e s).bind fun y s => R.of (ixV s x y) s
def mOpt (a : Option ME) : Env → S → R (Option Int) := fun e s => match a with
  | none => .ok none s
  | some a => (a e s).bind fun x s => match x with
    | .d (.int i) => .ok (some i) s
    | _ => .stuck
def mSl (a : ME) (lo hi : Option ME) : ME := fun e s => (a e s).bind fun x s => (mOpt lo e s).bind fun l s => (mOpt hi e s).bind fun h s => match rd s x with
  | some x => R.of ((slD x l h).map .d) s
  | none => .stuck
def mRev (a : ME) : ME := fun e s => (a e s).bind fun x s => match rd s x with
  | some x => R.of ((revD x).map .d) s
  | none => .stuck
def mB1 (b : B1) (a : ME) : ME := fun e s => (a e s).bind fun x s => R.of (b1V b s x) s
def mMin2 (a b : ME) : ME := fun e s => (a e s).bind fun x s => (b e s).bind fun y s => match x, y with
  | .d (.int i), .d (.int j) => .ok (.d (.int (if j < i then j else i))) s
  | _, _ => .stuck
def mMax2 (a b : ME) : ME := fun e s => (a e s).bind fun x s => (b e s).bind fun y s => match x, y with
  | .d (.int i), .d (.int j) => .ok (.d (.int (if j > i then j else i))) s
  | _, _ => .stuck
def mIsI (a : ME) (t : Ty) : MT := fun e s => (a e s).bind fun x s => R.of (isV s x t) s
def mIsIs (a : ME) (ts : List Ty) : MT := fun e s => (a e s).bind fun x s => R.of (isVs s x ts) s
/-- the words of a written text -/
def mJoin (sep : ME) (a : ME) : ME := fun e s => (sep e s).bind fun z s => match z with
  | .d (.str z) => (a e s).bind fun x s => (match rd s x with
    | some x => (match items x with
      | some xs => (match strsD xs with
        | some ys => if (ys.map (·.length)).sum + ys.length * z.length ≤ line then .ok (.d (.str (Txt.join z ys))) s else .stuck
        | none => .stuck)
      | none => .stuck)
    | none => .stuck)
  | _ => .stuck
def mSplit (a b : ME) : ME := fun e s => (a e s).bind fun x s => match x with
  | .d (.str x) => (b e s).bind fun y s => (match y with
    | .d (.str y) => if (y.length == 0) = false ∧ x.length + 2 ≤ line ∧ (Txt.split x y).length ≤ line then .ok (.d (.lst ((Txt.split x y).map .str))) s else .stuck
    | _ => .stuck)
  | _ => .stuck
def mWords (a : ME) : ME := fun e s => (a e s).bind fun x s => match x with
  | .d (.str x) => if x.length + 2 ≤ line ∧ (Txt.words x).length ≤ line then .ok (.d (.lst ((Txt.words x).map .str))) s else .stuck
  | _ => .stuck

/-- x.count(i), ints -/
def mCount (a b : ME) : ME := fun e s => (a e s).bind fun x s => match x with
  | .d (.tuq xs) => (b e s).bind fun y s => (match y with
    | .d (.int i) => (match intsD xs with
      | some ns => .ok (.d (.int (ns.count i : Nat))) s
      | none => .stuck)
    | _ => .stuck)
  | _ => .stuck
/-- a table of the module, by texts -/
def mTab (kvs : List (Str × D)) (a : ME) : ME := fun e s => (a e s).bind fun x s => match x with
  | .d (.str z) => (match kvs.lookup z with
    | some y => .ok (.d y) s
    | none => .stuck)
  | _ => .stuck

/-! ### what is walked -/
abbrev MI := Env → S → R (List D)
def rangeI (lo : Int) : Nat → List D
  | 0 => []
  | n + 1 => .int lo :: rangeI (lo + 1) n
/-- what is walked: items, signs -/
def itItems : D → Option (List D)
  | .str z => if z.length ≤ line then some (z.cps.toList.map fun c => .str ⟨#[c]⟩) else none
  | x => items x
def mItV (a : ME) : MI := fun e s => (a e s).bind fun x s => match x with
  | .d x => R.of (itItems x) s
  | _ => .stuck
def rgOk (i j : Int) : Bool := decide (-(2 ^ 62) ≤ i ∧ i < 2 ^ 62 ∧ -(2 ^ 62) ≤ j ∧ j < 2 ^ 62 ∧ j - i ≤ line)
def mRg1 (a : ME) : MI := fun e s => (a e s).bind fun x s => match x with
  | .d (.int j) => if rgOk 0 j then .ok (rangeI 0 j.toNat) s else .stuck
  | _ => .stuck
def mRg2 (a b : ME) : MI := fun e s => (a e s).bind fun x s => (b e s).bind fun y s => match x, y with
  | .d (.int i), .d (.int j) => if rgOk i j then .ok (rangeI i (j - i).toNat) s else .stuck
  | _, _ => .stuck
def rangeC (lo c : Int) : Nat → List D
  | 0 => []
  | n + 1 => .int lo :: rangeC (lo + c) c n
/-- range with a step -/
def mRg3 (a b c : ME) : MI := fun e s => (a e s).bind fun x s => (b e s).bind fun y s => (c e s).bind fun z s => match x, y, z with
  | .d (.int i), .d (.int j), .d (.int k) => if k ≠ 0 ∧ k.natAbs < 1073741824 ∧ Builtin.Range.small i j k = true ∧ 0 ≤ Builtin.Range.rangeSize i j k ∧ Builtin.Range.rangeSize i j k ≤ (line : Nat) then .ok (rangeC i k (Builtin.Range.rangeSize i j k).toNat) s else .stuck
  | _, _, _ => .stuck
/-- tuple(range(..)), list(range(..)) -/
def mTupI (i : MI) : ME := fun e s => (i e s).bind fun xs s => .ok (.d (.tup xs)) s
def mLstI (i : MI) : ME := fun e s => (i e s).bind fun xs s => .ok (.d (.lst xs)) s

/-! ### targets, comprehensions -/
/-- a target: a name; names that a tuple is parted to -/
inductive Tg where
  | nm (i : Nat) | tp (is : List Nat)
def tgSlots : Tg → List Nat
  | .nm i => [i]
  | .tp is => is
def setMany (e : Env) : List Nat → List D → Env
  | i :: is, x :: xs => setMany (e.set i (some (.d x))) is xs
  | _, _ => e
def tgSet (t : Tg) (x : D) (e : Env) : Option Env := match t with
  | .nm i => some (e.set i (some (.d x)))
  | .tp is => match x with
    | .tup xs => if xs.length = is.length then some (setMany e is xs) else none
    | _ => none
def wipe (e : Env) : List Nat → Env
  | [] => e
  | v :: vs => (wipe e vs).set v none
/-- the turns of a comprehension; e: the slots of its own names forgotten -/
def lcGo (e : Env) (tg : Tg) (t : MT) (m : ME) : List D → List D → S → R (List D)
  | [], acc, s => .ok acc s
  | x :: xs, acc, s => match tgSet tg x e with
    | some e2 => (match t e2 s with
      | .ok true s => (match m e2 s with
        | .ok (.d y) s => lcGo e tg t m xs (acc ++ [y]) s
        | _ => .stuck)
      | .ok false s => lcGo e tg t m xs acc s
      | _ => .stuck)
    | none => .stuck
def mLc (own : List Nat) (tg : Tg) (it : MI) (t : MT) (m : ME) : ME := fun e s => (it e s).bind fun xs s => (lcGo (wipe e own) tg t m xs [] s).bind fun ys s => .ok (.d (.lst ys)) s
def mYes : MT := fun _ s => .ok true s

/-! ### statements -/
def mSeq (a b : MS) : MS := fun e s => match a e s with
  | .nxt e s => b e s
  | r => r
def mPass : MS := fun e s => .nxt e s
def mBrk : MS := fun e s => .brk e s
def mCnt : MS := fun e s => .cnt e s
/-- on with the value of an expression -/
def R.go (r : R Val) (e : Env) (f : Val → S → F) : F := match r with
  | .ok v s => f v s
  | .exn c x s => .exn c x e s
  | .stuck => .stuck
def R.goT (r : R Bool) (e : Env) (f : Bool → S → F) : F := match r with
  | .ok v s => f v s
  | .exn c x s => .exn c x e s
  | .stuck => .stuck
@[simp] theorem R.go_ok (v : Val) (s : S) (e : Env) (f : Val → S → F) : (R.ok v s).go e f = f v s := rfl
@[simp] theorem R.go_exn (c : EC) (x : Option D) (s : S) (e : Env) (f : Val → S → F) : (R.exn c x s).go e f = .exn c x e s := rfl
@[simp] theorem R.go_stuck (e : Env) (f : Val → S → F) : R.stuck.go e f = .stuck := rfl
@[simp] theorem R.goT_ok (v : Bool) (s : S) (e : Env) (f : Bool → S → F) : (R.ok v s).goT e f = f v s := rfl
@[simp] theorem R.goT_exn (c : EC) (x : Option D) (s : S) (e : Env) (f : Bool → S → F) : (R.exn c x s).goT e f = .exn c x e s := rfl
@[simp] theorem R.goT_stuck (e : Env) (f : Bool → S → F) : R.stuck.goT e f = .stuck := rfl
/-- x = e -/
def mAsg (i : Nat) (a : ME) : MS := fun e s => (a e s).go e fun v s => match v with
  | .d x => .nxt (e.set i (some (.d x))) s
  | .ref n => .nxt (e.set i (some (.ref n))) s
  | _ => .stuck
/-- x = e, e a new list, x's own -/
def mAsgO (i : Nat) (a : ME) : MS := fun e s => (a e s).go e fun v s => match v with
  | .d (.lst xs) => .nxt (e.set i (some (.own xs))) s
  | _ => .stuck
/-- a, b = e (a tuple) -/
def mAsgT (is : List Nat) (a : ME) : MS := fun e s => (a e s).go e fun v s => match v with
  | .d x => (match tgSet (.tp is) x e with
    | some e => .nxt e s
    | none => .stuck)
  | _ => .stuck
/-- x += e, ints -/
def mAug (i : Nat) (o : Op) (a : ME) : MS := fun e s => match e[i]? with
  | some (some (.d (.int k))) => (a e s).go e fun v s => (match v with
    | .d (.int l) => (match opI o k l with
      | some m => .nxt (e.set i (some (.d (.int m)))) s
      | none => .stuck)
    | _ => .stuck)
  | _ => .stuck
def mIf (t : MT) (a b : MS) : MS := fun e s => (t e s).goT e fun k s => if k then a e s else b e s
def mExpr (a : ME) : MS := fun e s => (a e s).go e fun _ s => .nxt e s
def mRet (a : ME) : MS := fun e s => (a e s).go e fun v s => match v with
  | .d x => .ret (.d x) s
  | .ref n => .ret (.ref n) s
  | .snap xs => .ret (.d (.lst xs)) s
  | _ => .stuck
def frees : List Val → Option (List D)
  | [] => some []
  | .d x :: r => (frees r).map (x :: ·)
  | .snap xs :: r => (frees r).map (.lst xs :: ·)
  | _ => none
/-- return [..], tracked from now on -/
def mRetL (l : ML) : MS := fun e s => match l e s with
  | .ok vs s => (match frees vs with
    | some xs => if xs.length ≤ line then .ret (.ref s.length) (s ++ [xs]) else .stuck
    | none => .stuck)
  | .exn c x s => .exn c x e s
  | .stuck => .stuck
def mRetN : MS := fun _ s => .ret (.d .non) s
def mRaise (c : EC) : MS := fun e s => .exn c none e s
def mRaiseX (c : EC) (a : ME) : MS := fun e s => (a e s).go e fun v s => match v with
  | .d x => .exn c (some x) e s
  | _ => .stuck
def forGo (tg : Tg) (b : MS) : List D → Env → S → F
  | [], e, s => .nxt e s
  | x :: xs, e, s => match tgSet tg x e with
    | some e => (match b e s with
      | .nxt e s => forGo tg b xs e s
      | .cnt e s => forGo tg b xs e s
      | .brk e s => .nxt e s
      | r => r)
    | none => .stuck
def mFor (tg : Tg) (it : MI) (b : MS) : MS := fun e s => match it e s with
  | .ok xs s => forGo tg b xs e s
  | .exn c x s => .exn c x e s
  | .stuck => .stuck
def whileGo (t : MT) (b : MS) : Nat → Env → S → F
  | 0, _, _ => .stuck
  | n + 1, e, s => (t e s).goT e fun k s => if k then (match b e s with
      | .nxt e s => whileGo t b n e s
      | .cnt e s => whileGo t b n e s
      | .brk e s => .nxt e s
      | r => r) else .nxt e s
/-- x.append(e), x's own -/
def mApp (i : Nat) (a : ME) : MS := fun e s => match e[i]? with
  | some (some (.own xs)) => (a e s).go e fun v s => (match v with
    | .d x => if xs.length < line then .nxt (e.set i (some (.own (xs ++ [x])))) s else .stuck
    | _ => .stuck)
  | _ => .stuck
/-- x.extend(e), x's own -/
def mExt (i : Nat) (a : ME) : MS := fun e s => match e[i]? with
  | some (some (.own xs)) => (a e s).go e fun v s => (match rd s v with
    | some (.lst ys) => if xs.length + ys.length ≤ line then .nxt (e.set i (some (.own (xs ++ ys)))) s else .stuck
    | _ => .stuck)
  | _ => .stuck
def mClr (i : Nat) : MS := fun e s => match e[i]? with
  | some (some (.own _)) => .nxt (e.set i (some (.own []))) s
  | _ => .stuck
/-- what is taken out at a place, what is left -/
def popN (xs : List D) (k : Int) : Option (D × List D) := match ixN xs.length k with
  | some m => (match xs[m]? with
    | some y => some (y, xs.eraseIdx m)
    | none => none)
  | none => none
/-- y = x.pop(e), x's own; what follows -/
def mPop (j : Nat) (a : ME) (f : D → MS) : MS := fun e s => match e[j]? with
  | some (some (.own xs)) => (a e s).go e fun v s => (match v with
    | .d (.int k) => if -(2 ^ 62) < k ∧ k < 2 ^ 62 then (match popN xs k with
      | some (y, ys) => f y (e.set j (some (.own ys))) s
      | none => .stuck) else .stuck
    | _ => .stuck)
  | _ => .stuck
def mPopA (i j : Nat) (a : ME) : MS := mPop j a fun y => fun e s => .nxt (e.set i (some (.d y))) s
def mPopE (j : Nat) (a : ME) : MS := mPop j a fun _ => fun e s => .nxt e s
def mPopP (r j : Nat) (a : ME) : MS := fun e s => match e[r]? with
  | some (some (.own _)) => mPop j a (fun y => fun e s => match e[r]? with
    | some (some (.own zs)) => if zs.length < line then .nxt (e.set r (some (.own (zs ++ [y])))) s else .stuck
    | _ => .stuck) e s
  | _ => .stuck
/-- x = {}, x's own -/
def mAsgE (i : Nat) : MS := fun e s => .nxt (e.set i (some (.ownT [] []))) s
def keyOfD : D → Option Key
  | .int i => some (.inl i)
  | .str z => some (.inr z)
  | _ => none
def keysOfD : List D → Option (List Key)
  | [] => some []
  | x :: r => match keyOfD x with
    | some k => (keysOfD r).map (k :: ·)
    | none => none
/-- a dict's entries after a store -/
def putT (ks : List (List Key)) (xs : List D) (k : List Key) (x : D) : List (List Key) × List D :=
  if ks.any (fun l => decide (l = k)) then (ks, (ks.zip xs).map fun q => if q.1 = k then x else q.2) else (ks ++ [k], xs ++ [x])
/-- x[tuple(e)] = v, x an own dict -/
def mSetT (i : Nat) (j a : ME) : MS := fun e s => (a e s).go e fun v s => match e[i]? with
  | some (some (.ownT ks xs)) => (j e s).go e fun k s => (match v, k with
    | .d x, .d (.lst ds) => (match keysOfD ds with
      | some k => if ks.length < line ∧ ds.length ≤ line then .nxt (e.set i (some (.ownT (putT ks xs k x).1 (putT ks xs k x).2))) s else .stuck
      | none => .stuck)
    | _, _ => .stuck)
  | _ => .stuck
/-- x[j] = e, x's own -/
def mSetO (i : Nat) (j a : ME) : MS := fun e s => (a e s).go e fun v s => match e[i]? with
  | some (some (.own xs)) => (j e s).go e fun k s => (match v, k with
    | .d x, .d (.int k) => (match ixN xs.length k with
      | some k => .nxt (e.set i (some (.own (xs.set k x)))) s
      | none => .stuck)
    | _, _ => .stuck)
  | _ => .stuck
/-- o[j] = e, o tracked -/
def mSetR (o j a : ME) : MS := fun e s => (a e s).go e fun v s => (o e s).go e fun r s => (j e s).go e fun k s => match v, r, k with
  | .d x, .ref n, .d (.int k) => (match s[n]? with
    | some xs => (match ixN xs.length k with
      | some k => .nxt e (s.set n (xs.set k x))
      | none => .stuck)
    | none => .stuck)
  | _, _, _ => .stuck
def unX (e : Env) : Env := e.map fun v => match v with
  | some (.exc _ _) => none
  | v => v
/-- the except clauses, one behind another: class, name, suite -/
def hdGo (k : EC) (x : Option D) (e : Env) (s : S) : List (Ty × Nat × MS) → F
  | [] => .exn k x e s
  | (c, n, h) :: r => if isEx k c then (match h (e.set n (some (.exc k x))) s with
      | .nxt e s => .nxt ((unX e).set n none) s
      | .brk e s => .brk ((unX e).set n none) s
      | .cnt e s => .cnt ((unX e).set n none) s
      | .ret (.exc _ _) _ => .stuck
      | .ret v s => .ret v s
      | _ => .stuck) else hdGo k x e s r
/-- try: body, except C as n: suite, .. -/
def mTry (b : MS) (hs : List (Ty × Nat × MS)) : MS := fun e s => match b e s with
  | .exn k x e s => hdGo k x e s hs
  | r => r
/-- e.f, e the handled error -/
def mFld (f : Str) (a : ME) : ME := fun e s => (a e s).bind fun v s => match v with
  | .exc c (some y) => if fldOf c = f then .ok (.d y) s else .stuck
  | _ => .stuck

/-! ### defs -/
inductive P where
  | ok (x : D) | fresh (xs : List D) | exn (c : EC) (x : Option D) | stuck
/-- what a def's name means: a def of data; a def that may turn the tracked lists; a def that is called while an error is handled -/
inductive FK where
  | pure (n : Nat) (f : List D → P) | eff (n : Nat) (f : List Val → S → R Val) | hot (n : Nat) (f : List Val → S → R Val) | none
mutual
def noL : D → Bool
  | .lst _ => false
  | .dic _ _ => false
  | .tup xs => noLs xs
  | .tuq xs => noLs xs
  | _ => true
def noLs : List D → Bool
  | [] => true
  | x :: xs => noL x && noLs xs
end
def initE (n : Nat) (vs : List Val) : Env := vs.map some ++ List.replicate (n - vs.length) none
def runP (n : Nat) (b : MS) (xs : List D) : P := match b (initE n (xs.map .d)) [] with
  | .ret (.ref n) s => (match s[n]? with
    | some xs => .fresh xs
    | none => .stuck)
  | .ret v s => (match rd s v with
    | some x => .ok x
    | none => .stuck)
  | .nxt _ _ => .ok .non
  | .exn c x _ _ => .exn c x
  | _ => .stuck
def runE (n : Nat) (b : MS) (vs : List Val) (s : S) : R Val := match b (initE n vs) s with
  | .ret v s => .ok v s
  | .nxt _ s => .ok (.d .non) s
  | .exn c x _ s => .exn c x s
  | _ => .stuck
def P.to (p : P) (s : S) : R Val := match p with
  | .ok x => .ok (.d x) s
  | .fresh xs => .ok (.d (.lst xs)) s
  | .exn c x => .exn c x s
  | .stuck => .stuck
def P.toL (p : P) (s : S) : R Val := match p with
  | .ok x => if noL x then .ok (.d x) s else .stuck
  | .fresh xs => if noLs xs then .ok (.d (.lst xs)) s else .stuck
  | .exn c none => .exn c none s
  | _ => .stuck
def frefs : List Val → Option (List Val)
  | [] => some []
  | .d x :: r => (frefs r).map (.d x :: ·)
  | .ref n :: r => (frefs r).map (.ref n :: ·)
  | .scr n :: r => (frefs r).map (.scr n :: ·)
  | _ => none
def isOwnV : Val → Bool
  | .own _ => true
  | .ownT _ _ => true
  | .own2 _ => true
  | .snap _ => true
  | _ => false
def mCall (f : FK) (l : ML) : ME := fun e s => (l e s).bind fun vs s => match f with
  | .pure n f => if vs.length = n then (match datas vs with
    | some xs => (f xs).to s
    | none => match rds s vs with
      | some xs => (f xs).toL s
      | none => .stuck) else .stuck
  | .eff n f => if vs.length = n then (match frefs vs with
    | some vs => f vs s
    | none => .stuck) else .stuck
  | _ => .stuck
/-- a call within an except suite -/
def mHot (f : FK) (l : ML) : ME := fun e s => (l e s).bind fun vs s => match f with
  | .hot n f => if vs.length = n ∧ vs.all (fun v => !isOwnV v) then (match f vs s with
    | .ok v s => .ok v s
    | _ => .stuck) else .stuck
  | _ => .stuck
end MP
end

section
set_option Elab.async false
set_option linter.all false
set_option maxRecDepth 100000
set_option maxHeartbeats 4000000
/-! MP, part b: how data lie in the heap; what an expression's reading is. -/
namespace MP
open PySem PySem.Spec PyProof.Rows L2

/-! ### data in the heap -/
mutual
def Rep (K : PySem.W.Frag) (N : Addr → Prop) (H : Hp) : D → V → Prop
  | .non, v => v = .non
  | .bl b, v => v = .bl b
  | .int i, v => v = .int i
  | .str x, v => v = .str x
  | .tup xs, v => ∃ p vs, v = .ref p ∧ SqT K H p vs ∧ vs.length ≤ line ∧ Reps K N H xs vs
  | .tuq xs, v => ∃ p vs, v = .ref p ∧ (∃ o : Obj, o.dict = none ∧ H p = some (.frz o (.tup vs))) ∧ vs.length ≤ line ∧ Reps K N H xs vs
  | .lst xs, v => ∃ p vs, v = .ref p ∧ ¬ N p ∧ H p = some (.lst vs) ∧ vs.length ≤ line ∧ Reps K N H xs vs
  | .dic ks us, v => ∃ p vs, v = .ref p ∧ ¬ N p ∧ H p = some (.dK (ks.zip vs)) ∧ vs.length = ks.length ∧ Reps K N H us vs
def Reps (K : PySem.W.Frag) (N : Addr → Prop) (H : Hp) : List D → List V → Prop
  | [], vs => vs = []
  | x :: xs, vs => ∃ v r, vs = v :: r ∧ Rep K N H x v ∧ Reps K N H xs r
end
section
variable {K : PySem.W.Frag} {N N' : Addr → Prop} {H H' : Hp}
theorem reps_iff : ∀ {xs : List D} {vs : List V}, Reps K N H xs vs ↔ (xs.length = vs.length ∧ ∀ (i : Nat) x v, xs[i]? = some x → vs[i]? = some v → Rep K N H x v)
  | [], vs => by
    unfold Reps
    constructor
    · rintro rfl; exact ⟨rfl, fun i x v h => by simp at h⟩
    · rintro ⟨h, _⟩; exact List.eq_nil_of_length_eq_zero h.symm
  | x :: xs, vs => by
    unfold Reps
    constructor
    · rintro ⟨v, r, rfl, h1, h2⟩
      obtain ⟨hl, hi⟩ := reps_iff.mp h2
      refine ⟨by simp [hl], fun i x' v' e1 e2 => ?_⟩
      cases i with
      | zero => simp at e1 e2; subst e1 e2; exact h1
      | succ i => exact hi i x' v' (by simpa using e1) (by simpa using e2)
    · rintro ⟨hl, hi⟩
      cases vs with
      | nil => simp at hl
      | cons v r => exact ⟨v, r, rfl, hi 0 x v (by simp) (by simp), reps_iff.mpr ⟨by simpa using hl, fun i x' v' e1 e2 => hi (i + 1) x' v' (by simpa using e1) (by simpa using e2)⟩⟩
theorem Reps.length {xs : List D} {vs : List V} (h : Reps K N H xs vs) : xs.length = vs.length := (reps_iff.mp h).1
theorem Reps.get {xs : List D} {vs : List V} (h : Reps K N H xs vs) {i : Nat} {x : D} (e : xs[i]? = some x) : ∃ v, vs[i]? = some v ∧ Rep K N H x v := by
  obtain ⟨hl, hi⟩ := reps_iff.mp h
  have hlt : i < vs.length := by rw [← hl]; exact (List.getElem?_eq_some_iff.mp e).1
  exact ⟨vs[i], List.getElem?_eq_getElem hlt, hi i x _ e (List.getElem?_eq_getElem hlt)⟩
theorem Reps.nil : Reps K N H [] [] := by unfold Reps; rfl
theorem Reps.cons {x : D} {v : V} {xs : List D} {vs : List V} (h : Rep K N H x v) (r : Reps K N H xs vs) : Reps K N H (x :: xs) (v :: vs) := by
  unfold Reps; exact ⟨v, vs, rfl, h, r⟩
theorem Reps.one {x : D} {v : V} (h : Rep K N H x v) : Reps K N H [x] [v] := .cons h .nil
theorem Reps.append {xs ys : List D} {vs us : List V} (h : Reps K N H xs vs) (h' : Reps K N H ys us) : Reps K N H (xs ++ ys) (vs ++ us) := by
  induction xs generalizing vs with
  | nil => unfold Reps at h; subst h; exact h'
  | cons x xs ih =>
    unfold Reps at h
    obtain ⟨v, r, rfl, h1, h2⟩ := h
    exact .cons h1 (ih h2)
theorem Reps.take {xs : List D} {vs : List V} (n : Nat) (h : Reps K N H xs vs) : Reps K N H (xs.take n) (vs.take n) := by
  obtain ⟨hl, hi⟩ := reps_iff.mp h
  refine reps_iff.mpr ⟨by simp [hl], fun i x v e1 e2 => ?_⟩
  rw [List.getElem?_take] at e1 e2
  split at e1
  · rename_i hlt
    rw [if_pos hlt] at e2
    exact hi i x v e1 e2
  · cases e1
theorem Reps.drop {xs : List D} {vs : List V} (n : Nat) (h : Reps K N H xs vs) : Reps K N H (xs.drop n) (vs.drop n) := by
  obtain ⟨hl, hi⟩ := reps_iff.mp h
  refine reps_iff.mpr ⟨by simp [hl], fun i x v e1 e2 => ?_⟩
  rw [List.getElem?_drop] at e1 e2
  exact hi _ x v e1 e2
theorem Reps.set {xs : List D} {vs : List V} {x : D} {v : V} (n : Nat) (h : Reps K N H xs vs) (r : Rep K N H x v) : Reps K N H (xs.set n x) (vs.set n v) := by
  obtain ⟨hl, hi⟩ := reps_iff.mp h
  refine reps_iff.mpr ⟨by simp [hl], fun i x' v' e1 e2 => ?_⟩
  rw [List.getElem?_set] at e1 e2
  by_cases hn : n = i
  · rw [if_pos hn] at e1 e2
    split at e1
    · rename_i hlt
      rw [if_pos (by rw [← hl]; exact hlt)] at e2
      cases e1; cases e2; exact r
    · cases e1
  · rw [if_neg hn] at e1 e2
    exact hi i x' v' e1 e2
theorem Reps.reverse {xs : List D} {vs : List V} (h : Reps K N H xs vs) : Reps K N H xs.reverse vs.reverse := by
  induction xs generalizing vs with
  | nil => unfold Reps at h; subst h; exact .nil
  | cons x xs ih =>
    unfold Reps at h
    obtain ⟨v, r, rfl, h1, h2⟩ := h
    rw [List.reverse_cons, List.reverse_cons]
    exact (ih h2).append (.one h1)
theorem Reps.rep {xs : List D} {vs : List V} (h : Reps K N H xs vs) : ∀ n, Reps K N H (List.replicate n xs).flatten (List.replicate n vs).flatten
  | 0 => .nil
  | n + 1 => by rw [List.replicate_succ, List.replicate_succ, List.flatten_cons, List.flatten_cons]; exact h.append (h.rep n)
theorem Reps.cut {xs : List D} {vs : List V} (h : Reps K N H xs vs) (lo hi : Option Int) : Reps K N H (cut xs lo hi) (cutV vs lo hi) := by
  have e : ∀ (n d : Nat) o, sIx n d o = HT.sIx n d o := fun n d o => by cases o <;> rfl
  unfold MP.cut cutV
  rw [h.length, e, e, ← e, e]
  exact (h.drop _).take _

/-! ### what lasts -/
/-- what is not tracked and not one's own stays; what is bad now was bad or is new -/
structure Last (N N' : Addr → Prop) (H H' : Hp) : Prop where
  keep : ∀ p o, H p = some o → ¬ N p → H' p = some o
  bad : ∀ p, N' p → N p ∨ H p = none
  mu : ∀ p, N p → ∃ o, H p = some o ∧ (∀ xs, o ≠ .tup xs) ∧ ∀ ob u, o ≠ .frz ob u
theorem SqT.last {p : Addr} {vs : List V} (L : Last N N' H H') (h : SqT K H p vs) : SqT K H' p vs := by
  rcases h with (h | ⟨o, h⟩) | h
  · refine .inl (.inl (L.keep p _ h fun hn => ?_))
    obtain ⟨o, e, ht, _⟩ := L.mu p hn
    rw [h] at e; cases e; exact ht _ rfl
  · refine .inl (.inr ⟨o, L.keep p _ h fun hn => ?_⟩)
    obtain ⟨o', e, _, hf⟩ := L.mu p hn
    rw [h] at e; cases e; exact hf _ _ rfl
  · exact .inr h
theorem frz.last {p : Addr} {o : Obj} {u : HO} (L : Last N N' H H') (h : H p = some (.frz o u)) : H' p = some (.frz o u) := by
  refine L.keep p _ h fun hn => ?_
  obtain ⟨o', e, _, hf⟩ := L.mu p hn
  rw [h] at e; cases e; exact hf _ _ rfl
mutual
theorem Rep.last (L : Last N N' H H') : ∀ (x : D) {v : V}, Rep K N H x v → Rep K N' H' x v
  | .non, v, h => by unfold Rep at *; exact h
  | .bl _, v, h => by unfold Rep at *; exact h
  | .int _, v, h => by unfold Rep at *; exact h
  | .str _, v, h => by unfold Rep at *; exact h
  | .tup xs, v, h => by
    unfold Rep at *
    obtain ⟨p, vs, e, h1, hz, h2⟩ := h
    exact ⟨p, vs, e, SqT.last L h1, hz, Reps.last L xs h2⟩
  | .tuq xs, v, h => by
    unfold Rep at *
    obtain ⟨p, vs, e, ⟨o, hd, h1⟩, hz, h2⟩ := h
    exact ⟨p, vs, e, ⟨o, hd, frz.last L h1⟩, hz, Reps.last L xs h2⟩
  | .lst xs, v, h => by
    unfold Rep at *
    obtain ⟨p, vs, e, hn, h1, hz, h2⟩ := h
    refine ⟨p, vs, e, fun z => ?_, L.keep p _ h1 hn, hz, Reps.last L xs h2⟩
    rcases L.bad p z with z | z
    · exact hn z
    · rw [z] at h1; cases h1
  | .dic ks us, v, h => by
    unfold Rep at *
    obtain ⟨p, vs, e, hn, h1, hz, h2⟩ := h
    refine ⟨p, vs, e, fun z => ?_, L.keep p _ h1 hn, hz, Reps.last L us h2⟩
    rcases L.bad p z with z | z
    · exact hn z
    · rw [z] at h1; cases h1
theorem Reps.last (L : Last N N' H H') : ∀ (xs : List D) {vs : List V}, Reps K N H xs vs → Reps K N' H' xs vs
  | [], vs, h => by unfold Reps at *; exact h
  | x :: xs, vs, h => by
    unfold Reps at *
    obtain ⟨v, r, e, h1, h2⟩ := h
    exact ⟨v, r, e, Rep.last L x h1, Reps.last L xs h2⟩
end
end

/-! ### the shape of a state -/
/-- α: where the tracked lists stand; B: what may turn behind the callers' backs (all tracked lists, the callers' own); O: this frame's own lists -/
structure Wd where
  α : List Addr
  B : Addr → Prop
  o : Addr → Option Addr
/-- one's own: a list (o p = some p) or a row of the list p (o q = some p) -/
abbrev Wd.O (w : Wd) : Addr → Prop := fun p => w.o p ≠ none
theorem Wd.top {w : Wd} {p q : Addr} (h : w.o p = some q) : w.O p := fun z => by rw [h] at z; cases z
abbrev Wd.N (w : Wd) : Addr → Prop := fun p => w.B p ∨ w.O p
/-- the error that is handled: where it stands, its class, its own dict -/
abbrev Hx := Option (Addr × EC × Option Addr)
abbrev EC.fld (c : EC) : Str := fldOf c
def Pay (K : PySem.W.Frag) (N : Addr → Prop) (H : Hp) (c : EC) (x : Option D) (d : Option Addr) : Prop := match x with
  | none => d = none
  | some y => ∃ p u, d = some p ∧ H p = some (.xd [(c.fld, u)]) ∧ ¬ N p ∧ Rep K N H y u
/-- what is fixed: the written part, the error classes' addresses, the error that is handled -/
structure Gd where
  K : PySem.W.Frag
  cA : EC → Addr
  hx : Hx
section
variable (G : Gd)
def Rows (K : PySem.W.Frag) (o : Addr → Option Addr) (N : Addr → Prop) (H : Hp) (p : Addr) : List (List D) → List V → Prop
  | [], vs => vs = []
  | xs :: xss, vs => ∃ q us r, vs = .ref q :: r ∧ o q = some p ∧ q ≠ p ∧ .ref q ∉ r ∧ H q = some (.lst us) ∧ us.length ≤ line ∧ Reps K N H xs us ∧ Rows K o N H p xss r
theorem Rows.map {K : PySem.W.Frag} {o o' : Addr → Option Addr} {N N' : Addr → Prop} {H H' : Hp} {p : Addr} (ho : ∀ q, o q = some p → o' q = some p) (hk : ∀ q u, o q = some p → H q = some u → H' q = some u)
    (hr : ∀ xs us, Reps K N H xs us → Reps K N' H' xs us) : ∀ {xss : List (List D)} {vs : List V}, Rows K o N H p xss vs → Rows K o' N' H' p xss vs
  | [], vs, h => h
  | xs :: xss, vs, h => by
    obtain ⟨q, us, r, e, h1, h2, h3, h4, h5, h6, h7⟩ := h
    exact ⟨q, us, r, e, ho q h1, h2, h3, hk q _ h1 h4, h5, hr _ _ h6, Rows.map ho hk hr h7⟩
theorem Rows.length {K : PySem.W.Frag} {o : Addr → Option Addr} {N : Addr → Prop} {H : Hp} {p : Addr} : ∀ {xss : List (List D)} {vs : List V}, Rows K o N H p xss vs → xss.length = vs.length
  | [], vs, h => by unfold Rows at h; subst h; rfl
  | xs :: xss, vs, h => by
    obtain ⟨q, us, r, e, h1, h2, h3, h4, h5, h6, h7⟩ := h
    subst e
    rw [List.length_cons, List.length_cons, Rows.length h7]
theorem Rows.get {K : PySem.W.Frag} {o : Addr → Option Addr} {N : Addr → Prop} {H : Hp} {p : Addr} : ∀ {xss : List (List D)} {vs : List V}, Rows K o N H p xss vs → ∀ {i : Nat} {xs : List D}, xss[i]? = some xs →
    ∃ q us, vs[i]? = some (.ref q) ∧ o q = some p ∧ q ≠ p ∧ H q = some (.lst us) ∧ us.length ≤ line ∧ Reps K N H xs us
  | [], vs, h, i, xs, e => by cases e
  | ys :: xss, vs, h, i, xs, e => by
    obtain ⟨q, us, r, e', h1, h2, h3, h4, h5, h6, h7⟩ := h
    subst e'
    cases i with
    | zero => cases e; exact ⟨q, us, rfl, h1, h2, h4, h5, h6⟩
    | succ i => exact Rows.get h7 e
/-- row i is put to -/
theorem Rows.put {K : PySem.W.Frag} {o : Addr → Option Addr} {N : Addr → Prop} {H H' : Hp} {p q : Addr} {us : List V} {xs : List D} (hq : H' q = some (.lst us)) (hz : us.length ≤ line) (hx : Reps K N H' xs us)
    (hk : ∀ r u, o r = some p → r ≠ q → H r = some u → H' r = some u) (hr : ∀ xs us, Reps K N H xs us → Reps K N H' xs us) : ∀ {xss : List (List D)} {vs : List V} {i : Nat}, Rows K o N H p xss vs → vs[i]? = some (.ref q) → Rows K o N H' p (xss.set i xs) vs := by
  have off : ∀ {xss : List (List D)} {vs : List V}, .ref q ∉ vs → Rows K o N H p xss vs → Rows K o N H' p xss vs := fun {xss} => by
    induction xss with
    | nil => exact fun _ h => h
    | cons ys xss ih =>
      intro vs hn h
      obtain ⟨a, us', r, e', h1, h2, h3, h4, h5, h6, h7⟩ := h
      subst e'
      rw [List.mem_cons, not_or] at hn
      exact ⟨a, us', r, rfl, h1, h2, h3, hk a _ h1 (fun z => hn.1 (by rw [z])) h4, h5, hr _ _ h6, ih hn.2 h7⟩
  intro xss
  induction xss with
  | nil => exact fun {vs i} h _ => h
  | cons ys xss ih =>
    intro vs i h e
    obtain ⟨a, us', r, e', h1, h2, h3, h4, h5, h6, h7⟩ := h
    subst e'
    cases i with
    | zero =>
      cases e
      exact ⟨q, us, r, rfl, h1, h2, h3, hq, hz, hx, off h3 h7⟩
    | succ i =>
      have hm : V.ref q ∈ r := List.mem_of_getElem? e
      have ha : a ≠ q := fun z => h3 (by rw [z]; exact hm)
      exact ⟨a, us', r, rfl, h1, h2, h3, hk a _ h1 ha h4, h5, hr _ _ h6, ih h7 e⟩
def SlotR (w : Wd) (H : Hp) : Val → V → Prop
  | .d x, v => Rep G.K w.N H x v
  | .ref n, v => ∃ p, w.α[n]? = some p ∧ v = .ref p
  | .own xs, v => ∃ p vs, v = .ref p ∧ w.o p = some p ∧ H p = some (.lst vs) ∧ vs.length ≤ line ∧ Reps G.K w.N H xs vs
  | .snap xs, v => ∃ p vs, v = .ref p ∧ w.o p = some p ∧ H p = some (.lst vs) ∧ vs.length ≤ line ∧ Reps G.K w.N H xs vs
  | .ownT ks xs, v => ∃ p kvs, v = .ref p ∧ w.o p = some p ∧ H p = some (.dT kvs) ∧ kvs.map (fun (q : List Key × V) => q.1) = ks ∧ (kvs.length ≤ line ∧ ∀ k ∈ ks, k.length ≤ line) ∧ Reps G.K w.N H xs (kvs.map fun (q : List Key × V) => q.2)
  | .own2 xss, v => ∃ p vs, v = .ref p ∧ w.o p = some p ∧ H p = some (.lst vs) ∧ vs.length ≤ line ∧ Rows G.K w.o w.N H p xss vs
  | .exc c x, v => ∃ a d, G.hx = some (a, c, d) ∧ v = .ref a ∧ Pay G.K w.N H c x d
  | .scr ns, v => ∃ p, v = .ref p ∧ ((∃ o, H p = some (.frz o (.lst (ns.map V.int)))) ∨ SqL G.K (fun _ => none) p (ns.map V.int)) ∧ ns.length ≤ line
structure Ok (w : Wd) (s : S) (H : Hp) : Prop where
  nd : w.α.Nodup
  len : w.α.length = s.length
  cells : ∀ (n : Nat) xs p, s[n]? = some xs → w.α[n]? = some p → ∃ vs, H p = some (.lst vs) ∧ vs.length ≤ line ∧ Reps G.K w.N H xs vs
  ab : ∀ p ∈ w.α, w.B p
  bo : ∀ p, w.B p → ¬ w.O p
  mu : ∀ p, w.N p → ∃ o, H p = some o ∧ (∀ xs, o ≠ .tup xs) ∧ ∀ ob u, o ≠ .frz ob u
def isOwn : Val → Bool
  | .own _ => true
  | .snap _ => true
  | .ownT _ _ => true
  | .own2 _ => true
  | _ => false
structure EnvR (w : Wd) (H : Hp) (e : Env) (σ : L2.St) : Prop where
  len : e.length = σ.length
  slot : ∀ (i : Nat) v, e[i]? = some (some v) → ∃ u, σ[i]? = some (some u) ∧ SlotR G w H v u
  sep : ∀ (i j : Nat) v v' u, i ≠ j → e[i]? = some (some v) → e[j]? = some (some v') → isOwn v = true → isOwn v' = true → σ[i]? = some (some u) → σ[j]? ≠ some (some u)
/-- what an expression may turn -/
structure Ext (w : Wd) (H : Hp) (w' : Wd) (H' : Hp) : Prop where
  al : ∃ l, w'.α = w.α ++ l ∧ ∀ p ∈ l, H p = none
  bm : ∀ p, w.B p → w'.B p
  bn : ∀ p, w'.B p → w.B p ∨ H p = none
  oo : w'.o = w.o
  keep : ∀ p o, H p = some o → p ∉ w.α → H' p = some o
end
section
variable {G : Gd} {w w1 w2 : Wd} {s s1 s2 : S} {H H1 H2 : Hp} {e : Env} {σ : L2.St}
theorem Ext.O (x : Ext w H w1 H1) (p : Addr) : w1.O p ↔ w.O p := by unfold Wd.O; rw [x.oo]
theorem Ext.refl : Ext w H w H := ⟨⟨[], by simp, by simp⟩, fun _ h => h, fun _ h => .inl h, rfl, fun _ _ h _ => h⟩
theorem Ok.cell (ok : Ok G w s H) {n : Nat} {p : Addr} (h : w.α[n]? = some p) : ∃ xs vs, s[n]? = some xs ∧ H p = some (.lst vs) ∧ vs.length ≤ line ∧ Reps G.K w.N H xs vs := by
  have hlt : n < s.length := by rw [← ok.len]; exact (List.getElem?_eq_some_iff.mp h).1
  obtain ⟨vs, h1, h2, h3⟩ := ok.cells n s[n] p (List.getElem?_eq_getElem hlt) h
  exact ⟨_, vs, List.getElem?_eq_getElem hlt, h1, h2, h3⟩
theorem Ok.at (ok : Ok G w s H) {p : Addr} (h : p ∈ w.α) : ∃ vs, H p = some (.lst vs) := by
  obtain ⟨n, hn⟩ := List.mem_iff_getElem?.mp h
  obtain ⟨_, vs, _, h1, _⟩ := ok.cell hn
  exact ⟨vs, h1⟩
theorem Ok.none_of (ok1 : Ok G w1 s1 H1) (x : Ext w H w1 H1) {p : Addr} (h : H1 p = none) : H p = none := by
  cases q : H p with
  | none => rfl
  | some o =>
    by_cases hp : p ∈ w.α
    · obtain ⟨l, hl, _⟩ := x.al
      obtain ⟨vs, e⟩ := ok1.at (p := p) (by rw [hl]; exact List.mem_append_left _ hp)
      rw [h] at e; cases e
    · rw [x.keep p o q hp] at h; cases h
theorem Ext.trans (a : Ext w H w1 H1) (ok1 : Ok G w1 s1 H1) (b : Ext w1 H1 w2 H2) : Ext w H w2 H2 := by
  obtain ⟨l, hl, nl⟩ := a.al
  obtain ⟨l2, hl2, nl2⟩ := b.al
  refine ⟨⟨l ++ l2, by rw [hl2, hl, List.append_assoc], fun p hp => ?_⟩, fun p h => b.bm p (a.bm p h), fun p h => ?_, b.oo.trans a.oo, fun p o h hp => b.keep p o (a.keep p o h hp) fun z => ?_⟩
  · rcases List.mem_append.mp hp with h | h
    · exact nl p h
    · exact ok1.none_of a (nl2 p h)
  · rcases b.bn p h with z | z
    · exact a.bn p z
    · exact .inr (ok1.none_of a z)
  · rw [hl] at z
    rcases List.mem_append.mp z with z | z
    · exact hp z
    · rw [nl p z] at h; cases h
theorem Ext.last (ok : Ok G w s H) (x : Ext w H w1 H1) : Last w.N w1.N H H1 := by
  refine ⟨fun p o h hn => x.keep p o h fun z => hn (.inl (ok.ab p z)), fun p h => ?_, ok.mu⟩
  rcases h with h | h
  · rcases x.bn p h with z | z
    · exact .inl (.inl z)
    · exact .inr z
  · exact .inl (.inr ((x.O p).mp h))
theorem Pay.last {N N' : Addr → Prop} {c : EC} {y : Option D} {d : Option Addr} (L : Last N N' H H1) (h : Pay G.K N H c y d) : Pay G.K N' H1 c y d := by
  unfold Pay at *
  cases y with
  | none => exact h
  | some y =>
    obtain ⟨p, u, e, h1, hn, h2⟩ := h
    refine ⟨p, u, e, L.keep p _ h1 hn, fun z => ?_, Rep.last L y h2⟩
    rcases L.bad p z with z | z
    · exact hn z
    · rw [z] at h1; cases h1
theorem SlotR.ext (ok : Ok G w s H) (x : Ext w H w1 H1) {v : Val} {u : V} (h : SlotR G w H v u) : SlotR G w1 H1 v u := by
  have L := x.last ok
  cases v with
  | d y => exact Rep.last L y h
  | ref n =>
    obtain ⟨p, e, r⟩ := h
    obtain ⟨l, hl, _⟩ := x.al
    refine ⟨p, ?_, r⟩
    rw [hl, List.getElem?_append_left (List.getElem?_eq_some_iff.mp e).1]
    exact e
  | own xs =>
    obtain ⟨p, vs, e, ho, h1, hz, h2⟩ := h
    exact ⟨p, vs, e, by rw [x.oo]; exact ho, x.keep p _ h1 fun z => ok.bo p (ok.ab p z) (Wd.top ho), hz, Reps.last L xs h2⟩
  | snap xs =>
    obtain ⟨p, vs, e, ho, h1, hz, h2⟩ := h
    exact ⟨p, vs, e, by rw [x.oo]; exact ho, x.keep p _ h1 fun z => ok.bo p (ok.ab p z) (Wd.top ho), hz, Reps.last L xs h2⟩
  | ownT ks xs =>
    obtain ⟨p, kvs, e, ho, h1, hk, hz, h2⟩ := h
    exact ⟨p, kvs, e, by rw [x.oo]; exact ho, x.keep p _ h1 fun z => ok.bo p (ok.ab p z) (Wd.top ho), hk, hz, Reps.last L xs h2⟩
  | own2 xss =>
    obtain ⟨p, vs, e, ho, h1, hz, h2⟩ := h
    exact ⟨p, vs, e, by rw [x.oo]; exact ho, x.keep p _ h1 fun z => ok.bo p (ok.ab p z) (Wd.top ho), hz,
      h2.map (fun q h => by rw [x.oo]; exact h) (fun q u h hq => x.keep q u hq fun z => ok.bo q (ok.ab q z) (Wd.top h)) fun xs us => Reps.last L xs⟩
  | exc c y =>
    obtain ⟨a, d, e, r, hp⟩ := h
    exact ⟨a, d, e, r, hp.last L⟩
  | scr ns =>
    obtain ⟨p, e, h1, hz⟩ := h
    refine ⟨p, e, ?_, hz⟩
    rcases h1 with ⟨o, h1⟩ | h1
    · exact .inl ⟨o, frz.last L h1⟩
    · exact .inr h1
theorem EnvR.ext (ok : Ok G w s H) (x : Ext w H w1 H1) (h : EnvR G w H e σ) : EnvR G w1 H1 e σ :=
  ⟨h.len, fun i v hv => let ⟨u, e, r⟩ := h.slot i v hv; ⟨u, e, r.ext ok x⟩, h.sep⟩

/-! ### an end -/
/-- how an error lies -/
def ExR (G : Gd) (w : Wd) (H : Hp) (c : EC) (x : Option D) (cls : Value) (d : Option Addr) : Prop := cls = .ref (G.cA c) ∧ Pay G.K w.N H c x d
def Post (G : Gd) (W : WX) {α β : Type} (rel : Wd → S → Hp → α → β → Prop) (w : Wd) (H : Hp) (σ : L2.St) (r : R α) (Q : β → Hp → Prop) : Prop := match r with
  | .ok v s' => ∀ w' H' u, Ext w H w' H' → Ok G w' s' H' → rel w' s' H' v u → Q u H'
  | .exn c x s' => ∀ w' H' cls d, Ext w H w' H' → Ok G w' s' H' → ExR G w' H' c x cls d → W cls d σ H'
  | .stuck => False
variable {W : WX} {α β α' β' : Type} {rel : Wd → S → Hp → α → β → Prop} {rel' : Wd → S → Hp → α' → β' → Prop}
theorem Post.mono {r : R α} {Q : β → Hp → Prop} (x : Ext w H w1 H1) (ok1 : Ok G w1 s1 H1) (h : Post G W rel w H σ r Q) : Post G W rel w1 H1 σ r Q := by
  cases r with
  | ok v s' => exact fun w' H' u e o r => h w' H' u (x.trans ok1 e) o r
  | exn c y s' => exact fun w' H' cls d e o r => h w' H' cls d (x.trans ok1 e) o r
  | stuck => exact h
theorem Post.bind {r : R α} {f : α → S → R α'} {Q : β' → Hp → Prop} {Q1 : β → Hp → Prop} (h : Post G W rel' w H σ (r.bind f) Q)
    (hQ : ∀ w1 s1 H1 v u, Ext w H w1 H1 → Ok G w1 s1 H1 → rel w1 s1 H1 v u → Post G W rel' w1 H1 σ (f v s1) Q → Q1 u H1) : Post G W rel w H σ r Q1 := by
  cases r with
  | ok v s' => exact fun w' H' u e o r => hQ w' s' H' v u e o r (Post.mono (r := f v s') e o h)
  | exn c y s' => exact h
  | stuck => exact h
/-- an end with the state as it is -/
theorem Post.here {v : α} {u : β} {Q : β → Hp → Prop} (ok : Ok G w s H) (h : Post G W rel w H σ (.ok v s) Q) (r : rel w s H v u) : Q u H := h w H u .refl ok r

abbrev relV (G : Gd) : Wd → S → Hp → Val → V → Prop := fun w _ H v u => SlotR G w H v u
abbrev relB : Wd → S → Hp → Bool → Bool → Prop := fun _ _ _ b c => b = c
theorem Post.hereV {v : Val} {u : V} {Q : V → Hp → Prop} (ok : Ok G w s H) (h : Post G W (relV G) w H σ (.ok v s) Q) (r : SlotR G w H v u) : Q u H := h w H u .refl ok r
theorem Post.hereD {v : D} {u : V} {Q : V → Hp → Prop} (ok : Ok G w s H) (h : Post G W (relV G) w H σ (.ok (.d v) s) Q) (r : Rep G.K w.N H v u) : Q u H := h w H u .refl ok r
theorem Post.hereB {v : Bool} {Q : Bool → Hp → Prop} (ok : Ok G w s H) (h : Post G W relB w H σ (.ok v s) Q) : Q v H := h w H v .refl ok rfl
def SlotRs (G : Gd) (w : Wd) (H : Hp) : List Val → List V → Prop
  | [], us => us = []
  | v :: vs, us => ∃ u r, us = u :: r ∧ SlotR G w H v u ∧ SlotRs G w H vs r
abbrev relL (G : Gd) : Wd → S → Hp → List Val → List V → Prop := fun w _ H v u => SlotRs G w H v u
theorem SlotRs.ext (ok : Ok G w s H) (x : Ext w H w1 H1) : ∀ {vs : List Val} {us : List V}, SlotRs G w H vs us → SlotRs G w1 H1 vs us
  | [], us, h => h
  | v :: vs, us, h => by
    obtain ⟨u, r, e, h1, h2⟩ := h
    exact ⟨u, r, e, h1.ext ok x, h2.ext ok x⟩
def tE (G : Gd) (W : WX) (m : ME) : TE := fun σ H Q => ∃ w s e, Ok G w s H ∧ EnvR G w H e σ ∧ Post G W (relV G) w H σ (m e s) Q
def tT (G : Gd) (W : WX) (m : MT) : TT := fun σ H Q => ∃ w s e, Ok G w s H ∧ EnvR G w H e σ ∧ Post G W relB w H σ (m e s) Q
def tL (G : Gd) (W : WX) (m : ML) : TA := fun σ H Q => ∃ w s e, Ok G w s H ∧ EnvR G w H e σ ∧ Post G W (relL G) w H σ (m e s) Q
end

/-! ### expressions -/
theorem impE {X : Cx} {e : Expr} {t t' : TE} (h : PE X e t) (i : ∀ σ H Q, t' σ H Q → t σ H Q) : PE X e t' := ⟨fun pins s σ H Q I q => h.run pins s σ H Q I (i σ H Q q)⟩
theorem impT {X : Cx} {e : Expr} {t t' : TT} (h : PT X e t) (i : ∀ σ H Q, t' σ H Q → t σ H Q) : PT X e t' := ⟨fun pins s σ H Q I q => h.run pins s σ H Q I (i σ H Q q)⟩
theorem impW {X : Cx} {e : Expr} {t t' : TT} (h : PW X e t) (i : ∀ σ H Q, t' σ H Q → t σ H Q) : PW X e t' := ⟨fun wh pins s σ H Q I q => h.run wh pins s σ H Q I (i σ H Q q)⟩
theorem impA {X : Cx} {e : List Expr} {t t' : TA} (h : PA X e t) (i : ∀ σ H Q, t' σ H Q → t σ H Q) : PA X e t' := ⟨fun p pins s σ H Q I q => h.run p pins s σ H Q I (i σ H Q q)⟩
section
variable {X : Cx} {G : Gd} {W : WX} {pos : Pos} {a b c : Expr} {ma mb mc : ME}
theorem rep_non {K : PySem.W.Frag} {N : Addr → Prop} {H : Hp} : Rep K N H .non .non := by unfold Rep; rfl
theorem rep_bl {K : PySem.W.Frag} {N : Addr → Prop} {H : Hp} (b : Bool) : Rep K N H (.bl b) (.bl b) := by unfold Rep; rfl
theorem rep_int {K : PySem.W.Frag} {N : Addr → Prop} {H : Hp} (i : Int) : Rep K N H (.int i) (.int i) := by unfold Rep; rfl
theorem rep_str {K : PySem.W.Frag} {N : Addr → Prop} {H : Hp} (x : Str) : Rep K N H (.str x) (.str x) := by unfold Rep; rfl
theorem s_int {i j pos} : PE X (.Constant (.int i) j pos) (tE G W (mCon (.int i))) := impE pe_int fun σ H Q ⟨w, s, e, ok, er, h⟩ => by
  show Q (.int i) H
  exact Post.hereD ok h (rep_int i)
theorem s_bl {i j pos} : PE X (.Constant (.bool i) j pos) (tE G W (mCon (.bl i))) := impE pe_bl fun σ H Q ⟨w, s, e, ok, er, h⟩ => by
  show Q (.bl i) H
  exact Post.hereD ok h (rep_bl i)
theorem s_str {i j pos} : PE X (.Constant (.str i) j pos) (tE G W (mCon (.str i))) := impE pe_str fun σ H Q ⟨w, s, e, ok, er, h⟩ => by
  show Q (.str i) H
  exact Post.hereD ok h (rep_str i)
theorem s_non {j pos} : PE X (.Constant .none j pos) (tE G W (mCon .non)) := impE pe_non fun σ H Q ⟨w, s, e, ok, er, h⟩ => by
  show Q .non H
  exact Post.hereD ok h (rep_non)
theorem s_var {i : Nat} {x : Str} (hN : X.N[i]? = some x) (hv : Vis X.env.scope x) (hd : (x == ("__debug__" : Str)) = false) (hcd : (x == ("__classdict__" : Str)) = false) : PE X (.Name x pos) (tE G W (mVar i)) := by
  refine impE (pe_var hN hv hd hcd) fun σ H Q ⟨w, s, e, ok, er, h⟩ => ?_
  unfold mVar at h
  cases q : e[i]? with
  | none => rw [q] at h; exact h.elim
  | some o =>
    cases o with
    | none => rw [q] at h; exact h.elim
    | some v =>
      rw [q] at h
      obtain ⟨u, eu, r⟩ := er.slot i v q
      refine ⟨u, eu, ?_⟩
      cases v with
      | own xs => exact Post.hereV (v := .snap xs) ok h r
      | d y => exact Post.hereV (v := .d y) ok h r
      | ref n => exact Post.hereV (v := .ref n) ok h r
      | snap y => exact Post.hereV (v := .snap y) ok h r
      | ownT y z => exact Post.hereV (v := .ownT y z) ok h r
      | own2 y => exact Post.hereV (v := .own2 y) ok h r
      | exc y z => exact Post.hereV (v := .exc y z) ok h r
      | scr y => exact Post.hereV (v := .scr y) ok h r
end

/-! ### operators -/
section
variable {G : Gd} {W : WX} {w w1 : Wd} {s s1 : S} {H H1 : Hp} {e : Env} {σ : L2.St}
def RdR (K : PySem.W.Frag) (N : Addr → Prop) (H : Hp) (x : D) (u : V) : Prop := match x with
  | .lst xs => ∃ p vs, u = .ref p ∧ H p = some (.lst vs) ∧ vs.length ≤ line ∧ Reps K N H xs vs
  | x => Rep K N H x u
theorem RdR.of_rep {K : PySem.W.Frag} {N : Addr → Prop} {x : D} {u : V} (h : Rep K N H x u) : RdR K N H x u := by
  cases x with
  | lst xs =>
    unfold Rep at h
    obtain ⟨p, vs, e, _, h1, hz, h2⟩ := h
    exact ⟨p, vs, e, h1, hz, h2⟩
  | _ => exact h
theorem rd_ok (ok : Ok G w s H) {v : Val} {u : V} {x : D} (r : SlotR G w H v u) (h : rd s v = some x) : RdR G.K w.N H x u := by
  cases v with
  | d y => cases h; exact RdR.of_rep r
  | ref n =>
    obtain ⟨p, e, rfl⟩ := r
    obtain ⟨xs, vs, hs, h1, hz, h2⟩ := ok.cell e
    rw [rd_ref, hs] at h
    cases h
    exact ⟨p, vs, rfl, h1, hz, h2⟩
  | own xs =>
    cases h
    obtain ⟨p, vs, e, _, h1, hz, h2⟩ := r
    exact ⟨p, vs, e, h1, hz, h2⟩
  | snap xs =>
    cases h
    obtain ⟨p, vs, e, _, h1, hz, h2⟩ := r
    exact ⟨p, vs, e, h1, hz, h2⟩
  | ownT _ _ => cases h
  | own2 _ => cases h
  | exc c y => cases h
  | scr ns => cases h
/-- more things stand -/
theorem Ok.grow (ok : Ok G w s H) (g : ∀ p o, H p = some o → H1 p = some o) : Ok G w s H1 ∧ Ext w H w H1 := by
  have x : Ext w H w H1 := ⟨⟨[], by simp, by simp⟩, fun _ h => h, fun _ h => .inl h, rfl, fun p o h _ => g p o h⟩
  refine ⟨⟨ok.nd, ok.len, fun n xs p h1 h2 => ?_, ok.ab, ok.bo, fun p h => ?_⟩, x⟩
  · obtain ⟨vs, e, hz, r⟩ := ok.cells n xs p h1 h2
    exact ⟨vs, g _ _ e, hz, Reps.last (x.last ok) xs r⟩
  · obtain ⟨o, e, h1, h2⟩ := ok.mu p h
    exact ⟨o, g _ _ e, h1, h2⟩
theorem grow_upd {p : Addr} {o : HO} (hn : H p = none) : ∀ q u, H q = some u → upd H p o q = some u := fun q u h => by
  rw [upd_ne (ne_of_none h hn)]; exact h
theorem Ok.notN (ok : Ok G w s H) {p : Addr} (hn : H p = none) : ¬ w.N p := fun h => by
  obtain ⟨o, e, _⟩ := ok.mu p h
  rw [hn] at e; cases e
theorem rep_tup {K : PySem.W.Frag} {N : Addr → Prop} {p : Addr} {xs : List D} {vs : List V} (h : SqT K H p vs) (hz : vs.length ≤ line) (r : Reps K N H xs vs) : Rep K N H (.tup xs) (.ref p) := by
  unfold Rep; exact ⟨p, vs, rfl, h, hz, r⟩
theorem rep_lst {K : PySem.W.Frag} {N : Addr → Prop} {p : Addr} {xs : List D} {vs : List V} (hn : ¬ N p) (h : H p = some (.lst vs)) (hz : vs.length ≤ line) (r : Reps K N H xs vs) : Rep K N H (.lst xs) (.ref p) := by
  unfold Rep; exact ⟨p, vs, rfl, hn, h, hz, r⟩
theorem Post.newT {xs : List D} {vs : List V} {Q : V → Hp → Prop} (ok : Ok G w s H) (h : Post G W (relV G) w H σ (.ok (.d (.tup xs)) s) Q) (r : Reps G.K w.N H xs vs) (hz : vs.length ≤ line) : ∀ p, H p = none → Q (.ref p) (upd H p (.tup vs)) := fun p hn => by
  obtain ⟨ok1, x⟩ := ok.grow (grow_upd (o := .tup vs) hn)
  exact h w _ (.ref p) x ok1 (rep_tup (.inl (.inl upd_same)) hz (Reps.last (x.last ok) xs r))
theorem Post.newL {xs : List D} {vs : List V} {Q : V → Hp → Prop} (ok : Ok G w s H) (h : Post G W (relV G) w H σ (.ok (.d (.lst xs)) s) Q) (r : Reps G.K w.N H xs vs) (hz : vs.length ≤ line) : ∀ p, H p = none → Q (.ref p) (upd H p (.lst vs)) := fun p hn => by
  obtain ⟨ok1, x⟩ := ok.grow (grow_upd (o := .lst vs) hn)
  exact h w _ (.ref p) x ok1 (rep_lst (ok.notN hn) upd_same hz (Reps.last (x.last ok) xs r))
theorem rep_tup_inv {K : PySem.W.Frag} {N : Addr → Prop} {xs : List D} {u : V} (h : RdR K N H (.tup xs) u) : ∃ p vs, u = .ref p ∧ SqT K H p vs ∧ vs.length ≤ line ∧ Reps K N H xs vs := by
  have h : Rep K N H (.tup xs) u := h
  unfold Rep at h; exact h
theorem rep_tuq {K : PySem.W.Frag} {N : Addr → Prop} {p : Addr} {xs : List D} {vs : List V} {o : Obj} (hd : o.dict = none) (h : H p = some (.frz o (.tup vs))) (hz : vs.length ≤ line) (r : Reps K N H xs vs) : Rep K N H (.tuq xs) (.ref p) := by
  unfold Rep; exact ⟨p, vs, rfl, ⟨o, hd, h⟩, hz, r⟩
theorem rep_tuq_inv {K : PySem.W.Frag} {N : Addr → Prop} {xs : List D} {u : V} (h : RdR K N H (.tuq xs) u) : ∃ p vs, u = .ref p ∧ (∃ o : Obj, o.dict = none ∧ H p = some (.frz o (.tup vs))) ∧ vs.length ≤ line ∧ Reps K N H xs vs := by
  have h : Rep K N H (.tuq xs) u := h
  unfold Rep at h; exact h
theorem Post.newQ {xs : List D} {vs : List V} {Q : V → Hp → Prop} (ok : Ok G w s H) (h : Post G W (relV G) w H σ (.ok (.d (.tuq xs)) s) Q) (r : Reps G.K w.N H xs vs) (hz : vs.length ≤ line) : ∀ (p : Addr) (o : Obj), H p = none → o.dict = none → Q (.ref p) (upd H p (.frz o (.tup vs))) := fun p o hn hd => by
  obtain ⟨ok1, x⟩ := ok.grow (grow_upd (o := .frz o (.tup vs)) hn)
  exact h w _ (.ref p) x ok1 (rep_tuq hd upd_same hz (Reps.last (x.last ok) xs r))
theorem int_inv {K : PySem.W.Frag} {N : Addr → Prop} {i : Int} {u : V} (h : RdR K N H (.int i) u) : u = .int i := by
  have h : Rep K N H (.int i) u := h
  unfold Rep at h; exact h
theorem str_inv {K : PySem.W.Frag} {N : Addr → Prop} {i : Str} {u : V} (h : RdR K N H (.str i) u) : u = .str i := by
  have h : Rep K N H (.str i) u := h
  unfold Rep at h; exact h
theorem bl_inv {K : PySem.W.Frag} {N : Addr → Prop} {i : Bool} {u : V} (h : RdR K N H (.bl i) u) : u = .bl i := by
  have h : Rep K N H (.bl i) u := h
  unfold Rep at h; exact h
theorem non_inv {K : PySem.W.Frag} {N : Addr → Prop} {u : V} (h : RdR K N H .non u) : u = .non := by
  have h : Rep K N H .non u := h
  unfold Rep at h; exact h

def Op.o : Op → Operator
  | .add => .Add | .sub => .Sub | .mul => .Mult | .fdiv => .FloorDiv | .mod => .Mod | .pow => .Pow | .shl => .LShift | .shr => .RShift | .band => .BitAnd | .bor => .BitOr | .bxor => .BitXor
/-- t + u of tuples whose own dict is known to be none -/
def rCatQ : R2 := fun x y H Q => ∃ a b xs ys o o', x = .ref a ∧ y = .ref b ∧ H a = some (.frz o (.tup xs)) ∧ H b = some (.frz o' (.tup ys)) ∧ xs.length + ys.length ≤ sizeLine ∧
  (xs = [] → Q (.ref b) H) ∧ (xs ≠ [] → ys = [] → Q (.ref a) H) ∧ (xs ≠ [] → ys ≠ [] → ∀ (q : Addr) (u : Obj), H q = none → u.dict = none → Q (.ref q) (upd H q (.frz u (.tup (xs ++ ys)))))
theorem op_catQ {X : Cx} : OpR X (binaryOp .Add) rCatQ := by
  intro pins s σ H x y v u Q I rx ry ⟨a, b, xs, ys, o, o', ex, ey, ha, hb, hz, q0, q1, q2⟩
  have ta : SqT X.K H a xs := .inl (.inr ⟨o, ha⟩)
  have tb : SqT X.K H b ys := .inl (.inr ⟨o', hb⟩)
  by_cases hx : xs = []
  · exact op_catA pins s σ H x y v u Q I rx ry ⟨a, b, xs, ys, ex, ey, ta, tb, hz, q0, fun z => absurd hx z, fun z => absurd hx z⟩
  · by_cases hy : ys = []
    · exact op_catA pins s σ H x y v u Q I rx ry ⟨a, b, xs, ys, ex, ey, ta, tb, hz, q0, q1, fun _ z => absurd hy z⟩
    · subst ex ey
      cases rx
      cases ry
      obtain ⟨ia, r1, t1, _⟩ := I.tuple ta
      obtain ⟨ib, r2, t2, _⟩ := I.tuple tb
      refine HT.cat_tup t1 t2 (fun z => hx (r1.nil_iff.mp z)) (fun z => absurd (r2.nil_iff.mp z) hy) (fun _ => ?_) (by rw [← r1.length, ← r2.length]; exact hz)
      have ho : ObjOk X.prog X.w H (s.heap.push { cls := .type "tuple", data := .seq (ia ++ ib).toArray }) s.heap.objs.size (.tup (xs ++ ys)) := ⟨by rw [List.length_append]; exact hz, _, r1.append r2, IsTup.new _ _⟩
      have J := I.laid (t' := s.toks) (o := .frz { cls := .type "tuple", data := .seq (ia ++ ib).toArray } (.tup (xs ++ ys))) (fun _ _ e => Heap.get?_push_of_some _ e) (Nat.le_refl _) ⟨Heap.get?_push_size _ rfl, ho⟩
      exact ⟨.ref s.heap.objs.size, _, J, rfl, q2 hx hy _ _ (I.hok.fresh (Nat.le_refl _)) rfl⟩
/-- a text some times over -/
def rRepS : R2 := fun x y H Q => ∃ a k, x = .str a ∧ y = .int k ∧ 1 ≤ k ∧ k ≤ 2048 ∧ 1 ≤ a.length ∧ a.length ≤ 2048 ∧ Q (.str (strRep a k.toNat)) H
theorem foldl_len {c : Array Nat} : ∀ (n : Nat) (acc : Array Nat), ((List.replicate n c).foldl (· ++ ·) acc).size = acc.size + n * c.size
  | 0, acc => by simp
  | n + 1, acc => by
    rw [List.replicate_succ, List.foldl_cons, foldl_len n, Array.size_append, Nat.succ_mul]; omega
theorem strRep_len (a : Str) (n : Nat) : (strRep a n).length = n * a.length := by
  have h := foldl_len (c := a.cps) n #[]
  have e : (#[] : Array Nat).size = 0 := rfl
  rw [e, Nat.zero_add] at h
  exact h
theorem strRep_one (a : Str) : strRep a 1 = a := by
  obtain ⟨c⟩ := a
  show (⟨#[] ++ c⟩ : Str) = ⟨c⟩
  simp
theorem op_repS {X : Cx} : OpR X (binaryOp .Mult) rRepS := by
  intro pins s σ H x y v u Q I rx ry ⟨a, k, ex, ey, h1, h2, h3, h4, q⟩
  subst ex ey
  obtain ⟨t, rfl⟩ := (show ∃ t, v = Value.str a t from rx)
  obtain ⟨t', rfl⟩ := (show ∃ t, u = Value.int k t from ry)
  have hk : k.toNat ≤ 2048 := by omega
  have hm : a.length * k.toNat ≤ 2048 * 2048 := Nat.mul_le_mul h4 hk
  have e1 : decide (k < -(2 ^ 63 : Int)) = false := decide_eq_false (by omega)
  have e2 : decide (k ≥ 2 ^ 63) = false := decide_eq_false (by omega)
  refine PySem.P.mul_str (by rw [e1, e2]; rfl) (fun _ _ h => ?_) (fun _ _ => ?_) ?_
  · have : (4096 : Int) ≤ (2 ^ 63 - 1) / k := by
      rw [Int.le_ediv_iff_mul_le (by omega)]
      omega
    have : (a.length : Int) ≤ 2048 := by exact_mod_cast h4
    omega
  · refine decide_eq_false ?_
    rw [sizeLine_eq]
    omega
  · rw [if_neg (by omega : ¬ k < 1)]
    split
    · rename_i hc
      rw [Bool.or_eq_true, beq_iff_eq, beq_iff_eq] at hc
      have hk1 : k = 1 := hc.resolve_right (by omega)
      subst hk1
      have q : Q (.str (strRep a 1)) H := q
      rw [strRep_one] at q
      exact ⟨.str a, H, I, ⟨t, rfl⟩, q⟩
    · refine ⟨?_, ⟨.str (strRep a k.toNat), H, I.tok _, ⟨_, rfl⟩, q⟩⟩
      show (strRep a k.toNat).length ≤ _
      rw [strRep_len, Nat.mul_comm]
      first | (rw [sizeLine_eq]; omega) | omega
/-- the operators' readings -/
def rO (K : PySem.W.Frag) : Op → R2
  | .add => fun x y H Q => (rI0 (fun i j => .int (i + j)) x y H Q ∨ (∃ i j, x = .str i ∧ y = .str j ∧ i.length + j.length ≤ sizeLine ∧ Q (.str (i ++ j)) H)) ∨ ((rCatA K x y H Q ∨ rCat x y H Q) ∨ rCatQ x y H Q)
  | .sub => rI0 fun i j => .int (i - j)
  | .mul => fun x y H Q => (rI CMul (fun i j => .int (i * j)) x y H Q ∨ rI CMulW (fun i j => .int (i * j)) x y H Q) ∨ ((rRep x y H Q ∨ rRepT K x y H Q) ∨ rRepS x y H Q)
  | .fdiv => rI CDivW fun i j => .int (i / j)
  | .mod => rI (fun _ j => 0 < j) fun i j => .int (i % j)
  | .pow => rI CPow fun i j => .int (i ^ j.toNat)
  | .shl => rI CPow fun i j => .int (i * 2 ^ j.toNat)
  | .shr => rI (fun _ j => 0 ≤ j) fun i j => .int (i / 2 ^ j.toNat)
  | .band => rI0 fun i j => .int (Builtin.bitAnd i j)
  | .bor => rI0 fun i j => .int (Builtin.bitOr i j)
  | .bxor => rI0 fun i j => .int (Builtin.bitXor i j)
theorem op_rO {X : Cx} : ∀ o : Op, OpR X (binaryOp o.o) (rO X.K o)
  | .add => (op_add.or op_add_str).or ((op_catA.or op_cat).or op_catQ)
  | .sub => op_sub
  | .mul => (op_mul.or op_mulW).or ((op_rep.or op_repT).or op_repS)
  | .fdiv => op_fdivW
  | .mod => op_mod
  | .pow => op_pow
  | .shl => op_shl
  | .shr => op_shr
  | .band => op_and
  | .bor => op_or
  | .bxor => op_xor
theorem line_eq : line = sizeLine := by rw [sizeLine_eq]
theorem opI_ok {o : Op} {i j k : Int} {Q : VK} (h : opI o i j = some k) (q : Q (.int k) H) : rO G.K o (.int i) (.int j) H Q := by
  cases o with
  | add => cases h; exact .inl (.inl ⟨i, j, rfl, rfl, q⟩)
  | sub => cases h; exact ⟨i, j, rfl, rfl, q⟩
  | mul =>
    have h : (if mulOk i j = true then some (i * j) else none) = some k := h
    split at h
    · rename_i hm
      cases h
      have hm : (-(2 ^ 64) < i ∧ i < 2 ^ 64) ∨ (-(2 ^ 64) < j ∧ j < 2 ^ 64) ∨ (i.natAbs < 2 ^ 2000 ∧ j.natAbs < 2 ^ 2000) := of_decide_eq_true hm
      rcases hm with hm | hm | hm
      · exact .inl (.inl ⟨i, j, rfl, rfl, .inl hm, q⟩)
      · exact .inl (.inl ⟨i, j, rfl, rfl, .inr hm, q⟩)
      · exact .inl (.inr ⟨i, j, rfl, rfl, wide_mul (a := 2000) (b := 2000) hm.1 hm.2 (by decide) (by decide) (by decide), q⟩)
    · cases h
  | fdiv =>
    have h : (if 0 < j ∧ j < 2 ^ 2000 then some (i / j) else none) = some k := h
    split at h
    · rename_i hm
      cases h
      have hb : j.natAbs < 2 ^ 2000 := by
        have h1 := hm.1
        have h2 := hm.2
        have e : ((j.natAbs : Nat) : Int) = j := Int.natAbs_of_nonneg (by omega)
        have h3 : ((j.natAbs : Nat) : Int) < ((2 ^ 2000 : Nat) : Int) := by rw [e]; exact_mod_cast h2
        exact Int.ofNat_lt.mp h3
      exact ⟨i, j, rfl, rfl, wide_div (b := 2000) hm.1 hb (by decide) (by decide), q⟩
    · cases h
  | mod =>
    have h : (if 0 < j then some (i % j) else none) = some k := h
    split at h
    · rename_i hm; cases h; exact ⟨i, j, rfl, rfl, hm, q⟩
    · cases h
  | pow =>
    have h : (if 0 ≤ j ∧ j ≤ 1000 ∧ i.natAbs < 2 ^ 64 then some (i ^ j.toNat) else none) = some k := h
    split at h
    · rename_i hm; cases h; exact ⟨i, j, rfl, rfl, ⟨hm.1, by omega, hm.2.2⟩, q⟩
    · cases h
  | shl =>
    have h : (if 0 ≤ j ∧ j ≤ 1000 ∧ i.natAbs < 2 ^ 64 then some (i * 2 ^ j.toNat) else none) = some k := h
    split at h
    · rename_i hm; cases h; exact ⟨i, j, rfl, rfl, ⟨hm.1, by omega, hm.2.2⟩, q⟩
    · cases h
  | shr =>
    have h : (if 0 ≤ j then some (i / 2 ^ j.toNat) else none) = some k := h
    split at h
    · rename_i hm; cases h; exact ⟨i, j, rfl, rfl, hm, q⟩
    · cases h
  | band => cases h; exact ⟨i, j, rfl, rfl, q⟩
  | bor => cases h; exact ⟨i, j, rfl, rfl, q⟩
  | bxor => cases h; exact ⟨i, j, rfl, rfl, q⟩
theorem bin_ok {o : Op} {x y z : D} {u u' : V} {Q : VK} (ok : Ok G w s H) (rx : RdR G.K w.N H x u) (ry : RdR G.K w.N H y u') (h : opD o x y = some z) (p : Post G W (relV G) w H σ (.ok (.d z) s) Q) : rO G.K o u u' H Q := by
  unfold opD at h
  split at h
  · rename_i i j
    cases q : opI o i j with
    | none => rw [q] at h; cases h
    | some k =>
      rw [q] at h; cases h
      rw [int_inv rx, int_inv ry]
      exact opI_ok q (Post.hereD ok p (rep_int k))
  · split at h
    · rename_i hc
      obtain ⟨rfl, hl⟩ := hc
      cases h
      rw [str_inv rx, str_inv ry]
      exact .inl (.inr ⟨_, _, rfl, rfl, by rw [← line_eq]; exact hl, Post.hereD ok p (rep_str _)⟩)
    · cases h
  · split at h
    · rename_i a b hc
      obtain ⟨rfl, hl⟩ := hc
      cases h
      obtain ⟨p1, v1, rfl, ⟨o1, d1, h1⟩, z1, r1⟩ := rep_tuq_inv rx
      obtain ⟨p2, v2, rfl, ⟨o2, d2, h2⟩, z2, r2⟩ := rep_tuq_inv ry
      have hl2 : (v1 ++ v2).length ≤ line := by rw [List.length_append, ← r1.length, ← r2.length]; exact hl
      refine .inr (.inr ⟨p1, p2, v1, v2, o1, o2, rfl, rfl, h1, h2, by rw [← line_eq, ← List.length_append]; exact hl2, fun hv => ?_, fun _ hv => ?_, fun _ _ => Post.newQ ok p (r1.append r2) hl2⟩)
      · subst hv
        have ea : a = [] := List.eq_nil_of_length_eq_zero (by rw [r1.length]; rfl)
        subst ea
        exact Post.hereD ok p (rep_tuq d2 h2 z2 r2)
      · subst hv
        have eb : b = [] := List.eq_nil_of_length_eq_zero (by rw [r2.length]; rfl)
        subst eb
        rw [List.append_nil] at p
        exact Post.hereD ok p (rep_tuq d1 h1 z1 r1)
    · cases h
  · split at h
    · rename_i a b hc
      obtain ⟨rfl, hl⟩ := hc
      cases h
      obtain ⟨p1, v1, rfl, h1, z1, r1⟩ := rep_tup_inv rx
      obtain ⟨p2, v2, rfl, h2, z2, r2⟩ := rep_tup_inv ry
      have hl2 : (v1 ++ v2).length ≤ line := by rw [List.length_append, ← r1.length, ← r2.length]; exact hl
      refine .inr (.inl (.inl ⟨p1, p2, v1, v2, rfl, rfl, h1, h2, by rw [← line_eq, ← List.length_append]; exact hl2, fun hv => ?_, fun _ hv => ?_, fun _ _ => Post.newT ok p (r1.append r2) hl2⟩))
      · subst hv
        have ea : a = [] := List.eq_nil_of_length_eq_zero (by rw [r1.length]; rfl)
        subst ea
        exact Post.hereD ok p (rep_tup h2 z2 r2)
      · subst hv
        have eb : b = [] := List.eq_nil_of_length_eq_zero (by rw [r2.length]; rfl)
        subst eb
        rw [List.append_nil] at p
        exact Post.hereD ok p (rep_tup h1 z1 r1)
    · cases h
  · split at h
    · rename_i a b hc
      obtain ⟨rfl, hl⟩ := hc
      cases h
      obtain ⟨p1, v1, rfl, h1, z1, r1⟩ := rx
      obtain ⟨p2, v2, rfl, h2, z2, r2⟩ := ry
      have hl2 : (v1 ++ v2).length ≤ line := by rw [List.length_append, ← r1.length, ← r2.length]; exact hl
      exact .inr (.inl (.inr ⟨p1, p2, v1, v2, rfl, rfl, h1, h2, by rw [← line_eq, ← List.length_append]; exact hl2, Post.newL ok p (r1.append r2) hl2⟩))
    · cases h
  · split at h
    · rename_i a k hc
      obtain ⟨rfl, hk1, hk2, hne, hl⟩ := hc
      cases h
      obtain ⟨p1, v1, rfl, h1, z1, r1⟩ := rep_tup_inv rx
      rw [int_inv ry]
      have hv : v1 ≠ [] := fun z => hne (List.eq_nil_of_length_eq_zero (by rw [r1.length, z]; rfl))
      have hl1 : v1.length ≤ 1000 := by rw [← r1.length]; exact hl
      have hl2 : (List.replicate k.toNat v1).flatten.length ≤ line := by
        rw [List.length_flatten, List.map_replicate, List.sum_replicate_nat]
        have h3 : k.toNat ≤ 1000 := by omega
        have h4 : k.toNat * v1.length ≤ 1000 * 1000 := Nat.mul_le_mul h3 hl1
        exact Nat.le_trans h4 (by decide)
      exact .inr (.inl (.inr ⟨p1, k, v1, rfl, rfl, h1, hv, hk1, hk2, hl1, Post.newT ok p (r1.rep _) hl2⟩))
    · cases h
  · split at h
    · rename_i a k hc
      obtain ⟨rfl, hk⟩ := hc
      cases h
      rw [str_inv rx, int_inv ry]
      exact .inr (.inr ⟨_, _, rfl, rfl, hk.1, hk.2.1, hk.2.2.1, hk.2.2.2, Post.hereD ok p (rep_str _)⟩)
    · cases h
  · split at h
    · rename_i a k hc
      obtain ⟨rfl, hk1, hk2, hl⟩ := hc
      cases h
      obtain ⟨p1, v1, rfl, h1, z1, r1⟩ := rx
      rw [int_inv ry]
      have hl1 : v1.length * k.toNat ≤ line := by rw [← r1.length]; exact hl
      have hl2 : (List.replicate k.toNat v1).flatten.length ≤ line := by
        rw [List.length_flatten, List.map_replicate, List.sum_replicate_nat, Nat.mul_comm]; exact hl1
      exact .inr (.inl (.inl ⟨p1, k, v1, rfl, rfl, h1, hk1, hk2, by rw [← line_eq]; exact hl1, Post.newL ok p (r1.rep _) hl2⟩))
    · cases h
  · cases h
variable {X : Cx} {a b c : Expr} {ma mb mc : ME} {pos : Pos}
theorem s_bin (hK : G.K = X.K) (o : Op) (ha : PE X a (tE G W ma)) (hb : PE X b (tE G W mb)) : PE X (.BinOp a o.o b pos) (tE G W (mBin o ma mb)) := by
  refine impE (pe_op (op_rO o) ha hb) fun σ H Q ⟨w, s, e, ok, er, h⟩ => ?_
  refine ⟨w, s, e, ok, er, Post.bind (rel := relV G) h fun w1 s1 H1 v u x1 ok1 r1 h1 => ⟨w1, s1, e, ok1, er.ext ok x1, Post.bind (rel := relV G) h1 fun w2 s2 H2 v' u' x2 ok2 r2 h2 => ?_⟩⟩
  have r1 := r1.ext ok1 x2
  rw [← hK]
  cases q1 : rd s2 v with
  | none => rw [q1] at h2; exact h2.elim
  | some x =>
    cases q2 : rd s2 v' with
    | none => rw [q1, q2] at h2; exact h2.elim
    | some y =>
      rw [q1, q2] at h2
      cases q3 : opD o x y with
      | none => simp only [q3] at h2; exact h2.elim
      | some z =>
        simp only [q3] at h2
        exact bin_ok ok2 (rd_ok ok2 r1 q1) (rd_ok ok2 r2 q2) q3 h2
end
end MP
end

section
set_option Elab.async false
set_option linter.all false
set_option maxRecDepth 100000
set_option maxHeartbeats 4000000
/-! MP, part c: comparisons, tests, displays, items, built-ins. -/
namespace MP
open PySem PySem.Spec PyProof.Rows L2

section
variable {G : Gd} {W : WX} {w w1 : Wd} {s s1 : S} {H H1 : Hp} {e : Env} {σ : L2.St}
mutual
theorem dp_of {K : PySem.W.Frag} {N : Addr → Prop} : ∀ (x : D) {u : V}, Rep K N H x u → x.py.canLay0 = true → Dp K H u x.py
  | .non, u, h, _ => by unfold Rep at h; subst h; exact .non
  | .bl _, u, h, _ => by unfold Rep at h; subst h; exact .bl _
  | .int _, u, h, _ => by unfold Rep at h; subst h; exact .int _
  | .str _, u, h, _ => by unfold Rep at h; subst h; exact .str _
  | .tup xs, u, h, c => by
    unfold Rep at h
    obtain ⟨p, vs, rfl, h1, _, h2⟩ := h
    unfold D.py at c ⊢
    exact .tup h1 (dps_of xs h2 (by simpa [PyData.canLay0] using c))
  | .tuq xs, u, h, c => by
    unfold Rep at h
    obtain ⟨p, vs, rfl, ⟨o, _, h1⟩, _, h2⟩ := h
    unfold D.py at c ⊢
    exact .tup (.inl (.inr ⟨o, h1⟩)) (dps_of xs h2 (by simpa [PyData.canLay0] using c))
  | .lst xs, u, h, c => by
    unfold Rep at h
    obtain ⟨p, vs, rfl, _, h1, _, h2⟩ := h
    unfold D.py at c ⊢
    exact .lst (.inl (.inl h1)) (dps_of xs h2 (by simpa [PyData.canLay0] using c))
  | .dic _ _, u, h, c => by unfold D.py at c; simp [PyData.canLay0] at c
theorem dps_of {K : PySem.W.Frag} {N : Addr → Prop} : ∀ (xs : List D) {us : List V}, Reps K N H xs us → PyData.canLayAll0 (D.pys xs) = true → DpAll K H us (D.pys xs)
  | [], us, h, _ => by unfold Reps at h; subst h; exact .nil
  | x :: xs, us, h, c => by
    unfold Reps at h
    obtain ⟨v, r, rfl, h1, h2⟩ := h
    unfold D.pys at c ⊢
    have c' : x.py.canLay0 = true ∧ PyData.canLayAll0 (D.pys xs) = true := by simpa [PyData.canLayAll0] using c
    exact .cons (dp_of x h1 c'.1) (dps_of xs h2 c'.2)
end
theorem dp_rd {K : PySem.W.Frag} {N : Addr → Prop} {x : D} {u : V} (h : RdR K N H x u) (c : SeqAt.shaped x.py = true) : Dp K H u x.py := by
  have c0 := SeqAt.canLay_of_shaped c
  cases x with
  | lst xs =>
    obtain ⟨p, vs, rfl, h1, _, h2⟩ := h
    unfold D.py at c0 ⊢
    exact .lst (.inl (.inl h1)) (dps_of xs h2 (by simpa [PyData.canLay0] using c0))
  | _ => exact dp_of (K := K) (N := N) (H := H) _ h c0
theorem flat_rep {K : PySem.W.Frag} {N : Addr → Prop} {x : D} {u : V} (h : RdR K N H x u) (f : flat x = true) : flatV u = true := by
  cases x with
  | non => rw [non_inv h]; rfl
  | bl b => rw [bl_inv h]; rfl
  | int i => rw [int_inv h]; rfl
  | str i => rw [str_inv h]; rfl
  | _ => cases f
theorem eqF_rep {K : PySem.W.Frag} {N : Addr → Prop} {x y : D} {u v : V} (hx : RdR K N H x u) (hy : RdR K N H y v) (fx : flat x = true) (fy : flat y = true) : eqV u v = eqF x y := by
  cases x with
  | non => rw [non_inv hx]; cases y with
    | non => rw [non_inv hy]; rfl
    | bl b => rw [bl_inv hy]; rfl
    | int i => rw [int_inv hy]; rfl
    | str i => rw [str_inv hy]; rfl
    | _ => cases fy
  | bl b => rw [bl_inv hx]; cases y with
    | non => rw [non_inv hy]; rfl
    | bl b => rw [bl_inv hy]; rfl
    | int i => rw [int_inv hy]; rfl
    | str i => rw [str_inv hy]; rfl
    | _ => cases fy
  | int i => rw [int_inv hx]; cases y with
    | non => rw [non_inv hy]; rfl
    | bl b => rw [bl_inv hy]; rfl
    | int i => rw [int_inv hy]; rfl
    | str i => rw [str_inv hy]; rfl
    | _ => cases fy
  | str i => rw [str_inv hx]; cases y with
    | non => rw [non_inv hy]; rfl
    | bl b => rw [bl_inv hy]; rfl
    | int i => rw [int_inv hy]; rfl
    | str i => rw [str_inv hy]; rfl
    | _ => cases fy
  | _ => cases fx
theorem flats_rep {K : PySem.W.Frag} {N : Addr → Prop} : ∀ {xs : List D} {us : List V}, Reps K N H xs us → xs.all flat = true → us.all flatV = true
  | [], us, h, _ => by unfold Reps at h; subst h; rfl
  | x :: xs, us, h, f => by
    unfold Reps at h
    obtain ⟨v, r, rfl, h1, h2⟩ := h
    rw [List.all_cons, Bool.and_eq_true] at f ⊢
    exact ⟨flat_rep (.of_rep h1) f.1, flats_rep h2 f.2⟩
theorem in_rep {K : PySem.W.Frag} {N : Addr → Prop} {x : D} {u : V} (hx : RdR K N H x u) (fx : flat x = true) : ∀ {xs : List D} {us : List V}, Reps K N H xs us → xs.all flat = true → inV u us = xs.any fun y => eqF y x
  | [], us, h, _ => by unfold Reps at h; subst h; rfl
  | y :: xs, us, h, f => by
    unfold Reps at h
    obtain ⟨v, r, rfl, h1, h2⟩ := h
    rw [List.all_cons, Bool.and_eq_true] at f
    have ih := in_rep hx fx h2 f.2
    unfold inV at ih ⊢
    rw [List.any_cons, List.any_cons, ih, eqF_rep (.of_rep h1) hx f.1 fx]
/-- a list or a tuple as it lies -/
theorem items_rep {K : PySem.W.Frag} {N : Addr → Prop} {y : D} {xs : List D} {u : V} (h : RdR K N H y u) (e : items y = some xs) : ∃ p vs, u = .ref p ∧ (SqL K H p vs ∨ SqT K H p vs) ∧ vs.length ≤ line ∧ Reps K N H xs vs := by
  cases y with
  | tup ys =>
    cases e
    obtain ⟨p, vs, e, h1, hz, h2⟩ := rep_tup_inv h
    exact ⟨p, vs, e, .inr h1, hz, h2⟩
  | tuq ys =>
    cases e
    obtain ⟨p, vs, e, ⟨o, _, h1⟩, hz, h2⟩ := rep_tuq_inv h
    exact ⟨p, vs, e, .inr (.inl (.inr ⟨o, h1⟩)), hz, h2⟩
  | lst ys =>
    cases e
    obtain ⟨p, vs, e, h1, hz, h2⟩ := h
    exact ⟨p, vs, e, .inl (.inl (.inl h1)), hz, h2⟩
  | _ => cases e

def Cmp.o : Cmp → CmpOp
  | .lt => .Lt | .le => .LtE | .gt => .Gt | .ge => .GtE | .eq => .Eq | .ne => .NotEq | .in_ => .In | .notin => .NotIn
def rC (K : PySem.W.Frag) : Cmp → R2
  | .lt => rI0 fun i j => .bl (decide (i < j))
  | .le => rI0 fun i j => .bl (decide (i ≤ j))
  | .gt => rI0 fun i j => .bl (decide (j < i))
  | .ge => rI0 fun i j => .bl (decide (j ≤ i))
  | .eq => fun x y H Q => rEq x y H Q ∨ rEqD K x y H Q
  | .ne => fun x y H Q => rNe x y H Q ∨ rNeD K x y H Q
  | .in_ => fun x y H Q => rIn K false x y H Q ∨ ∃ (c : Nat) (z : Str), x = .str ⟨#[c]⟩ ∧ y = .str z ∧ Q (.bl (decide (c ∈ z.cps.toList))) H
  | .notin => rIn K true
theorem op_rC {X : Cx} (hu : X.A.units + 64 < cLine) : ∀ o : Cmp, OpR X (compareOp o.o) (rC X.K o)
  | .lt => op_lt
  | .le => op_le
  | .gt => op_gt
  | .ge => op_ge
  | .eq => op_eq.or (op_eqD hu)
  | .ne => op_ne.or (op_neD hu)
  | .in_ => op_in_seq.or op_in_sign
  | .notin => op_notIn_seq
theorem eqD_ok {K : PySem.W.Frag} {N : Addr → Prop} {x y : D} {u v : V} {b : Bool} (hx : RdR K N H x u) (hy : RdR K N H y v) (h : eqD x y = some b) :
    (scal u v = true ∧ decide (u = v) = b) ∨ ∃ d e, Dp K H u d ∧ Dp K H v e ∧ SeqAt.shaped d = true ∧ SeqAt.shaped e = true ∧ PyData.eqv d e = b := by
  unfold eqD at h
  split at h
  case h_15 =>
    split at h
    · rename_i hs
      rw [Bool.and_eq_true] at hs
      cases h
      exact .inr ⟨_, _, dp_rd hx hs.1, dp_rd hy hs.2, hs.1, hs.2, rfl⟩
    · cases h
  all_goals
    refine .inl ?_
    cases h
    first
      | (rw [non_inv hx, non_inv hy]; exact ⟨rfl, rfl⟩)
      | (rw [int_inv hx, int_inv hy]; exact ⟨rfl, dec_int⟩)
      | (rw [bl_inv hx, bl_inv hy]; exact ⟨rfl, dec_bl⟩)
      | (rw [str_inv hx, str_inv hy]; exact ⟨rfl, dec_str⟩)
      | (rw [non_inv hx, int_inv hy]; exact ⟨rfl, rfl⟩)
      | (rw [non_inv hx, bl_inv hy]; exact ⟨rfl, rfl⟩)
      | (rw [non_inv hx, str_inv hy]; exact ⟨rfl, rfl⟩)
      | (rw [int_inv hx, non_inv hy]; exact ⟨rfl, rfl⟩)
      | (rw [bl_inv hx, non_inv hy]; exact ⟨rfl, rfl⟩)
      | (rw [str_inv hx, non_inv hy]; exact ⟨rfl, rfl⟩)
      | (rw [int_inv hx, str_inv hy]; exact ⟨rfl, rfl⟩)
      | (rw [str_inv hx, int_inv hy]; exact ⟨rfl, rfl⟩)
      | (rw [bl_inv hx, str_inv hy]; exact ⟨rfl, rfl⟩)
      | (rw [str_inv hx, bl_inv hy]; exact ⟨rfl, rfl⟩)
theorem inD_ok {K : PySem.W.Frag} {N : Addr → Prop} {x y : D} {u v : V} {b : Bool} (hx : RdR K N H x u) (hy : RdR K N H y v) (h : inD x y = some b) :
    ∃ p xs, v = .ref p ∧ (SqL K H p xs ∨ SqT K H p xs) ∧ flatV u = true ∧ xs.all flatV = true ∧ inV u xs = b := by
  unfold inD at h
  cases q : items y with
  | none => rw [q] at h; cases h
  | some xs =>
    rw [q] at h
    dsimp only at h
    split at h
    · rename_i hf
      rw [Bool.and_eq_true] at hf
      cases h
      obtain ⟨p, vs, e, h1, _, h2⟩ := items_rep hy q
      exact ⟨p, vs, e, h1, flat_rep hx hf.1, flats_rep h2 hf.2, in_rep hx hf.1 h2 hf.2⟩
    · cases h
theorem cmp_ok {o : Cmp} {x y : D} {u v : V} {b : Bool} {Q : VK} {K : PySem.W.Frag} {N : Addr → Prop} (hx : RdR K N H x u) (hy : RdR K N H y v) (h : cmpD o x y = some b) (q : Q (.bl b) H) : rC K o u v H Q := by
  cases o with
  | eq =>
    rcases eqD_ok hx hy h with ⟨h1, h2⟩ | ⟨d, e, h1, h2, h3, h4, h5⟩
    · exact .inl ⟨h1, by rw [h2]; exact q⟩
    · exact .inr ⟨d, e, h1, h2, h3, h4, by rw [h5]; exact q⟩
  | ne =>
    have h : (eqD x y).map (!·) = some b := h
    cases e : eqD x y with
    | none => rw [e] at h; cases h
    | some c =>
      rw [e] at h
      cases h
      rcases eqD_ok hx hy e with ⟨h1, h2⟩ | ⟨d, e, h1, h2, h3, h4, h5⟩
      · exact .inl ⟨h1, by rw [h2]; exact q⟩
      · exact .inr ⟨d, e, h1, h2, h3, h4, by rw [h5]; exact q⟩
  | in_ =>
    have h : inS x y = some b := h
    have seq : inD x y = some b → rC K .in_ u v H Q := fun h => by
      obtain ⟨p, xs, h1, h2, h3, h4, h5⟩ := inD_ok hx hy h
      refine .inl ⟨p, xs, h1, h2, h3, h4, ?_⟩
      simp only [Bool.false_eq_true, if_false, h5]
      exact q
    cases x with
    | str a =>
      cases y with
      | str z =>
        obtain ⟨cs⟩ := a
        cases e : cs.toList with
        | nil => simp [inS, e] at h
        | cons c0 r =>
          cases r with
          | cons c1 r => simp [inS, e] at h
          | nil =>
            have e4 := congrArg List.toArray e
            rw [Array.toArray_toList] at e4
            have e3 : cs = #[c0] := e4
            subst e3
            have h : some (decide (c0 ∈ z.cps.toList)) = some b := h
            cases h
            rw [str_inv hx, str_inv hy]
            exact .inr ⟨c0, z, rfl, rfl, q⟩
      | _ => exact seq h
    | _ => cases y <;> exact seq h
  | notin =>
    have h : (inD x y).map (!·) = some b := h
    cases e : inD x y with
    | none => rw [e] at h; cases h
    | some c =>
      rw [e] at h
      cases h
      obtain ⟨p, xs, h1, h2, h3, h4, h5⟩ := inD_ok hx hy e
      refine ⟨p, xs, h1, h2, h3, h4, ?_⟩
      simp only [if_true, h5]
      exact q
  | lt =>
    unfold cmpD at h
    dsimp only at h
    split at h
    · cases h; rw [int_inv hx, int_inv hy]; exact ⟨_, _, rfl, rfl, q⟩
    · cases h
  | le =>
    unfold cmpD at h
    dsimp only at h
    split at h
    · cases h; rw [int_inv hx, int_inv hy]; exact ⟨_, _, rfl, rfl, q⟩
    · cases h
  | gt =>
    unfold cmpD at h
    dsimp only at h
    split at h
    · cases h; rw [int_inv hx, int_inv hy]; exact ⟨_, _, rfl, rfl, q⟩
    · cases h
  | ge =>
    unfold cmpD at h
    dsimp only at h
    split at h
    · cases h; rw [int_inv hx, int_inv hy]; exact ⟨_, _, rfl, rfl, q⟩
    · cases h
end

section
variable {X : Cx} {G : Gd} {W : WX} {pos : Pos} {a b c : Expr} {ma mb mc : ME}
/-- two operands, then what is done with their data -/
theorem two {β β' : Type} {rel : Wd → S → Hp → β → β' → Prop} {R : V → V → Hp → Prop} {Qe : β' → Hp → Prop} {σ : L2.St} {H : Hp} {w : Wd} {s : S} {e : Env} {f : Val → Val → S → MP.R β}
    (ok : Ok G w s H) (er : EnvR G w H e σ) (h : Post G W rel w H σ ((ma e s).bind fun x s => (mb e s).bind fun y s => f x y s) Qe)
    (hf : ∀ w s H v v' u u', Ok G w s H → SlotR G w H v u → SlotR G w H v' u' → EnvR G w H e σ → Post G W rel w H σ (f v v' s) Qe → R u u' H) :
    tE G W ma σ H fun x H1 => tE G W mb σ H1 fun y H2 => R x y H2 :=
  ⟨w, s, e, ok, er, Post.bind (rel := relV G) h fun w1 s1 H1 v u x1 ok1 r1 h1 => ⟨w1, s1, e, ok1, er.ext ok x1, Post.bind (rel := relV G) h1 fun w2 s2 H2 v' u' x2 ok2 r2 h2 =>
    hf w2 s2 H2 v v' u u' ok2 (r1.ext ok1 x2) r2 ((er.ext ok x1).ext ok1 x2) h2⟩⟩
theorem one {β β' : Type} {rel : Wd → S → Hp → β → β' → Prop} {R : V → Hp → Prop} {Qe : β' → Hp → Prop} {σ : L2.St} {H : Hp} {w : Wd} {s : S} {e : Env} {f : Val → S → MP.R β}
    (ok : Ok G w s H) (er : EnvR G w H e σ) (h : Post G W rel w H σ ((ma e s).bind fun x s => f x s) Qe)
    (hf : ∀ w s H v u, Ok G w s H → SlotR G w H v u → EnvR G w H e σ → Post G W rel w H σ (f v s) Qe → R u H) : tE G W ma σ H fun x H1 => R x H1 :=
  ⟨w, s, e, ok, er, Post.bind (rel := relV G) h fun w1 s1 H1 v u x1 ok1 r1 h1 => hf w1 s1 H1 v u ok1 r1 (er.ext ok x1) h1⟩
theorem slot_d {w : Wd} {H : Hp} {x : D} {u : V} (r : SlotR G w H (.d x) u) : RdR G.K w.N H x u := RdR.of_rep r
theorem sl_bl {w : Wd} {H : Hp} (b : Bool) : SlotR G w H (.d (.bl b)) (.bl b) := rep_bl (K := G.K) (N := w.N) (H := H) b
theorem sl_int {w : Wd} {H : Hp} (b : Int) : SlotR G w H (.d (.int b)) (.int b) := rep_int (K := G.K) (N := w.N) (H := H) b
theorem one' {mt : MT} {β β' : Type} {rel : Wd → S → Hp → β → β' → Prop} {R : Bool → Hp → Prop} {Qe : β' → Hp → Prop} {σ : L2.St} {H : Hp} {w : Wd} {s : S} {e : Env} {f : Bool → S → MP.R β}
    (ok : Ok G w s H) (er : EnvR G w H e σ) (h : Post G W rel w H σ ((mt e s).bind fun x s => f x s) Qe)
    (hf : ∀ w s H v, Ok G w s H → EnvR G w H e σ → Post G W rel w H σ (f v s) Qe → R v H) : tT G W mt σ H fun x H1 => R x H1 :=
  ⟨w, s, e, ok, er, Post.bind (rel := relB) h fun w1 s1 H1 v u x1 ok1 r1 h1 => by subst r1; exact hf w1 s1 H1 v ok1 (er.ext ok x1) h1⟩
theorem rds_two {β : Type} {w : Wd} {s : S} {H : Hp} {σ : L2.St} {v v' : Val} {u u' : V} {f : D → D → MP.R β} {β' : Type} {rel : Wd → S → Hp → β → β' → Prop} {Q : β' → Hp → Prop} (ok : Ok G w s H) (r : SlotR G w H v u) (r' : SlotR G w H v' u')
    (h : Post G W rel w H σ (match rd s v, rd s v' with
      | some x, some y => f x y
      | _, _ => .stuck) Q) : ∃ x y, RdR G.K w.N H x u ∧ RdR G.K w.N H y u' ∧ Post G W rel w H σ (f x y) Q := by
  cases q1 : rd s v with
  | none => rw [q1] at h; exact h.elim
  | some x =>
    cases q2 : rd s v' with
    | none => rw [q1, q2] at h; exact h.elim
    | some y =>
      rw [q1, q2] at h
      exact ⟨x, y, rd_ok ok r q1, rd_ok ok r' q2, h⟩
theorem of_ok {β : Type} {w : Wd} {s : S} {H : Hp} {σ : L2.St} {o : Option β} {β' : Type} {rel : Wd → S → Hp → β → β' → Prop} {Q : β' → Hp → Prop} (h : Post G W rel w H σ (R.of o s) Q) : ∃ x, o = some x ∧ Post G W rel w H σ (.ok x s) Q := by
  cases o with
  | none => exact h.elim
  | some x => exact ⟨x, rfl, h⟩
theorem s_cmp (hK : G.K = X.K) (hu : X.A.units + 64 < cLine) (o : Cmp) (ha : PE X a (tE G W ma)) (hb : PE X b (tE G W mb)) (hm : behindInMarks o.o b = false) : PT X (.Compare a [o.o] [b] pos) (tT G W (mCmp o ma mb)) := by
  refine impT (pt_cmpR (op_rC hu o) ha hb hm) fun σ H Q ⟨w, s, e, ok, er, h⟩ => ?_
  refine two (W := W) (R := fun x y H => rC X.K o x y H fun x H' => ∃ k, x = .bl k ∧ Q k H') ok er h fun w s H v v' u u' ok r r' _ h => ?_
  obtain ⟨x, y, rx, ry, h⟩ := rds_two ok r r' h
  obtain ⟨k, e, h⟩ := of_ok h
  rw [← hK]
  exact cmp_ok rx ry e ⟨k, rfl, Post.hereB ok h⟩
theorem s_cmpV (hK : G.K = X.K) (hu : X.A.units + 64 < cLine) (o : Cmp) (ha : PE X a (tE G W ma)) (hb : PE X b (tE G W mb)) (hm : behindInMarks o.o b = false) : PE X (.Compare a [o.o] [b] pos) (tE G W (mBl (mCmp o ma mb))) := by
  refine impE (pe_cmpR (op_rC hu o) ha hb hm) fun σ H Q ⟨w, s, e, ok, er, h⟩ => ?_
  unfold mBl mCmp at h
  have h : Post G W (relV G) w H σ ((ma e s).bind fun x s => (mb e s).bind fun y s => (match rd s x, rd s y with
    | some x, some y => R.of (cmpD o x y) s
    | _, _ => .stuck).bind fun b s => .ok (.d (.bl b)) s) Q := by
    revert h
    cases ma e s with
    | ok v s => dsimp only [R.bind_ok]; cases mb e s <;> exact id
    | exn c x s => exact id
    | stuck => exact id
  refine two (W := W) (R := fun x y H => rC X.K o x y H Q) ok er h fun w s H v v' u u' ok r r' _ h => ?_
  cases q1 : rd s v with
  | none => rw [q1] at h; exact h.elim
  | some x =>
    cases q2 : rd s v' with
    | none => rw [q1, q2] at h; exact h.elim
    | some y =>
      rw [q1, q2] at h
      cases q3 : cmpD o x y with
      | none => simp only [q3] at h; exact h.elim
      | some k =>
        simp only [q3] at h
        rw [← hK]
        exact cmp_ok (rd_ok ok r q1) (rd_ok ok r' q2) q3 (Post.hereD ok h (rep_bl k))
theorem truD_ok {K : PySem.W.Frag} {N : Addr → Prop} {H : Hp} {x : D} {u : V} {k : Bool} (r : RdR K N H x u) (h : truD x = some k) : TruV K u H k := by
  have emp : ∀ {xs : List D} {vs : List V}, Reps K N H xs vs → (!xs.isEmpty) = !vs.isEmpty := fun {xs vs} r => by
    cases xs with
    | nil => unfold Reps at r; subst r; rfl
    | cons x xs => unfold Reps at r; obtain ⟨v, r, rfl, _, _⟩ := r; rfl
  cases x with
  | non => cases h; rw [non_inv r]; rfl
  | bl b => cases h; rw [bl_inv r]; rfl
  | int i => cases h; rw [int_inv r]; rfl
  | str x =>
    have h : (if x.length ≤ line then some ((x.length : Int) != 0) else none) = some k := h
    split at h
    · rename_i hl; cases h; rw [str_inv r]; exact ⟨by rw [← line_eq]; exact hl, rfl⟩
    · cases h
  | tup xs =>
    cases h
    obtain ⟨p, vs, rfl, h1, _, h2⟩ := rep_tup_inv r
    exact .inr (.inl ⟨vs, h1, emp h2⟩)
  | lst xs =>
    cases h
    obtain ⟨p, vs, rfl, h1, _, h2⟩ := r
    exact .inl ⟨vs, .inl (.inl h1), emp h2⟩
  | tuq xs => cases h
  | dic ks us => cases h
theorem truV_ok {w : Wd} {s : S} {H : Hp} {v : Val} {u : V} {k : Bool} (ok : Ok G w s H) (r : SlotR G w H v u) (h : truV s v = some k) : TruV G.K u H k := by
  unfold truV at h
  cases q : rd s v with
  | none => rw [q] at h; cases h
  | some x => rw [q] at h; exact truD_ok (rd_ok ok r q) h
theorem s_tru (hK : G.K = X.K) (ha : PE X a (tE G W ma)) (he : ∀ whole, isTrue a X.env whole = (do let v ← whole; standAt a.pos; holding [v] (truthy v))) : PT X a (tT G W (mTru ma)) := by
  refine impT (pt_truth ha he) fun σ H Q ⟨w, s, e, ok, er, h⟩ => ?_
  refine one (R := fun x H => ∃ k, TruV X.K x H k ∧ Q k H) ok er h fun w s H v u ok r _ h => ?_
  obtain ⟨k, e, h⟩ := of_ok h
  exact ⟨k, by rw [← hK]; exact truV_ok ok r e, Post.hereB ok h⟩
variable {ta tb : MT}
theorem s_not (ha : PT X a (tT G W ta)) : PT X (.UnaryOp .Not a pos) (tT G W (mNot ta)) := by
  refine impT (pt_not ha) fun σ H Q ⟨w, s, e, ok, er, h⟩ => ?_
  exact one' (R := fun x H => Q (!x) H) ok er h fun w s H v ok _ h => Post.hereB ok h
theorem s_and1 (ha : PT X a (tT G W ta)) : PW X (.BoolOp .And [a] pos) (tT G W ta) := pw_and1 ha
theorem s_or1 (ha : PT X a (tT G W ta)) : PW X (.BoolOp .Or [a] pos) (tT G W ta) := pw_or1 ha
theorem s_and {rest : List Expr} (ha : PT X a (tT G W ta)) (hb : PW X (.BoolOp .And (b :: rest) pos) (tT G W tb)) : PW X (.BoolOp .And (a :: b :: rest) pos) (tT G W (mAnd ta tb)) := by
  refine impW (pw_and ha hb) fun σ H Q ⟨w, s, e, ok, er, h⟩ => ?_
  refine one' (R := fun x H => if x = true then tT G W tb σ H Q else Q false H) ok er h fun w s H v ok er h => ?_
  cases v with
  | true => rw [if_pos rfl] at h ⊢; exact ⟨w, s, _, ok, er, h⟩
  | false => exact Post.hereB (v := false) ok h
theorem s_or {rest : List Expr} (ha : PT X a (tT G W ta)) (hb : PW X (.BoolOp .Or (b :: rest) pos) (tT G W tb)) : PW X (.BoolOp .Or (a :: b :: rest) pos) (tT G W (mOr ta tb)) := by
  refine impW (pw_or ha hb) fun σ H Q ⟨w, s, e, ok, er, h⟩ => ?_
  refine one' (R := fun x H => if x = true then Q true H else tT G W tb σ H Q) ok er h fun w s H v ok er h => ?_
  cases v with
  | true => exact Post.hereB (v := true) ok h
  | false =>
    rw [if_neg Bool.false_ne_true] at h ⊢
    exact ⟨w, s, _, ok, er, h⟩
theorem s_andV {rest : List Expr} (ha : PE X a (tE G W ma)) (hb : PE X (.BoolOp .And (b :: rest) pos) (tE G W mb)) : PE X (.BoolOp .And (a :: b :: rest) pos) (tE G W (mAndV ma mb)) := by
  refine impE (pe_and ha hb) fun σ H Q ⟨w, s, e, ok, er, h⟩ => ?_
  refine one (R := fun x H => ∃ c, x = .bl c ∧ if c = true then tE G W mb σ H Q else Q (.bl false) H) ok er h fun w s H v u ok r er h => ?_
  match v, h with
  | .d (.bl true), h => exact ⟨true, bl_inv (slot_d r), by rw [if_pos rfl]; exact ⟨w, s, _, ok, er, h⟩⟩
  | .d (.bl false), h => exact ⟨false, bl_inv (slot_d r), Post.hereD ok h (rep_bl false)⟩
theorem s_orV {rest : List Expr} (ha : PE X a (tE G W ma)) (hb : PE X (.BoolOp .Or (b :: rest) pos) (tE G W mb)) : PE X (.BoolOp .Or (a :: b :: rest) pos) (tE G W (mOrV ma mb)) := by
  refine impE (pe_or ha hb) fun σ H Q ⟨w, s, e, ok, er, h⟩ => ?_
  refine one (R := fun x H => ∃ c, x = .bl c ∧ if c = true then Q (.bl true) H else tE G W mb σ H Q) ok er h fun w s H v u ok r er h => ?_
  match v, h with
  | .d (.bl true), h => exact ⟨true, bl_inv (slot_d r), Post.hereD ok h (rep_bl true)⟩
  | .d (.bl false), h => exact ⟨false, bl_inv (slot_d r), by rw [if_neg Bool.false_ne_true]; exact ⟨w, s, _, ok, er, h⟩⟩
theorem s_notV (hK : G.K = X.K) (ha : PE X a (tE G W ma)) : PE X (.UnaryOp .Not a pos) (tE G W (mBl (mNot (mTru ma)))) := by
  refine impE (pe_notT ha) fun σ H Q ⟨w, s, e, ok, er, h⟩ => ?_
  have h : Post G W (relV G) w H σ ((ma e s).bind fun v s => (match truV s v with
    | some k => .ok (.d (.bl (!k))) s
    | none => .stuck)) Q := by
    revert h
    unfold mBl mNot mTru
    cases ma e s with
    | ok v s => dsimp only [R.bind_ok]; cases truV s v <;> exact id
    | exn c x s => exact id
    | stuck => exact id
  refine one (R := fun x H => ∃ k, TruV X.K x H k ∧ Q (.bl (!k)) H) ok er h fun w s H v u ok r _ h => ?_
  cases q : truV s v with
  | none => rw [q] at h; exact h.elim
  | some k =>
    rw [q] at h
    exact ⟨k, by rw [← hK]; exact truV_ok ok r q, Post.hereD ok h (rep_bl _)⟩
theorem s_ifE (hc : PT X c (tT G W ta)) (ha : PE X a (tE G W ma)) (hb : PE X b (tE G W mb)) : PE X (.IfExp c a b pos) (tE G W (mIfE ta ma mb)) := by
  refine impE (pe_ifExp hc ha hb) fun σ H Q ⟨w, s, e, ok, er, h⟩ => ?_
  refine one' (R := fun x H => if x = true then tE G W ma σ H Q else tE G W mb σ H Q) ok er h fun w s H v ok er h => ?_
  cases v with
  | true => rw [if_pos rfl] at h ⊢; exact ⟨w, s, _, ok, er, h⟩
  | false => rw [if_neg Bool.false_ne_true] at h ⊢; exact ⟨w, s, _, ok, er, h⟩
/-! ### is None -/
theorem isN_val {w : Wd} {H : Hp} {v : Val} {u : V} (r : SlotR G w H v u) : (v = .d .non → u = .non) ∧ (v ≠ .d .non → u ≠ .non) := by
  cases v with
  | d x =>
    cases x with
    | non => exact ⟨fun _ => non_inv (slot_d r), fun h => absurd rfl h⟩
    | bl b => exact ⟨(fun h => by cases h), fun _ => by rw [bl_inv (slot_d r)]; exact fun h => by cases h⟩
    | int b => exact ⟨(fun h => by cases h), fun _ => by rw [int_inv (slot_d r)]; exact fun h => by cases h⟩
    | str b => exact ⟨(fun h => by cases h), fun _ => by rw [str_inv (slot_d r)]; exact fun h => by cases h⟩
    | tup xs =>
      obtain ⟨p, vs, e, _⟩ := rep_tup_inv (slot_d r)
      exact ⟨(fun h => by cases h), fun _ => by rw [e]; exact fun h => by cases h⟩
    | tuq xs =>
      obtain ⟨p, vs, e, _⟩ := rep_tuq_inv (slot_d r)
      exact ⟨(fun h => by cases h), fun _ => by rw [e]; exact fun h => by cases h⟩
    | lst xs =>
      obtain ⟨p, vs, e, _⟩ := slot_d r
      exact ⟨(fun h => by cases h), fun _ => by rw [e]; exact fun h => by cases h⟩
    | dic ks us =>
      have r : Rep G.K w.N H (.dic ks us) u := r
      unfold Rep at r
      obtain ⟨p, vs, e, _⟩ := r
      exact ⟨(fun h => by cases h), fun _ => by rw [e]; exact fun h => by cases h⟩
  | ref n => obtain ⟨p, _, e⟩ := r; exact ⟨(fun h => by cases h), fun _ => by rw [e]; exact fun h => by cases h⟩
  | own xs => obtain ⟨p, vs, e, _⟩ := r; exact ⟨(fun h => by cases h), fun _ => by rw [e]; exact fun h => by cases h⟩
  | ownT ks xs => obtain ⟨p, vs, e, _⟩ := r; exact ⟨(fun h => by cases h), fun _ => by rw [e]; exact fun h => by cases h⟩
  | own2 xs => obtain ⟨p, vs, e, _⟩ := r; exact ⟨(fun h => by cases h), fun _ => by rw [e]; exact fun h => by cases h⟩
  | snap xs => obtain ⟨p, vs, e, _⟩ := r; exact ⟨(fun h => by cases h), fun _ => by rw [e]; exact fun h => by cases h⟩
  | exc c x => obtain ⟨p, vs, _, e, _⟩ := r; exact ⟨(fun h => by cases h), fun _ => by rw [e]; exact fun h => by cases h⟩
  | scr xs => obtain ⟨p, e, _⟩ := r; exact ⟨(fun h => by cases h), fun _ => by rw [e]; exact fun h => by cases h⟩
theorem isN_post {w : Wd} {s : S} {H : Hp} {σ : L2.St} {v : Val} {u : V} {neg : Bool} {Q : Bool → Hp → Prop} (ok : Ok G w s H) (r : SlotR G w H v u)
    (h : Post G W relB w H σ ((if neg then mNotN (fun _ s => .ok v s) else mIsN (fun _ s => .ok v s)) [] s) Q) : Q (if neg then !decide (u = .non) else decide (u = .non)) H := by
  obtain ⟨r1, r2⟩ := isN_val r
  by_cases hv : v = .d .non
  · have e := r1 hv
    subst hv e
    cases neg
    · exact Post.hereB ok h
    · exact Post.hereB ok h
  · have e := decide_eq_false (r2 hv)
    rw [e]
    cases neg
    · cases v with
      | d x => cases x <;> first | exact absurd rfl hv | exact Post.hereB ok h
      | exc c x => exact h.elim
      | _ => exact Post.hereB ok h
    · cases v with
      | d x => cases x <;> first | exact absurd rfl hv | exact Post.hereB ok h
      | exc c x => exact h.elim
      | _ => exact Post.hereB ok h
theorem s_isN {j pos'} (ha : PE X a (tE G W ma)) : PT X (.Compare a [.Is] [.Constant .none j pos'] pos) (tT G W (mIsN ma)) := by
  refine impT (pt_cmpR op_isN ha pe_non rfl) fun σ H Q ⟨w, s, e, ok, er, h⟩ => ?_
  refine one (R := fun x H => V.non = .non ∧ ∃ k, V.bl (decide (x = .non)) = .bl k ∧ Q k H) ok er h fun w s H v u ok r _ h => ⟨rfl, _, rfl, isN_post (neg := false) (v := v) ok r h⟩
theorem s_notN {j pos'} (ha : PE X a (tE G W ma)) : PT X (.Compare a [.IsNot] [.Constant .none j pos'] pos) (tT G W (mNotN ma)) := by
  refine impT (pt_cmpR op_notN ha pe_non rfl) fun σ H Q ⟨w, s, e, ok, er, h⟩ => ?_
  refine one (R := fun x H => V.non = .non ∧ ∃ k, V.bl (!decide (x = .non)) = .bl k ∧ Q k H) ok er h fun w s H v u ok r _ h => ⟨rfl, _, rfl, isN_post (neg := true) (v := v) ok r h⟩
theorem bl_bind {w : Wd} {s : S} {H : Hp} {σ : L2.St} {e : Env} {v : Val} {Q : V → Hp → Prop} {f : ME → MT} (h : Post G W (relV G) w H σ ((f (fun _ s => .ok v s) e s).bind fun b s => .ok (.d (.bl b)) s) Q) : Post G W relB w H σ (f (fun _ s => .ok v s) e s) fun b H => Q (.bl b) H := by
  cases q : f (fun _ s => .ok v s) e s with
  | ok b s' => rw [q] at h; exact fun w' H' u x o r => by subst r; exact h w' H' (.bl b) x o (sl_bl b)
  | exn c x s' => rw [q] at h; exact h
  | stuck => rw [q] at h; exact h
theorem s_isNV {j pos'} (ha : PE X a (tE G W ma)) : PE X (.Compare a [.Is] [.Constant .none j pos'] pos) (tE G W (mBl (mIsN ma))) := by
  refine impE (pe_cmpR op_isN ha pe_non rfl) fun σ H Q ⟨w, s, e, ok, er, h⟩ => ?_
  have h : Post G W (relV G) w H σ ((ma e s).bind fun v s => (mIsN (fun _ s => .ok v s) e s).bind fun b s => .ok (.d (.bl b)) s) Q := by
    revert h
    unfold mBl mIsN
    cases ma e s <;> exact id
  exact one (R := fun x H => V.non = .non ∧ Q (.bl (decide (x = .non))) H) ok er h fun w s H v u ok r _ h => ⟨rfl, isN_post (neg := false) (v := v) (Q := fun b H => Q (.bl b) H) ok r (bl_bind (f := mIsN) h)⟩
theorem s_notNV {j pos'} (ha : PE X a (tE G W ma)) : PE X (.Compare a [.IsNot] [.Constant .none j pos'] pos) (tE G W (mBl (mNotN ma))) := by
  refine impE (pe_cmpR op_notN ha pe_non rfl) fun σ H Q ⟨w, s, e, ok, er, h⟩ => ?_
  have h : Post G W (relV G) w H σ ((ma e s).bind fun v s => (mNotN (fun _ s => .ok v s) e s).bind fun b s => .ok (.d (.bl b)) s) Q := by
    revert h
    unfold mBl mNotN
    cases ma e s <;> exact id
  exact one (R := fun x H => V.non = .non ∧ Q (.bl (!decide (x = .non))) H) ok er h fun w s H v u ok r _ h => ⟨rfl, isN_post (neg := true) (v := v) (Q := fun b H => Q (.bl b) H) ok r (bl_bind (f := mNotN) h)⟩
/-! ### -n -/
theorem s_neg (ha : PE X a (tE G W ma)) : PE X (.UnaryOp .USub a pos) (tE G W (mNeg ma)) := by
  refine impE (pe_un un_neg ha) fun σ H Q ⟨w, s, e, ok, er, h⟩ => ?_
  refine one (R := fun x H => ∃ i, x = .int i ∧ Q (.int (-i)) H) ok er h fun w s H v u ok r _ h => ?_
  match v, h with
  | .d (.int i), h => exact ⟨i, int_inv (slot_d r), Post.hereD ok h (rep_int _)⟩
/-! ### displays -/
theorem s_nil : PA X [] (tL G W mNil) := impA pa_nil fun σ H Q ⟨w, s, e, ok, er, h⟩ => h w H [] .refl ok rfl
theorem s_cons {es : List Expr} {ms : ML} (ha : PE X a (tE G W ma)) (hr : PA X es (tL G W ms)) (hs : starEach (a :: es) X.env = (false, eval a X.env) :: starEach es X.env) : PA X (a :: es) (tL G W (mCons ma ms)) := by
  refine impA (pa_cons ha hr hs) fun σ H Q ⟨w, s, e, ok, er, h⟩ => ?_
  refine ⟨w, s, e, ok, er, Post.bind (rel := relV G) h fun w1 s1 H1 v u x1 ok1 r1 h1 => ⟨w1, s1, e, ok1, er.ext ok x1, Post.bind (rel := relL G) h1 fun w2 s2 H2 v' u' x2 ok2 r2 h2 => ?_⟩⟩
  exact h2 w2 H2 (u :: u') .refl ok2 ⟨u, u', rfl, r1.ext ok1 x2, r2⟩
theorem datas_rep {w : Wd} {H : Hp} : ∀ {vs : List Val} {us : List V} {xs : List D}, SlotRs G w H vs us → datas vs = some xs → Reps G.K w.N H xs us
  | [], us, xs, r, h => by
    cases h
    have e : us = [] := r
    subst e
    exact .nil
  | v :: vs, us, xs, r, h => by
    obtain ⟨u, r', e, r1, r2⟩ := r
    subst e
    cases v with
    | d x =>
      have h : (datas vs).map (x :: ·) = some xs := h
      cases q : datas vs with
      | none => rw [q] at h; cases h
      | some ys =>
        rw [q] at h
        cases h
        exact .cons r1 (datas_rep r2 q)
    | _ => cases h
theorem s_tup {es : List Expr} {ms : ML} {x1} (hl : PA X es (tL G W ms)) : PE X (.Tuple es x1 pos) (tE G W (mTup ms)) := by
  refine impE (pe_tup hl) fun σ H Q ⟨w, s, e, ok, er, h⟩ => ?_
  refine ⟨w, s, e, ok, er, Post.bind (rel := relL G) h fun w1 s1 H1 v u x1 ok1 r1 h1 => ?_⟩
  cases q : datas v with
  | none => rw [q] at h1; exact h1.elim
  | some xs =>
    rw [q] at h1
    dsimp only at h1
    split at h1
    · rename_i hl
      have r := datas_rep r1 q
      rw [r.length] at hl
      exact ⟨by rw [← line_eq]; exact hl, Post.newT ok1 h1 r hl⟩
    · exact h1.elim
theorem s_lst {es : List Expr} {ms : ML} (hl : PA X es (tL G W ms)) : PE X (.List es pos) (tE G W (mLst ms)) := by
  refine impE (pe_lst hl) fun σ H Q ⟨w, s, e, ok, er, h⟩ => ?_
  refine ⟨w, s, e, ok, er, Post.bind (rel := relL G) h fun w1 s1 H1 v u x1 ok1 r1 h1 => ?_⟩
  cases q : datas v with
  | none => rw [q] at h1; exact h1.elim
  | some xs =>
    rw [q] at h1
    dsimp only at h1
    split at h1
    · rename_i hl
      have r := datas_rep r1 q
      rw [r.length] at hl
      exact ⟨by rw [← line_eq]; exact hl, Post.newL ok1 h1 r hl⟩
    · exact h1.elim
/-! ### items, slices -/
theorem ixN_eq (n : Nat) (i : Int) : MP.ixN n i = L2.ixN n i := rfl
theorem at_rep {K : PySem.W.Frag} {N : Addr → Prop} {H : Hp} {xs : List D} {vs : List V} {i : Int} {x : D} (r : Reps K N H xs vs) (h : MP.atI xs i = some x) : ∃ v, L2.atI vs i = some v ∧ Rep K N H x v := by
  unfold MP.atI at h
  unfold L2.atI
  rw [r.length] at h
  rw [← ixN_eq]
  cases q : MP.ixN vs.length i with
  | none => rw [q] at h; cases h
  | some j => rw [q] at h; exact r.get h
theorem ixD_ok {w : Wd} {H : Hp} {x y z : D} {u v : V} (rx : RdR G.K w.N H x u) (ry : RdR G.K w.N H y v) (h : ixD x y = some z) : ∃ t, Rep G.K w.N H z t ∧ ∀ Q : VK, Q t H → rIx G.K u v H Q := by
  unfold ixD at h
  split at h
  · obtain ⟨p, vs, rfl, h1, _, h2⟩ := rep_tup_inv rx
    rw [int_inv ry]
    obtain ⟨t, e, r⟩ := at_rep h2 h
    exact ⟨t, r, fun Q q => .inr (.inl ⟨p, vs, _, t, rfl, rfl, h1, e, q⟩)⟩
  · obtain ⟨p, vs, rfl, h1, _, h2⟩ := rx
    rw [int_inv ry]
    obtain ⟨t, e, r⟩ := at_rep h2 h
    exact ⟨t, r, fun Q q => .inl ⟨p, vs, _, t, rfl, rfl, .inl (.inl h1), e, q⟩⟩
  · rename_i z i
    split at h
    · rename_i hl
      obtain ⟨c, e, rfl⟩ := Option.map_eq_some_iff.mp h
      rw [str_inv rx, int_inv ry]
      exact ⟨.str ⟨#[c]⟩, rep_str _, fun Q q => .inr (.inr ⟨z, i, c, rfl, rfl, by rw [← line_eq]; exact hl, e, q⟩)⟩
    · cases h
  · cases h
theorem s_ix (hK : G.K = X.K) (hs : PlainIx b) (ha : PE X a (tE G W ma)) (hb : PE X b (tE G W mb)) : PE X (.Subscript a b pos) (tE G W (mIx ma mb)) := by
  refine impE (pe_ix ix_seq ha hb hs) fun σ H Q ⟨w, s, e, ok, er, h⟩ => ?_
  refine two (W := W) (R := fun x y H => rIx X.K x y H Q) ok er h fun w s H v v' u u' ok r r' _ h => ?_
  obtain ⟨z, e, h⟩ := of_ok h
  rw [← hK]
  have gen : ∀ (v : Val) (y : D), SlotR G w H v u → RdR G.K w.N H y u' → (∀ x, rd s v = some x → (ixD x y).map Val.d = some z → rIx G.K u u' H Q) := fun v y r ry x q1 e => by
    cases q2 : ixD x y with
    | none => rw [q2] at e; cases e
    | some t =>
      rw [q2] at e
      cases e
      obtain ⟨tt, rt, q⟩ := ixD_ok (rd_ok ok r q1) ry q2
      exact q Q (Post.hereD ok h rt)
  have gen2 : ∀ (y : D), v' = .d y → (∀ ns, v ≠ .scr ns) → rIx G.K u u' H Q := fun y ey ns => by
    subst ey
    have e : (match rd s v with
      | some x => (ixD x y).map Val.d
      | none => none) = some z := by
      cases v with
      | scr k => exact absurd rfl (ns k)
      | _ => exact e
    cases q1 : rd s v with
    | none => rw [q1] at e; cases e
    | some x => rw [q1] at e; exact gen v y r (slot_d r') x q1 e
  cases v' with
  | d y =>
    cases v with
    | scr ns =>
      cases y with
      | int i =>
        have e : (MP.atI ns i).map (fun k => Val.d (.int k)) = some z := e
        cases q : MP.atI ns i with
        | none => rw [q] at e; cases e
        | some k =>
          rw [q] at e
          cases e
          obtain ⟨p, rfl, hp, _⟩ := r
          rw [int_inv (slot_d r')]
          have hq : SqL G.K H p (ns.map V.int) := by
            rcases hp with ⟨o, hp⟩ | hp
            · exact .inl (.inr ⟨o, hp⟩)
            · rcases hp with (hp | ⟨o, hp⟩) | hp
              · cases hp
              · cases hp
              · exact .inr hp
          refine .inl ⟨p, ns.map V.int, i, .int k, rfl, rfl, hq, ?_, Post.hereD ok h (rep_int k)⟩
          unfold L2.atI
          unfold MP.atI at q
          rw [List.length_map, ← ixN_eq]
          cases q2 : MP.ixN ns.length i with
          | none => rw [q2] at q; cases q
          | some j =>
            rw [q2] at q
            have q : ns[j]? = some k := q
            show (ns.map V.int)[j]? = some (V.int k)
            rw [List.getElem?_map, q] <;> rfl
      | _ => cases e
    | _ => exact gen2 y rfl (fun ns hns => by cases hns)
  | _ => cases v <;> cases e
theorem sIx_eq (n d : Nat) (o : Option Int) : MP.sIx n d o = HT.sIx n d o := by cases o <;> rfl
theorem sl_ok {w : Wd} {s : S} {H : Hp} {σ : L2.St} {x z : D} {u : V} {lo hi : Option Int} {Q : V → Hp → Prop} (ok : Ok G w s H) (rx : RdR G.K w.N H x u) (h : slD x lo hi = some z) (p : Post G W (relV G) w H σ (.ok (.d z) s) Q) :
    (rSlA G.K u lo hi H Q ∨ rSlL G.K u lo hi H Q) ∨ rSlS u lo hi H Q := by
  unfold slD at h
  split at h
  · rename_i xs
    cases h
    obtain ⟨q, vs, rfl, h1, hz, h2⟩ := rep_tup_inv rx
    have r := h2.cut lo hi
    have hl : (cutV vs lo hi).length ≤ line := Nat.le_trans (cutV_length vs lo hi) hz
    refine .inl (.inl ⟨q, vs, rfl, h1, fun hw => ?_, fun _ => Post.newT ok p r hl⟩)
    have e : cut xs lo hi = xs := by
      unfold MP.cut
      rw [h2.length, sIx_eq, sIx_eq, hw.1, hw.2, List.drop_zero, Nat.sub_zero, ← h2.length, List.take_length]
    rw [e] at p
    exact Post.hereD ok p (rep_tup h1 hz h2)
  · cases h
    obtain ⟨q, vs, rfl, h1, hz, h2⟩ := rx
    exact .inl (.inr ⟨q, vs, rfl, .inl (.inl h1), Post.newL ok p (h2.cut lo hi) (Nat.le_trans (cutV_length vs lo hi) hz)⟩)
  · rename_i z
    split at h
    · rename_i hl
      cases h
      rw [str_inv rx]
      refine .inr ⟨z, rfl, by rw [← line_eq]; exact hl, ?_⟩
      have e : (⟨(cut z.cps.toList lo hi).toArray⟩ : Str) = cutS z lo hi := by
        unfold MP.cut cutS
        rw [Array.length_toList, sIx_eq, sIx_eq]
        rfl
      rw [e] at p
      exact Post.hereD ok p (rep_str _)
    · cases h
  · cases h
/-- an optional part of a slice -/
def tPo (G : Gd) (W : WX) (m : Option ME) : L2.St → Hp → (Option Int → Hp → Prop) → Prop := fun σ H Q => ∃ w s e, Ok G w s H ∧ EnvR G w H e σ ∧ Post G W (fun _ _ _ (a b : Option Int) => a = b) w H σ (mOpt m e s) Q
theorem s_slice (hK : G.K = X.K) {lo hi : Option Expr} {ml mh : Option ME} {p2 : Pos} (ha : PE X a (tE G W ma))
    (hlo : (lo = none ∧ ml = none) ∨ ∃ e m, lo = some e ∧ ml = some m ∧ PE X e (tE G W m)) (hhi : (hi = none ∧ mh = none) ∨ ∃ e m, hi = some e ∧ mh = some m ∧ PE X e (tE G W m)) :
    PE X (.Subscript a (.Slice lo hi none p2) pos) (tE G W (mSl ma ml mh)) := by
  have part : ∀ (o : Option Expr) (m : Option ME), ((o = none ∧ m = none) ∨ ∃ e k, o = some e ∧ m = some k ∧ PE X e (tE G W k)) → ∃ t, PO X o t ∧ ∀ σ H Q, tPo G W m σ H Q → t σ H Q := fun o m h => by
    rcases h with ⟨rfl, rfl⟩ | ⟨e, k, rfl, rfl, h⟩
    · exact ⟨_, po_none, fun σ H Q ⟨w, s, e, ok, er, h⟩ => Post.here (rel := fun _ _ _ (a b : Option Int) => a = b) ok h rfl⟩
    · refine ⟨_, po_some h, fun σ H Q ⟨w, s, e, ok, er, h⟩ => ?_⟩
      refine one (R := fun x H => ∃ i, x = .int i ∧ Q (some i) H) ok er h fun w s H v u ok r _ h => ?_
      match v, h with
      | .d (.int i), h => exact ⟨i, int_inv (slot_d r), Post.here (rel := fun _ _ _ (a b : Option Int) => a = b) ok h rfl⟩
  obtain ⟨tl, pl, il⟩ := part lo ml hlo
  obtain ⟨th, ph, ih⟩ := part hi mh hhi
  refine impE (pe_slice (SlR.or (SlR.or sl_tupA sl_list) sl_str) ha pl ph) fun σ H Q ⟨w, s, e, ok, er, h⟩ => ?_
  refine ⟨w, s, e, ok, er, Post.bind (rel := relV G) h fun w1 s1 H1 v u x1 ok1 r1 h1 => ?_⟩
  refine il σ H1 _ ⟨w1, s1, e, ok1, er.ext ok x1, Post.bind (rel := fun _ _ _ (a b : Option Int) => a = b) h1 fun w2 s2 H2 l l' x2 ok2 el h2 => ?_⟩
  subst el
  refine ih σ H2 _ ⟨w2, s2, e, ok2, (er.ext ok x1).ext ok1 x2, Post.bind (rel := fun _ _ _ (a b : Option Int) => a = b) h2 fun w3 s3 H3 k k' x3 ok3 ek h3 => ?_⟩
  subst ek
  have r3 := (r1.ext ok1 x2).ext ok2 x3
  cases q1 : rd s3 v with
  | none => rw [q1] at h3; exact h3.elim
  | some x =>
    rw [q1] at h3
    cases q2 : slD x l k with
    | none => simp only [q2] at h3; exact h3.elim
    | some z =>
      simp only [q2] at h3
      rw [← hK]
      exact sl_ok ok3 (rd_ok ok3 r3 q1) q2 h3
end
end MP
end

section
set_option Elab.async false
set_option linter.all false
set_option maxRecDepth 100000
set_option maxHeartbeats 4000000
/-! MP, part d: built-ins. -/
namespace MP
open PySem PySem.Spec PyProof.Rows L2

theorem ints_ok : ∀ {xs : List D} {ns : List Int}, intsD xs = some ns → xs = ns.map D.int
  | [], ns, h => by cases h; rfl
  | x :: xs, ns, h => by
    cases x with
    | int i =>
      have h : (intsD xs).map (i :: ·) = some ns := h
      cases q : intsD xs with
      | none => rw [q] at h; cases h
      | some r => rw [q] at h; cases h; rw [ints_ok q]; rfl
    | _ => cases h
theorem bools_ok : ∀ {xs : List D} {ns : List Bool}, bools xs = some ns → xs = ns.map D.bl
  | [], ns, h => by cases h; rfl
  | x :: xs, ns, h => by
    cases x with
    | bl i =>
      have h : (bools xs).map (i :: ·) = some ns := h
      cases q : bools xs with
      | none => rw [q] at h; cases h
      | some r => rw [q] at h; cases h; rw [bools_ok q]; rfl
    | _ => cases h
theorem strs_ok : ∀ {xs : List D} {ns : List Str}, strsD xs = some ns → xs = ns.map D.str
  | [], ns, h => by cases h; rfl
  | x :: xs, ns, h => by
    cases x with
    | str i =>
      have h : (strsD xs).map (i :: ·) = some ns := h
      cases q : strsD xs with
      | none => rw [q] at h; cases h
      | some r => rw [q] at h; cases h; rw [strs_ok q]; rfl
    | _ => cases h
section
variable {K : PySem.W.Frag} {N : Addr → Prop} {H : Hp}
theorem reps_int : ∀ {ns : List Int} {vs : List V}, Reps K N H (ns.map D.int) vs → vs = ns.map V.int
  | [], vs, h => by unfold Reps at h; exact h
  | n :: ns, vs, h => by
    rw [List.map_cons] at h
    unfold Reps at h
    obtain ⟨v, r, rfl, h1, h2⟩ := h
    rw [reps_int h2, int_inv (.of_rep h1)]; rfl
theorem reps_bl : ∀ {ns : List Bool} {vs : List V}, Reps K N H (ns.map D.bl) vs → vs = ns.map V.bl
  | [], vs, h => by unfold Reps at h; exact h
  | n :: ns, vs, h => by
    rw [List.map_cons] at h
    unfold Reps at h
    obtain ⟨v, r, rfl, h1, h2⟩ := h
    rw [reps_bl h2, bl_inv (.of_rep h1)]; rfl
theorem reps_str : ∀ {ns : List Str} {vs : List V}, Reps K N H (ns.map D.str) vs → vs = ns.map V.str
  | [], vs, h => by unfold Reps at h; exact h
  | n :: ns, vs, h => by
    rw [List.map_cons] at h
    unfold Reps at h
    obtain ⟨v, r, rfl, h1, h2⟩ := h
    rw [reps_str h2, str_inv (.of_rep h1)]; rfl
theorem of_int : ∀ ns : List Int, Reps K N H (ns.map D.int) (ns.map V.int)
  | [] => .nil
  | n :: ns => by rw [List.map_cons, List.map_cons]; exact .cons (rep_int n) (of_int ns)
theorem of_str : ∀ ns : List Str, Reps K N H (ns.map D.str) (ns.map V.str)
  | [] => .nil
  | n :: ns => by rw [List.map_cons, List.map_cons]; exact .cons (rep_str n) (of_str ns)
end
/-! ### sorting -/
theorem insI_perm (i : Int) : ∀ l : List Int, (insI i l).Perm (i :: l)
  | [] => .refl _
  | j :: r => by
    unfold insI
    split
    · exact ((insI_perm i r).cons j).trans (.swap i j r)
    · exact .refl _
theorem sortI_perm : ∀ l : List Int, (sortI l).Perm l
  | [] => .refl _
  | i :: r => (insI_perm i _).trans ((sortI_perm r).cons i)
theorem insI_sorted (i : Int) : ∀ l : List Int, l.Pairwise (· ≤ ·) → (insI i l).Pairwise (· ≤ ·)
  | [], _ => by unfold insI; simp
  | j :: r, h => by
    unfold insI
    obtain ⟨h1, h2⟩ := List.pairwise_cons.mp h
    split
    · rename_i hlt
      refine List.pairwise_cons.mpr ⟨fun k hk => ?_, insI_sorted i r h2⟩
      rcases List.mem_cons.mp ((insI_perm i r).mem_iff.mp hk) with e | hk
      · subst e; omega
      · exact h1 k hk
    · rename_i hlt
      refine List.pairwise_cons.mpr ⟨fun k hk => ?_, h⟩
      rcases List.mem_cons.mp hk with e | hk
      · subst e; omega
      · have := h1 k hk; omega
theorem sortI_sorted : ∀ l : List Int, (sortI l).Pairwise (· ≤ ·)
  | [] => .nil
  | i :: r => insI_sorted i _ (sortI_sorted r)
theorem sorted_uniq : ∀ {a b : List Int}, a.Perm b → a.Pairwise (· ≤ ·) → b.Pairwise (· ≤ ·) → a = b
  | [], b, p, _, _ => (List.Perm.nil_eq p)
  | x :: a, b, p, ha, hb => by
    cases b with
    | nil => exact absurd p.length_eq (by simp)
    | cons y b =>
      obtain ⟨ha1, ha2⟩ := List.pairwise_cons.mp ha
      obtain ⟨hb1, hb2⟩ := List.pairwise_cons.mp hb
      have e : x = y := by
        have h1 : x ∈ y :: b := p.mem_iff.mp List.mem_cons_self
        have h2 : y ∈ x :: a := p.mem_iff.mpr List.mem_cons_self
        rcases List.mem_cons.mp h1 with e | h1
        · exact e
        · rcases List.mem_cons.mp h2 with e | h2
          · exact e.symm
          · have := ha1 y h2; have := hb1 x h1; omega
      subst e
      rw [sorted_uniq (List.Perm.cons_inv p) ha2 hb2]
theorem foldmax : ∀ (ns : List Int) (a : Int), (ns.foldl (fun a b => if b > a then b else a) a ∈ a :: ns) ∧ ∀ y ∈ a :: ns, y ≤ ns.foldl (fun a b => if b > a then b else a) a
  | [], a => ⟨by simp, by simp⟩
  | n :: ns, a => by
    rw [List.foldl_cons]
    by_cases hc : n > a
    · rw [if_pos hc]
      obtain ⟨h1, h2⟩ := foldmax ns n
      refine ⟨List.mem_cons_of_mem _ h1, fun y hy => ?_⟩
      have h0 := h2 _ List.mem_cons_self
      rcases List.mem_cons.mp hy with e | hy
      · rw [e]; exact Int.le_trans (Int.le_of_lt hc) h0
      · exact h2 y hy
    · rw [if_neg hc]
      obtain ⟨h1, h2⟩ := foldmax ns a
      refine ⟨(List.mem_cons.mp h1).elim (fun e => by rw [e]; exact List.mem_cons_self) fun h => List.mem_cons_of_mem _ (List.mem_cons_of_mem _ h), fun y hy => ?_⟩
      have h0 := h2 _ List.mem_cons_self
      rcases List.mem_cons.mp hy with e | hy
      · rw [e]; exact h0
      · rcases List.mem_cons.mp hy with e | hy
        · rw [e]; exact Int.le_trans (Int.not_lt.mp hc) h0
        · exact h2 y (List.mem_cons_of_mem _ hy)
theorem foldmin : ∀ (ns : List Int) (a : Int), (ns.foldl (fun a b => if b < a then b else a) a ∈ a :: ns) ∧ ∀ y ∈ a :: ns, ns.foldl (fun a b => if b < a then b else a) a ≤ y
  | [], a => ⟨by simp, by simp⟩
  | n :: ns, a => by
    rw [List.foldl_cons]
    by_cases hc : n < a
    · rw [if_pos hc]
      obtain ⟨h1, h2⟩ := foldmin ns n
      refine ⟨List.mem_cons_of_mem _ h1, fun y hy => ?_⟩
      have h0 := h2 _ List.mem_cons_self
      rcases List.mem_cons.mp hy with e | hy
      · rw [e]; exact Int.le_trans h0 (Int.le_of_lt hc)
      · exact h2 y hy
    · rw [if_neg hc]
      obtain ⟨h1, h2⟩ := foldmin ns a
      refine ⟨(List.mem_cons.mp h1).elim (fun e => by rw [e]; exact List.mem_cons_self) fun h => List.mem_cons_of_mem _ (List.mem_cons_of_mem _ h), fun y hy => ?_⟩
      have h0 := h2 _ List.mem_cons_self
      rcases List.mem_cons.mp hy with e | hy
      · rw [e]; exact h0
      · rcases List.mem_cons.mp hy with e | hy
        · rw [e]; exact Int.le_trans h0 (Int.not_lt.mp hc)
        · exact h2 y (List.mem_cons_of_mem _ hy)

/-! ### sorted of a tuple -/
end MP
namespace SrtT
open PySem PySem.Spec PyProof.Rows SrtO
section
variable {prog : Program} {w : World} {A : Around} {E : Value → Shared → Prop} {s : Shared}
/-- a tuple's items gathered into a list, as a list's -/
theorem collect_tup {l : Addr} {vs : List Value} {Q : List Value → Shared → Prop} (hl : IsTup s.heap l vs.toArray)
    (h : Q vs { s with heap := (s.heap.push (seqObj "list" #[] 0)).update s.heap.objs.size (Obj.mapSeq (· ++ vs.toArray)) }) (hsz : vs.length ≤ sizeLine) :
    wpAny (model prog w) A (collect (.ref l)) Q E s := by
  obtain ⟨o, ho, hc, n, hd⟩ := id hl
  unfold collect
  refine wpAny_bind (wpAny_runValue (codeAny_builtin entry_proto_collect' ?_))
  show wpAny _ _ (do again (.builtin "list.__iadd__" ⟨[← newList [], .ref l], []⟩)) _ _ s
  refine wpAny_bind (wpAny_newList (wpAny_pure ⟨Code.quiet_builtin _ (by decide +kernel), codeAny_builtin entry_list_iadd' ?_⟩))
  show wpAny _ _ (Builtin.List.listExtendWith (.ref s.heap.objs.size) (.ref l) (.ref s.heap.objs.size)) _ _ { s with heap := s.heap.push (seqObj "list" #[] 0) }
  unfold Builtin.List.listExtendWith
  have ho' : (s.heap.push (seqObj "list" #[] 0)).get? l = some o := Heap.get?_push_of_some _ ho
  refine wpAny_bind (wpAny_typeOf (T := "tuple") ⟨o, ho', hc⟩ ?_)
  rw [if_pos (by rw [show (Value.type "tuple" == Value.type "tuple") = true from rfl]; simp)]
  refine wpAny_bind (listItems_at ho' hd ?_)
  refine wpAny_bind (listItems_at (xs := #[]) (n := 0) (Heap.get?_push_size _ rfl) rfl ?_)
  rw [if_neg (by simp)]
  refine wpAny_bind (listUpdate_at (xs := #[]) (n := 0) (Heap.get?_push_size _ rfl) rfl ?_ (Nat.zero_le _) (by show (#[] ++ vs.toArray).size ≤ sizeLine + 1; simp only [Array.size_append, List.size_toArray, List.length_nil]; omega))
  refine wpAny_pure ?_
  show wpAny (model prog w) A (do
      let o ← load s.heap.objs.size
      match o.data with
      | .seq xs _ => pure xs.toList
      | _ => unsupported "internal:collect") Q E { s with heap := (s.heap.push (seqObj "list" #[] 0)).update s.heap.objs.size (Obj.mapSeq (· ++ vs.toArray)) }
  refine wpAny_bind (wpAny_load (get?_update_seq (Heap.get?_push_size _ rfl) _) ?_)
  show wpAny _ _ (pure ((#[] : Array Value) ++ vs.toArray).toList) Q E _
  rw [show ((#[] : Array Value) ++ vs.toArray).toList = vs by simp]
  exact wpAny_pure h
theorem sorted_ordT {l : Addr} {vs : List Value} {ltv : Value → Value → Bool} {Q : Value → Shared → Prop} (O : Swo ltv) (hl : IsTup s.heap l vs.toArray) (hz : vs.length ≤ sizeLine)
    (hS : 2 ≤ vs.length → ∀ (h₁ : Heap) (a : Addr), h₁.get? a = some (seqObj "list" vs.toArray 0) → (∀ b o, s.heap.get? b = some o → b ≠ a ∧ h₁.get? b = some o) → SortableO prog w A.in1.in1 { s with heap := h₁ } a vs ltv)
    (h : ∀ out : List Value, Srtd ltv out → Stb ltv out vs → Q (.ref (s.heap.objs.size + 1)) { s with heap := sortedAll s.heap vs out.toArray }) :
    wpAny (model prog w) A (call (.builtin "sorted") [.ref l]) Q E s := by
  refine Calls.call_function_entry kind_sorted plain_sorted entry_sorted (args_sorted1 _) ?_
  unfold Builtin.«sorted»
  refine wpAny_bind (m := checkCount "sorted" 1 1 _) (wpAny_pure ?_)
  refine wpAny_bind (collect_tup hl ?_ hz)
  refine wpAny_bind (wpAny_newList ?_ hz)
  have hsz : ((s.heap.push (seqObj "list" #[] 0)).update s.heap.objs.size (Obj.mapSeq (· ++ vs.toArray))).objs.size = s.heap.objs.size + 1 := by
    rw [Heap.size_update, size_push']
  have hoL : (((s.heap.push (seqObj "list" #[] 0)).update s.heap.objs.size (Obj.mapSeq (· ++ vs.toArray))).push (seqObj "list" vs.toArray 0)).get? (s.heap.objs.size + 1) = some (seqObj "list" vs.toArray 0) := by
    rw [← hsz]; exact Heap.get?_push_size _ rfl
  have keep : ∀ b o, s.heap.get? b = some o → b ≠ s.heap.objs.size + 1 ∧ (((s.heap.push (seqObj "list" #[] 0)).update s.heap.objs.size (Obj.mapSeq (· ++ vs.toArray))).push (seqObj "list" vs.toArray 0)).get? b = some o := fun b o q => by
    have hlt : b < s.heap.objs.size := Heap.lt_size q
    refine ⟨Nat.ne_of_lt (Nat.lt_succ_of_lt hlt), Heap.get?_push_of_some _ ?_⟩
    rw [Heap.get?_update_ne _ _ _ _ (Nat.ne_of_lt hlt)]
    exact Heap.get?_push_of_some _ q
  show wpAny _ _ _ _ _ { s with heap := ((s.heap.push (seqObj "list" #[] 0)).update s.heap.objs.size (Obj.mapSeq (· ++ vs.toArray))).push (seqObj "list" vs.toArray 0) }
  rw [hsz]
  refine wpAny_bind (wpAny_holding (wpAny_call_entry slot_list_sort ⟨_, hoL, rfl⟩ entry_list_sort (list_sort_ord O hoL hz (fun h2 => hS h2 _ _ hoL keep) fun out hs hb => ⟨_, rfl, ?_⟩) (args_list_sort _)))
  exact wpAny_pure ⟨_, rfl, h out hs hb⟩
end
end SrtT
namespace MP
open PySem PySem.Spec PyProof.Rows L2
def rSortedIT (K : PySem.W.Frag) : List V → Hp → VK → Prop := fun vs H Q => ∃ (a : Addr) (ns : List Int), vs = [V.ref a] ∧ SqT K H a (ns.map V.int) ∧
  ∀ (ns' : List Int) (p : Addr), ns'.Perm ns → ns'.Pairwise (· ≤ ·) → H p = none → Q (.ref p) (upd H p (.lst (ns'.map V.int)))
theorem cr_sortedIT {X : Cx} : CallR X (.builtin "sorted") (rSortedIT X.K) := by
  intro pins s σ H vs us Q I r h
  obtain ⟨a, ns, rfl, hs, q⟩ := h
  obtain ⟨its, rv, hl, hz⟩ := I.tuple hs
  rw [Vals.ref1 r]
  have hi := rv.ints
  refine SrtT.sorted_ordT SrtO.swo_int hl (by rw [← rv.length]; exact hz) (fun h2 h₁ a' _ _ => SrtO.ints_sortable hi h2) fun out h1 h2 => ?_
  obtain ⟨k1, k2, k3⟩ := SrtO.ints_out hi h1 h2
  obtain ⟨ep, he'⟩ := PyProof.Rows.sortedAll_at s.heap its out.toArray
  have hlen : ((out.map SrtO.iv).map V.int).length ≤ sizeLine := by
    rw [List.length_map, k2.length_eq]
    rw [List.length_map] at hz
    exact hz
  exact ⟨.ref _, upd H (s.heap.objs.size + 1) (.lst ((out.map SrtO.iv).map V.int)), I.laid (t' := s.toks) (fun _ _ => PyProof.Rows.sortedAll_old) (Nat.le_succ _) ⟨hlen, out, ep, vals_of_ints k1, he'⟩, rfl, q _ _ k2 k3 (I.hok.fresh (Nat.le_succ _))⟩

/-! ### built-ins of one value -/
def B1.nm : B1 → String
  | .len => "len" | .int => "int" | .bool => "bool" | .str => "str" | .abs => "abs" | .tuple => "tuple" | .list => "list" | .sum => "sum" | .sorted => "sorted" | .all => "all" | .any => "any" | .max => "max" | .min => "min"
/-- a built-in class -/
def B1.ty : B1 → Bool
  | .int => true | .bool => true | .str => true | .tuple => true | .list => true | _ => false
def B1.fv (b : B1) : Value := if b.ty then .type b.nm else .builtin b.nm
/-- it is walked: not within an except suite -/
def B1.walks : B1 → Bool
  | .sum => true | .all => true | .any => true | .max => true | .min => true | .list => true | _ => false
def rListT : List V → Hp → VK → Prop := fun xs H Q => ∃ d kvs, xs = [V.ref d] ∧ Rd H d (.dT kvs) ∧ ∀ p bs, H p = none → IsKeys H kvs bs → Q (.ref p) (upd H p (.lst (bs.map V.ref)))
def rB1 (K : PySem.W.Frag) : B1 → List V → Hp → VK → Prop
  | .len => fun xs H Q => ∃ x n, xs = [x] ∧ LenV K x H n ∧ Q (.int n) H
  | .int => fun xs H Q => ((∃ i, xs = [.int i] ∧ Q (.int i) H) ∨ ∃ k, xs = [.bl k] ∧ Q (.int (if k = true then 1 else 0)) H) ∨ ∃ a n, xs = [.str a] ∧ PySem.intText? a = some n ∧ a.length ≤ 640 ∧ Q (.int n) H
  | .bool => fun xs H Q => (∃ i, xs = [.int i] ∧ Q (.bl (i != 0)) H) ∨ ∃ k, xs = [.bl k] ∧ Q (.bl k) H
  | .str => fun xs H Q => ∃ i : Int, xs = [.int i] ∧ i.natAbs.log2 < 1920 ∧ Q (.str (Str.ofString (toString i))) H
  | .abs => fun xs H Q => ∃ i, xs = [.int i] ∧ Q (.int (if i < 0 then -i else i)) H
  | .tuple => fun xs H Q => ∃ p ys, xs = [.ref p] ∧ ((SqL K H p ys ∧ ∀ l, H l = none → Q (.ref l) (upd H l (.tup ys))) ∨ (SqT K H p ys ∧ Q (.ref p) H))
  | .list => fun xs H Q => (∃ p ys, xs = [.ref p] ∧ (SqL K H p ys ∨ SqT K H p ys) ∧ ∀ l, H l = none → Q (.ref l) (upd H l (.lst ys))) ∨ rListT xs H Q
  | .sum => rSum K
  | .sorted => fun xs H Q => rSortedI K xs H Q ∨ rSortedIT K xs H Q
  | .all => rAll K
  | .any => rAny K
  | .max => rMax K
  | .min => rMin K
theorem cr_b1 {X : Cx} : ∀ b : B1, (b.walks = true → X.calm = true) → CallR X b.fv (rB1 X.K b)
  | .len, _ => call_len
  | .int, _ => fun pins s σ H xs us Q I r z => z.elim (call_int1 pins s σ H xs us Q I r) (call_int_str pins s σ H xs us Q I r)
  | .bool, _ => call_bool1
  | .str, _ => call_str_int
  | .abs, _ => call_abs
  | .tuple, _ => call_tuple_of
  | .list, h => fun pins s σ H xs us Q I r z => z.elim (call_list_of pins s σ H xs us Q I r) (call_list_dT (h rfl) pins s σ H xs us Q I r)
  | .sum, h => cr_sum (h rfl)
  | .sorted, _ => fun pins s σ H xs us Q I r h => h.elim (cr_sortedI pins s σ H xs us Q I r) (cr_sortedIT pins s σ H xs us Q I r)
  | .all, h => cr_all (h rfl)
  | .any, h => cr_any (h rfl)
  | .max, h => cr_max (h rfl)
  | .min, h => cr_min (h rfl)
section
variable {X : Cx} {G : Gd} {W : WX} {pos p : Pos} {a b c : Expr} {ma mb mc : ME}
theorem lst_inv {K : PySem.W.Frag} {N : Addr → Prop} {H : Hp} {xs : List D} {u : V} (r : RdR K N H (.lst xs) u) : ∃ p vs, u = .ref p ∧ H p = some (.lst vs) ∧ vs.length ≤ line ∧ Reps K N H xs vs := r
theorem b1_ok {w : Wd} {s : S} {H : Hp} {σ : L2.St} {f : B1} {x z : D} {u : V} {Q : V → Hp → Prop} (ok : Ok G w s H) (rx : RdR G.K w.N H x u) (h : b1 f x = some z) (p : Post G W (relV G) w H σ (.ok (.d z) s) Q) : rB1 G.K f [u] H Q := by
  cases f with
  | len =>
    cases x with
    | str y =>
      have h : (if y.length ≤ line then some (D.int y.length) else none) = some z := h
      split at h
      · rename_i hl
        cases h
        rw [str_inv rx]
        exact ⟨_, y.length, rfl, ⟨by rw [← line_eq]; exact hl, rfl⟩, Post.hereD ok p (rep_int _)⟩
      · cases h
    | tup xs =>
      cases h
      obtain ⟨q, vs, rfl, h1, _, h2⟩ := rep_tup_inv rx
      exact ⟨_, xs.length, rfl, .inr ⟨vs, h1, h2.length⟩, Post.hereD ok p (rep_int _)⟩
    | tuq xs =>
      cases h
      obtain ⟨q, vs, rfl, ⟨o, _, h1⟩, _, h2⟩ := rep_tuq_inv rx
      exact ⟨_, xs.length, rfl, .inr ⟨vs, .inl (.inr ⟨o, h1⟩), h2.length⟩, Post.hereD ok p (rep_int _)⟩
    | lst xs =>
      cases h
      obtain ⟨q, vs, rfl, h1, _, h2⟩ := lst_inv rx
      exact ⟨_, xs.length, rfl, .inl ⟨vs, .inl (.inl h1), h2.length⟩, Post.hereD ok p (rep_int _)⟩
    | _ => cases h
  | int =>
    cases x with
    | int i => cases h; rw [int_inv rx]; exact .inl (.inl ⟨i, rfl, Post.hereD ok p (rep_int _)⟩)
    | bl b => cases h; rw [bl_inv rx]; exact .inl (.inr ⟨b, rfl, Post.hereD ok p (rep_int _)⟩)
    | str a =>
      have h : (if a.length ≤ 640 then (PySem.intText? a).map D.int else none) = some z := h
      split at h
      · rename_i hl
        obtain ⟨n, e, rfl⟩ := Option.map_eq_some_iff.mp h
        rw [str_inv rx]
        exact .inr ⟨a, n, rfl, e, hl, Post.hereD ok p (rep_int _)⟩
      · cases h
    | _ => cases h
  | bool =>
    cases x with
    | int i => cases h; rw [int_inv rx]; exact .inl ⟨i, rfl, Post.hereD ok p (rep_bl _)⟩
    | bl b => cases h; rw [bl_inv rx]; exact .inr ⟨b, rfl, Post.hereD ok p (rep_bl _)⟩
    | _ => cases h
  | str =>
    cases x with
    | int i =>
      have h : (if i.natAbs.log2 < 1920 then some (D.str (Str.ofString (toString i))) else none) = some z := h
      split at h
      · rename_i hl; cases h; rw [int_inv rx]; exact ⟨i, rfl, hl, Post.hereD ok p (rep_str _)⟩
      · cases h
    | _ => cases h
  | abs =>
    cases x with
    | int i => cases h; rw [int_inv rx]; exact ⟨i, rfl, Post.hereD ok p (rep_int _)⟩
    | _ => cases h
  | tuple =>
    have h : (items x).map D.tup = some z := h
    cases q : items x with
    | none => rw [q] at h; cases h
    | some xs =>
      rw [q] at h
      cases h
      cases x with
      | tup ys =>
        cases q
        obtain ⟨q, vs, rfl, h1, hz, h2⟩ := rep_tup_inv rx
        exact ⟨q, vs, rfl, .inr ⟨h1, Post.hereD ok p (rep_tup h1 hz h2)⟩⟩
      | tuq ys =>
        cases q
        obtain ⟨q, vs, rfl, ⟨o, _, h1⟩, hz, h2⟩ := rep_tuq_inv rx
        exact ⟨q, vs, rfl, .inr ⟨.inl (.inr ⟨o, h1⟩), Post.hereD ok p (rep_tup (.inl (.inr ⟨o, h1⟩)) hz h2)⟩⟩
      | lst ys =>
        cases q
        obtain ⟨q, vs, rfl, h1, hz, h2⟩ := lst_inv rx
        exact ⟨q, vs, rfl, .inl ⟨.inl (.inl h1), Post.newT ok p h2 hz⟩⟩
      | _ => cases q
  | list =>
    have h : (items x).map D.lst = some z := h
    cases q : items x with
    | none => rw [q] at h; cases h
    | some xs =>
      rw [q] at h
      cases h
      obtain ⟨q, vs, rfl, h1, hz, h2⟩ := items_rep rx q
      exact .inl ⟨q, vs, rfl, h1, Post.newL ok p h2 hz⟩
  | sum =>
    cases x with
    | lst xs =>
      have h : (intsD xs).map (fun ns => D.int ns.sum) = some z := h
      cases q : intsD xs with
      | none => rw [q] at h; cases h
      | some ns =>
        rw [q] at h
        cases h
        obtain ⟨q1, vs, rfl, h1, hz, h2⟩ := lst_inv rx
        rw [ints_ok q] at h2
        rw [reps_int h2] at h1
        exact ⟨q1, ns, rfl, .inl (.inl h1), Post.hereD ok p (rep_int _)⟩
    | _ => cases h
  | sorted =>
    have h : (match items x with
      | some xs => (intsD xs).map fun ns => D.lst ((sortI ns).map .int)
      | none => none) = some z := h
    cases x with
    | lst xs =>
      have h : (intsD xs).map (fun ns => D.lst ((sortI ns).map .int)) = some z := h
      cases q : intsD xs with
      | none => rw [q] at h; cases h
      | some ns =>
        rw [q] at h
        cases h
        obtain ⟨q1, vs, rfl, h1, hz, h2⟩ := lst_inv rx
        rw [ints_ok q] at h2
        rw [reps_int h2] at h1 hz
        refine .inl ⟨q1, ns, rfl, .inl (.inl h1), fun ns' a hp hs hn => ?_⟩
        have e : ns' = sortI ns := sorted_uniq (hp.trans (sortI_perm ns).symm) hs (sortI_sorted ns)
        subst e
        refine Post.newL ok p (of_int _) ?_ a hn
        rw [List.length_map, (sortI_perm ns).length_eq]
        rw [List.length_map] at hz
        exact hz
    | tup xs =>
      have h : (intsD xs).map (fun ns => D.lst ((sortI ns).map .int)) = some z := h
      cases q : intsD xs with
      | none => rw [q] at h; cases h
      | some ns =>
        rw [q] at h
        cases h
        obtain ⟨q1, vs, rfl, h1, hz, h2⟩ := rep_tup_inv rx
        rw [ints_ok q] at h2
        rw [reps_int h2] at h1 hz
        refine .inr ⟨q1, ns, rfl, h1, fun ns' a hp hs hn => ?_⟩
        have e : ns' = sortI ns := sorted_uniq (hp.trans (sortI_perm ns).symm) hs (sortI_sorted ns)
        subst e
        refine Post.newL ok p (of_int _) ?_ a hn
        rw [List.length_map, (sortI_perm ns).length_eq]
        rw [List.length_map] at hz
        exact hz
    | tuq xs =>
      have h : (intsD xs).map (fun ns => D.lst ((sortI ns).map .int)) = some z := h
      cases q : intsD xs with
      | none => rw [q] at h; cases h
      | some ns =>
        rw [q] at h
        cases h
        obtain ⟨q1, vs, rfl, ⟨o, _, h1⟩, hz, h2⟩ := rep_tuq_inv rx
        rw [ints_ok q] at h2
        rw [reps_int h2] at h1 hz
        refine .inr ⟨q1, ns, rfl, .inl (.inr ⟨o, h1⟩), fun ns' a hp hs hn => ?_⟩
        have e : ns' = sortI ns := sorted_uniq (hp.trans (sortI_perm ns).symm) hs (sortI_sorted ns)
        subst e
        refine Post.newL ok p (of_int _) ?_ a hn
        rw [List.length_map, (sortI_perm ns).length_eq]
        rw [List.length_map] at hz
        exact hz
    | _ => cases h
  | all =>
    cases x with
    | lst xs =>
      have h : (bools xs).map (fun ns => D.bl (ns.all id)) = some z := h
      cases q : bools xs with
      | none => rw [q] at h; cases h
      | some ns =>
        rw [q] at h
        cases h
        obtain ⟨q1, vs, rfl, h1, hz, h2⟩ := lst_inv rx
        rw [bools_ok q] at h2
        rw [reps_bl h2] at h1
        exact ⟨q1, ns, rfl, .inl (.inl h1), Post.hereD ok p (rep_bl _)⟩
    | _ => cases h
  | any =>
    cases x with
    | lst xs =>
      have h : (bools xs).map (fun ns => D.bl (ns.any id)) = some z := h
      cases q : bools xs with
      | none => rw [q] at h; cases h
      | some ns =>
        rw [q] at h
        cases h
        obtain ⟨q1, vs, rfl, h1, hz, h2⟩ := lst_inv rx
        rw [bools_ok q] at h2
        rw [reps_bl h2] at h1
        exact ⟨q1, ns, rfl, .inl (.inl h1), Post.hereD ok p (rep_bl _)⟩
    | _ => cases h
  | max =>
    cases x with
    | lst xs =>
      have h : (match intsD xs with
        | some ns => (maxI ns).map D.int
        | none => none) = some z := h
      cases q : intsD xs with
      | none => rw [q] at h; cases h
      | some ns =>
        rw [q] at h
        obtain ⟨q1, vs, rfl, h1, hz, h2⟩ := lst_inv rx
        rw [ints_ok q] at h2
        rw [reps_int h2] at h1
        cases ns with
        | nil => cases h
        | cons n ns =>
          cases h
          obtain ⟨f1, f2⟩ := foldmax ns n
          refine ⟨q1, n :: ns, rfl, .inl (.inl h1), by simp, fun m hm hy => ?_⟩
          have e : m = ns.foldl (fun a b => if b > a then b else a) n := Int.le_antisymm (f2 m hm) (hy _ f1)
          rw [e]
          exact Post.hereD ok p (rep_int _)
    | _ => cases h
  | min =>
    cases x with
    | lst xs =>
      have h : (match intsD xs with
        | some ns => (minI ns).map D.int
        | none => none) = some z := h
      cases q : intsD xs with
      | none => rw [q] at h; cases h
      | some ns =>
        rw [q] at h
        obtain ⟨q1, vs, rfl, h1, hz, h2⟩ := lst_inv rx
        rw [ints_ok q] at h2
        rw [reps_int h2] at h1
        cases ns with
        | nil => cases h
        | cons n ns =>
          cases h
          obtain ⟨f1, f2⟩ := foldmin ns n
          refine ⟨q1, n :: ns, rfl, .inl (.inl h1), by simp, fun m hm hy => ?_⟩
          have e : m = ns.foldl (fun a b => if b < a then b else a) n := Int.le_antisymm (hy _ f1) (f2 m hm)
          rw [e]
          exact Post.hereD ok p (rep_int _)
    | _ => cases h
/-- a call of a built-in by its name, one argument -/
theorem call1 {x : Str} {v : Value} {r : List V → Hp → VK → Prop} {m : ME} (hv : (∃ id, v = .builtin id) ∨ ∃ T, v = .type T) (hc : CallR X v r) (hg : Gl X x) (hm : X.mg x = none) (hb : bootBuiltins x = some v) (ha : PE X a (tE G W ma)) (hn : x ≠ ("__name__" : Str))
    (hd : (x == ("__debug__" : Str)) = false) (hs : starEach [a] X.env = (false, eval a X.env) :: starEach [] X.env)
    (i : ∀ σ H Q, tE G W m σ H Q → tE G W ma σ H fun u H1 => r [u] H1 Q) : PE X (.Call (.Name x p) [a] [] pos) (tE G W m) := by
  have pa : PA X [a] (tCons (tE G W ma) tNil) := pa_cons ha pa_nil hs
  rcases hv with ⟨id, rfl⟩ | ⟨T, rfl⟩
  · exact impE (pe_callB hc hg hm hb pa hn hd hs rfl) i
  · exact impE (pe_callTy hc hg hm hb pa hn hd hs rfl) i
theorem reps_key {K : PySem.W.Frag} {N : Addr → Prop} {H : Hp} : ∀ k : List Key, Reps K N H (k.map keyD) (k.map kV)
  | [] => .nil
  | .inl i :: r => .cons (rep_int i) (reps_key r)
  | .inr i :: r => .cons (rep_str i) (reps_key r)
theorem reps_keys {K : PySem.W.Frag} {N : Addr → Prop} {H : Hp} {kvs : List (List Key × V)} {bs : List Addr} (h : IsKeys H kvs bs) (hz : ∀ k ∈ kvs.map (fun (q : List Key × V) => q.1), k.length ≤ line) : Reps K N H (keysD (kvs.map fun (q : List Key × V) => q.1)) (bs.map V.ref) := by
  unfold IsKeys at h
  induction h with
  | nil => exact .nil
  | cons h _ ih => exact .cons (rep_tup (.inl (.inl h)) (by rw [List.length_map]; exact hz _ List.mem_cons_self) (reps_key _)) (ih fun k hk => hz k (List.mem_cons_of_mem _ hk))
theorem b1V_ok {w : Wd} {s : S} {H : Hp} {σ : L2.St} {f : B1} {v z : Val} {u : V} {Q : V → Hp → Prop} (ok : Ok G w s H) (r : SlotR G w H v u) (e : b1V f s v = some z) (h : Post G W (relV G) w H σ (.ok z s) Q) : rB1 G.K f [u] H Q := by
  have gen : (∀ ns, v ≠ .scr ns) → (∀ ks xs, v ≠ .ownT ks xs) → rB1 G.K f [u] H Q := fun hn hn2 => by
    have e : (match rd s v with
      | some x => (b1 f x).map Val.d
      | none => none) = some z := by
      cases v with
      | scr ns => exact absurd rfl (hn ns)
      | ownT ks xs => exact absurd rfl (hn2 ks xs)
      | _ => exact e
    cases q1 : rd s v with
    | none => rw [q1] at e; cases e
    | some x =>
      rw [q1] at e
      cases q2 : b1 f x with
      | none => simp only [q2] at e; cases e
      | some y =>
        simp only [q2] at e
        cases e
        exact b1_ok ok (rd_ok ok r q1) q2 h
  cases v with
  | scr ns =>
    have e : (if f = .len then some (Val.d (.int ns.length)) else none) = some z := e
    split at e
    · rename_i hf
      subst hf
      cases e
      obtain ⟨q, rfl, hp, _⟩ := r
      have hq : SqL G.K H q (ns.map V.int) := by
        rcases hp with ⟨o, hp⟩ | hp
        · exact .inl (.inr ⟨o, hp⟩)
        · rcases hp with (hp | ⟨o, hp⟩) | hp
          · cases hp
          · cases hp
          · exact .inr hp
      exact ⟨_, ns.length, rfl, .inl ⟨_, hq, by rw [List.length_map]⟩, Post.hereD ok h (rep_int _)⟩
    · cases e
  | ownT ks xs =>
    have e : (if f = .list then some (Val.d (.lst (keysD ks))) else none) = some z := e
    split at e
    · rename_i hf
      subst hf
      cases e
      obtain ⟨q, kvs, rfl, ho, h1, hk, ⟨hz, hkz⟩, h2⟩ := r
      refine .inr ⟨q, kvs, rfl, .inl h1, fun p bs hp hb => ?_⟩
      refine Post.newL (vs := bs.map V.ref) ok h ?_ ?_ p hp
      · subst hk
        exact reps_keys hb hkz
      · rw [List.length_map, ← Paired.length hb]; exact hz
    · cases e
  | _ => exact gen (fun ns hn => by cases hn) (fun ks xs hn => by cases hn)
theorem s_b1 (hK : G.K = X.K) (f : B1) (hc : f.walks = true → X.calm = true) (hg : Gl X (Str.ofString f.nm)) (hm : X.mg (Str.ofString f.nm) = none) (ha : PE X a (tE G W ma)) (hs : starEach [a] X.env = (false, eval a X.env) :: starEach [] X.env) :
    PE X (.Call (.Name (Str.ofString f.nm) p) [a] [] pos) (tE G W (mB1 f ma)) := by
  refine call1 (v := f.fv) (by cases f <;> first | exact .inl ⟨_, rfl⟩ | exact .inr ⟨_, rfl⟩) (cr_b1 f hc) hg hm (by cases f <;> decide +kernel) ha (by cases f <;> decide +kernel) (by cases f <;> decide +kernel) hs fun σ H Q ⟨w, s, e, ok, er, h⟩ => ?_
  refine one (R := fun u H => rB1 X.K f [u] H Q) ok er h fun w s H v u ok r _ h => ?_
  obtain ⟨z, e, h⟩ := of_ok h
  rw [← hK]
  exact b1V_ok ok r e h
/-! ### min(a, b), max(a, b) -/
theorem call2 {x : Str} {id : String} {r : List V → Hp → VK → Prop} {m : ME} (hc : CallR X (.builtin id) r) (hg : Gl X x) (hm : X.mg x = none) (hb : bootBuiltins x = some (.builtin id)) (ha : PE X a (tE G W ma)) (hb' : PE X b (tE G W mb)) (hn : x ≠ ("__name__" : Str))
    (hd : (x == ("__debug__" : Str)) = false) (hs : starEach [a, b] X.env = (false, eval a X.env) :: starEach [b] X.env) (hs2 : starEach [b] X.env = (false, eval b X.env) :: starEach [] X.env) (hpl : ((backTo pos (starEach [b] X.env)).any (·.1)) = false)
    (i : ∀ σ H Q, tE G W m σ H Q → tE G W ma σ H fun u H1 => tE G W mb σ H1 fun v H2 => r [u, v] H2 Q) : PE X (.Call (.Name x p) [a, b] [] pos) (tE G W m) :=
  impE (pe_callB hc hg hm hb (pa_cons ha (pa_cons hb' pa_nil hs2) hs) hn hd hs hpl) i
theorem s_min2 (hc : X.calm = true) (hg : Gl X "min") (hm : X.mg "min" = none) (ha : PE X a (tE G W ma)) (hb : PE X b (tE G W mb)) (hs : starEach [a, b] X.env = (false, eval a X.env) :: starEach [b] X.env) (hs2 : starEach [b] X.env = (false, eval b X.env) :: starEach [] X.env) (hpl : ((backTo pos (starEach [b] X.env)).any (·.1)) = false) :
    PE X (.Call (.Name "min" p) [a, b] [] pos) (tE G W (mMin2 ma mb)) := by
  refine call2 (call_min2 hc) hg hm (by decide +kernel) ha hb (by decide +kernel) (by decide +kernel) hs hs2 hpl fun σ H Q ⟨w, s, e, ok, er, h⟩ => ?_
  refine two (R := fun u v H => ∃ i j, [u, v] = [V.int i, V.int j] ∧ Q (V.int (if j < i then j else i)) H) ok er h fun w s H v v' u u' ok r r' _ h => ?_
  match v, v', h with
  | .d (.int i), .d (.int j), h => exact ⟨i, j, by rw [int_inv (slot_d r), int_inv (slot_d r')], Post.hereD ok h (rep_int _)⟩
theorem s_max2 (hc : X.calm = true) (hg : Gl X "max") (hm : X.mg "max" = none) (ha : PE X a (tE G W ma)) (hb : PE X b (tE G W mb)) (hs : starEach [a, b] X.env = (false, eval a X.env) :: starEach [b] X.env) (hs2 : starEach [b] X.env = (false, eval b X.env) :: starEach [] X.env) (hpl : ((backTo pos (starEach [b] X.env)).any (·.1)) = false) :
    PE X (.Call (.Name "max" p) [a, b] [] pos) (tE G W (mMax2 ma mb)) := by
  refine call2 (call_max2 hc) hg hm (by decide +kernel) ha hb (by decide +kernel) (by decide +kernel) hs hs2 hpl fun σ H Q ⟨w, s, e, ok, er, h⟩ => ?_
  refine two (R := fun u v H => ∃ i j, [u, v] = [V.int i, V.int j] ∧ Q (V.int (if j > i then j else i)) H) ok er h fun w s H v v' u u' ok r r' _ h => ?_
  match v, v', h with
  | .d (.int i), .d (.int j), h => exact ⟨i, j, by rw [int_inv (slot_d r), int_inv (slot_d r')], Post.hereD ok h (rep_int _)⟩
end
end MP
end

section
set_option Elab.async false
set_option linter.all false
set_option maxRecDepth 100000
set_option maxHeartbeats 4000000
/-! MP, part e: t[::-1], isinstance, methods of texts, {}. -/
namespace TupRev
open PySem PySem.Spec PyProof.Rows HT PySem.W
section
variable {prog : Program} {w : World} {A : Around} {E : Value → Shared → Prop} {s : Shared}
theorem applied_rev {sl : Addr} {t : Tok} {n : Nat} {Q : Int × Int × Nat → Shared → Prop} (hs : s.heap.IsSliceOf sl .none .none (.int (-1) t))
    (h : Q ((n : Int) - 1, -1, n) s) : wpAny (model prog w) A (Builtin.Slice.sliceApplied (.ref sl) (pure (n : Int))) Q E s := by
  obtain ⟨os, hos, hcs, hds⟩ := id hs
  unfold Builtin.Slice.sliceApplied Builtin.Slice.sliceFields
  refine wpAny_bind (wpAny_bind (wpAny_field hos hds (x := .none) rfl (wpAny_bind (wpAny_field hos hds (x := .none) rfl (wpAny_bind (wpAny_field hos hds (x := .int (-1) t) rfl (wpAny_pure ?_)))))))
  refine wpAny_bind (slicePart_int ?_)
  show wpAny _ _ (if ((-1 : Int) == 0) = true then _ else _) _ _ s
  rw [if_neg (by decide)]
  refine wpAny_bind (slicePart_none (wpAny_bind (slicePart_none (wpAny_bind (wpAny_pure ?_)))))
  show wpAny _ _ (match Builtin.Slice.sliceAdjust none none (-1) (n : Int) with | (lo, hi) => pure (lo, (-1 : Int), Builtin.Slice.slicePlaces lo hi (-1))) _ _ s
  have e : Builtin.Slice.sliceAdjust none none (-1) (n : Int) = ((n : Int) - 1, -1) := rfl
  rw [e]
  have e2 : Builtin.Slice.slicePlaces ((n : Int) - 1) (-1) (-1) = n := by
    unfold Builtin.Slice.slicePlaces
    rw [if_neg (by decide)]
    by_cases hn : (n : Int) - 1 > -1
    · rw [if_pos hn, show (- -1 : Int) = 1 by decide, Int.ediv_one]; omega
    · rw [if_neg hn]; omega
  show wpAny _ _ (pure ((n : Int) - 1, (-1 : Int), Builtin.Slice.slicePlaces ((n : Int) - 1) (-1) (-1))) _ _ s
  rw [e2]
  exact wpAny_pure h
theorem fm_congr {α β : Type} {f g : α → Option β} : ∀ {l : List α}, (∀ a ∈ l, f a = g a) → l.filterMap f = l.filterMap g
  | [], _ => rfl
  | a :: l, h => by
    rw [List.filterMap_cons, List.filterMap_cons, h a List.mem_cons_self, fm_congr fun b hb => h b (List.mem_cons_of_mem _ hb)]
theorem pick_rev (xs : Array Value) : ((List.range xs.size).filterMap fun (m : Nat) => xs[((xs.size : Int) - 1 + (m : Int) * (-1)).toNat]?).toArray = xs.toList.reverse.toArray := by
  have e : ((List.range xs.size).filterMap fun (m : Nat) => xs[((xs.size : Int) - 1 + (m : Int) * (-1)).toNat]?) = ((List.range xs.size).map fun k => xs.size - 1 - k).filterMap (xs[·]?) := by
    rw [List.filterMap_map]
    refine fm_congr fun m hm => ?_
    have := List.mem_range.mp hm
    show xs[((xs.size : Int) - 1 + (m : Int) * (-1)).toNat]? = xs[xs.size - 1 - m]?
    congr 1
    omega
  rw [e, krv_range, List.filterMap_reverse, krv_all]
theorem getItem_tuple_rev {t sl : Addr} {tk : Tok} {items : Array Value} {Q : Value → Shared → Prop} (ht : IsTup s.heap t items) (hs : s.heap.IsSliceOf sl .none .none (.int (-1) tk))
    (h : Q (.ref s.heap.objs.size) { s with heap := s.heap.push { cls := .type "tuple", data := .seq items.toList.reverse.toArray } })
    (hsz : items.size ≤ sizeLine) : wpAny (model prog w) A (getItem (.ref t) (.ref sl)) Q E s := by
  have htake : sizeOk (.seq items.toList.reverse.toArray) := by
    show items.toList.reverse.toArray.size ≤ sizeLine
    rw [List.size_toArray, List.length_reverse, Array.length_toList]
    exact hsz
  obtain ⟨os, hos, hcs, hds⟩ := id hs
  have hTs : s.TypeIs (.ref sl) "slice" := ⟨os, hos, hcs⟩
  unfold getItem
  try with_reducible refine wpAny_holding ?_
  first | refine wpAny_bind (wpAny_pure ?_) | skip
  refine wpAny_bind (wpAny_sequenceKey ht.typeIs (by decide) ?_)
  refine wpAny_bind (wpAny_callSpecial?_slot (name := Str.ofString "__getitem__") ht.typeIs PyProof.Rows.slot_tuple_getitem
    (wpAny_call_entry PyProof.Rows.slot_tuple_getitem ht.typeIs entry_tuple_getitem ?_ (args_tuple_getitem _ _)))
  show wpAny _ _ (Builtin.Tuple.tupleItemsOf (.ref t) >>= _) _ _ s
  refine wpAny_bind (tupleItemsOf_ ht ?_)
  refine wpAny_bind (wpAny_typeOf hTs ?_)
  rw [if_pos (by decide)]
  refine wpAny_bind (applied_rev hs ?_)
  have hno : ¬ (((items.size : Int) - 1 == 0 && (-1 : Int) == 1 && items.size == items.size) = true) := by
    rw [show ((-1 : Int) == 1) = false from by decide, Bool.and_false, Bool.false_and]
    exact Bool.false_ne_true
  show wpAny _ _ (if ((items.size : Int) - 1 == 0 && (-1 : Int) == 1 && items.size == items.size) = true then _ else _) _ _ s
  rw [if_neg hno, pick_rev]
  first
    | exact wpAny_bind (m := Builtin.Tuple.tupleExact _) (wpAny_newObj_type (wpAny_pure ⟨_, rfl, wpAny_pure h⟩) htake)
    | exact wpAny_bind (m := Builtin.Tuple.tupleExact _) (wpAny_newObj_type (wpAny_bind (wpAny_pure (wpAny_pure ⟨_, rfl, wpAny_pure h⟩))) htake)
    | exact wpAny_bind (wpAny_bind (m := Builtin.Tuple.tupleExact _) (wpAny_newObj_type (wpAny_pure (wpAny_pure ⟨_, rfl, wpAny_pure h⟩)) htake))
    | exact wpAny_bind (wpAny_bind (m := Builtin.Tuple.tupleExact _) (wpAny_newObj_type (wpAny_pure ⟨_, rfl, wpAny_pure h⟩) htake))
end
end TupRev
namespace MP
open PySem PySem.Spec PyProof.Rows L2
section
variable {X : Cx} {G : Gd} {W : WX} {pos p : Pos} {a b c : Expr} {ma mb mc : ME}
/-- xs[::-1], a list or a tuple -/
def tRev (K : PySem.W.Frag) (te : TE) : TE := fun σ H Q => te σ H fun x H1 => ∃ a xs, x = .ref a ∧ ((SqL K H1 a xs ∧ ∀ p, H1 p = none → Q (.ref p) (upd H1 p (.lst xs.reverse))) ∨ (SqT K H1 a xs ∧ ∀ p, H1 p = none → Q (.ref p) (upd H1 p (.tup xs.reverse))))
theorem pe_rev {e : Expr} {te : TE} {k : Nat} {p1 p2 p3 pos : Pos} (he : PE X e te) : PE X (.Subscript e (.Slice none none (some (.UnaryOp .USub (.Constant (.int 1) k p1) p2)) p3) pos) (tRev X.K te) := by
  refine ⟨fun pins s σ H Q I h => ?_⟩
  refine Subscript_ (thn (he.run pins s σ H _ I h) fun v s1 ⟨x, H1, I1, r1, q1⟩ => ?_)
  obtain ⟨a, xs, ex, hx⟩ := q1
  subst ex
  cases r1
  have hst : PO X (some (.UnaryOp .USub (.Constant (.int 1) k p1) p2)) (tPart (tUn (rU fun i => .int (-i)) (tC (.int 1)))) := po_some (pe_un un_neg pe_int)
  refine wpAny_Slice (thn (po_none.run pins s1 σ H1 (fun o H2 => o = none ∧ H2 = H1) I1 ⟨rfl, rfl⟩) fun vl s2 ⟨l, H2, I2, pl, el, e2⟩ => ?_)
  subst el e2
  refine thn (po_none.run pins s2 σ H2 (fun o H3 => o = none ∧ H3 = H2) I2 ⟨rfl, rfl⟩) fun vu s3 ⟨u, H3, I3, pu, eu, e3⟩ => ?_
  subst eu e3
  refine thn (hst.run pins s3 σ H3 (fun o H4 => o = some (-1) ∧ H4 = H3) I3 ⟨1, rfl, -1, rfl, rfl, rfl⟩) fun vs s4 ⟨o, H4, I4, ps, eo, e4⟩ => ?_
  subst eo e4
  have I5 : Inv X pins σ H4 { s4 with heap := s4.heap.push { cls := .type "slice", data := .fields #[vl, vu, vs] } } := I4.kept (t' := s4.toks) fun b ob q => Heap.get?_push_of_some _ q
  show wpAny (model X.prog X.w) X.A (subscriptTail e (.Slice none none (some (.UnaryOp .USub (.Constant (.int 1) k p1) p2)) p3) (.ref a) (.ref s4.heap.objs.size)) (EP X pins σ Q) X.xe { s4 with heap := s4.heap.push { cls := .type "slice", data := .fields #[vl, vu, vs] } }
  rcases hx with ⟨hx, q⟩ | ⟨hx, q⟩
  · obtain ⟨its, r, ht, hz⟩ := I5.list hx
    have hlen := r.length
    refine tail_any (ops := [.ref a, .ref s4.heap.objs.size]) ht.isList.typeIs (PySem.slot_list_getitem.lookup) ?_ (by with_unfolding_all rfl)
    refine wpAny_getItem_list_slice ht.isList (Heap.IsSliceOf.new _ vl vu vs) pl pu ps (by decide) ?_ (by rw [List.size_toArray]; omega)
    rw [PySem.W.krv_pick]
    refine ⟨.ref _, _, I5.laid (t' := s4.toks) (o := .lst xs.reverse) (fun b ob q => Heap.get?_push_of_some _ q) (Nat.le_refl _) ?_, rfl, q _ (I5.hok.fresh (Nat.le_refl _))⟩
    exact ⟨by rw [List.length_reverse]; exact hz, _, 0, r.reverse, Heap.get?_push_size _ rfl⟩
  · obtain ⟨its, r, ht, hz⟩ := I5.tuple hx
    have hlen := r.length
    refine tail_any (ops := [.ref a, .ref s4.heap.objs.size]) ht.typeIs (PyProof.Rows.slot_tuple_getitem.lookup) ?_ (by with_unfolding_all rfl)
    cases pl
    cases pu
    cases ps with
    | int i t =>
      refine TupRev.getItem_tuple_rev ht (Heap.IsSliceOf.new _ .none .none (.int (-1) t)) ?_ (by rw [List.size_toArray]; omega)
      refine ⟨.ref _, _, I5.laid (t' := s4.toks) (o := .tup xs.reverse) (fun b ob q => Heap.get?_push_of_some _ q) (Nat.le_refl _) ?_, rfl, q _ (I5.hok.fresh (Nat.le_refl _))⟩
      exact ⟨by rw [List.length_reverse]; exact hz, _, r.reverse, ⟨_, Heap.get?_push_size _ rfl, rfl, _, rfl⟩⟩
theorem s_rev (hK : G.K = X.K) {k : Nat} {p1 p2 p3 : Pos} (ha : PE X a (tE G W ma)) : PE X (.Subscript a (.Slice none none (some (.UnaryOp .USub (.Constant (.int 1) k p1) p2)) p3) pos) (tE G W (mRev ma)) := by
  refine impE (pe_rev ha) fun σ H Q ⟨w, s, e, ok, er, h⟩ => ?_
  refine one (R := fun x H1 => ∃ a xs, x = .ref a ∧ ((SqL X.K H1 a xs ∧ ∀ p, H1 p = none → Q (.ref p) (upd H1 p (.lst xs.reverse))) ∨ (SqT X.K H1 a xs ∧ ∀ p, H1 p = none → Q (.ref p) (upd H1 p (.tup xs.reverse))))) ok er h fun w s H v u ok r _ h => ?_
  cases q1 : rd s v with
  | none => rw [q1] at h; exact h.elim
  | some x =>
    rw [q1] at h
    have rx := rd_ok ok r q1
    cases x with
    | tup xs =>
      obtain ⟨q, vs, rfl, h1, hz, h2⟩ := rep_tup_inv rx
      exact ⟨q, vs, rfl, .inr ⟨by rw [← hK]; exact h1, Post.newT ok h h2.reverse (by rw [List.length_reverse]; exact hz)⟩⟩
    | lst xs =>
      obtain ⟨q, vs, rfl, h1, hz, h2⟩ := lst_inv rx
      exact ⟨q, vs, rfl, .inl ⟨.inl (.inl h1), Post.newL ok h h2.reverse (by rw [List.length_reverse]; exact hz)⟩⟩
    | _ => exact h.elim
/-! ### {} -/
theorem s_dic0 : PE X (.Dict [] [] pos) (tE G W mDic0) := by
  refine impE pe_dnewK fun σ H Q ⟨w, s, e, ok, er, h⟩ => fun p hn => ?_
  obtain ⟨ok1, x⟩ := ok.grow (grow_upd (o := .dK []) hn)
  refine h w _ (.ref p) x ok1 ?_
  show Rep G.K w.N _ (.dic [] []) (.ref p)
  unfold Rep
  exact ⟨p, [], rfl, ok.notN hn, upd_same, rfl, .nil⟩
/-! ### isinstance -/
def D.tn : D → String
  | .non => "NoneType" | .bl _ => "bool" | .int _ => "int" | .str _ => "str" | .tup _ => "tuple" | .tuq _ => "tuple" | .lst _ => "list" | .dic _ _ => "dict"
def Ty.nm : Ty → String
  | .int => "int" | .bool => "bool" | .str => "str" | .list => "list" | .tuple => "tuple" | .dict => "dict" | .ec _ => "" | .valueError => "ValueError"
def Ty.v (cA : EC → Addr) : Ty → V
  | .ec c => .ref (cA c)
  | t => .ty t.nm
def Ty.u (cA : EC → Addr) : Ty → Value
  | .ec c => .ref (cA c)
  | t => .type t.nm
theorem Ty.rel (cA : EC → Addr) (t : Ty) : RelV (t.v cA) (t.u cA) := by cases t <;> rfl
theorem Ty.cls (cA : EC → Addr) (t : Ty) : ClsV (t.v cA) (t.u cA) := by cases t <;> constructor
def tnIs (n : String) (t : Ty) : Bool := n == t.nm || (n == "bool" && t.nm == "int")
theorem kit_names : ∀ n ∈ ["NoneType", "bool", "int", "str", "tuple", "list", "dict"], ∀ t ∈ [Ty.int, .bool, .str, .list, .tuple, .dict], kitB n t.nm = some (tnIs n t) := by decide +kernel
theorem noData {t : Ty} (h : t.data = true) : t = .int ∨ t = .bool ∨ t = .str ∨ t = .list ∨ t = .tuple ∨ t = .dict := by
  cases t with
  | int => simp
  | bool => simp
  | str => simp
  | list => simp
  | tuple => simp
  | dict => simp
  | ec c => cases h
  | valueError => cases h
theorem kit_data (x : D) (t : Ty) (h : t.data = true) : kitB x.tn t.nm = some (isTy x t) := by
  have e : isTy x t = tnIs x.tn t := by
    rcases noData h with rfl | rfl | rfl | rfl | rfl | rfl <;> cases x <;> rfl
  rw [e]
  refine kit_names _ ?_ _ ?_
  · cases x <;> simp [D.tn]
  · rcases noData h with rfl | rfl | rfl | rfl | rfl | rfl <;> simp
theorem Ty.u_data {t : Ty} (cA : EC → Addr) (h : t.data = true) : t.u cA = .type t.nm := by
  rcases noData h with rfl | rfl | rfl | rfl | rfl | rfl <;> rfl
theorem ty_data {K : PySem.W.Frag} {N : Addr → Prop} {H : Hp} {x : D} {u : V} (r : RdR K N H x u) : TyX K H u (.type x.tn) := by
  cases x with
  | non => rw [non_inv r]; exact .base .non
  | bl b => rw [bl_inv r]; exact .base (.bl b)
  | int b => rw [int_inv r]; exact .base (.int b)
  | str b => rw [str_inv r]; exact .base (.str b)
  | tup xs =>
    obtain ⟨q, vs, rfl, h1, _, _⟩ := rep_tup_inv r
    rcases h1 with (h1 | ⟨o, h1⟩) | ⟨o, its, n, hk, hc, _⟩
    · exact .base (.tup h1)
    · exact .fTuple h1
    · exact .kTuple hk hc
  | tuq xs =>
    obtain ⟨q, vs, rfl, ⟨o, _, h1⟩, _, _⟩ := rep_tuq_inv r
    exact .fTuple h1
  | lst xs =>
    obtain ⟨q, vs, rfl, h1, _, _⟩ := lst_inv r
    exact .base (.lst h1)
  | dic ks us =>
    have r : Rep K N H (.dic ks us) u := r
    unfold Rep at r
    obtain ⟨q, vs, rfl, _, h1, _⟩ := r
    exact .base (.dK h1)
/-- the handled error's own dict stands -/
def DOk (H : Hp) (d : Option Addr) : Prop := ∀ p, d = some p → ∃ fs, H p = some (.xd fs)
theorem Pay.dok {K : PySem.W.Frag} {N : Addr → Prop} {H : Hp} {c : EC} {y : Option D} {d : Option Addr} (h : Pay K N H c y d) : DOk H d := fun p e => by
  unfold Pay at h
  cases y with
  | none => rw [e] at h; cases h
  | some y =>
    obtain ⟨q, u, e1, h1, _⟩ := h
    rw [e] at e1; cases e1
    exact ⟨_, h1⟩
/-- what isinstance says of the error that is handled -/
structure HxOk (X : Cx) (G : Gd) : Prop where
  one : ∀ a c d, G.hx = some (a, c, d) → ∀ t : Ty, t.data = false → CallR X (.builtin "isinstance") fun xs H Q => xs = [.ref a, t.v G.cA] ∧ DOk H d ∧ Q (.bl (isEx c t)) H
  many : ∀ a c d, G.hx = some (a, c, d) → ∀ ts : List Ty, ts.any Ty.data = false → CallR X (.builtin "isinstance") fun xs H Q => ∃ tp, xs = [.ref a, .ref tp] ∧ H tp = some (.tup (ts.map (Ty.v G.cA))) ∧ DOk H d ∧ Q (.bl (ts.any (isEx c))) H
theorem HxOk.no {G : Gd} (h : G.hx = none) : HxOk X G := ⟨fun a c d e => (by rw [h] at e; cases e), fun a c d e => (by rw [h] at e; cases e)⟩
def rIs1 (G : Gd) (t : Ty) : List V → Hp → VK → Prop := fun xs H Q => rIsi G.K xs H Q ∨ ∃ a c d, G.hx = some (a, c, d) ∧ t.data = false ∧ xs = [.ref a, t.v G.cA] ∧ DOk H d ∧ Q (.bl (isEx c t)) H
theorem call_is1 (hK : G.K = X.K) (hx : HxOk X G) (t : Ty) : CallR X (.builtin "isinstance") (rIs1 G t) := fun pins s σ H xs us Q I r h => by
  rcases h with h | ⟨a, c, d, e, ht, h⟩
  · rw [hK] at h; exact call_isi pins s σ H xs us Q I r h
  · exact hx.one a c d e t ht pins s σ H xs us Q I r h
theorem isV_ok {w : Wd} {s : S} {H : Hp} {σ : L2.St} {v : Val} {u : V} {t : Ty} {k : Bool} {Q : VK} (ok : Ok G w s H) (r : SlotR G w H v u) (e : isV s v t = some k) (q : Q (.bl k) H) : rIs1 G t [u, t.v G.cA] H Q := by
  have gen : (∀ c x, v ≠ .exc c x) → rIs1 G t [u, t.v G.cA] H Q := fun hn => by
    have e : (if t.data then (rd s v).map (isTy · t) else none) = some k := by
      cases v with
      | exc c x => exact absurd rfl (hn c x)
      | _ => exact e
    split at e
    · rename_i ht
      cases q1 : rd s v with
      | none => rw [q1] at e; cases e
      | some x =>
        rw [q1] at e
        cases e
        refine .inl ⟨u, t.v G.cA, _, t.u G.cA, isTy x t, rfl, t.cls G.cA, ty_data (rd_ok ok r q1), ?_, q⟩
        have hu : t.u G.cA = .type t.nm := t.u_data G.cA ht
        rw [hu]
        exact kit_ty (kit_data x t ht)
    · cases e
  cases v with
  | exc c x =>
    have e : (if t.data then none else some (isEx c t)) = some k := e
    split at e
    · cases e
    · rename_i ht
      cases e
      obtain ⟨a, d, ha, rfl, pay⟩ := r
      exact .inr ⟨a, c, d, ha, by simpa using ht, rfl, pay.dok, q⟩
  | _ => exact gen fun c x hn => by cases hn
theorem bl_mapped {α : Type} {w : Wd} {H : Hp} {σ : L2.St} {r : MP.R α} {f : α → S → MP.R Bool} {Q : V → Hp → Prop} (h : Post G W (relV G) w H σ ((r.bind f).bind fun b s => .ok (.d (.bl b)) s) Q) : Post G W (relV G) w H σ (r.bind fun v s => (f v s).bind fun b s => .ok (.d (.bl b)) s) Q := by
  cases r <;> exact h
theorem s_isI (hK : G.K = X.K) (hx : HxOk X G) {t : Ty} {tn : Expr} (ht : PE X tn (tC (t.v G.cA))) (hg : Gl X "isinstance") (hm : X.mg "isinstance" = none) (ha : PE X a (tE G W ma))
    (hs : starEach [a, tn] X.env = (false, eval a X.env) :: starEach [tn] X.env) (hs2 : starEach [tn] X.env = (false, eval tn X.env) :: starEach [] X.env) (hpl : ((backTo pos (starEach [tn] X.env)).any (·.1)) = false) :
    PE X (.Call (.Name "isinstance" p) [a, tn] [] pos) (tE G W (mBl (mIsI ma t))) := by
  refine impE (pe_callB (call_is1 hK hx t) hg hm (by decide +kernel) (pa_cons ha (pa_cons ht pa_nil hs2) hs) (by decide +kernel) (by decide +kernel) hs hpl) fun σ H Q ⟨w, s, e, ok, er, h⟩ => ?_
  refine one (R := fun u H => rIs1 G t [u, t.v G.cA] H Q) ok er (bl_mapped h) fun w s H v u ok r _ h => ?_
  cases q : isV s v t with
  | none => rw [q] at h; exact h.elim
  | some k => rw [q] at h; exact isV_ok (σ := σ) ok r q (Post.hereD ok h (rep_bl k))
/-- the names of some classes -/
theorem pa_tys {ts : List Ty} {es : List Expr} (h : Paired (fun t e => PE X e (tC (Ty.v G.cA t))) ts es) (hs : ∀ (e : Expr) (r : List Expr), (∃ i, es.drop i = e :: r) → starEach (e :: r) X.env = (false, eval e X.env) :: starEach r X.env) :
    PA X es (fun _ H Q => Q (ts.map (Ty.v G.cA)) H) := by
  induction h with
  | nil => exact pa_nil
  | cons h1 h2 ih =>
    have ih := ih fun e r ⟨i, hi⟩ => hs e r ⟨i + 1, hi⟩
    exact impA (pa_cons h1 ih (hs _ _ ⟨0, rfl⟩)) fun σ H Q h => h
theorem kitAny_data {K : PySem.W.Frag} (cA : EC → Addr) (x : D) : ∀ ts : List Ty, ts.all Ty.data = true → PySem.W.kitAny K (.type x.tn) (ts.map (Ty.u cA)) = some (ts.any (isTy x))
  | [], _ => rfl
  | t :: ts, h => by
    rw [List.all_cons, Bool.and_eq_true] at h
    have hu : t.u cA = .type t.nm := t.u_data cA h.1
    rw [List.map_cons, hu]
    unfold PySem.W.kitAny
    rw [kit_ty (kit_data x t h.1), List.any_cons]
    cases isTy x t with
    | true => rfl
    | false => exact kitAny_data cA x ts h.2
def rIsM (G : Gd) (ts : List Ty) : List V → Hp → VK → Prop := fun xs H Q => rIsiT G.K xs H Q ∨ ∃ a c d, G.hx = some (a, c, d) ∧ ts.any Ty.data = false ∧ ∃ tp, xs = [.ref a, .ref tp] ∧ H tp = some (.tup (ts.map (Ty.v G.cA))) ∧ DOk H d ∧ Q (.bl (ts.any (isEx c))) H
theorem call_isM (hK : G.K = X.K) (hx : HxOk X G) (ts : List Ty) : CallR X (.builtin "isinstance") (rIsM G ts) := fun pins s σ H xs us Q I r h => by
  rcases h with h | ⟨a, c, d, e, ht, h⟩
  · rw [hK] at h; exact call_isiT pins s σ H xs us Q I r h
  · exact hx.many a c d e ts ht pins s σ H xs us Q I r h
theorem paired_cls (cA : EC → Addr) : ∀ ts : List Ty, Paired ClsV (ts.map (Ty.v cA)) (ts.map (Ty.u cA))
  | [] => .nil
  | t :: ts => .cons (t.cls cA) (paired_cls cA ts)
theorem s_isIs (hK : G.K = X.K) (hx : HxOk X G) {ts : List Ty} {es : List Expr} {x1} {p2 : Pos} (ht : PA X es (fun _ H Q => Q (ts.map (Ty.v G.cA)) H)) (hz : ts.length ≤ 100) (hg : Gl X "isinstance") (hm : X.mg "isinstance" = none) (ha : PE X a (tE G W ma))
    (hs : starEach [a, .Tuple es x1 p2] X.env = (false, eval a X.env) :: starEach [.Tuple es x1 p2] X.env) (hs2 : starEach [.Tuple es x1 p2] X.env = (false, eval (.Tuple es x1 p2) X.env) :: starEach [] X.env) (hpl : ((backTo pos (starEach [.Tuple es x1 p2] X.env)).any (·.1)) = false) :
    PE X (.Call (.Name "isinstance" p) [a, .Tuple es x1 p2] [] pos) (tE G W (mBl (mIsIs ma ts))) := by
  refine impE (pe_callB (call_isM hK hx ts) hg hm (by decide +kernel) (pa_cons ha (pa_cons (pe_tup ht) pa_nil hs2) hs) (by decide +kernel) (by decide +kernel) hs hpl) fun σ H Q ⟨w, s, e, ok, er, h⟩ => ?_
  refine one (R := fun u H => (ts.map (Ty.v G.cA)).length ≤ sizeLine ∧ ∀ q, H q = none → rIsM G ts [u, .ref q] (upd H q (.tup (ts.map (Ty.v G.cA)))) Q) ok er (bl_mapped h) fun w s H v u ok r _ h => ?_
  refine ⟨by rw [List.length_map, ← line_eq]; show ts.length ≤ 16777216; omega, fun q hn => ?_⟩
  obtain ⟨ok1, xt⟩ := ok.grow (grow_upd (o := .tup (ts.map (Ty.v G.cA))) hn)
  have r1 := r.ext ok xt
  have h1 := Post.mono xt ok1 h
  cases qv : isVs s v ts with
  | none => rw [qv] at h1; exact h1.elim
  | some k =>
    rw [qv] at h1
    have fin : Q (.bl k) (upd H q (.tup (ts.map (Ty.v G.cA)))) := Post.hereD ok1 h1 (rep_bl k)
    have gen : (∀ c x, v ≠ .exc c x) → rIsM G ts [u, .ref q] (upd H q (.tup (ts.map (Ty.v G.cA)))) Q := fun hnx => by
      have e : (if ts.all Ty.data then (rd s v).map (fun x => ts.any (isTy x)) else none) = some k := by
        cases v with
        | exc c x => exact absurd rfl (hnx c x)
        | _ => exact qv
      split at e
      · rename_i hd
        cases q1 : rd s v with
        | none => rw [q1] at e; cases e
        | some x =>
          rw [q1] at e
          cases e
          exact .inl ⟨u, q, _, _, _, _, rfl, upd_same, paired_cls G.cA ts, ty_data (rd_ok ok1 r1 q1), kitAny_data G.cA x ts hd, fin⟩
      · cases e
    cases v with
    | exc c x =>
      have e : (if ts.any Ty.data then none else some (ts.any (isEx c))) = some k := qv
      split at e
      · cases e
      · rename_i hd
        cases e
        obtain ⟨a, d, ha, rfl, pay⟩ := r1
        exact .inr ⟨a, c, d, ha, by simpa using hd, q, rfl, upd_same, pay.dok, fin⟩
    | _ => exact gen fun c x hn => by cases hn
/-! ### methods of texts -/
def attrOk (a : Expr) (n : Str) (env : PySem.Env) : Prop := attributeBase a n env (eval a env) = eval a env
theorem s_join (hK : G.K = X.K) {apos : Pos} (ha : PE X a (tE G W ma)) (hb : PE X b (tE G W mb)) (hbase : attrOk a "join" X.env)
    (hf : ((((backTo pos (starEach [b] X.env)).all fun x => !x.1) && (backToKw pos (keywordEach [] X.env)).all fun x => x.1.isSome) && decide (([b].length + ([] : List Keyword).length + if ([] : List Keyword).isEmpty = true then 0 else 1) < 30)) = true) (hl : (apos.endLine == pos.line) = true)
    (hs : starEach [b] X.env = (false, eval b X.env) :: starEach [] X.env) : PE X (.Call (.Attribute a "join" apos) [b] [] pos) (tE G W (mJoin ma mb)) := by
  refine impE (pe_bm F.plainAttrs_str F.slot_str_join F.type_str_join mt_join ha (pa_cons hb pa_nil hs) hbase hf hl hs rfl) fun σ H Q ⟨w, s, e, ok, er, h⟩ => ?_
  refine ⟨w, s, e, ok, er, Post.bind (rel := relV G) h fun w1 s1 H1 v u x1 ok1 r1 h1 => ?_⟩
  match v, h1 with
  | .d (.str z), h1 =>
    rw [str_inv (slot_d r1)]
    refine ⟨rfl, w1, s1, e, ok1, er.ext ok x1, Post.bind (rel := relV G) h1 fun w2 s2 H2 v2 u2 x2 ok2 r2 h2 => ?_⟩
    cases q1 : rd s2 v2 with
    | none => rw [q1] at h2; exact h2.elim
    | some x =>
      rw [q1] at h2
      dsimp only at h2
      cases q2 : items x with
      | none => rw [q2] at h2; exact h2.elim
      | some xs =>
        rw [q2] at h2
        dsimp only at h2
        cases q3 : strsD xs with
        | none => rw [q3] at h2; exact h2.elim
        | some ys =>
          rw [q3] at h2
          dsimp only at h2
          split at h2
          · rename_i hl
            obtain ⟨q, vs, rfl, h3, hz, h4⟩ := items_rep (rd_ok ok2 r2 q1) q2
            rw [strs_ok q3] at h4
            rw [reps_str h4] at h3
            exact ⟨z, q, ys, rfl, rfl, by rw [← hK]; exact h3, hl, Post.hereD ok2 h2 (rep_str _)⟩
          · exact h2.elim
theorem s_split {apos : Pos} (ha : PE X a (tE G W ma)) (hb : PE X b (tE G W mb)) (hbase : attrOk a "split" X.env)
    (hf : ((((backTo pos (starEach [b] X.env)).all fun x => !x.1) && (backToKw pos (keywordEach [] X.env)).all fun x => x.1.isSome) && decide (([b].length + ([] : List Keyword).length + if ([] : List Keyword).isEmpty = true then 0 else 1) < 30)) = true) (hl : (apos.endLine == pos.line) = true)
    (hs : starEach [b] X.env = (false, eval b X.env) :: starEach [] X.env) : PE X (.Call (.Attribute a "split" apos) [b] [] pos) (tE G W (mSplit ma mb)) := by
  refine impE (pe_bm F.plainAttrs_str F.slot_str_split F.type_str_split mt_split ha (pa_cons hb pa_nil hs) hbase hf hl hs rfl) fun σ H Q ⟨w, s, e, ok, er, h⟩ => ?_
  refine ⟨w, s, e, ok, er, Post.bind (rel := relV G) h fun w1 s1 H1 v u x1 ok1 r1 h1 => ?_⟩
  match v, h1 with
  | .d (.str z), h1 =>
    rw [str_inv (slot_d r1)]
    refine ⟨rfl, w1, s1, e, ok1, er.ext ok x1, Post.bind (rel := relV G) h1 fun w2 s2 H2 v2 u2 x2 ok2 r2 h2 => ?_⟩
    match v2, h2 with
    | .d (.str y), h2 =>
      rw [str_inv (slot_d r2)]
      dsimp only at h2
      split at h2
      · rename_i hc
        exact ⟨z, y, rfl, rfl, hc.1, by rw [← line_eq]; exact hc.2.1, Post.newL ok2 h2 (by rw [List.map_congr_left (g := D.str) fun _ _ => rfl]; exact of_str _) (by rw [List.length_map]; exact hc.2.2)⟩
      · exact h2.elim
theorem s_words {apos : Pos} (ha : PE X a (tE G W ma)) (hbase : attrOk a "split" X.env) (hl : (apos.endLine == pos.line) = true) : PE X (.Call (.Attribute a "split" apos) [] [] pos) (tE G W (mWords ma)) := by
  refine impE (pe_bm0 F.plainAttrs_str F.slot_str_split F.type_str_split mt_words ha hbase hl) fun σ H Q ⟨w, s, e, ok, er, h⟩ => ?_
  refine ⟨w, s, e, ok, er, Post.bind (rel := relV G) h fun w1 s1 H1 v u x1 ok1 r1 h1 => ?_⟩
  match v, h1 with
  | .d (.str z), h1 =>
    rw [str_inv (slot_d r1)]
    dsimp only at h1
    split at h1
    · rename_i hc
      exact ⟨rfl, z, rfl, rfl, by rw [← line_eq]; exact hc.1, Post.newL ok1 h1 (of_str _) (by rw [List.length_map]; exact hc.2)⟩
    · exact h1.elim
end
end MP
end

section
set_option Elab.async false
set_option linter.all false
set_option maxRecDepth 100000
set_option maxHeartbeats 4000000
/-! MP, part f: what is walked, comprehensions, statements. -/
namespace MP
open PySem PySem.Spec PyProof.Rows L2

theorem Last.trans {N N1 N2 : Addr → Prop} {H H1 H2 : Hp} (a : Last N N1 H H1) (b : Last N1 N2 H1 H2) : Last N N2 H H2 := by
  refine ⟨fun p o h hn => b.keep p o (a.keep p o h hn) fun z => ?_, fun p h => ?_, a.mu⟩
  · rcases a.bad p z with z | z
    · exact hn z
    · rw [z] at h; cases h
  · rcases b.bad p h with z | z
    · exact a.bad p z
    · by_cases hp : N p
      · exact .inl hp
      · cases q : H p with
        | none => exact .inr rfl
        | some o => rw [a.keep p o q hp] at z; cases z
theorem Last.refl {G : Gd} {w : Wd} {s : S} {H : Hp} (ok : Ok G w s H) : Last w.N w.N H H := ⟨fun _ _ h _ => h, fun _ h => .inl h, ok.mu⟩
/-- J walks the data xs, as the heap lies -/
structure Walk (K : PySem.W.Frag) (N : Addr → Prop) (H : Hp) (J : It) (xs : List D) : Prop where
  go : ∀ (i : Nat) x, xs[i]? = some x → J.go i H ∧ ∀ y H', J.yld i H y H' → H' = H ∧ Rep K N H x y
  stop : J.stop xs.length H
/-- .. and goes on so, whatever comes -/
def Walks (K : PySem.W.Frag) (N : Addr → Prop) (H : Hp) (J : It) (xs : List D) : Prop := ∀ N' H', Last N N' H H' → Walk K N' H' J xs
theorem Walks.last {K : PySem.W.Frag} {N N1 : Addr → Prop} {H H1 : Hp} {J : It} {xs : List D} (L : Last N N1 H H1) (h : Walks K N H J xs) : Walks K N1 H1 J xs := fun N' H' L' => h N' H' (L.trans L')
theorem walks_tup {K : PySem.W.Frag} {N : Addr → Prop} {H : Hp} {p : Addr} {xs : List D} {vs : List V} (h : SqT K H p vs) (r : Reps K N H xs vs) : Walks K N H (Itt K p) xs := fun N' H' L => by
  have h' := SqT.last L h
  have r' := Reps.last L xs r
  refine ⟨fun i x hx => ?_, ⟨vs, h', by rw [r.length]; exact Nat.le_refl _⟩⟩
  obtain ⟨v, hv, rv⟩ := r'.get hx
  refine ⟨⟨vs, v, h', hv⟩, fun y H2 hy => ⟨hy.1, ?_⟩⟩
  have e := hy.2 vs h'
  rw [hv] at e
  rw [← Option.some.inj e]
  exact rv
theorem walks_lst {K : PySem.W.Frag} {N : Addr → Prop} {H : Hp} {p : Addr} {xs : List D} {vs : List V} (hn : ¬ N p) (h : H p = some (.lst vs)) (r : Reps K N H xs vs) : Walks K N H (Itl K p) xs := fun N' H' L => by
  have h' : SqL K H' p vs := .inl (.inl (L.keep p _ h hn))
  have r' := Reps.last L xs r
  refine ⟨fun i x hx => ?_, ⟨vs, h', by rw [r.length]; exact Nat.le_refl _⟩⟩
  obtain ⟨v, hv, rv⟩ := r'.get hx
  refine ⟨⟨vs, v, h', hv⟩, fun y H2 hy => ⟨hy.1, ?_⟩⟩
  have e := hy.2 vs h'
  rw [hv] at e
  rw [← Option.some.inj e]
  exact rv
theorem rangeI_length (lo : Int) : ∀ n, (rangeI lo n).length = n := fun n => by
  induction n generalizing lo with
  | zero => rfl
  | succ n ih => unfold rangeI; rw [List.length_cons, ih]
theorem rangeI_get {n : Nat} {lo : Int} {i : Nat} {x : D} (h : (rangeI lo n)[i]? = some x) : i < n ∧ x = .int (lo + i) := by
  induction n generalizing lo i with
  | zero => cases h
  | succ n ih =>
    unfold rangeI at h
    cases i with
    | zero => cases h; exact ⟨Nat.succ_pos _, by simp⟩
    | succ i =>
      obtain ⟨h1, h2⟩ := ih (by simpa using h)
      refine ⟨Nat.succ_lt_succ h1, ?_⟩
      rw [h2]; congr 1; push_cast; omega
theorem walks_rng {K : PySem.W.Frag} {N : Addr → Prop} {H : Hp} (lo : Int) (n : Nat) : Walks K N H (Itr lo n) (rangeI lo n) := fun N' H' L => by
  refine ⟨fun i x hx => ?_, by show n ≤ _; rw [rangeI_length]; exact Nat.le_refl _⟩
  obtain ⟨h1, rfl⟩ := rangeI_get hx
  exact ⟨h1, fun y H2 hy => ⟨hy.1, by rw [hy.2]; exact rep_int _⟩⟩
abbrev relI (G : Gd) : Wd → S → Hp → List D → It → Prop := fun w _ H xs J => Walks G.K w.N H J xs ∧ xs.length ≤ line
def tI (G : Gd) (W : WX) (m : MI) : TI := fun σ H R => ∃ w s e, Ok G w s H ∧ EnvR G w H e σ ∧ Post G W (relI G) w H σ (m e s) R
theorem impI {X : Cx} {tg e : Expr} {t t' : TI} (h : PI X tg e t) (i : ∀ σ H R, t' σ H R → t σ H R) : PI X tg e t' := ⟨fun pins s σ H R I q => h.run pins s σ H R I (i σ H R q)⟩
section
variable {X : Cx} {G : Gd} {W : WX} {pos p : Pos} {tg a b c : Expr} {ma mb mc : ME}
/-- a list or a tuple, walked -/
def iSeq (K : PySem.W.Frag) (tl : TE) : TI := fun σ H R => tl σ H fun x H1 => (∃ z, x = .str z ∧ R (Its z) H1) ∨ ∃ a, x = .ref a ∧ (((∃ xs, SqL K H1 a xs) ∧ R (Itl K a) H1) ∨ ((∃ xs, SqT K H1 a xs) ∧ R (Itt K a) H1))
theorem pi_seq {l : Expr} {tl : TE} (hl : PE X l tl) : PI X tg l (iSeq X.K tl) := by
  refine ⟨fun pins s σ H R I h => ?_⟩
  refine thn (hl.run pins s σ H _ I h) fun v s1 ⟨x, H1, I1, r1, q1⟩ => ?_
  rcases q1 with ⟨z, e, q⟩ | ⟨a, e, q⟩
  · subst e
    obtain ⟨t, rfl⟩ := r1
    cases ha : z.cps.all (· < 128) with
    | false => exact wpAny_pyIter_wide ha (pi_one (tk := s1.toks) I1 _ (turn_str _ z t "str_iterator" (.inr rfl)) ⟨_, Heap.get?_push_size _ rfl, rfl, rfl⟩ q)
    | true => exact wpAny_pyIter_ascii ha (pi_one (tk := s1.toks) I1 _ (turn_str _ z t "str_ascii_iterator" (.inl rfl)) ⟨_, Heap.get?_push_size _ rfl, rfl, rfl⟩ q)
  subst e
  cases r1
  rcases q with ⟨⟨xs, hq⟩, q⟩ | ⟨⟨xs, hq⟩, q⟩
  · obtain ⟨its, rv, p, hz⟩ := I1.list hq
    refine wpAny_pyIter_list p.isList ?_
    refine ⟨s1.heap.objs.size, [s1.heap.objs.size], _, _, H1, rfl, I1.kept (t' := s1.toks) fun b o e => Heap.get?_push_of_some _ e, turn_list a _, ⟨_, Heap.get?_push_size _ rfl, rfl, rfl⟩, fun b hb => ?_, q⟩
    have e : b = s1.heap.objs.size := by simpa using hb
    subst e
    exact I1.fpOk (Nat.le_refl _) (I1.hok.fresh (Nat.le_refl _))
  · obtain ⟨its, rv, p, hz⟩ := I1.tuple hq
    refine wpAny_pyIter_tuple (show s1.heap.IsTuple a its.toArray from p) ?_
    refine ⟨s1.heap.objs.size, [s1.heap.objs.size], _, _, H1, rfl, I1.kept (t' := s1.toks) fun b o e => Heap.get?_push_of_some _ e, turn_tuple a _, ⟨_, Heap.get?_push_size _ rfl, rfl, rfl⟩, fun b hb => ?_, q⟩
    have e : b = s1.heap.objs.size := by simpa using hb
    subst e
    exact I1.fpOk (Nat.le_refl _) (I1.hok.fresh (Nat.le_refl _))
theorem walks_str {K : PySem.W.Frag} {N : Addr → Prop} {H : Hp} (z : Str) : Walks K N H (Its z) (z.cps.toList.map fun c => .str ⟨#[c]⟩) := fun N' H' L => by
  refine ⟨fun i x hx => ?_, by show z.cps.size ≤ _; rw [List.length_map, Array.length_toList]; exact Nat.le_refl _⟩
  rw [List.getElem?_map] at hx
  obtain ⟨c, hc, rfl⟩ := Option.map_eq_some_iff.mp hx
  rw [Array.getElem?_toList] at hc
  refine ⟨(Array.getElem?_eq_some_iff.mp hc).1, fun y H2 hy => ⟨hy.1, ?_⟩⟩
  obtain ⟨c', h1, h2⟩ := hy.2
  rw [hc] at h1
  cases h1
  rw [h2]
  exact rep_str _
theorem s_itV (hK : G.K = X.K) (ha : PE X a (tE G W ma)) : PI X tg a (tI G W (mItV ma)) := by
  refine impI (pi_seq ha) fun σ H R ⟨w, s, e, ok, er, h⟩ => ?_
  refine ⟨w, s, e, ok, er, Post.bind (rel := relV G) h fun w1 s1 H1 v u x1 ok1 r1 h1 => ?_⟩
  cases v with
  | d x =>
    obtain ⟨xs, q, h1⟩ := of_ok h1
    have rx := slot_d r1
    rw [← hK]
    cases x with
    | str z =>
      have q : (if z.length ≤ line then some (z.cps.toList.map fun c => D.str ⟨#[c]⟩) else none) = some xs := q
      split at q
      · rename_i hl
        cases q
        rw [str_inv rx]
        exact .inl ⟨z, rfl, Post.here (rel := relI G) ok1 h1 ⟨walks_str z, by rw [List.length_map, Array.length_toList]; exact hl⟩⟩
      · cases q
    | tup ys =>
      cases q
      obtain ⟨p, vs, rfl, h2, hz, h3⟩ := rep_tup_inv rx
      exact .inr ⟨p, rfl, .inr ⟨⟨vs, h2⟩, Post.here (rel := relI G) ok1 h1 ⟨walks_tup h2 h3, by rw [h3.length]; exact hz⟩⟩⟩
    | tuq ys =>
      cases q
      obtain ⟨p, vs, rfl, ⟨o, _, h2⟩, hz, h3⟩ := rep_tuq_inv rx
      exact .inr ⟨p, rfl, .inr ⟨⟨vs, .inl (.inr ⟨o, h2⟩)⟩, Post.here (rel := relI G) ok1 h1 ⟨walks_tup (.inl (.inr ⟨o, h2⟩)) h3, by rw [h3.length]; exact hz⟩⟩⟩
    | lst ys =>
      cases q
      have r1 : Rep G.K w1.N H1 (.lst _) u := r1
      unfold Rep at r1
      obtain ⟨p, vs, rfl, hn, h2, hz, h3⟩ := r1
      exact .inr ⟨p, rfl, .inl ⟨⟨vs, .inl (.inl h2)⟩, Post.here (rel := relI G) ok1 h1 ⟨walks_lst hn h2 h3, by rw [h3.length]; exact hz⟩⟩⟩
    | _ => cases q
  | _ => exact h1.elim
theorem s_rg1 (hg : Gl X "range") (hm : X.mg "range" = none) (ha : PE X a (tE G W ma)) (hs : starEach [a] X.env = [(false, eval a X.env)]) : PI X tg (.Call (.Name "range" p) [a] [] pos) (tI G W (mRg1 ma)) := by
  refine impI (pi_range1 hg hm (pa_cons ha pa_nil hs) hs) fun σ H R ⟨w, s, e, ok, er, h⟩ => ?_
  refine ⟨w, s, e, ok, er, Post.bind (rel := relV G) h fun w1 s1 H1 v u x1 ok1 r1 h1 => ?_⟩
  match v, h1 with
  | .d (.int j), h1 =>
    rw [int_inv (slot_d r1)]
    dsimp only at h1
    split at h1
    · rename_i hc
      have hc := of_decide_eq_true hc
      exact ⟨j, rfl, hc.2.2.1, hc.2.2.2.1, Post.here (rel := relI G) ok1 h1 ⟨walks_rng 0 _, by rw [rangeI_length]; have := hc.2.2.2.2; omega⟩⟩
    · exact h1.elim
theorem s_rg2 (hg : Gl X "range") (hm : X.mg "range" = none) (ha : PE X a (tE G W ma)) (hb : PE X b (tE G W mb)) (hs : starEach [a, b] X.env = [(false, eval a X.env), (false, eval b X.env)]) (hs2 : starEach [b] X.env = [(false, eval b X.env)]) : PI X tg (.Call (.Name "range" p) [a, b] [] pos) (tI G W (mRg2 ma mb)) := by
  refine impI (pi_range2 hg hm (pa_cons ha (pa_cons hb pa_nil hs2) (by rw [hs, hs2])) hs hs2) fun σ H R ⟨w, s, e, ok, er, h⟩ => ?_
  refine two (R := fun u v H => ∃ i j : Int, [u, v] = [V.int i, .int j] ∧ (-(2 ^ 62) ≤ i ∧ i < 2 ^ 62 ∧ -(2 ^ 62) ≤ j ∧ j < 2 ^ 62) ∧ R (Itr i (j - i).toNat) H) ok er h fun w s H v v' u u' ok r r' _ h => ?_
  match v, v', h with
  | .d (.int i), .d (.int j), h =>
    dsimp only at h
    split at h
    · rename_i hc
      have hc := of_decide_eq_true hc
      exact ⟨i, j, by rw [int_inv (slot_d r), int_inv (slot_d r')], ⟨hc.1, hc.2.1, hc.2.2.1, hc.2.2.2.1⟩, Post.here (rel := relI G) ok h ⟨walks_rng i _, by rw [rangeI_length]; have := hc.2.2.2.2; omega⟩⟩
    · exact h.elim
theorem rangeC_len (c : Int) : ∀ (n : Nat) (lo : Int), (rangeC lo c n).length = n
  | 0, _ => rfl
  | n + 1, lo => by unfold rangeC; rw [List.length_cons, rangeC_len c n]
theorem rangeC_get {c : Int} : ∀ {n : Nat} {lo : Int} {i : Nat} {x : D}, (rangeC lo c n)[i]? = some x → i < n ∧ x = .int (lo + (i : Nat) * c)
  | 0, _, _, _, h => by cases h
  | n + 1, lo, i, x, h => by
    unfold rangeC at h
    cases i with
    | zero => cases h; exact ⟨Nat.succ_pos _, by simp⟩
    | succ i =>
      obtain ⟨h1, h2⟩ := rangeC_get (by simpa using h)
      refine ⟨Nat.succ_lt_succ h1, ?_⟩
      rw [h2]
      congr 1
      have e : ((i + 1 : Nat) : Int) * c = c + (i : Nat) * c := by
        rw [Int.natCast_add, Int.add_mul]
        simp [Int.add_comm]
      rw [e]
      omega
theorem walks_rngC {K : PySem.W.Frag} {N : Addr → Prop} {H : Hp} (lo c : Int) (n : Nat) : Walks K N H (Itc lo c n) (rangeC lo c n) := fun N' H' L => by
  refine ⟨fun i x hx => ?_, by show n ≤ _; rw [rangeC_len]; exact Nat.le_refl _⟩
  obtain ⟨h1, rfl⟩ := rangeC_get hx
  exact ⟨h1, fun y H2 hy => ⟨hy.1, by rw [hy.2]; exact rep_int _⟩⟩
theorem s_rg3 (hg : Gl X "range") (hm : X.mg "range" = none) (ha : PE X a (tE G W ma)) (hb : PE X b (tE G W mb)) {d : Expr} {md : ME} (hd : PE X d (tE G W md)) (hs : starEach [a, b, d] X.env = (false, eval a X.env) :: starEach [b, d] X.env) (hs2 : starEach [b, d] X.env = (false, eval b X.env) :: starEach [d] X.env) (hs3 : starEach [d] X.env = (false, eval d X.env) :: starEach [] X.env) (hpl : (backTo pos (starEach [b, d] X.env)).any (·.1) = false) :
    PI X tg (.Call (.Name "range" p) [a, b, d] [] pos) (tI G W (mRg3 ma mb md)) := by
  refine impI (pi_range3 hg hm (pa_cons ha (pa_cons hb (pa_cons hd pa_nil hs3) hs2) hs) hs hpl) fun σ H R ⟨w, s, e, ok, er, h⟩ => ?_
  refine ⟨w, s, e, ok, er, Post.bind (rel := relV G) h fun w1 s1 H1 v1 u1 x1 ok1 r1 h1 => ⟨w1, s1, e, ok1, er.ext ok x1, Post.bind (rel := relV G) h1 fun w2 s2 H2 v2 u2 x2 ok2 r2 h2 => ⟨w2, s2, e, ok2, (er.ext ok x1).ext ok1 x2, Post.bind (rel := relV G) h2 fun w3 s3 H3 v3 u3 x3 ok3 r3 h3 => ?_⟩⟩⟩
  have r1 := (r1.ext ok1 x2).ext ok2 x3
  have r2 := r2.ext ok2 x3
  have hh : ∃ i j k, v1 = .d (.int i) ∧ v2 = .d (.int j) ∧ v3 = .d (.int k) ∧ Post G W (relI G) w3 H3 σ (if k ≠ 0 ∧ k.natAbs < 1073741824 ∧ Builtin.Range.small i j k = true ∧ 0 ≤ Builtin.Range.rangeSize i j k ∧ Builtin.Range.rangeSize i j k ≤ (line : Nat) then .ok (rangeC i k (Builtin.Range.rangeSize i j k).toNat) s3 else .stuck) R := by
    split at h3
    · exact ⟨_, _, _, rfl, rfl, rfl, h3⟩
    · exact h3.elim
  obtain ⟨i, j, k, rfl, rfl, rfl, h3⟩ := hh
  have h3 : Post G W (relI G) w3 H3 σ (if k ≠ 0 ∧ k.natAbs < 1073741824 ∧ Builtin.Range.small i j k = true ∧ 0 ≤ Builtin.Range.rangeSize i j k ∧ Builtin.Range.rangeSize i j k ≤ (line : Nat) then .ok (rangeC i k (Builtin.Range.rangeSize i j k).toNat) s3 else .stuck) R := h3
  by_cases hc : k ≠ 0 ∧ k.natAbs < 1073741824 ∧ Builtin.Range.small i j k = true ∧ 0 ≤ Builtin.Range.rangeSize i j k ∧ Builtin.Range.rangeSize i j k ≤ (line : Nat)
  · rw [if_pos hc] at h3
    exact ⟨i, j, k, _, by rw [int_inv (slot_d r1), int_inv (slot_d r2), int_inv (slot_d r3)], ⟨hc.1, hc.2.1, hc.2.2.1, (Int.toNat_of_nonneg hc.2.2.2.1).symm⟩, Post.here (rel := relI G) ok3 h3 ⟨walks_rngC i k _, by rw [rangeC_len]; have := hc.2.2.2.1; have := hc.2.2.2.2; omega⟩⟩
  · rw [if_neg hc] at h3
    exact h3.elim
end
/-! ### targets -/
def gMany : List Nat → TGs
  | [] => gNil
  | i :: is => gCons (gName i) (gMany is)
def gTg (K : PySem.W.Frag) : Tg → TG
  | .nm i => gName i
  | .tp is => L2.gTup K is.length (gMany is)
section
variable {G : Gd} {w w1 : Wd} {s : S} {H H1 : Hp} {e : Env} {σ : L2.St}
theorem EnvR.setV (er : EnvR G w H e σ) {v : Val} {u : V} (i : Nat) (r : SlotR G w H v u) (hv : isOwn v = false) : EnvR G w H (e.set i (some v)) (σ.set i (some u)) := by
  refine ⟨by simp [er.len], fun j v' h => ?_, fun j k a b c hne h1 h2 h3 h4 h5 => ?_⟩
  · rw [List.getElem?_set] at h
    split at h
    · rename_i hij
      subst hij
      split at h
      · rename_i hlt
        cases h
        exact ⟨u, by rw [List.getElem?_set_self (by rw [← er.len]; exact hlt)], r⟩
      · cases h
    · rename_i hij
      obtain ⟨u', h1, h2⟩ := er.slot j v' h
      exact ⟨u', by rw [List.getElem?_set_ne hij]; exact h1, h2⟩
  · have key : ∀ (m : Nat) (x : Val), (e.set i (some v))[m]? = some (some x) → isOwn x = true → i ≠ m ∧ e[m]? = some (some x) := fun m x hx hox => by
      rw [List.getElem?_set] at hx
      split at hx
      · split at hx
        · cases hx; rw [hv] at hox; cases hox
        · cases hx
      · rename_i hij; exact ⟨hij, hx⟩
    obtain ⟨n1, e1⟩ := key j a h1 h3
    obtain ⟨n2, e2⟩ := key k b h2 h4
    rw [List.getElem?_set_ne n1] at h5
    rw [List.getElem?_set_ne n2]
    exact er.sep j k a b c hne e1 e2 h3 h4 h5
theorem EnvR.unset (er : EnvR G w H e σ) (i : Nat) : EnvR G w H (e.set i none) (σ.set i none) := by
  have key : ∀ (m : Nat) (x : Val), (e.set i none)[m]? = some (some x) → i ≠ m ∧ e[m]? = some (some x) := fun m x hx => by
    rw [List.getElem?_set] at hx
    split at hx
    · split at hx <;> cases hx
    · rename_i hij; exact ⟨hij, hx⟩
  refine ⟨by simp [er.len], fun j v' h => ?_, fun j k a b c hne h1 h2 h3 h4 h5 => ?_⟩
  · obtain ⟨n, h⟩ := key j v' h
    obtain ⟨u', h1, h2⟩ := er.slot j v' h
    exact ⟨u', by rw [List.getElem?_set_ne n]; exact h1, h2⟩
  · obtain ⟨n1, e1⟩ := key j a h1
    obtain ⟨n2, e2⟩ := key k b h2
    rw [List.getElem?_set_ne n1] at h5
    rw [List.getElem?_set_ne n2]
    exact er.sep j k a b c hne e1 e2 h3 h4 h5
theorem EnvR.wipe (er : EnvR G w H e σ) : ∀ own : List Nat, EnvR G w H (MP.wipe e own) (L2.wipe σ own)
  | [] => er
  | v :: vs => (er.wipe vs).unset v
theorem wipe_get (σ : L2.St) (j : Nat) : ∀ own : List Nat, (L2.wipe σ own)[j]? = if j ∈ own ∧ j < σ.length then some none else σ[j]?
  | [] => by simp [L2.wipe]
  | v :: vs => by
    unfold L2.wipe
    rw [List.getElem?_set, wipe_get σ j vs, L2.wipe_length]
    by_cases h : v = j
    · subst h
      by_cases hl : v < σ.length
      · simp [hl]
      · simp [hl]
    · have h' : ¬ j = v := fun z => h z.symm
      simp [h, h']
theorem wipe_set (σ : L2.St) {own : List Nat} {i : Nat} (h : i ∈ own) (u : Option V) : L2.wipe (σ.set i u) own = L2.wipe σ own := by
  refine List.ext_getElem? fun j => ?_
  rw [wipe_get, wipe_get, List.length_set, List.getElem?_set]
  by_cases hj : j ∈ own ∧ j < σ.length
  · rw [if_pos hj, if_pos hj]
  · rw [if_neg hj, if_neg hj]
    by_cases hij : i = j
    · subst hij
      have hl : ¬ i < σ.length := fun z => hj ⟨h, z⟩
      simp [hl]
    · simp [hij]
theorem wipe_wipe (σ : L2.St) (own : List Nat) : L2.wipe (L2.wipe σ own) own = L2.wipe σ own := by
  refine List.ext_getElem? fun j => ?_
  rw [wipe_get, L2.wipe_length]
  by_cases hj : j ∈ own ∧ j < σ.length
  · rw [if_pos hj, wipe_get, if_pos hj]
  · rw [if_neg hj]
/-- σ' is σ but for some slots -/
abbrev ButFor (is : List Nat) (σ σ' : L2.St) : Prop := ∀ own : List Nat, (∀ i ∈ is, i ∈ own) → L2.wipe σ' own = L2.wipe σ own
theorem many_ok {Q : L2.St → Hp → Prop} : ∀ {is : List Nat} {xs : List D} {vs : List V} {e : Env} {σ : L2.St}, EnvR G w H e σ → Reps G.K w.N H xs vs → xs.length = is.length → (∀ σ', EnvR G w H (setMany e is xs) σ' → ButFor is σ σ' → Q σ' H) → gMany is vs σ H Q
  | [], xs, vs, e, σ, er, r, hl, q => by
    have : xs = [] := List.eq_nil_of_length_eq_zero hl
    subst this
    unfold Reps at r
    subst r
    exact ⟨rfl, q σ er fun _ _ => rfl⟩
  | i :: is, xs, vs, e, σ, er, r, hl, q => by
    cases xs with
    | nil => cases hl
    | cons x xs =>
      unfold Reps at r
      obtain ⟨v, vs', rfl, h1, h2⟩ := r
      refine ⟨v, vs', rfl, ?_⟩
      exact many_ok (er.setV (v := .d x) i h1 rfl) h2 (by simpa using hl) fun σ' er' b => q σ' er' fun own ho => (b own fun k hk => ho k (List.mem_cons_of_mem _ hk)).trans (wipe_set σ (ho i List.mem_cons_self) _)
theorem tg_ok {t : Tg} {x : D} {u : V} {e' : Env} {Q : L2.St → Hp → Prop} (er : EnvR G w H e σ) (r : Rep G.K w.N H x u) (h : tgSet t x e = some e') (q : ∀ σ', EnvR G w H e' σ' → ButFor (tgSlots t) σ σ' → Q σ' H) : gTg G.K t u σ H Q := by
  cases t with
  | nm i => cases h; exact q _ (er.setV (v := .d x) i r rfl) fun own ho => wipe_set σ (ho i (by simp [tgSlots])) _
  | tp is =>
    cases x with
    | tup xs =>
      have h : (if xs.length = is.length then some (setMany e is xs) else none) = some e' := h
      split at h
      · rename_i hl
        cases h
        obtain ⟨p, vs, rfl, h1, hz, h2⟩ := rep_tup_inv (RdR.of_rep r)
        exact ⟨p, vs, rfl, h1, by rw [← h2.length, hl], many_ok er h2 hl q⟩
      · cases h
    | _ => cases h
end
/-! ### comprehensions -/
abbrev WF : WX := fun _ _ _ _ => False
def addB (w : Wd) (p : Addr) : Wd := { w with B := fun q => w.B q ∨ q = p }
def subB (w : Wd) (p : Addr) : Wd := { w with B := fun q => w.B q ∧ q ≠ p }
section
variable {G : Gd} {w w1 w2 : Wd} {s s1 s2 : S} {H H1 H2 : Hp} {e : Env} {σ : L2.St} {p : Addr}
mutual
theorem Rep.less {N N' : Addr → Prop} {K : PySem.W.Frag} (hN : ∀ q, N' q → N q) : ∀ (x : D) {v : V}, Rep K N H x v → Rep K N' H x v
  | .non, v, h => by unfold Rep at *; exact h
  | .bl _, v, h => by unfold Rep at *; exact h
  | .int _, v, h => by unfold Rep at *; exact h
  | .str _, v, h => by unfold Rep at *; exact h
  | .tup xs, v, h => by
    unfold Rep at *
    obtain ⟨p, vs, e, h1, hz, h2⟩ := h
    exact ⟨p, vs, e, h1, hz, Reps.less hN xs h2⟩
  | .tuq xs, v, h => by
    unfold Rep at *
    obtain ⟨p, vs, e, h1, hz, h2⟩ := h
    exact ⟨p, vs, e, h1, hz, Reps.less hN xs h2⟩
  | .lst xs, v, h => by
    unfold Rep at *
    obtain ⟨p, vs, e, hn, h1, hz, h2⟩ := h
    exact ⟨p, vs, e, fun z => hn (hN p z), h1, hz, Reps.less hN xs h2⟩
  | .dic ks us, v, h => by
    unfold Rep at *
    obtain ⟨p, vs, e, hn, h1, hz, h2⟩ := h
    exact ⟨p, vs, e, fun z => hn (hN p z), h1, hz, Reps.less hN us h2⟩
theorem Reps.less {N N' : Addr → Prop} {K : PySem.W.Frag} (hN : ∀ q, N' q → N q) : ∀ (xs : List D) {us : List V}, Reps K N H xs us → Reps K N' H xs us
  | [], us, h => by unfold Reps at *; exact h
  | x :: xs, us, h => by
    unfold Reps at *
    obtain ⟨v, r, e, h1, h2⟩ := h
    exact ⟨v, r, e, Rep.less hN x h1, Reps.less hN xs h2⟩
end
theorem sub_N (q : Addr) : (subB w p).N q → w.N q := fun h => h.elim (fun h => .inl h.1) .inr
/-- a new list apart -/
theorem Ok.addB (ok : Ok G w s H) (hn : H p = none) (vs : List V) : Ok G (addB w p) s (upd H p (.lst vs)) := by
  have L : Last w.N (MP.addB w p).N H (upd H p (.lst vs)) := by
    refine ⟨fun q o h _ => grow_upd hn q o h, fun q h => ?_, ok.mu⟩
    rcases h with (h | h) | h
    · exact .inl (.inl h)
    · subst h; exact .inr hn
    · exact .inl (.inr h)
  refine ⟨ok.nd, ok.len, fun n xs q h1 h2 => ?_, fun q h => .inl (ok.ab q h), fun q h => ?_, fun q h => ?_⟩
  · obtain ⟨us, h3, hz, h4⟩ := ok.cells n xs q h1 h2
    exact ⟨us, grow_upd hn q _ h3, hz, Reps.last L xs h4⟩
  · rcases h with h | h
    · exact ok.bo q h
    · subst h
      intro ho
      obtain ⟨o, e, _⟩ := ok.mu q (.inr ho)
      rw [hn] at e; cases e
  · by_cases hq : q = p
    · subst hq
      exact ⟨_, upd_same, (fun xs h => by cases h), fun ob u h => by cases h⟩
    · obtain ⟨o, e, h1⟩ := ok.mu q (by
        rcases h with (h | h) | h
        · exact .inl h
        · exact absurd h hq
        · exact .inr h)
      exact ⟨o, by rw [upd_ne hq]; exact e, h1⟩
theorem Ok.subB (ok : Ok G w s H) (hp : p ∉ w.α) : Ok G (MP.subB w p) s H := by
  refine ⟨ok.nd, ok.len, fun n xs q h1 h2 => ?_, fun q h => ⟨ok.ab q h, fun z => hp (z ▸ h)⟩, fun q h => ok.bo q h.1, fun q h => ok.mu q (sub_N q h)⟩
  obtain ⟨us, h3, hz, h4⟩ := ok.cells n xs q h1 h2
  exact ⟨us, h3, hz, Reps.less sub_N xs h4⟩
theorem EnvR.last (L : Last w.N w1.N H H1) (ha : w1.α = w.α) (hO : w1.o = w.o) (hk : ∀ q o, H q = some o → w.O q → H1 q = some o) (er : EnvR G w H e σ) : EnvR G w1 H1 e σ := by
  refine ⟨er.len, fun i v hv => ?_, er.sep⟩
  obtain ⟨u, h1, h2⟩ := er.slot i v hv
  refine ⟨u, h1, ?_⟩
  cases v with
  | d y => exact Rep.last L y h2
  | ref n => obtain ⟨q, e1, e2⟩ := h2; exact ⟨q, by rw [ha]; exact e1, e2⟩
  | own xs => obtain ⟨q, vs, e1, ho, e2, hz, e3⟩ := h2; exact ⟨q, vs, e1, by rw [hO]; exact ho, hk q _ e2 (Wd.top ho), hz, Reps.last L xs e3⟩
  | snap xs => obtain ⟨q, vs, e1, ho, e2, hz, e3⟩ := h2; exact ⟨q, vs, e1, by rw [hO]; exact ho, hk q _ e2 (Wd.top ho), hz, Reps.last L xs e3⟩
  | ownT ks xs => obtain ⟨q, vs, e1, ho, e2, hk', hz, e3⟩ := h2; exact ⟨q, vs, e1, by rw [hO]; exact ho, hk q _ e2 (Wd.top ho), hk', hz, Reps.last L xs e3⟩
  | own2 xss => obtain ⟨q, vs, e1, ho, e2, hz, e3⟩ := h2; exact ⟨q, vs, e1, by rw [hO]; exact ho, hk q _ e2 (Wd.top ho), hz, e3.map (fun r h => by rw [hO]; exact h) (fun r u h hr => hk r u hr (Wd.top h)) fun xs us => Reps.last L xs⟩
  | exc c y => obtain ⟨a, d, e1, e2, e3⟩ := h2; exact ⟨a, d, e1, e2, e3.last L⟩
  | scr ns =>
    obtain ⟨q, e1, e2, hz⟩ := h2
    refine ⟨q, e1, ?_, hz⟩
    rcases e2 with ⟨o, e2⟩ | e2
    · exact .inl ⟨o, frz.last L e2⟩
    · exact .inr e2
theorem last_add (ok : Ok G w s H) (hn : H p = none) (vs : List V) : Last w.N (addB w p).N H (upd H p (.lst vs)) := by
  refine ⟨fun q o h _ => grow_upd hn q o h, fun q h => ?_, ok.mu⟩
  rcases h with (h | h) | h
  · exact .inl (.inl h)
  · subst h; exact .inr hn
  · exact .inl (.inr h)
theorem Ext.notin (x : Ext w H w1 H1) {o : HO} (hp : p ∉ w.α) (h : H p = some o) : p ∉ w1.α := fun z => by
  obtain ⟨l, hl, nl⟩ := x.al
  rw [hl] at z
  rcases List.mem_append.mp z with z | z
  · exact hp z
  · rw [nl p z] at h; cases h
/-- a step, one list apart -/
theorem Ext.sub {o : HO} (x : Ext w H w1 H1) (h : H p = some o) : Ext (subB w p) H (subB w1 p) H1 := by
  refine ⟨x.al, fun q h => ⟨x.bm q h.1, h.2⟩, fun q hq => ?_, x.oo, x.keep⟩
  rcases x.bn q hq.1 with z | z
  · exact .inl ⟨z, hq.2⟩
  · exact .inr z
/-- that list is put to -/
theorem Ext.put {o : HO} (x : Ext w H w1 H1) (hn : H p = none) : Ext w H w1 (upd H1 p o) :=
  ⟨x.al, x.bm, x.bn, x.oo, fun q u h hq => by rw [upd_ne (ne_of_none h hn)]; exact x.keep q u h hq⟩
theorem Ok.put (ok : Ok G w s H) (hb : w.B p) (hp : p ∉ w.α) {vs : List V} (us : List V) (h : H p = some (.lst vs)) : Ok G w s (upd H p (.lst us)) ∧ Last w.N w.N H (upd H p (.lst us)) := by
  have L : Last w.N w.N H (upd H p (.lst us)) := ⟨fun q o h hq => by rw [upd_ne fun z => hq (by rw [z]; exact .inl hb)]; exact h, fun q h => .inl h, ok.mu⟩
  refine ⟨⟨ok.nd, ok.len, fun n xs q h1 h2 => ?_, ok.ab, ok.bo, fun q hq => ?_⟩, L⟩
  · obtain ⟨vs', h3, hz, h4⟩ := ok.cells n xs q h1 h2
    have hne : q ≠ p := fun z => hp (z ▸ List.mem_of_getElem? h2)
    exact ⟨vs', by rw [upd_ne hne]; exact h3, hz, Reps.last L xs h4⟩
  · by_cases hqp : q = p
    · subst hqp
      exact ⟨_, upd_same, (fun xs h => by cases h), fun ob u h => by cases h⟩
    · obtain ⟨o, e, h1⟩ := ok.mu q hq
      exact ⟨o, by rw [upd_ne hqp]; exact e, h1⟩
structure LcI (G : Gd) (Fin : R (List D) → Prop) (w1 : Wd) (H1 : Hp) (σ : L2.St) (own : List Nat) (e : Env) (tg : Tg) (t : MT) (m : ME) (J : It) (xs : List D) (p : Addr) (i : Nat) (n : Nat) (H : Hp) (wz : Wd) (s : S) (acc : List D) (vs : List V) : Prop where
  hi : i ≤ xs.length
  hn : n = xs.length - i
  bp : wz.B p
  ap : p ∉ wz.α
  ok : Ok G wz s H
  ex : Ext w1 H1 (subB wz p) H
  at_ : H p = some (.lst vs)
  ac : Reps G.K wz.N H acc vs
  len : vs.length ≤ i
  er : EnvR G wz H (MP.wipe e own) (L2.wipe σ own)
  wk : Walks G.K wz.N H J xs
  po : Fin (lcGo (MP.wipe e own) tg t m (xs.drop i) acc s)
end
section
variable {X : Cx} {G : Gd} {W : WX}
theorem lc_turns {own : List Nat} {tg : Tg} {t : MT} {m : ME} (ht : ∀ i ∈ tgSlots tg, i ∈ own) {σ : L2.St} {H1 : Hp} {w1 : Wd} {s1 : S} {e : Env} {J : It} {xs : List D} {Q : Addr → Hp → Prop} (Fin : R (List D) → Prop) (hst : ¬ Fin .stuck)
    (ok1 : Ok G w1 s1 H1) (er1 : EnvR G w1 H1 e σ) (wk : Walks G.K w1.N H1 J xs) (hz : xs.length ≤ line) (h1 : Fin (lcGo (MP.wipe e own) tg t m xs [] s1)) (p : Addr) (hp : H1 p = none)
    (hfin : ∀ wz s acc H vs, wz.B p → p ∉ wz.α → Ok G wz s H → Ext w1 H1 (subB wz p) H → H p = some (.lst vs) → Reps G.K wz.N H acc vs → vs.length ≤ line → Fin (.ok acc s) → Q p H) :
    ∃ W : Nat → Nat → Hp → Prop, (∃ m, W 0 m (upd H1 p (.lst []))) ∧ ∀ i k H, W i k H →
  (J.stop i H ∧ Q p H) ∨ (J.go i H ∧ ∃ Nx : Hp → Prop, (∀ H', Nx H' → ∃ m', m' < k ∧ W (i + 1) m' H') ∧ ∀ x H', J.yld i H x H' → gTg G.K tg x (L2.wipe σ own) H' fun σ2 H2 => L2.wipe σ2 own = L2.wipe σ own ∧ tT G WF t σ2 H2 fun b H3 =>
    if b = true then tE G WF m σ2 H3 fun y H4 => ∃ acc, H4 p = some (.lst acc) ∧ acc.length < sizeLine ∧ Nx (upd H4 p (.lst (acc ++ [y]))) else Nx H3) := by
  refine ⟨fun i n H' => ∃ wz s acc vs, LcI G Fin w1 H1 σ own e tg t m J xs p i n H' wz s acc vs, ⟨xs.length, addB w1 p, s1, [], [], ?_⟩, ?_⟩
  · have L := last_add ok1 hp []
    refine ⟨Nat.zero_le _, rfl, .inr rfl, fun z => ?_, ok1.addB hp [], ?_, upd_same, .nil, Nat.le_refl _, ?_, wk.last L, h1⟩
    · obtain ⟨vs, e⟩ := ok1.at z
      rw [hp] at e; cases e
    · refine ⟨⟨[], by simp [subB, addB], by simp⟩, fun q h => ⟨.inl h, fun z => ?_⟩, fun q h => ?_, rfl, fun q o h _ => grow_upd hp q o h⟩
      · subst z
        exact ok1.notN hp (.inl h)
      · rcases h.1 with z | z
        · exact .inl z
        · exact absurd z h.2
    · exact (er1.wipe own).last L rfl rfl fun q o h _ => grow_upd hp q o h
  · rintro i n H2 ⟨wz, s2, acc, vs, I⟩
    have wk2 := I.wk _ _ (Last.refl I.ok)
    cases hx : xs[i]? with
    | none =>
      have hi : i = xs.length := Nat.le_antisymm I.hi (List.getElem?_eq_none_iff.mp hx)
      refine .inl ⟨by rw [hi]; exact wk2.stop, ?_⟩
      have po := I.po
      rw [hi, List.drop_length] at po
      exact hfin wz s2 acc H2 vs I.bp I.ap I.ok I.ex I.at_ I.ac (Nat.le_trans I.len (by rw [hi]; exact hz)) po
    | some x =>
      obtain ⟨hgo, hy⟩ := wk2.go i x hx
      have hlt : i < xs.length := (List.getElem?_eq_some_iff.mp hx).1
      have hdrop : xs.drop i = x :: xs.drop (i + 1) := by
        rw [List.drop_eq_getElem_cons hlt]
        rw [List.getElem?_eq_getElem hlt] at hx
        rw [Option.some.inj hx]
      refine .inr ⟨hgo, fun H' => ∃ wz s acc vs, LcI G Fin w1 H1 σ own e tg t m J xs p (i + 1) (n - 1) H' wz s acc vs, fun H' h => ⟨n - 1, by have := I.hn; omega, h⟩, fun y H' yl => ?_⟩
      obtain ⟨rfl, ry⟩ := hy y H' yl
      have po := I.po
      rw [hdrop] at po
      unfold lcGo at po
      cases q1 : tgSet tg x (MP.wipe e own) with
      | none => rw [q1] at po; exact (hst po).elim
      | some e2 =>
        rw [q1] at po
        dsimp only at po
        refine tg_ok I.er ry q1 fun σ2 er2 bf => ⟨(bf own ht).trans (wipe_wipe σ own), ?_⟩
        refine ⟨wz, s2, e2, I.ok, er2, ?_⟩
        cases q2 : t e2 s2 with
        | exn c z s3 => rw [q2] at po; exact (hst po).elim
        | stuck => rw [q2] at po; exact (hst po).elim
        | ok b s3 =>
          rw [q2] at po
          intro w3 H3 b' x3 ok3 eb
          subst eb
          have at3 : H3 p = some (.lst vs) := x3.keep p _ I.at_ I.ap
          have ap3 : p ∉ w3.α := x3.notin I.ap I.at_
          have ex3 : Ext w1 H1 (subB w3 p) H3 := I.ex.trans (I.ok.subB I.ap) (x3.sub I.at_)
          have L3 := x3.last I.ok
          cases b with
          | false =>
            rw [if_neg Bool.false_ne_true]
            exact ⟨w3, s3, acc, vs, ⟨hlt, by have := I.hn; omega, x3.bm p I.bp, ap3, ok3, ex3, at3, Reps.last L3 acc I.ac, Nat.le_succ_of_le I.len, I.er.ext I.ok x3, I.wk.last L3, po⟩⟩
          | true =>
            rw [if_pos rfl]
            dsimp only at po
            refine ⟨w3, s3, e2, ok3, er2.ext I.ok x3, ?_⟩
            cases q3 : m e2 s3 with
            | exn c z s4 => rw [q3] at po; exact (hst po).elim
            | stuck => rw [q3] at po; exact (hst po).elim
            | ok v s4 =>
              rw [q3] at po
              cases v with
              | d z =>
                intro w4 H4 u x4 ok4 r4
                have at4 : H4 p = some (.lst vs) := x4.keep p _ at3 ap3
                have ap4 : p ∉ w4.α := x4.notin ap3 at3
                have bp4 : w4.B p := x4.bm p (x3.bm p I.bp)
                have ex4 : Ext w1 H1 (subB w4 p) H4 := ex3.trans (ok3.subB ap3) (x4.sub at3)
                have L4 := L3.trans (x4.last ok3)
                obtain ⟨ok5, L5⟩ := ok4.put bp4 ap4 (vs ++ [u]) at4
                have hl : vs.length < line := Nat.lt_of_le_of_lt I.len (Nat.lt_of_lt_of_le hlt hz)
                refine ⟨vs, at4, by rw [← line_eq]; exact hl, w4, s4, acc ++ [z], vs ++ [u], ⟨hlt, by have := I.hn; omega, bp4, ap4, ok5, ex4.put hp, upd_same, ?_, ?_, ?_, (I.wk.last L4).last L5, po⟩⟩
                · exact (Reps.last L5 acc (Reps.last L4 acc I.ac)).append (.one (Rep.last L5 z r4))
                · rw [List.length_append, List.length_singleton]; exact Nat.succ_le_succ I.len
                · refine ((I.er.ext I.ok x3).ext ok3 x4).last L5 rfl rfl fun q o h ho => ?_
                  rw [upd_ne (b := q) fun z => ok4.bo p bp4 (by rw [← z]; exact ho)]
                  exact h
              | _ => exact (hst po).elim
theorem lc_read {own : List Nat} {tg : Tg} {it : MI} {t : MT} {m : ME} (ht : ∀ i ∈ tgSlots tg, i ∈ own) {σ : L2.St} {H : Hp} {Q : VK} (h : tE G W (mLc own tg it t m) σ H Q) :
    tLc (tI G W it) (gTg G.K tg) (tT G WF t) (tE G WF m) own σ H Q := by
  obtain ⟨w, s, e, ok, er, h⟩ := h
  refine ⟨w, s, e, ok, er, Post.bind (rel := relI G) h fun w1 s1 H1 xs J x1 ok1 ⟨wk, hz⟩ h1 => fun p hp => ?_⟩
  refine lc_turns (Q := fun p H => Q (.ref p) H) ht (fun r => Post G W (relV G) w1 H1 σ (r.bind fun ys s => .ok (.d (.lst ys)) s) Q) (fun h => h) ok1 (er.ext ok x1) wk hz h1 p hp fun wz s acc H vs bp ap okz ex at_ ac hl po => ?_
  refine po (subB wz p) H (.ref p) ex (okz.subB ap) ?_
  show Rep G.K (subB wz p).N H (.lst acc) (.ref p)
  refine rep_lst (fun z => ?_) at_ hl (Reps.less sub_N acc ac)
  rcases z with z | z
  · exact z.2 rfl
  · exact okz.bo p bp z
end
end MP
end

section
set_option Elab.async false
set_option linter.all false
set_option maxRecDepth 100000
set_option maxHeartbeats 4000000
/-! MP, part g: comprehensions, ranges as values. -/
namespace MP
open PySem PySem.Spec PyProof.Rows L2
section
variable {X : Cx} {G : Gd} {W : WX} {pos p : Pos} {tg a b c : Expr} {ma mb mc : ME}
theorem s_lc {elt iter : Expr} {ifs : List Expr} {scope : Scope} {own : List (Str × Nat)} {tgm : Tg} {it : MI} {t : MT} {m : ME} (hK : G.K = X.K) (hc : X.calm = true) (hN : X.N.Nodup) (hi : PI X tg iter (tI G W it)) (ok : BlkOk X.N X.env.scope scope own)
    (hg : ∀ (s : Shared) (H : Hp) (C : Addr) (cl : List (Str × Addr)) (fp : List Addr), PG (X.blk s H scope (compEnvC scope cl C X.env) fp) tg (gTg X.K tgm)) (ht : ∀ (s : Shared) (H : Hp) (C : Addr) (cl : List (Str × Addr)) (fp : List Addr), PTs (X.blk s H scope (compEnvC scope cl C X.env) fp) ifs (tT G WF t))
    (he : ∀ (s : Shared) (H : Hp) (C : Addr) (cl : List (Str × Addr)) (fp : List Addr), PE (X.blk s H scope (compEnvC scope cl C X.env) fp) elt (tE G WF m)) (hs : ∀ x, foldedSetIterable iter X.env x = pure x) (hsl : ∀ i ∈ tgSlots tgm, i ∈ own.map (·.2)) :
    PE X (.ListComp elt [⟨tg, iter, ifs, 0⟩] scope pos) (tE G W (mLc (own.map (·.2)) tgm it t m)) :=
  impE (pe_lc hc hN hi ok hg ht he hs) fun σ H Q h => by rw [← hK]; exact lc_read hsl h
theorem s_yes {G : Gd} {W : WX} {X : Cx} : PTs X [] (tT G W mYes) := ⟨fun pins s σ H Q I ⟨w, s1, e, ok, er, h⟩ => pts_nil.run pins s σ H Q I (Post.hereB ok h)⟩
theorem s_if1 {m : MT} (h : PT X c (tT G W m)) : PTs X [c] (tT G W m) := pts_one h
/-! ranges -/
abbrev relRg : Wd → S → Hp → List D → Int × Int → Prop := fun _ _ _ xs ab => RgOk ab.1 ab.2 ∧ xs = rangeI ab.1 (ab.2 - ab.1).toNat
def tRgM (G : Gd) (W : WX) (m : MI) : L2.St → Hp → (Int → Int → Hp → Prop) → Prop := fun σ H Q => ∃ w s e, Ok G w s H ∧ EnvR G w H e σ ∧ Post G W relRg w H σ (m e s) fun ab H => Q ab.1 ab.2 H
theorem impRg {e : Expr} {t t' : L2.St → Hp → (Int → Int → Hp → Prop) → Prop} (h : PRg X e t) (i : ∀ σ H Q, t' σ H Q → t σ H Q) : PRg X e t' := fun pins s σ H Q I q => h pins s σ H Q I (i σ H Q q)
theorem rgOk_of {i j : Int} (h : rgOk i j = true) : RgOk i j := by
  have hc := of_decide_eq_true h
  refine ⟨hc.1, hc.2.1, hc.2.2.1, hc.2.2.2.1, ?_⟩
  have : j - i ≤ ((16777216 : Nat) : Int) := hc.2.2.2.2
  show (j - i).toNat ≤ 16777216
  omega
theorem s_prg1 (hg : Gl X "range") (hm : X.mg "range" = none) (ha : PE X a (tE G W ma)) (na : starEach [a] X.env = (false, eval a X.env) :: starEach [] X.env) : PRg X (.Call (.Name "range" p) [a] [] pos) (tRgM G W (mRg1 ma)) := by
  refine impRg (prg_1 hg hm ha na) fun σ H R ⟨w, s, e, ok, er, h⟩ => ?_
  refine ⟨w, s, e, ok, er, Post.bind (rel := relV G) h fun w1 s1 H1 v u x1 ok1 r1 h1 => ?_⟩
  match v, h1 with
  | .d (.int j), h1 =>
    rw [int_inv (slot_d r1)]
    dsimp only at h1
    split at h1
    · rename_i hc
      exact ⟨j, rfl, Post.here (u := (0, j)) (rel := relRg) ok1 h1 ⟨rgOk_of hc, by simp⟩⟩
    · exact h1.elim
theorem s_prg2 (hg : Gl X "range") (hm : X.mg "range" = none) (ha : PE X a (tE G W ma)) (hb : PE X b (tE G W mb)) (na : starEach [a, b] X.env = (false, eval a X.env) :: starEach [b] X.env)
    (nb : starEach [b] X.env = (false, eval b X.env) :: starEach [] X.env) (hp : (backTo pos (starEach [b] X.env)).any (·.1) = false) : PRg X (.Call (.Name "range" p) [a, b] [] pos) (tRgM G W (mRg2 ma mb)) := by
  refine impRg (prg_2 hg hm ha hb na nb hp) fun σ H R ⟨w, s, e, ok, er, h⟩ => ?_
  refine two (R := fun u v H => ∃ i j : Int, u = V.int i ∧ v = .int j ∧ R i j H) ok er h fun w s H v v' u u' ok r r' _ h => ?_
  match v, v', h with
  | .d (.int i), .d (.int j), h =>
    dsimp only at h
    split at h
    · rename_i hc
      exact ⟨i, j, int_inv (slot_d r), int_inv (slot_d r'), Post.here (u := (i, j)) (rel := relRg) ok h ⟨rgOk_of hc, rfl⟩⟩
    · exact h.elim
theorem reps_rg {K : PySem.W.Frag} {N : Addr → Prop} {H : Hp} : ∀ (n : Nat) (i : Int), Reps K N H (rangeI i n) ((List.range n).map fun k => V.int (i + (k : Nat)))
  | 0, _ => .nil
  | n + 1, i => by
    rw [List.range_succ_eq_map, List.map_cons, List.map_map]
    refine .cons ?_ ?_
    · show Rep K N H (.int i) (.int (i + ((0 : Nat) : Int)))
      rw [show i + ((0 : Nat) : Int) = i by simp]
      exact rep_int i
    · have h := reps_rg (K := K) (N := N) (H := H) n (i + 1)
      have e : ((fun k : Nat => V.int (i + (k : Nat))) ∘ Nat.succ) = fun k : Nat => V.int (i + 1 + (k : Nat)) := by
        funext k
        show V.int (i + ((k + 1 : Nat) : Int)) = _
        congr 1
        omega
      rw [e]
      exact h
theorem s_tupI {i : MI} (hc : X.calm = true) (hg : Gl X "tuple") (hm : X.mg "tuple" = none) (he : PRg X a (tRgM G W i)) (na : starEach [a] X.env = (false, eval a X.env) :: starEach [] X.env) : PE X (.Call (.Name "tuple" p) [a] [] pos) (tE G W (mTupI i)) := by
  refine impE (pe_tupRg hc hg hm he na) fun σ H Q ⟨w, s, e, ok, er, h⟩ => ?_
  refine ⟨w, s, e, ok, er, Post.bind (rel := relRg) h fun w1 s1 H1 v u x1 ok1 ⟨r1, r2⟩ h1 => ⟨r1, fun q hq => ?_⟩⟩
  subst r2
  have hz : (rgV u.1 u.2).length ≤ line := by rw [rgV_length]; exact r1.2.2.2.2
  exact Post.newT ok1 h1 (reps_rg _ _) hz q hq
theorem s_lstI {i : MI} (hc : X.calm = true) (hg : Gl X "list") (hm : X.mg "list" = none) (he : PRg X a (tRgM G W i)) (na : starEach [a] X.env = (false, eval a X.env) :: starEach [] X.env) : PE X (.Call (.Name "list" p) [a] [] pos) (tE G W (mLstI i)) := by
  refine impE (pe_listRg hc hg hm he na) fun σ H Q ⟨w, s, e, ok, er, h⟩ => ?_
  refine ⟨w, s, e, ok, er, Post.bind (rel := relRg) h fun w1 s1 H1 v u x1 ok1 ⟨r1, r2⟩ h1 => ⟨r1, fun q hq => ?_⟩⟩
  subst r2
  have hz : (rgV u.1 u.2).length ≤ line := by rw [rgV_length]; exact r1.2.2.2.2
  exact Post.newL ok1 h1 (reps_rg _ _) hz q hq
end
end MP
end

section
set_option Elab.async false
set_option linter.all false
set_option maxRecDepth 100000
set_option maxHeartbeats 4000000
/-! MP, part h: statements. -/
namespace MP
open PySem PySem.Spec PyProof.Rows L2
/-- what a statement may turn -/
structure Step (w : Wd) (H : Hp) (w' : Wd) (H' : Hp) : Prop where
  al : ∃ l, w'.α = w.α ++ l ∧ ∀ p ∈ l, H p = none
  bm : ∀ p, w.B p → w'.B p
  bn : ∀ p, w'.B p → w.B p ∨ H p = none
  on : ∀ p, w'.O p → w.O p ∨ H p = none
  keep : ∀ p o, H p = some o → p ∉ w.α → ¬ w.O p → H' p = some o
  st : ∀ p, H' p = none → H p = none
section
variable {G : Gd} {w w1 w2 : Wd} {s s1 s2 : S} {H H1 H2 : Hp} {e : Env} {σ : L2.St}
theorem Step.refl : Step w H w H := ⟨⟨[], by simp, by simp⟩, fun _ h => h, fun _ h => .inl h, fun _ h => .inl h, fun _ _ h _ _ => h, fun _ h => h⟩
theorem Ext.step (ok1 : Ok G w1 s1 H1) (x : Ext w H w1 H1) : Step w H w1 H1 := ⟨x.al, x.bm, x.bn, fun p h => .inl ((x.O p).mp h), fun p o h hp _ => x.keep p o h hp, fun p h => ok1.none_of x h⟩
theorem Step.trans (a : Step w H w1 H1) (b : Step w1 H1 w2 H2) : Step w H w2 H2 := by
  obtain ⟨l, hl, nl⟩ := a.al
  obtain ⟨l2, hl2, nl2⟩ := b.al
  refine ⟨⟨l ++ l2, by rw [hl2, hl, List.append_assoc], fun p hp => ?_⟩, fun p h => b.bm p (a.bm p h), fun p h => ?_, fun p h => ?_, fun p o h hp ho => b.keep p o (a.keep p o h hp ho) (fun z => ?_) fun z => ?_, fun p h => a.st p (b.st p h)⟩
  · rcases List.mem_append.mp hp with h | h
    · exact nl p h
    · exact a.st p (nl2 p h)
  · rcases b.bn p h with z | z
    · exact a.bn p z
    · exact .inr (a.st p z)
  · rcases b.on p h with z | z
    · exact a.on p z
    · exact .inr (a.st p z)
  · rw [hl] at z
    rcases List.mem_append.mp z with z | z
    · exact hp z
    · rw [nl p z] at h; cases h
  · rcases a.on p z with z | z
    · exact ho z
    · rw [z] at h; cases h
theorem Step.last (ok : Ok G w s H) (x : Step w H w1 H1) : Last w.N w1.N H H1 := by
  refine ⟨fun p o h hn => x.keep p o h (fun z => hn (.inl (ok.ab p z))) fun z => hn (.inr z), fun p h => ?_, ok.mu⟩
  rcases h with h | h
  · rcases x.bn p h with z | z
    · exact .inl (.inl z)
    · exact .inr z
  · rcases x.on p h with z | z
    · exact .inl (.inr z)
    · exact .inr z
/-- how a statement ends -/
def PostS (G : Gd) (W : WX) (w : Wd) (H : Hp) (r : F) (D : Ends) : Prop := match r with
  | .nxt e s => ∀ w' H' σ', Step w H w' H' → Ok G w' s H' → EnvR G w' H' e σ' → D.nx σ' H'
  | .ret v s => ∀ w' H' u, Step w H w' H' → Ok G w' s H' → (∀ p, ¬ w'.O p) → SlotR G w' H' v u → D.rt u H'
  | .brk e s => ∀ w' H' σ', Step w H w' H' → Ok G w' s H' → EnvR G w' H' e σ' → D.bk σ' H'
  | .cnt e s => ∀ w' H' σ', Step w H w' H' → Ok G w' s H' → EnvR G w' H' e σ' → D.ct σ' H'
  | .exn c x e s => ∀ w' H' σ' cls d, Step w H w' H' → Ok G w' s H' → EnvR G w' H' e σ' → ExR G w' H' c x cls d → W cls d σ' H'
  | .stuck => False
def tS (G : Gd) (W : WX) (m : MS) : TS := fun D σ H => ∃ w s e, Ok G w s H ∧ EnvR G w H e σ ∧ PostS G W w H (m e s) D
variable {W : WX} {D : Ends}
theorem PostS.mono {r : F} (x : Step w H w1 H1) (h : PostS G W w H r D) : PostS G W w1 H1 r D := by
  cases r with
  | nxt e s => exact fun w' H' σ' st => h w' H' σ' (x.trans st)
  | ret v s => exact fun w' H' σ' st => h w' H' σ' (x.trans st)
  | brk e s => exact fun w' H' σ' st => h w' H' σ' (x.trans st)
  | cnt e s => exact fun w' H' σ' st => h w' H' σ' (x.trans st)
  | exn c y e s => exact fun w' H' σ' cls d st => h w' H' σ' cls d (x.trans st)
  | stuck => exact h
theorem PostS.go {r : R Val} {f : Val → S → F} {Q : V → Hp → Prop} (ok : Ok G w s H) (er : EnvR G w H e σ) (h : PostS G W w H (r.go e f) D)
    (hQ : ∀ w1 s1 H1 v u, Ext w H w1 H1 → Ok G w1 s1 H1 → SlotR G w1 H1 v u → EnvR G w1 H1 e σ → PostS G W w1 H1 (f v s1) D → Q u H1) : Post G W (relV G) w H σ r Q := by
  cases r with
  | ok v s' => exact fun w' H' u x o r => hQ w' s' H' v u x o r (er.ext ok x) (PostS.mono (x.step o) h)
  | exn c y s' => exact fun w' H' cls d x o r => h w' H' σ cls d (x.step o) o (er.ext ok x) r
  | stuck => exact h
theorem PostS.goT {r : R Bool} {f : Bool → S → F} {Q : Bool → Hp → Prop} (ok : Ok G w s H) (er : EnvR G w H e σ) (h : PostS G W w H (r.goT e f) D)
    (hQ : ∀ w1 s1 H1 v, Ext w H w1 H1 → Ok G w1 s1 H1 → EnvR G w1 H1 e σ → PostS G W w1 H1 (f v s1) D → Q v H1) : Post G W relB w H σ r Q := by
  cases r with
  | ok v s' => exact fun w' H' u x o r => by subst r; exact hQ w' s' H' v x o (er.ext ok x) (PostS.mono (x.step o) h)
  | exn c y s' => exact fun w' H' cls d x o r => h w' H' σ cls d (x.step o) o (er.ext ok x) r
  | stuck => exact h
/-- no own lists any more -/
def dropO (w : Wd) : Wd := { w with o := fun _ => none }
theorem drop_N (q : Addr) : (dropO w).N q → w.N q := fun h => h.elim .inl fun z => absurd rfl z
theorem Ok.dropO (ok : Ok G w s H) : Ok G (MP.dropO w) s H := by
  refine ⟨ok.nd, ok.len, fun n xs p h1 h2 => ?_, ok.ab, fun _ _ h => h rfl, fun p h => ok.mu p (drop_N p h)⟩
  obtain ⟨vs, h3, hz, h4⟩ := ok.cells n xs p h1 h2
  exact ⟨vs, h3, hz, Reps.less drop_N xs h4⟩
theorem step_drop : Step w H (dropO w) H := ⟨⟨[], by simp [dropO], by simp⟩, fun _ h => h, fun _ h => .inl h, fun _ h => absurd rfl h, fun _ _ h _ _ => h, fun _ h => h⟩
theorem PostS.nxtHere (ok : Ok G w s H) (h : PostS G W w H (.nxt e s) D) (er : EnvR G w H e σ) : D.nx σ H := h w H σ .refl ok er
end
section
variable {X : Cx} {G : Gd} {W : WX} {pos : Pos} {a b c : Expr} {ma mb mc : ME} {st : Stmt} {sts : List Stmt}
theorem impS {t t' : TS} (h : PS X st t) (i : ∀ D σ H, t' D σ H → t D σ H) : PS X st t' := ⟨fun pins s σ H D I q => h.run pins s σ H D I (i D σ H q)⟩
theorem impSs {t t' : TS} (h : PSs X sts t) (i : ∀ D σ H, t' D σ H → t D σ H) : PSs X sts t' := ⟨fun pins s σ H D I q => h.run pins s σ H D I (i D σ H q)⟩
theorem s_seq {m1 m2 : MS} (h1 : PS X st (tS G W m1)) (h2 : PSs X sts (tS G W m2)) : PSs X (st :: sts) (tS G W (mSeq m1 m2)) := by
  refine impSs (pss_cons h1 h2) fun D σ H ⟨w, s, e, ok, er, h⟩ => ⟨w, s, e, ok, er, ?_⟩
  unfold mSeq at h
  cases q : m1 e s with
  | nxt e1 s1 => rw [q] at h; exact fun w' H' σ' st ok1 er1 => ⟨w', s1, e1, ok1, er1, PostS.mono st h⟩
  | _ => rw [q] at h; exact h
theorem s_none : PSs X [] (tS G W mPass) := impSs pss_nil fun D σ H ⟨w, s, e, ok, er, h⟩ => h.nxtHere ok er
theorem s_pass : PS X (.Pass pos) (tS G W mPass) := impS ps_pass fun D σ H ⟨w, s, e, ok, er, h⟩ => h.nxtHere ok er
theorem s_brk : PS X (.Break pos) (tS G W mBrk) := impS ps_break fun D σ H ⟨w, s, e, ok, er, h⟩ => h w H σ .refl ok er
theorem s_cnt : PS X (.Continue pos) (tS G W mCnt) := impS ps_continue fun D σ H ⟨w, s, e, ok, er, h⟩ => h w H σ .refl ok er
theorem s_doc {x j pos'} : PS X (.Expr (.Constant (.str x) j pos) pos') (tS G W mPass) := impS ps_doc fun D σ H ⟨w, s, e, ok, er, h⟩ => h.nxtHere ok er
theorem s_expr (he : PE X a (tE G W ma)) (hs : swapsWith a none pos.line X.env = pure false) : PS X (.Expr a pos) (tS G W (mExpr ma)) := by
  refine impS (ps_expr he hs) fun D σ H ⟨w, s, e, ok, er, h⟩ => ?_
  exact ⟨w, s, e, ok, er, PostS.go ok er h fun w1 s1 H1 v u x1 ok1 r1 er1 h1 => PostS.nxtHere ok1 h1 er1⟩
theorem s_if {m1 m2 : MS} {mt : MT} {A B : List Stmt} (hc : PT X c (tT G W mt)) (h1 : PSs X A (tS G W m1)) (h2 : PSs X B (tS G W m2)) : PS X (.If c A B pos) (tS G W (mIf mt m1 m2)) := by
  refine impS (ps_if hc h1 h2) fun D σ H ⟨w, s, e, ok, er, h⟩ => ?_
  refine ⟨w, s, e, ok, er, PostS.goT ok er h fun w1 s1 H1 v x1 ok1 er1 p1 => ?_⟩
  cases v with
  | true => rw [if_pos rfl]; exact ⟨w1, s1, e, ok1, er1, p1⟩
  | false => rw [if_neg Bool.false_ne_true]; exact ⟨w1, s1, e, ok1, er1, p1⟩
theorem s_retN : PS X (.Return none pos) (tS G W mRetN) := impS ps_retN fun D σ H ⟨w, s, e, ok, er, h⟩ =>
  h (dropO w) H .non step_drop ok.dropO (fun _ z => z rfl) (rep_non (K := G.K) (N := (dropO w).N) (H := H))
theorem s_ret (he : PE X a (tE G W ma)) : PS X (.Return (some a) pos) (tS G W (mRet ma)) := by
  refine impS (ps_ret he) fun D σ H ⟨w, s, e, ok, er, h⟩ => ?_
  refine ⟨w, s, e, ok, er, PostS.go ok er h fun w1 s1 H1 v u x1 ok1 r1 er1 h1 => ?_⟩
  cases v with
  | d x => exact h1 (dropO w1) H1 u step_drop ok1.dropO (fun _ z => z rfl) (Rep.less drop_N x r1)
  | ref n => exact h1 (dropO w1) H1 u step_drop ok1.dropO (fun _ z => z rfl) r1
  | snap xs =>
    obtain ⟨p, vs, rfl, ho, h2, hz, h3⟩ := r1
    exact h1 (dropO w1) H1 _ step_drop ok1.dropO (fun _ z => z rfl) (rep_lst (fun z => z.elim (fun z => ok1.bo p z (Wd.top ho)) fun z => z rfl) h2 hz (Reps.less drop_N xs h3))
  | _ => exact h1.elim
/-! ### names are set -/
theorem asg_read {i : Nat} {m : ME} {D : Ends} {σ : L2.St} {H : Hp} (h : tS G W (mAsg i m) D σ H) : tAsg (tE G W m) (gName i) D σ H := by
  obtain ⟨w, s, e, ok, er, h⟩ := h
  refine ⟨w, s, e, ok, er, PostS.go ok er h fun w1 s1 H1 v u x1 ok1 r1 er1 h1 => ?_⟩
  cases v with
  | d x => exact PostS.nxtHere ok1 h1 (er1.setV (v := .d x) i r1 rfl)
  | ref n => exact PostS.nxtHere ok1 h1 (er1.setV (v := .ref n) i r1 rfl)
  | _ => exact h1.elim
theorem s_asg {i : Nat} {x : Str} {pos' : Pos} (hN : X.N.Nodup) (hi : X.N[i]? = some x) (hx : Loc X.env.scope x) (he : PE X a (tE G W ma)) (hs : swapsWith a (some (.Name x pos')) pos.line X.env = pure false) (hf : X.fn x = true ∨ X.env.scope.names.lookup x = some .local) :
    PS X (.Assign [.Name x pos'] a pos) (tS G W (mAsg i ma)) := impS (ps_set hN hi hx he hs hf) fun D σ H h => asg_read h
theorem s_asgT {is : List Nat} {tg : Expr} (hK : G.K = X.K) (he : PE X a (tE G W ma)) (hg : PG X tg (gTg X.K (.tp is))) (hs : swapsWithSole [tg] a pos.line X.env = pure false) (hw : swappedStores [tg] a X.env = pure none)
    (h1 : (assignEach [tg] X.env).map (·.2) = [assign tg X.env]) : PS X (.Assign [tg] a pos) (tS G W (mAsgT is ma)) := by
  refine impS (ps_asg he hg hs hw h1) fun D σ H ⟨w, s, e, ok, er, h⟩ => ?_
  refine ⟨w, s, e, ok, er, PostS.go ok er h fun w1 s1 H1 v u x1 ok1 r1 er1 h1 => ?_⟩
  cases v with
  | d x =>
    dsimp only at h1
    cases q : tgSet (.tp is) x e with
    | none => rw [q] at h1; exact h1.elim
    | some e2 =>
      rw [q] at h1
      rw [← hK]
      exact tg_ok er1 r1 q fun σ' er' _ => PostS.nxtHere ok1 h1 er'
  | _ => exact h1.elim
/-! ### loops -/
theorem for_read {tgm : Tg} {it : MI} {m : MS} {D : Ends} {σ : L2.St} {H : Hp} {w : Wd} {s : S} {e : Env} {K : PySem.W.Frag} (hK : K = G.K) (ok : Ok G w s H) (er : EnvR G w H e σ) (h : PostS G W w H (mFor tgm it m e s) D) :
    tFor (tI G W it) (gTg K tgm) (tS G W m) D σ H := by
  subst hK
  refine ⟨w, s, e, ok, er, ?_⟩
  unfold mFor at h
  cases q : it e s with
  | stuck => rw [q] at h; exact h.elim
  | exn c y s1 => rw [q] at h; exact fun w' H' cls d x o r => h w' H' σ cls d (x.step o) o (er.ext ok x) r
  | ok xs s1 =>
    rw [q] at h
    intro w1 H1 J x1 ok1 ⟨wk, hz⟩
    refine ⟨fun i n σ' H' => ∃ w' s' e', i ≤ xs.length ∧ n = xs.length - i ∧ Ok G w' s' H' ∧ EnvR G w' H' e' σ' ∧ Walks G.K w'.N H' J xs ∧ PostS G W w' H' (forGo tgm m (xs.drop i) e' s') D,
      ⟨_, w1, s1, e, Nat.zero_le _, rfl, ok1, er.ext ok x1, wk, PostS.mono (x1.step ok1) h⟩, ?_⟩
    rintro i n σ2 H2 ⟨w2, s2, e2, hi, hn, ok2, er2, wk2, po⟩
    have wk2' := wk2 _ _ (Last.refl ok2)
    cases hx : xs[i]? with
    | none =>
      have hi : i = xs.length := Nat.le_antisymm hi (List.getElem?_eq_none_iff.mp hx)
      rw [hi, List.drop_length] at po
      exact .inl ⟨by rw [hi]; exact wk2'.stop, PostS.nxtHere ok2 po er2⟩
    | some x =>
      obtain ⟨hgo, hy⟩ := wk2'.go i x hx
      have hlt : i < xs.length := (List.getElem?_eq_some_iff.mp hx).1
      have hdrop : xs.drop i = x :: xs.drop (i + 1) := by
        rw [List.drop_eq_getElem_cons hlt]
        rw [List.getElem?_eq_getElem hlt] at hx
        rw [Option.some.inj hx]
      refine .inr ⟨hgo, _, fun σ' H' h => ⟨n - 1, by omega, h⟩, fun y H' yl => ?_⟩
      obtain ⟨rfl, ry⟩ := hy y H' yl
      rw [hdrop] at po
      unfold forGo at po
      cases q1 : tgSet tgm x e2 with
      | none => rw [q1] at po; exact po.elim
      | some e3 =>
        rw [q1] at po
        dsimp only at po
        refine tg_ok er2 ry q1 fun σ3 er3 _ => ⟨w2, s2, e3, ok2, er3, ?_⟩
        cases q2 : m e3 s2 with
        | stuck => rw [q2] at po; exact po.elim
        | exn c z e4 s4 => rw [q2] at po; exact po
        | ret v s4 => rw [q2] at po; exact po
        | brk e4 s4 => rw [q2] at po; exact po
        | nxt e4 s4 =>
          rw [q2] at po
          exact fun w4 H4 σ4 st ok4 er4 => ⟨w4, s4, e4, hlt, by omega, ok4, er4, wk2.last (st.last ok2), PostS.mono st po⟩
        | cnt e4 s4 =>
          rw [q2] at po
          exact fun w4 H4 σ4 st ok4 er4 => ⟨w4, s4, e4, hlt, by omega, ok4, er4, wk2.last (st.last ok2), PostS.mono st po⟩
theorem s_for {tg iter : Expr} {tgm : Tg} {it : MI} {m : MS} {body : List Stmt} (hK : G.K = X.K) (hp : PassesOwn (model X.prog X.w) X.A X.env X.xe) (hc : X.calm = true) (hi : PI X tg iter (tI G W it)) (hg : PG X tg (gTg X.K tgm)) (hb : PSs X body (tS G W m))
    (hs : ∀ x, foldedSetIterable iter X.env x = pure x) : PS X (.For tg iter body [] pos) (tS G W (mFor tgm it m)) := by
  refine impS (ps_for hp hc hi hg hb hs) fun D σ H ⟨w, s, e, ok, er, h⟩ => ?_
  exact for_read hK.symm ok er h
theorem s_while {n : Nat} {mt : MT} {m : MS} {body : List Stmt} (hp : PassesOwn (model X.prog X.w) X.A X.env X.xe) (hc : PT X c (tT G W mt)) (hb : PSs X body (tS G W m)) : PS X (.While c body [] pos) (tS G W (whileGo mt m n)) := by
  refine impS (ps_while hp hc hb) fun D σ H ⟨w, s, e, ok, er, h⟩ => ?_
  refine ⟨fun k σ' H' => ∃ w' s' e', Ok G w' s' H' ∧ EnvR G w' H' e' σ' ∧ PostS G W w' H' (whileGo mt m k e' s') D, ⟨n, w, s, e, ok, er, h⟩, ?_⟩
  rintro k σ2 H2 ⟨w2, s2, e2, ok2, er2, po⟩
  cases k with
  | zero => exact po.elim
  | succ k =>
    refine ⟨w2, s2, e2, ok2, er2, PostS.goT ok2 er2 po fun w3 s3 H3 v x3 ok3 er3 p3 => ?_⟩
    cases v with
    | false => rw [if_neg Bool.false_ne_true]; exact PostS.nxtHere ok3 p3 er3
    | true =>
      rw [if_pos rfl]
      refine ⟨_, fun σ' H' h => ⟨k, Nat.lt_succ_self k, h⟩, w3, s3, e2, ok3, er3, ?_⟩
      rw [if_pos rfl] at p3
      cases q2 : m e2 s3 with
      | stuck => rw [q2] at p3; exact p3.elim
      | exn c z e4 s4 => rw [q2] at p3; exact p3
      | ret v s4 => rw [q2] at p3; exact p3
      | brk e4 s4 => rw [q2] at p3; exact p3
      | nxt e4 s4 => rw [q2] at p3; exact fun w4 H4 σ4 st ok4 er4 => ⟨w4, s4, e4, ok4, er4, PostS.mono st p3⟩
      | cnt e4 s4 => rw [q2] at p3; exact fun w4 H4 σ4 st ok4 er4 => ⟨w4, s4, e4, ok4, er4, PostS.mono st p3⟩
end
end MP
end

section
set_option Elab.async false
set_option linter.all false
set_option maxRecDepth 100000
set_option maxHeartbeats 4000000
/-! MP, part i: lists of one's own, tracked lists. -/
namespace MP
open PySem PySem.Spec PyProof.Rows L2
/-- the name's list is looked at from now on -/
def mFrz (i : Nat) : MS := fun e s => match e[i]? with
  | some (some (.own xs)) => .nxt (e.set i (some (.d (.lst xs)))) s
  | some (some (.own2 xss)) => .nxt (e.set i (some (.d (.lst (xss.map D.lst))))) s
  | _ => .nxt e s
def PostO (G : Gd) (W : WX) (w : Wd) (H : Hp) (σ : L2.St) (r : R Val) (Q : V → Hp → Prop) : Prop := match r with
  | .ok v s' => (∃ xs, v = .d (.lst xs)) ∧ ∀ w' H' p xs vs, v = .d (.lst xs) → H p = none → Ext w H w' H' → Ok G w' s' H' → w'.B p → p ∉ w'.α → H' p = some (.lst vs) → vs.length ≤ line → Reps G.K w'.N H' xs vs → Q (.ref p) H'
  | .exn c x s' => ∀ w' H' cls d, Ext w H w' H' → Ok G w' s' H' → ExR G w' H' c x cls d → W cls d σ H'
  | .stuck => False
/-- a new list, apart -/
def tEO (G : Gd) (W : WX) (m : ME) : TE := fun σ H Q => ∃ w s e, Ok G w s H ∧ EnvR G w H e σ ∧ PostO G W w H σ (m e s) Q
section
variable {G : Gd} {w w1 w2 : Wd} {s s1 s2 : S} {H H1 H2 : Hp} {e : Env} {σ : L2.St} {W : WX} {p : Addr}
theorem PostO.mono {r : R Val} {Q : V → Hp → Prop} (x : Ext w H w1 H1) (ok1 : Ok G w1 s1 H1) (h : PostO G W w H σ r Q) : PostO G W w1 H1 σ r Q := by
  cases r with
  | ok v s' => exact ⟨h.1, fun w' H' p xs vs ev hn e o => h.2 w' H' p xs vs ev (ok1.none_of x hn) (x.trans ok1 e) o⟩
  | exn c y s' => exact fun w' H' cls d e o r => h w' H' cls d (x.trans ok1 e) o r
  | stuck => exact h
theorem PostO.bind {α β : Type} {rel : Wd → S → Hp → α → β → Prop} {r : R α} {f : α → S → R Val} {Q : V → Hp → Prop} {Q1 : β → Hp → Prop} (h : PostO G W w H σ (r.bind f) Q)
    (hQ : ∀ w1 s1 H1 v u, Ext w H w1 H1 → Ok G w1 s1 H1 → rel w1 s1 H1 v u → PostO G W w1 H1 σ (f v s1) Q → Q1 u H1) : Post G W rel w H σ r Q1 := by
  cases r with
  | ok v s' => exact fun w' H' u e o r => hQ w' s' H' v u e o r (PostO.mono (r := f v s') e o h)
  | exn c y s' => exact h
  | stuck => exact h
theorem ext_add (ok : Ok G w s H) (hn : H p = none) (vs : List V) : Ext w H (addB w p) (upd H p (.lst vs)) := by
  refine ⟨⟨[], by simp [addB], by simp⟩, fun q h => .inl h, fun q h => ?_, rfl, fun q o h _ => grow_upd hn q o h⟩
  rcases h with h | h
  · exact .inl h
  · subst h; exact .inr hn
theorem Ok.apart (ok : Ok G w s H) (hn : H p = none) : p ∉ w.α := fun z => by
  obtain ⟨vs, e⟩ := ok.at z
  rw [hn] at e; cases e
theorem PostO.new {xs : List D} {vs : List V} {Q : V → Hp → Prop} (ok : Ok G w s H) (h : PostO G W w H σ (.ok (.d (.lst xs)) s) Q) (r : Reps G.K w.N H xs vs) (hz : vs.length ≤ line) : ∀ p, H p = none → Q (.ref p) (upd H p (.lst vs)) := fun p hn => by
  exact h.2 (addB w p) _ p xs vs rfl hn (ext_add ok hn vs) (ok.addB hn vs) (.inr rfl) (ok.apart hn) upd_same hz (Reps.last (last_add ok hn vs) xs r)
/-- a list apart is one's own from now on -/
def ownB (w : Wd) (p : Addr) : Wd := { w with B := fun q => w.B q ∧ q ≠ p, o := fun q => if q = p then some p else w.o q }
theorem ownB_top (w : Wd) (p : Addr) : (ownB w p).o p = some p := if_pos rfl
theorem ownB_o {w : Wd} {p q : Addr} (h : q ≠ p) : (ownB w p).o q = w.o q := if_neg h
theorem ownB_N (hb : w.B p) (q : Addr) : (ownB w p).N q → w.N q := fun h => by
  rcases h with h | h
  · exact .inl h.1
  · by_cases e : q = p
    · subst e; exact .inl hb
    · exact .inr (by rwa [Wd.O, ownB_o e] at h)
theorem Ok.ownB (ok : Ok G w s H) (hb : w.B p) (hp : p ∉ w.α) : Ok G (MP.ownB w p) s H := by
  refine ⟨ok.nd, ok.len, fun n xs q h1 h2 => ?_, fun q h => ⟨ok.ab q h, fun z => hp (z ▸ h)⟩, fun q h z => ?_, fun q h => ok.mu q (ownB_N hb q h)⟩
  · obtain ⟨us, h3, hz, h4⟩ := ok.cells n xs q h1 h2
    exact ⟨us, h3, hz, Reps.less (ownB_N hb) xs h4⟩
  · rw [Wd.O, ownB_o h.2] at z
    exact ok.bo q h.1 z
theorem Pay.less {N N' : Addr → Prop} {c : EC} {y : Option D} {d : Option Addr} (hN : ∀ q, N' q → N q) (h : Pay G.K N H c y d) : Pay G.K N' H c y d := by
  unfold Pay at *
  cases y with
  | none => exact h
  | some y =>
    obtain ⟨p, u, e, h1, hn, h2⟩ := h
    exact ⟨p, u, e, h1, fun z => hn (hN _ z), Rep.less hN y h2⟩
/-- less is bad, the own lists that are named stay -/
theorem SlotR.less {v : Val} {u : V} (hN : ∀ q, w1.N q → w.N q) (ha : w1.α = w.α) (ho : isOwn v = true → ∀ q r, u = .ref q → w.o r = some q → w1.o r = some q) (h : SlotR G w H v u) : SlotR G w1 H v u := by
  cases v with
  | d y => exact Rep.less hN y h
  | ref n => obtain ⟨q, e1, e2⟩ := h; exact ⟨q, by rw [ha]; exact e1, e2⟩
  | own xs => obtain ⟨q, vs, e1, h1, e2, hz, e3⟩ := h; exact ⟨q, vs, e1, ho rfl q q e1 h1, e2, hz, Reps.less hN xs e3⟩
  | snap xs => obtain ⟨q, vs, e1, h1, e2, hz, e3⟩ := h; exact ⟨q, vs, e1, ho rfl q q e1 h1, e2, hz, Reps.less hN xs e3⟩
  | ownT ks xs => obtain ⟨q, vs, e1, h1, e2, hk, hz, e3⟩ := h; exact ⟨q, vs, e1, ho rfl q q e1 h1, e2, hk, hz, Reps.less hN xs e3⟩
  | own2 xss => obtain ⟨q, vs, e1, h1, e2, hz, e3⟩ := h; exact ⟨q, vs, e1, ho rfl q q e1 h1, e2, hz, e3.map (fun r h => ho rfl q r e1 h) (fun _ _ _ h => h) fun xs us => Reps.less hN xs⟩
  | exc c y => obtain ⟨a, d, e1, e2, e3⟩ := h; exact ⟨a, d, e1, e2, e3.less hN⟩
  | scr ns => exact h
theorem EnvR.ownB (ok : Ok G w s H) (er : EnvR G w H e σ) (hb : w.B p) : EnvR G (MP.ownB w p) H e σ := ⟨er.len, fun i v hv => by
  obtain ⟨u, h1, h2⟩ := er.slot i v hv
  exact ⟨u, h1, h2.less (ownB_N hb) rfl fun _ q r _ h => by rw [ownB_o fun z => ok.bo p hb (by rw [← z]; exact Wd.top h)]; exact h⟩, er.sep⟩
theorem EnvR.setG (er : EnvR G w H e σ) {v1 : Val} (i : Nat) (r : SlotR G w H v1 (.ref p))
    (hs : ∀ (j : Nat) v, j ≠ i → e[j]? = some (some v) → isOwn v = true → σ[j]? ≠ some (some (.ref p))) : EnvR G w H (e.set i (some v1)) (σ.set i (some (.ref p))) := by
  refine ⟨by simp [er.len], fun j v' h' => ?_, fun j k a b c hne h1 h2 h3 h4 h5 => ?_⟩
  · rw [List.getElem?_set] at h'
    split at h'
    · rename_i hij
      subst hij
      split at h'
      · rename_i hlt
        cases h'
        exact ⟨_, by rw [List.getElem?_set_self (by rw [← er.len]; exact hlt)], r⟩
      · cases h'
    · rename_i hij
      obtain ⟨u', h1, h2⟩ := er.slot j v' h'
      exact ⟨u', by rw [List.getElem?_set_ne hij]; exact h1, h2⟩
  · rw [List.getElem?_set] at h1 h2
    by_cases hj : i = j
    · subst hj
      rw [if_neg hne] at h2
      rw [if_pos rfl] at h1
      split at h1
      · rename_i hlt
        rw [List.getElem?_set_self (by rw [← er.len]; exact hlt)] at h5
        cases h5
        rw [List.getElem?_set_ne hne]
        exact hs k b (Ne.symm hne) h2 h4
      · cases h1
    · rw [if_neg hj] at h1
      rw [List.getElem?_set_ne hj] at h5
      by_cases hk : i = k
      · subst hk
        rw [if_pos rfl] at h2
        split at h2
        · rename_i hlt
          rw [List.getElem?_set_self (by rw [← er.len]; exact hlt)]
          intro z
          cases z
          exact hs j a (Ne.symm hj) h1 h3 h5
        · cases h2
      · rw [if_neg hk] at h2
        rw [List.getElem?_set_ne hk]
        exact er.sep j k a b c hne h1 h2 h3 h4 h5
theorem EnvR.setOwn (er : EnvR G w H e σ) {xs : List D} {vs : List V} (i : Nat) (ho : w.o p = some p) (h : H p = some (.lst vs)) (hz : vs.length ≤ line) (r : Reps G.K w.N H xs vs)
    (hs : ∀ (j : Nat) v, j ≠ i → e[j]? = some (some v) → isOwn v = true → σ[j]? ≠ some (some (.ref p))) : EnvR G w H (e.set i (some (.own xs))) (σ.set i (some (.ref p))) := er.setG i ⟨p, vs, rfl, ho, h, hz, r⟩ hs
/-- the own list at p is put to -/
theorem Ok.putG (ok : Ok G w s H) (ho : w.O p) (o1 : HO) (n1 : ∀ xs, o1 ≠ .tup xs) (n2 : ∀ ob u, o1 ≠ .frz ob u) : Ok G w s (upd H p o1) ∧ Last w.N w.N H (upd H p o1) ∧ Step w H w (upd H p o1) := by
  have L : Last w.N w.N H (upd H p o1) := ⟨fun q o h hq => by rw [upd_ne fun z => hq (by rw [z]; exact .inr ho)]; exact h, fun q h => .inl h, ok.mu⟩
  refine ⟨⟨ok.nd, ok.len, fun n xs q h1 h2 => ?_, ok.ab, ok.bo, fun q hq => ?_⟩, L, ⟨⟨[], by simp, by simp⟩, fun _ h => h, fun _ h => .inl h, fun _ h => .inl h, fun q o h hq hO => ?_, fun q hq => ?_⟩⟩
  · obtain ⟨vs', h3, hz, h4⟩ := ok.cells n xs q h1 h2
    have hne : q ≠ p := fun z => ok.bo q (ok.ab q (List.mem_of_getElem? h2)) (z ▸ ho)
    exact ⟨vs', by rw [upd_ne hne]; exact h3, hz, Reps.last L xs h4⟩
  · by_cases hqp : q = p
    · subst hqp
      exact ⟨_, upd_same, n1, n2⟩
    · obtain ⟨o, e, h1⟩ := ok.mu q hq
      exact ⟨o, by rw [upd_ne hqp]; exact e, h1⟩
  · rw [upd_ne fun z => hO (by rw [z]; exact ho)]; exact h
  · by_cases hqp : q = p
    · subst hqp; rw [upd_same] at hq; cases hq
    · rw [upd_ne hqp] at hq; exact hq
theorem Ok.putO (ok : Ok G w s H) (ho : w.O p) {vs : List V} (us : List V) (h : H p = some (.lst vs)) : Ok G w s (upd H p (.lst us)) ∧ Last w.N w.N H (upd H p (.lst us)) ∧ Step w H w (upd H p (.lst us)) :=
  ok.putG ho _ (fun xs h => by cases h) fun ob u h => by cases h
theorem EnvR.putG (ok : Ok G w s H) (er : EnvR G w H e σ) {i : Nat} {v0 v1 : Val} {o1 : HO} {a : Addr} (he : e[i]? = some (some v0)) (h0 : isOwn v0 = true) (hσ : σ[i]? = some (some (.ref p))) (ho : w.o p = some p) (ha : w.o a = some p) (L : Last w.N w.N H (upd H a o1))
    (r : SlotR G w (upd H a o1) v1 (.ref p)) : EnvR G w (upd H a o1) (e.set i (some v1)) σ := by
  have hi : i < σ.length := (List.getElem?_eq_some_iff.mp hσ).1
  have hσ' : σ.set i (some (.ref p)) = σ := by
    refine List.ext_getElem? fun j => ?_
    rw [List.getElem?_set]
    split
    · rename_i hij; subst hij; exact hσ.symm
    · first | rfl | (rename_i hij; exact absurd hi hij)
  rw [← hσ']
  have key : ∀ (j : Nat) v, j ≠ i → e[j]? = some (some v) → isOwn v = true → σ[j]? ≠ some (some (.ref p)) := fun j v hj hv hov => fun z => er.sep i j _ v (.ref p) (Ne.symm hj) he hv h0 hov hσ z
  have top : ∀ {q r : Addr}, w.o q = some r → r ≠ p → q ≠ a := fun {q r} hq hr z => by subst z; rw [hq] at ha; cases ha; exact hr rfl
  refine ⟨by simp [er.len], fun j v' h' => ?_, fun j k a b c hne h1 h2 h3 h4 h5 => ?_⟩
  · rw [List.getElem?_set] at h'
    split at h'
    · rename_i hij
      subst hij
      split at h'
      · cases h'
        exact ⟨_, by rw [List.getElem?_set_self hi], r⟩
      · cases h'
    · rename_i hij
      obtain ⟨u', h1, h2⟩ := er.slot j v' h'
      refine ⟨u', by rw [List.getElem?_set_ne hij]; exact h1, ?_⟩
      cases v' with
      | d y => exact Rep.last L y h2
      | ref n => exact h2
      | own zs =>
        obtain ⟨q, vs, e1, ho', e2, hz, e3⟩ := h2
        exact ⟨q, vs, e1, ho', by rw [upd_ne (top ho' fun z => key j _ (Ne.symm hij) h' rfl (by rw [h1, e1, z]))]; exact e2, hz, Reps.last L zs e3⟩
      | snap zs =>
        obtain ⟨q, vs, e1, ho', e2, hz, e3⟩ := h2
        exact ⟨q, vs, e1, ho', by rw [upd_ne (top ho' fun z => key j _ (Ne.symm hij) h' rfl (by rw [h1, e1, z]))]; exact e2, hz, Reps.last L zs e3⟩
      | ownT ks zs =>
        obtain ⟨q, vs, e1, ho', e2, hk, hz, e3⟩ := h2
        exact ⟨q, vs, e1, ho', by rw [upd_ne (top ho' fun z => key j _ (Ne.symm hij) h' rfl (by rw [h1, e1, z]))]; exact e2, hk, hz, Reps.last L zs e3⟩
      | own2 zs =>
        obtain ⟨q, vs, e1, ho', e2, hz, e3⟩ := h2
        have hne : q ≠ p := fun z => key j _ (Ne.symm hij) h' rfl (by rw [h1, e1, z])
        exact ⟨q, vs, e1, ho', by rw [upd_ne (top ho' hne)]; exact e2, hz, e3.map (fun _ h => h) (fun r u h hr => by rw [upd_ne (top h hne)]; exact hr) fun xs us => Reps.last L xs⟩
      | exc c y => obtain ⟨a, d, e1, e2, e3⟩ := h2; exact ⟨a, d, e1, e2, e3.last L⟩
      | scr ns =>
        obtain ⟨q, e1, e2, hz⟩ := h2
        refine ⟨q, e1, ?_, hz⟩
        rcases e2 with ⟨o, e2⟩ | e2
        · exact .inl ⟨o, frz.last L e2⟩
        · exact .inr e2
  · rw [hσ'] at h5 ⊢
    have back : ∀ (m : Nat) (x : Val), (e.set i (some v1))[m]? = some (some x) → isOwn x = true → ∃ x', e[m]? = some (some x') ∧ isOwn x' = true := fun m x hx hox => by
      rw [List.getElem?_set] at hx
      split at hx
      · rename_i him; subst him; exact ⟨_, he, h0⟩
      · exact ⟨x, hx, hox⟩
    obtain ⟨a', e1, o1⟩ := back j a h1 h3
    obtain ⟨b', e2, o2⟩ := back k b h2 h4
    exact er.sep j k a' b' c hne e1 e2 o1 o2 h5
theorem EnvR.putO (ok : Ok G w s H) (er : EnvR G w H e σ) {i : Nat} {ys xs : List D} {vs us : List V} (he : e[i]? = some (some (.own ys))) (hσ : σ[i]? = some (some (.ref p))) (ho : w.o p = some p) (h : H p = some (.lst vs)) (hz : us.length ≤ line)
    (r : Reps G.K w.N H xs us) : EnvR G w (upd H p (.lst us)) (e.set i (some (.own xs))) σ :=
  er.putG ok he rfl hσ ho ho (ok.putO (Wd.top ho) us h).2.1 ⟨p, us, rfl, ho, upd_same, hz, Reps.last (ok.putO (Wd.top ho) us h).2.1 xs r⟩

end
end MP
end

section
set_option Elab.async false
set_option linter.all false
set_option maxRecDepth 100000
set_option maxHeartbeats 4000000
/-! MP, part j: lists of one's own, tracked lists: statements. -/
namespace MP
open PySem PySem.Spec PyProof.Rows L2
section
variable {X : Cx} {G : Gd} {W : WX} {pos p : Pos} {a b c : Expr} {ma mb mc : ME} {st : Stmt} {sts : List Stmt}
/-! ### new lists -/
theorem o_lst {es : List Expr} {ms : ML} (hl : PA X es (tL G W ms)) : PE X (.List es pos) (tEO G W (mLst ms)) := by
  refine impE (pe_lst hl) fun σ H Q ⟨w, s, e, ok, er, h⟩ => ?_
  refine ⟨w, s, e, ok, er, PostO.bind (rel := relL G) h fun w1 s1 H1 v u x1 ok1 r1 h1 => ?_⟩
  cases q : datas v with
  | none => rw [q] at h1; exact h1.elim
  | some xs =>
    rw [q] at h1
    dsimp only at h1
    split at h1
    · rename_i hl
      have r := datas_rep r1 q
      rw [r.length] at hl
      exact ⟨by rw [← line_eq]; exact hl, PostO.new ok1 h1 r hl⟩
    · exact h1.elim
theorem o_lstI {i : MI} (hc : X.calm = true) (hg : Gl X "list") (hm : X.mg "list" = none) (he : PRg X a (tRgM G W i)) (na : starEach [a] X.env = (false, eval a X.env) :: starEach [] X.env) : PE X (.Call (.Name "list" p) [a] [] pos) (tEO G W (mLstI i)) := by
  refine impE (pe_listRg hc hg hm he na) fun σ H Q ⟨w, s, e, ok, er, h⟩ => ?_
  refine ⟨w, s, e, ok, er, PostO.bind (rel := relRg) h fun w1 s1 H1 v u x1 ok1 ⟨r1, r2⟩ h1 => ⟨r1, fun q hq => ?_⟩⟩
  subst r2
  have hz : (rgV u.1 u.2).length ≤ line := by rw [rgV_length]; exact r1.2.2.2.2
  exact PostO.new ok1 h1 (reps_rg _ _) hz q hq
theorem o_list (hK : G.K = X.K) (hc : X.calm = true) (hg : Gl X "list") (hm : X.mg "list" = none) (ha : PE X a (tE G W ma)) (hs : starEach [a] X.env = (false, eval a X.env) :: starEach [] X.env) :
    PE X (.Call (.Name "list" p) [a] [] pos) (tEO G W (mB1 .list ma)) := by
  have pa : PA X [a] (tCons (tE G W ma) tNil) := pa_cons ha pa_nil hs
  refine impE (pe_callTy (cr_b1 (X := X) .list (fun _ => hc)) hg hm (by decide +kernel) pa (by decide +kernel) (by decide +kernel) hs rfl) fun σ H Q ⟨w, s, e, ok, er, h⟩ => ?_
  refine ⟨w, s, e, ok, er, PostO.bind (rel := relV G) h fun w1 s1 H1 v u x1 ok1 r1 h1 => ?_⟩
  show rB1 X.K .list [u] H1 Q
  cases q1 : rd s1 v with
  | none =>
    cases v with
    | ownT ks xs =>
      have h1 : PostO G W w1 H1 σ (.ok (.d (.lst (keysD ks))) s1) Q := h1
      obtain ⟨q, kvs, rfl, ho, h2, hk, ⟨hz, hkz⟩, h3⟩ := r1
      refine .inr ⟨q, kvs, rfl, .inl h2, fun p bs hp hb => ?_⟩
      refine PostO.new (vs := bs.map V.ref) ok1 h1 ?_ ?_ p hp
      · subst hk
        exact reps_keys hb hkz
      · rw [List.length_map, ← Paired.length hb]; exact hz
    | _ => simp only [b1V, q1] at h1 <;> first | exact h1.elim | (simp at h1; exact h1.elim)
  | some x =>
    have h1 : PostO G W w1 H1 σ (R.of (b1V .list s1 v) s1) Q := h1
    have e1 : b1V .list s1 v = (b1 .list x).map .d := by
      cases v with
      | scr ns => cases q1
      | ownT ks xs => cases q1
      | _ => simp only [b1V, q1]
    rw [e1] at h1
    cases q : items x with
    | none => simp only [b1, q] at h1; exact h1.elim
    | some xs =>
      simp only [b1, q] at h1
      obtain ⟨q, vs, rfl, h2, hz, h3⟩ := items_rep (rd_ok ok1 r1 q1) q
      exact .inl ⟨q, vs, rfl, by rw [← hK]; exact h2, PostO.new ok1 h1 h3 hz⟩
theorem mul_lst {x y : D} {xs : List D} (h : opD .mul x y = some (.lst xs)) : ∃ a k, x = .lst a ∧ y = .int k ∧ -(2 ^ 63) ≤ k ∧ k < 2 ^ 63 ∧ a.length * k.toNat ≤ line ∧ xs = (List.replicate k.toNat a).flatten := by
  cases x with
  | lst a =>
    cases y with
    | int k =>
      have h : (if Op.mul = .mul ∧ -(2 ^ 63) ≤ k ∧ k < 2 ^ 63 ∧ a.length * k.toNat ≤ line then some (D.lst (List.replicate k.toNat a).flatten) else none) = some (.lst xs) := h
      split at h
      · rename_i hc
        cases h
        exact ⟨a, k, rfl, rfl, hc.2.1, hc.2.2.1, hc.2.2.2, rfl⟩
      · cases h
    | lst b =>
      have h : (if Op.mul = .add ∧ a.length + b.length ≤ line then some (D.lst (a ++ b)) else none) = some (.lst xs) := h
      rw [if_neg (fun z => nomatch z.1)] at h
      cases h
    | _ => cases h
  | int i =>
    cases y with
    | int j =>
      have h : (opI .mul i j).map D.int = some (.lst xs) := h
      obtain ⟨_, _, e⟩ := Option.map_eq_some_iff.mp h
      cases e
    | _ => cases h
  | str a =>
    cases y with
    | str b =>
      have h : (if Op.mul = .add ∧ a.length + b.length ≤ line then some (D.str (a ++ b)) else none) = some (.lst xs) := h
      rw [if_neg (fun z => nomatch z.1)] at h
      cases h
    | int k =>
      have h : (if Op.mul = .mul ∧ 1 ≤ k ∧ k ≤ 2048 ∧ 1 ≤ a.length ∧ a.length ≤ 2048 then some (D.str (strRep a k.toNat)) else none) = some (.lst xs) := h
      split at h <;> cases h
    | _ => cases h
  | tup a =>
    cases y with
    | tup b =>
      have h : (if Op.mul = .add ∧ a.length + b.length ≤ line then some (D.tup (a ++ b)) else none) = some (.lst xs) := h
      rw [if_neg (fun z => nomatch z.1)] at h
      cases h
    | int k =>
      have h : (if Op.mul = .mul ∧ 2 ≤ k ∧ k ≤ 1000 ∧ a ≠ [] ∧ a.length ≤ 1000 then some (D.tup (List.replicate k.toNat a).flatten) else none) = some (.lst xs) := h
      split at h <;> cases h
    | _ => cases h
  | tuq a =>
    cases y with
    | tuq b =>
      have h : (if Op.mul = .add ∧ a.length + b.length ≤ line then some (D.tuq (a ++ b)) else none) = some (.lst xs) := h
      rw [if_neg (fun z => nomatch z.1)] at h
      cases h
    | _ => cases h
  | _ => cases h
theorem o_mul (hK : G.K = X.K) (ha : PE X a (tE G W ma)) (hb : PE X b (tE G W mb)) : PE X (.BinOp a .Mult b pos) (tEO G W (mBin .mul ma mb)) := by
  refine impE (pe_op (op_rO (X := X) .mul) ha hb) fun σ H Q ⟨w, s, e, ok, er, h⟩ => ?_
  refine ⟨w, s, e, ok, er, PostO.bind (rel := relV G) h fun w1 s1 H1 v u x1 ok1 r1 h1 => ⟨w1, s1, e, ok1, er.ext ok x1, PostO.bind (rel := relV G) h1 fun w2 s2 H2 v' u' x2 ok2 r2 h2 => ?_⟩⟩
  have r1 := r1.ext ok1 x2
  cases q1 : rd s2 v with
  | none => rw [q1] at h2; exact h2.elim
  | some x =>
    cases q2 : rd s2 v' with
    | none => rw [q1, q2] at h2; exact h2.elim
    | some y =>
      rw [q1, q2] at h2
      have rx := rd_ok ok2 r1 q1
      have ry := rd_ok ok2 r2 q2
      have h2 : PostO G W w2 H2 σ (R.of ((opD .mul x y).map Val.d) s2) Q := h2
      cases q3 : opD .mul x y with
      | none => rw [q3] at h2; exact False.elim h2
      | some z =>
        rw [q3] at h2
        have h2 : PostO G W w2 H2 σ (.ok (.d z) s2) Q := h2
        obtain ⟨xs, ez⟩ := h2.1
        cases ez
        obtain ⟨a, k, rfl, rfl, hk1, hk2, hl, rfl⟩ := mul_lst q3
        obtain ⟨p1, v1, rfl, h1, z1, r1⟩ := rx
        rw [int_inv ry]
        have hl1 : v1.length * k.toNat ≤ line := by rw [← r1.length]; exact hl
        have hl2 : (List.replicate k.toNat v1).flatten.length ≤ line := by
          rw [List.length_flatten, List.map_replicate, List.sum_replicate_nat, Nat.mul_comm]; exact hl1
        exact .inr (.inl (.inl ⟨p1, k, v1, rfl, rfl, h1, hk1, hk2, by rw [← line_eq]; exact hl1, PostO.new ok2 h2 (r1.rep _) hl2⟩))
theorem add_lst {x y : D} {xs : List D} (h : opD .add x y = some (.lst xs)) : ∃ a b, x = .lst a ∧ y = .lst b ∧ a.length + b.length ≤ line ∧ xs = a ++ b := by
  cases x with
  | lst a =>
    cases y with
    | lst b =>
      have h : (if Op.add = .add ∧ a.length + b.length ≤ line then some (D.lst (a ++ b)) else none) = some (.lst xs) := h
      split at h
      · rename_i hc
        cases h
        exact ⟨a, b, rfl, rfl, hc.2, rfl⟩
      · cases h
    | int k =>
      have h : (if Op.add = .mul ∧ -(2 ^ 63) ≤ k ∧ k < 2 ^ 63 ∧ a.length * k.toNat ≤ line then some (D.lst (List.replicate k.toNat a).flatten) else none) = some (.lst xs) := h
      rw [if_neg (fun z => nomatch z.1)] at h
      cases h
    | _ => cases h
  | int i =>
    cases y with
    | int j =>
      have h : (opI .add i j).map D.int = some (.lst xs) := h
      obtain ⟨_, _, e⟩ := Option.map_eq_some_iff.mp h
      cases e
    | _ => cases h
  | str a =>
    cases y with
    | str b =>
      have h : (if Op.add = .add ∧ a.length + b.length ≤ line then some (D.str (a ++ b)) else none) = some (.lst xs) := h
      split at h <;> cases h
    | int k =>
      have h : (if Op.add = .mul ∧ 1 ≤ k ∧ k ≤ 2048 ∧ 1 ≤ a.length ∧ a.length ≤ 2048 then some (D.str (strRep a k.toNat)) else none) = some (.lst xs) := h
      split at h <;> cases h
    | _ => cases h
  | tup a =>
    cases y with
    | tup b =>
      have h : (if Op.add = .add ∧ a.length + b.length ≤ line then some (D.tup (a ++ b)) else none) = some (.lst xs) := h
      split at h <;> cases h
    | int k =>
      have h : (if Op.add = .mul ∧ 2 ≤ k ∧ k ≤ 1000 ∧ a ≠ [] ∧ a.length ≤ 1000 then some (D.tup (List.replicate k.toNat a).flatten) else none) = some (.lst xs) := h
      rw [if_neg (fun z => nomatch z.1)] at h
      cases h
    | _ => cases h
  | tuq a =>
    cases y with
    | tuq b =>
      have h : (if Op.add = .add ∧ a.length + b.length ≤ line then some (D.tuq (a ++ b)) else none) = some (.lst xs) := h
      split at h <;> cases h
    | _ => cases h
  | _ => cases h
theorem o_add (hK : G.K = X.K) (ha : PE X a (tE G W ma)) (hb : PE X b (tE G W mb)) : PE X (.BinOp a .Add b pos) (tEO G W (mBin .add ma mb)) := by
  refine impE (pe_op (op_rO (X := X) .add) ha hb) fun σ H Q ⟨w, s, e, ok, er, h⟩ => ?_
  refine ⟨w, s, e, ok, er, PostO.bind (rel := relV G) h fun w1 s1 H1 v u x1 ok1 r1 h1 => ⟨w1, s1, e, ok1, er.ext ok x1, PostO.bind (rel := relV G) h1 fun w2 s2 H2 v' u' x2 ok2 r2 h2 => ?_⟩⟩
  have r1 := r1.ext ok1 x2
  cases q1 : rd s2 v with
  | none => rw [q1] at h2; exact h2.elim
  | some x =>
    cases q2 : rd s2 v' with
    | none => rw [q1, q2] at h2; exact h2.elim
    | some y =>
      rw [q1, q2] at h2
      have rx := rd_ok ok2 r1 q1
      have ry := rd_ok ok2 r2 q2
      have h2 : PostO G W w2 H2 σ (R.of ((opD .add x y).map Val.d) s2) Q := h2
      cases q3 : opD .add x y with
      | none => rw [q3] at h2; exact False.elim h2
      | some z =>
        rw [q3] at h2
        have h2 : PostO G W w2 H2 σ (.ok (.d z) s2) Q := h2
        obtain ⟨xs, ez⟩ := h2.1
        cases ez
        obtain ⟨a, b, rfl, rfl, hl, rfl⟩ := add_lst q3
        obtain ⟨p1, v1, rfl, h1, z1, r1⟩ := rx
        obtain ⟨p2, v2, rfl, h3, z2, r2⟩ := ry
        have hl2 : (v1 ++ v2).length ≤ line := by rw [List.length_append, ← r1.length, ← r2.length]; exact hl
        exact .inr (.inl (.inr ⟨p1, p2, v1, v2, rfl, rfl, h1, h3, by rw [← line_eq, ← List.length_append]; exact hl2, PostO.new ok2 h2 (r1.append r2) hl2⟩))
theorem sorted_inv {x z : D} (h : b1 .sorted x = some z) : ∃ xs ns, items x = some xs ∧ intsD xs = some ns ∧ z = .lst ((sortI ns).map .int) := by
  have h : (match items x with
    | some xs => (intsD xs).map fun ns => D.lst ((sortI ns).map .int)
    | none => none) = some z := h
  cases q : items x with
  | none => rw [q] at h; cases h
  | some xs =>
    rw [q] at h
    obtain ⟨ns, e, rfl⟩ := Option.map_eq_some_iff.mp h
    exact ⟨xs, ns, rfl, e, rfl⟩
theorem o_sorted (hK : G.K = X.K) (hg : Gl X "sorted") (hm : X.mg "sorted" = none) (ha : PE X a (tE G W ma)) (hs : starEach [a] X.env = (false, eval a X.env) :: starEach [] X.env) :
    PE X (.Call (.Name "sorted" p) [a] [] pos) (tEO G W (mB1 .sorted ma)) := by
  have pa : PA X [a] (tCons (tE G W ma) tNil) := pa_cons ha pa_nil hs
  refine impE (pe_callB (cr_b1 (X := X) .sorted (fun h => nomatch h)) hg hm (by decide +kernel) pa (by decide +kernel) (by decide +kernel) hs rfl) fun σ H Q ⟨w, s, e, ok, er, h⟩ => ?_
  refine ⟨w, s, e, ok, er, PostO.bind (rel := relV G) h fun w1 s1 H1 v u x1 ok1 r1 h1 => ?_⟩
  show rB1 X.K .sorted [u] H1 Q
  cases q1 : rd s1 v with
  | none =>
    cases v with
    | ownT ks xs => exact h1.elim
    | _ => simp only [b1V, q1] at h1 <;> first | exact h1.elim | (simp at h1; exact h1.elim)
  | some x =>
    have h1 : PostO G W w1 H1 σ (R.of (b1V .sorted s1 v) s1) Q := h1
    have e1 : b1V .sorted s1 v = (b1 .sorted x).map .d := by
      cases v with
      | scr ns => cases q1
      | ownT ks xs => cases q1
      | _ => simp only [b1V, q1]
    rw [e1] at h1
    have rx := rd_ok ok1 r1 q1
    rw [hK] at rx
    cases q3 : b1 .sorted x with
    | none => rw [q3] at h1; exact False.elim h1
    | some z =>
      rw [q3] at h1
      have h1 : PostO G W w1 H1 σ (.ok (.d z) s1) Q := h1
      obtain ⟨xs, ns, g1, g2, rfl⟩ := sorted_inv q3
      obtain ⟨p, vs, rfl, hsq, hz, hr⟩ := items_rep rx g1
      rw [ints_ok g2] at hr
      rw [reps_int hr] at hsq hz
      have fin : ∀ ns' : List Int, ns'.Perm ns → ns'.Pairwise (· ≤ ·) → ∀ a : Addr, H1 a = none → Q (.ref a) (upd H1 a (.lst (ns'.map V.int))) := fun ns' hp hs a hn => by
        have e : ns' = sortI ns := sorted_uniq (hp.trans (sortI_perm ns).symm) hs (sortI_sorted ns)
        subst e
        refine PostO.new ok1 h1 (of_int _) ?_ a hn
        rw [List.length_map, (sortI_perm ns).length_eq]
        rw [List.length_map] at hz
        exact hz
      rcases hsq with hsq | hsq
      · exact .inl ⟨p, ns, rfl, hsq, fun ns' a hp hs hn => fin ns' hp hs a hn⟩
      · exact .inr ⟨p, ns, rfl, hsq, fun ns' a hp hs hn => fin ns' hp hs a hn⟩
/-- a comprehension -/
theorem lcO_read {own : List Nat} {tg : Tg} {it : MI} {t : MT} {m : ME} (ht : ∀ i ∈ tgSlots tg, i ∈ own) {σ : L2.St} {H : Hp} {Q : VK} (h : tEO G W (mLc own tg it t m) σ H Q) :
    tLc (tI G W it) (gTg G.K tg) (tT G WF t) (tE G WF m) own σ H Q := by
  obtain ⟨w, s, e, ok, er, h⟩ := h
  refine ⟨w, s, e, ok, er, PostO.bind (rel := relI G) h fun w1 s1 H1 xs J x1 ok1 ⟨wk, hz⟩ h1 => fun p hp => ?_⟩
  refine lc_turns (Q := fun p H => Q (.ref p) H) ht (fun r => PostO G W w1 H1 σ (r.bind fun ys s => .ok (.d (.lst ys)) s) Q) (fun h => h) ok1 (er.ext ok x1) wk hz h1 p hp fun wz s acc H vs bp ap okz ex at_ ac hl po => ?_
  refine po.2 wz H p acc vs rfl hp ?_ okz bp ap at_ hl ac
  refine ⟨ex.al, fun q h => (ex.bm q h).1, fun q h => ?_, ex.oo, ex.keep⟩
  by_cases hq : q = p
  · subst hq; exact .inr hp
  · exact ex.bn q ⟨h, hq⟩
/-! ### a name's own list -/
theorem asgO_read {i : Nat} {m : ME} {D : Ends} {σ : L2.St} {H : Hp} (h : tS G W (mAsgO i m) D σ H) : tAsg (tEO G W m) (gName i) D σ H := by
  obtain ⟨w, s, e, ok, er, h⟩ := h
  refine ⟨w, s, e, ok, er, ?_⟩
  unfold mAsgO at h
  cases q : m e s with
  | stuck => rw [q] at h; exact h.elim
  | exn c y s1 => rw [q] at h; exact fun w' H' cls d x o r => h w' H' σ cls d (x.step o) o (er.ext ok x) r
  | ok v s1 =>
    rw [q] at h
    match v, h with
    | .d (.lst xs), h =>
      refine ⟨⟨xs, rfl⟩, fun w' H' p xs' vs ev hn x okx bp ap at_ hz r => ?_⟩
      cases ev
      have ok2 := okx.ownB bp ap
      have st : Step w H (ownB w' p) H' := by
        refine ⟨x.al, fun q h => ⟨x.bm q h, fun z => ?_⟩, fun q h => x.bn q h.1, fun q h => ?_, fun q o h hq _ => x.keep q o h hq, fun q h => okx.none_of x h⟩
        · subst z; exact ok.notN hn (.inl h)
        · by_cases e : q = p
          · subst e; exact .inr hn
          · rw [Wd.O, ownB_o e] at h; exact .inl ((x.O q).mp h)
      refine h (ownB w' p) H' _ st ok2 ?_
      refine EnvR.setOwn (EnvR.ownB okx (er.ext ok x) bp) i (ownB_top _ _) at_ hz (Reps.less (ownB_N bp) xs r) fun j v hj hv hov z => ?_
      obtain ⟨u, h1, h2⟩ := (er.ext ok x).slot j v hv
      rw [z] at h1
      cases h1
      cases v with
      | own ys => obtain ⟨q, _, e1, ho, _⟩ := h2; cases e1; exact okx.bo p bp (Wd.top ho)
      | snap ys => obtain ⟨q, _, e1, ho, _⟩ := h2; cases e1; exact okx.bo p bp (Wd.top ho)
      | ownT ks ys => obtain ⟨q, _, e1, ho, _⟩ := h2; cases e1; exact okx.bo p bp (Wd.top ho)
      | own2 ys => obtain ⟨q, _, e1, ho, _⟩ := h2; cases e1; exact okx.bo p bp (Wd.top ho)
      | _ => cases hov
theorem s_asgO {i : Nat} {x : Str} {pos' : Pos} (hN : X.N.Nodup) (hi : X.N[i]? = some x) (hx : Loc X.env.scope x) (he : PE X a (tEO G W ma)) (hs : swapsWith a (some (.Name x pos')) pos.line X.env = pure false) (hf : X.fn x = true ∨ X.env.scope.names.lookup x = some .local) :
    PS X (.Assign [.Name x pos'] a pos) (tS G W (mAsgO i ma)) := impS (ps_set hN hi hx he hs hf) fun D σ H h => asgO_read h
/-- what the own list p holds is data from now on -/
def frzB (w : Wd) (p : Addr) : Wd := { w with o := fun r => if w.o r = some p then none else w.o r }
theorem frzB_o {w : Wd} {p r : Addr} (h : w.o r = some p) : (frzB w p).o r = none := if_pos h
theorem frzB_ne {w : Wd} {p r q : Addr} (h : w.o r = some q) (hn : q ≠ p) : (frzB w p).o r = some q := by
  show (if w.o r = some p then none else w.o r) = some q
  rw [if_neg (fun z => hn (by rw [h] at z; exact Option.some.inj z))]; exact h
theorem frzB_O {w : Wd} {p r : Addr} (h : (frzB w p).O r) : w.O r := by
  intro z
  refine h ?_
  show (if w.o r = some p then none else w.o r) = none
  split
  · rfl
  · exact z
theorem frzB_N {w : Wd} {p : Addr} (r : Addr) (h : (frzB w p).N r) : w.N r := h.elim .inl fun h => .inr (frzB_O h)
theorem frz_env {w : Wd} {s : S} {e : Env} {σ : L2.St} {H : Hp} {i : Nat} {v0 : Val} {x : D} {p : Addr} (ok : Ok G w s H) (er : EnvR G w H e σ) (q : e[i]? = some (some v0)) (h0 : isOwn v0 = true) (hu : σ[i]? = some (some (.ref p)))
    (hx : Rep G.K (frzB w p).N H x (.ref p)) : Ok G (frzB w p) s H ∧ EnvR G (frzB w p) H (e.set i (some (.d x))) σ ∧ Step w H (frzB w p) H := by
  refine ⟨⟨ok.nd, ok.len, fun n ys r h3 h4 => ?_, ok.ab, fun r h z => ok.bo r h (frzB_O z), fun r h => ok.mu r (frzB_N r h)⟩, ?_, ⟨⟨[], by simp [frzB], by simp⟩, fun _ h => h, fun _ h => .inl h, fun _ h => .inl (frzB_O h), fun _ _ h _ _ => h, fun _ h => h⟩⟩
  · obtain ⟨us, h5, h6, h7⟩ := ok.cells n ys r h3 h4
    exact ⟨us, h5, h6, Reps.less frzB_N ys h7⟩
  · have hi : i < σ.length := (List.getElem?_eq_some_iff.mp hu).1
    have key : ∀ (m : Nat) (y : Val), (e.set i (some (.d x)))[m]? = some (some y) → isOwn y = true → i ≠ m ∧ e[m]? = some (some y) := fun m y hx hox => by
      rw [List.getElem?_set] at hx
      split at hx
      · split at hx
        · cases hx; cases hox
        · cases hx
      · rename_i hij; exact ⟨hij, hx⟩
    refine ⟨by simp [er.len], fun j v hv => ?_, fun j k a b c hne g1 g2 g3 g4 g5 => ?_⟩
    · rw [List.getElem?_set] at hv
      split at hv
      · rename_i hij
        subst hij
        split at hv
        · cases hv
          exact ⟨_, hu, hx⟩
        · cases hv
      · rename_i hij
        obtain ⟨u', h3, h4⟩ := er.slot j v hv
        refine ⟨u', h3, h4.less frzB_N rfl fun hov r t er' hr => frzB_ne hr fun z => ?_⟩
        subst er'
        subst z
        exact er.sep i j _ v _ hij q hv h0 hov hu h3
    · obtain ⟨n1, e1⟩ := key j a g1 g3
      obtain ⟨n2, e2⟩ := key k b g2 g4
      exact er.sep j k a b c hne e1 e2 g3 g4 g5
theorem Rows.data {K : PySem.W.Frag} {o : Addr → Option Addr} {N N' : Addr → Prop} {H : Hp} {p : Addr} (hn : ∀ q, o q = some p → ¬ N' q) (hr : ∀ xs us, Reps K N H xs us → Reps K N' H xs us) : ∀ {xss : List (List D)} {vs : List V}, Rows K o N H p xss vs → Reps K N' H (xss.map D.lst) vs
  | [], vs, h => by unfold Rows at h; subst h; exact .nil
  | xs :: xss, vs, h => by
    obtain ⟨q, us, r, e, h1, h2, h3, h4, h5, h6, h7⟩ := h
    subst e
    exact .cons (rep_lst (hn q h1) h4 h5 (hr _ _ h6)) (Rows.data hn hr h7)
theorem frz_read {i : Nat} {m : MS} {D : Ends} {σ : L2.St} {H : Hp} (h : tS G W (mSeq (mFrz i) m) D σ H) : tS G W m D σ H := by
  obtain ⟨w, s, e, ok, er, h⟩ := h
  have off : ∀ {p : Addr}, ∀ r, w.o r = some p → ¬ (frzB w p).N r := fun r hr z => z.elim (fun z => ok.bo r z (Wd.top hr)) fun z => z (frzB_o hr)
  cases q : e[i]? with
  | none => exact ⟨w, s, e, ok, er, by simpa only [mSeq, mFrz, q] using h⟩
  | some o =>
    match o, q with
    | some (.own xs), q =>
      simp only [mSeq, mFrz, q] at h
      obtain ⟨u, hu, p, vs, rfl, ho, h1, hz, h2⟩ := er.slot i _ q
      obtain ⟨a, b, c⟩ := frz_env (x := .lst xs) ok er q rfl hu (rep_lst (off p ho) h1 hz (Reps.less frzB_N xs h2))
      exact ⟨_, s, _, a, b, PostS.mono c h⟩
    | some (.own2 xss), q =>
      simp only [mSeq, mFrz, q] at h
      obtain ⟨u, hu, p, vs, rfl, ho, h1, hz, h2⟩ := er.slot i _ q
      obtain ⟨a, b, c⟩ := frz_env (x := .lst (xss.map MP.D.lst)) ok er q rfl hu (rep_lst (off p ho) h1 hz (h2.data off fun xs us => Reps.less frzB_N xs))
      exact ⟨_, s, _, a, b, PostS.mono c h⟩
    | none, q => exact ⟨w, s, e, ok, er, by simpa only [mSeq, mFrz, q] using h⟩
    | some (.d _), q => exact ⟨w, s, e, ok, er, by simpa only [mSeq, mFrz, q] using h⟩
    | some (.ref _), q => exact ⟨w, s, e, ok, er, by simpa only [mSeq, mFrz, q] using h⟩
    | some (.snap _), q => exact ⟨w, s, e, ok, er, by simpa only [mSeq, mFrz, q] using h⟩
    | some (.ownT _ _), q => exact ⟨w, s, e, ok, er, by simpa only [mSeq, mFrz, q] using h⟩
    | some (.exc _ _), q => exact ⟨w, s, e, ok, er, by simpa only [mSeq, mFrz, q] using h⟩
    | some (.scr _), q => exact ⟨w, s, e, ok, er, by simpa only [mSeq, mFrz, q] using h⟩
theorem s_frz {i : Nat} {m : MS} (h : PSs X sts (tS G W m)) : PSs X sts (tS G W (mSeq (mFrz i) m)) := impSs h fun D σ H q => frz_read q
end
end MP
end

section
set_option Elab.async false
set_option linter.all false
set_option maxRecDepth 100000
set_option maxHeartbeats 4000000
/-! MP, part k: append and its like, raise, try. -/
namespace MP
open PySem PySem.Spec PyProof.Rows L2
section
variable {X : Cx} {G : Gd} {W : WX} {pos p : Pos} {a b c : Expr} {ma mb mc : ME} {st : Stmt} {sts : List Stmt}
abbrev few (X : Cx) (es : List Expr) (pos : Pos) : Prop := ((((backTo pos (starEach es X.env)).all fun x => !x.1) && (backToKw pos (keywordEach [] X.env)).all fun x => x.1.isSome) && decide ((es.length + ([] : List Keyword).length + if ([] : List Keyword).isEmpty = true then 0 else 1) < 30)) = true
theorem own_of {w : Wd} {H : Hp} {e : Env} {i : Nat} {f : List D → F} {D : Ends} (h : PostS G W w H (match e[i]? with
    | some (some (.own xs)) => f xs
    | _ => .stuck) D) : ∃ xs, e[i]? = some (some (.own xs)) ∧ PostS G W w H (f xs) D := by
  split at h
  · rename_i xs q; exact ⟨xs, q, h⟩
  · exact h.elim
/-- an own list where it stands -/
theorem own_at {w : Wd} {H : Hp} {e : Env} {σ : L2.St} {i : Nat} {xs : List D} {p : Addr} (er : EnvR G w H e σ) (q : e[i]? = some (some (.own xs))) (hu : σ[i]? = some (some (.ref p))) : ∃ vs, w.o p = some p ∧ H p = some (.lst vs) ∧ vs.length ≤ line ∧ Reps G.K w.N H xs vs := by
  obtain ⟨u, hu', p', vs, e', ho, h1, hz, h2⟩ := er.slot i _ q
  rw [hu] at hu'
  cases hu'
  cases e'
  exact ⟨vs, ho, h1, hz, h2⟩
theorem s_app {i : Nat} {x : Str} {p1 p2 apos : Pos} (hN : X.N[i]? = some x) (hv : Vis X.env.scope x) (hd : (x == ("__debug__" : Str)) = false) (hcd : (x == ("__classdict__" : Str)) = false) (ha : PE X a (tE G W ma))
    (hf : few X [a] pos) (hl : (apos.endLine == pos.line) = true) (hs : starEach [a] X.env = (false, eval a X.env) :: starEach [] X.env) : PS X (.Expr (.Call (.Attribute (.Name x p1) "append" apos) [a] [] pos) p2) (tS G W (mApp i ma)) := by
  refine impS (ps_expr (pe_bm F.plainAttrs_list F.slot_list_append F.type_list_append mt_append (pe_var hN hv hd hcd) (pa_cons ha pa_nil hs) rfl hf hl hs rfl) rfl) fun D σ H ⟨w, s, e, ok, er, h⟩ => ?_
  obtain ⟨xs, q, h⟩ := own_of h
  obtain ⟨u, hu, p, vs, rfl, ho, h1, hz, h2⟩ := er.slot i _ q
  refine ⟨.ref p, hu, .inl ⟨rfl, vs, .inl (.inl h1)⟩, ?_⟩
  refine ⟨w, s, e, ok, er, PostS.go ok er h fun w1 s1 H1 v u x1 ok1 r1 er1 h3 => ?_⟩
  obtain ⟨vs', ho', h1', hz', h2'⟩ := own_at er1 q hu
  match v, h3, r1 with
  | .d y, h3, r1 =>
    dsimp only at h3
    split at h3
    · rename_i hl
      rw [h2'.length] at hl
      obtain ⟨ok4, L4, st4⟩ := ok1.putO (Wd.top ho') (vs' ++ [u]) h1'
      exact ⟨p, vs', u, rfl, rfl, h1', by rw [← line_eq]; exact hl, h3 w1 _ σ st4 ok4 (er1.putO ok1 q hu ho' h1' (by rw [List.length_append]; exact hl) (h2'.append (.one r1)))⟩
    · exact h3.elim
  | .ref _, h3, r1 => exact h3.elim
  | .own _, h3, r1 => exact h3.elim
  | .snap _, h3, r1 => exact h3.elim
  | .ownT _ _, h3, r1 => exact h3.elim
  | .exc _ _, h3, r1 => exact h3.elim
  | .own2 _, h3, r1 => exact h3.elim
  | .scr _, h3, r1 => exact h3.elim
theorem s_ext {i : Nat} {x : Str} {p1 p2 apos : Pos} (hN : X.N[i]? = some x) (hv : Vis X.env.scope x) (hd : (x == ("__debug__" : Str)) = false) (hcd : (x == ("__classdict__" : Str)) = false) (ha : PE X a (tE G W ma))
    (hf : few X [a] pos) (hl : (apos.endLine == pos.line) = true) (hs : starEach [a] X.env = (false, eval a X.env) :: starEach [] X.env) : PS X (.Expr (.Call (.Attribute (.Name x p1) "extend" apos) [a] [] pos) p2) (tS G W (mExt i ma)) := by
  refine impS (ps_expr (pe_bm F.plainAttrs_list F.slot_list_extend F.type_list_extend mt_extend (pe_var hN hv hd hcd) (pa_cons ha pa_nil hs) rfl hf hl hs rfl) rfl) fun D σ H ⟨w, s, e, ok, er, h⟩ => ?_
  obtain ⟨xs, q, h⟩ := own_of h
  obtain ⟨u, hu, p, vs, rfl, ho, h1, hz, h2⟩ := er.slot i _ q
  refine ⟨.ref p, hu, .inl ⟨rfl, vs, .inl (.inl h1)⟩, ?_⟩
  refine ⟨w, s, e, ok, er, PostS.go ok er h fun w1 s1 H1 v u x1 ok1 r1 er1 h3 => ?_⟩
  obtain ⟨vs', ho', h1', hz', h2'⟩ := own_at er1 q hu
  cases q1 : rd s1 v with
  | none => rw [q1] at h3; exact h3.elim
  | some y =>
    rw [q1] at h3
    match y, h3, rd_ok ok1 r1 q1 with
    | .lst ys, h3, ry =>
      dsimp only at h3
      split at h3
      · rename_i hl
        obtain ⟨p2, us, rfl, h5, _, h6⟩ := ry
        rw [h2'.length, h6.length] at hl
        obtain ⟨ok4, L4, st4⟩ := ok1.putO (Wd.top ho') (vs' ++ us) h1'
        exact ⟨p, p2, vs', us, rfl, rfl, h1', h5, by rw [← line_eq]; exact hl, h3 w1 _ σ st4 ok4 (er1.putO ok1 q hu ho' h1' (by rw [List.length_append]; exact hl) (h2'.append h6))⟩
      · exact h3.elim
    | .non, h3, _ => exact h3.elim
    | .bl _, h3, _ => exact h3.elim
    | .int _, h3, _ => exact h3.elim
    | .str _, h3, _ => exact h3.elim
    | .tup _, h3, _ => exact h3.elim
    | .dic _ _, h3, _ => exact h3.elim
theorem s_clr {i : Nat} {x : Str} {p1 p2 apos : Pos} (hN : X.N[i]? = some x) (hv : Vis X.env.scope x) (hd : (x == ("__debug__" : Str)) = false) (hcd : (x == ("__classdict__" : Str)) = false)
    (hl : (apos.endLine == pos.line) = true) : PS X (.Expr (.Call (.Attribute (.Name x p1) "clear" apos) [] [] pos) p2) (tS G W (mClr i)) := by
  refine impS (ps_expr (pe_bm0 F.plainAttrs_list F.slot_list_clear F.type_list_clear mt_clear (pe_var hN hv hd hcd) rfl hl) rfl) fun D σ H ⟨w, s, e, ok, er, h⟩ => ?_
  obtain ⟨xs, q, h⟩ := own_of h
  obtain ⟨u, hu, p, vs, rfl, ho, h1, hz, h2⟩ := er.slot i _ q
  obtain ⟨ok4, L4, st4⟩ := ok.putO (Wd.top ho) [] h1
  exact ⟨.ref p, hu, .inl ⟨rfl, vs, .inl (.inl h1)⟩, p, vs, rfl, rfl, h1, h w _ σ st4 ok4 (er.putO ok q hu ho h1 (Nat.zero_le _) .nil)⟩
theorem ixN_ok {n : Nat} {k : Int} {j : Nat} (h : MP.ixN n k = some j) : L2.ixN n k = some j := h
theorem s_setO {i : Nat} {x : Str} {p1 : Pos} {j : Expr} {mj : ME} {p3 : Pos} (hN : X.N[i]? = some x) (hv : Vis X.env.scope x) (hd : (x == ("__debug__" : Str)) = false) (hcd : (x == ("__classdict__" : Str)) = false) (ha : PE X a (tE G W ma)) (hj : PE X j (tE G W mj))
    (hsw : swapsWithSole [.Subscript (.Name x p1) j p3] a pos.line X.env = pure false) (hw : swappedStores [.Subscript (.Name x p1) j p3] a X.env = pure none)
    (hasg : ∀ v, assign (.Subscript (.Name x p1) j p3) X.env v = (do
      let ov ← holding [v] (eval (.Name x p1) X.env)
      let iv ← holding [v, ov] (eval j X.env)
      standAt p3
      holding [v, ov, iv] (setItem ov iv v)
      release [v, ov, iv] [])) : PS X (.Assign [.Subscript (.Name x p1) j p3] a pos) (tS G W (mSetO i mj ma)) := by
  refine impS (ps_asg ha (pg_sub (pe_var hN hv hd hcd) hj set_list hasg) hsw hw rfl) fun D σ H ⟨w, s, e, ok, er, h⟩ => ?_
  refine ⟨w, s, e, ok, er, PostS.go ok er h fun w1 s1 H1 v u x1 ok1 r1 er1 h3 => ?_⟩
  obtain ⟨xs, q, h3⟩ := own_of h3
  obtain ⟨u0, hu, p, vs, rfl, ho, h1, hz, h2⟩ := er1.slot i _ q
  refine ⟨.ref p, hu, w1, s1, e, ok1, er1, PostS.go ok1 er1 h3 fun w2 s2 H2 v2 u2 x2 ok2 r2 er2 h4 => ?_⟩
  obtain ⟨vs', ho', h1', hz', h2'⟩ := own_at er2 q hu
  have r1 := r1.ext ok1 x2
  cases v with
  | d y =>
    cases v2 with
    | d z =>
      cases z with
      | int k =>
        cases q1 : MP.ixN xs.length k with
        | none => simp only [q1] at h4; exact h4.elim
        | some j =>
          simp only [q1] at h4
          rw [h2'.length] at q1
          obtain ⟨ok4, L4, st4⟩ := ok2.putO (Wd.top ho') (vs'.set j u) h1'
          exact ⟨p, vs', k, j, rfl, int_inv (slot_d r2), h1', ixN_ok q1, h4 w2 _ σ st4 ok4 (er2.putO ok2 q hu ho' h1' (by rw [List.length_set]; exact hz') (h2'.set j r1))⟩
      | _ => exact h4.elim
    | _ => exact h4.elim
  | _ => exact h4.elim
/-! ### tracked lists -/
theorem nodup_at {α : Type} : ∀ {l : List α} {i j : Nat} {x : α}, l.Nodup → l[i]? = some x → l[j]? = some x → i = j
  | [], i, j, x, _, h, _ => by simp at h
  | y :: l, i, j, x, nd, h1, h2 => by
    obtain ⟨n1, n2⟩ := List.nodup_cons.mp nd
    cases i with
    | zero =>
      cases j with
      | zero => rfl
      | succ j =>
        have e1 : y = x := by simpa using h1
        subst e1
        exact absurd (List.mem_of_getElem? (by simpa using h2)) n1
    | succ i =>
      cases j with
      | zero =>
        have e1 : y = x := by simpa using h2
        subst e1
        exact absurd (List.mem_of_getElem? (by simpa using h1)) n1
      | succ j => exact congrArg Nat.succ (nodup_at (x := x) n2 (by simpa using h1) (by simpa using h2))
theorem Ok.putR {w : Wd} {s : S} {H : Hp} {n : Nat} {p : Addr} {xs ys : List D} {vs us : List V} (ok : Ok G w s H) (hn : w.α[n]? = some p) (hs : s[n]? = some xs) (h : H p = some (.lst vs)) (hz : us.length ≤ line) (r : Reps G.K w.N H ys us) :
    Ok G w (s.set n ys) (upd H p (.lst us)) ∧ Last w.N w.N H (upd H p (.lst us)) ∧ Step w H w (upd H p (.lst us)) := by
  have hb : w.B p := ok.ab p (List.mem_of_getElem? hn)
  have L : Last w.N w.N H (upd H p (.lst us)) := ⟨fun q o h hq => by rw [upd_ne fun z => hq (by rw [z]; exact .inl hb)]; exact h, fun q h => .inl h, ok.mu⟩
  refine ⟨⟨ok.nd, by rw [List.length_set]; exact ok.len, fun m zs q h1 h2 => ?_, ok.ab, ok.bo, fun q hq => ?_⟩, L, ⟨⟨[], by simp, by simp⟩, fun _ h => h, fun _ h => .inl h, fun _ h => .inl h, fun q o h hq hO => ?_, fun q hq => ?_⟩⟩
  · by_cases hm : n = m
    · subst hm
      rw [hn] at h2
      cases h2
      rw [List.getElem?_set_self (List.getElem?_eq_some_iff.mp hs).1] at h1
      cases h1
      exact ⟨us, upd_same, hz, Reps.last L ys r⟩
    · rw [List.getElem?_set_ne hm] at h1
      obtain ⟨vs', h3, hz', h4⟩ := ok.cells m zs q h1 h2
      have hne : q ≠ p := by
        intro z
        rw [z] at h2
        exact hm (nodup_at ok.nd hn h2)
      exact ⟨vs', by rw [upd_ne hne]; exact h3, hz', Reps.last L zs h4⟩
  · by_cases hqp : q = p
    · subst hqp
      exact ⟨_, upd_same, (fun xs h => by cases h), fun ob u h => by cases h⟩
    · obtain ⟨o, e, h1⟩ := ok.mu q hq
      exact ⟨o, by rw [upd_ne hqp]; exact e, h1⟩
  · rw [upd_ne fun z => hq (by rw [z]; exact List.mem_of_getElem? hn)]; exact h
  · by_cases hqp : q = p
    · subst hqp; rw [upd_same] at hq; cases hq
    · rw [upd_ne hqp] at hq; exact hq
theorem s_setR {o j : Expr} {mo mj : ME} {p3 : Pos} (ha : PE X a (tE G W ma)) (ho : PE X o (tE G W mo)) (hj : PE X j (tE G W mj))
    (hsw : swapsWithSole [.Subscript o j p3] a pos.line X.env = pure false) (hw : swappedStores [.Subscript o j p3] a X.env = pure none)
    (hasg : ∀ v, assign (.Subscript o j p3) X.env v = (do
      let ov ← holding [v] (eval o X.env)
      let iv ← holding [v, ov] (eval j X.env)
      standAt p3
      holding [v, ov, iv] (setItem ov iv v)
      release [v, ov, iv] [])) (h1 : (assignEach [.Subscript o j p3] X.env).map (·.2) = [assign (.Subscript o j p3) X.env]) : PS X (.Assign [.Subscript o j p3] a pos) (tS G W (mSetR mo mj ma)) := by
  refine impS (ps_asg ha (pg_sub ho hj set_list hasg) hsw hw h1) fun D σ H ⟨w, s, e, ok, er, h⟩ => ?_
  refine ⟨w, s, e, ok, er, PostS.go ok er h fun w1 s1 H1 v u x1 ok1 r1 er1 h3 => ?_⟩
  refine ⟨w1, s1, e, ok1, er1, PostS.go ok1 er1 h3 fun w2 s2 H2 v2 u2 x2 ok2 r2 er2 h4 => ?_⟩
  refine ⟨w2, s2, e, ok2, er2, PostS.go ok2 er2 h4 fun w3 s3 H3 v3 u3 x3 ok3 r3 er3 h5 => ?_⟩
  have r1 := (r1.ext ok1 x2).ext ok2 x3
  have r2 := r2.ext ok2 x3
  cases v with
  | d y =>
    cases v2 with
    | ref n =>
      cases v3 with
      | d z =>
        cases z with
        | int k =>
          cases q0 : s3[n]? with
          | none => simp only [q0] at h5; exact h5.elim
          | some xs =>
            simp only [q0] at h5
            cases q1 : MP.ixN xs.length k with
            | none => simp only [q1] at h5; exact h5.elim
            | some j =>
              simp only [q1] at h5
              obtain ⟨p, hp, rfl⟩ := r2
              obtain ⟨xs', vs, hs', h6, hz, h7⟩ := ok3.cell hp
              rw [q0] at hs'
              cases hs'
              rw [h7.length] at q1
              obtain ⟨ok4, L4, st4⟩ := ok3.putR (us := vs.set j u) hp q0 h6 (by rw [List.length_set]; exact hz) (h7.set j r1)
              refine ⟨p, vs, k, j, rfl, int_inv (slot_d r3), h6, ixN_ok q1, h5 w3 _ σ st4 ok4 (er3.last L4 rfl rfl fun q o h hO => ?_)⟩
              rw [upd_ne fun z => ok3.bo q (by rw [z]; exact ok3.ab p (List.mem_of_getElem? hp)) hO]
              exact h
        | _ => exact h5.elim
      | _ => exact h5.elim
    | _ => exact h5.elim
  | _ => exact h5.elim
theorem frees_rep {w : Wd} {H : Hp} (bo : ∀ p, w.B p → ¬ w.O p) : ∀ {vs : List Val} {us : List V} {xs : List D}, SlotRs G w H vs us → frees vs = some xs → Reps G.K (dropO w).N H xs us
  | [], us, xs, h, e => by cases e; unfold SlotRs at h; subst h; exact .nil
  | v :: vs, us, xs, h, e => by
    obtain ⟨u, r, rfl, h1, h2⟩ := h
    cases v with
    | d y =>
      unfold frees at e
      cases q : frees vs with
      | none => rw [q] at e; cases e
      | some ys => rw [q] at e; cases e; exact .cons (Rep.less drop_N y h1) (frees_rep bo h2 q)
    | snap zs =>
      unfold frees at e
      cases q : frees vs with
      | none => rw [q] at e; cases e
      | some ys =>
        rw [q] at e; cases e
        obtain ⟨p, vs', rfl, ho, h3, hz, h4⟩ := h1
        exact .cons (rep_lst (fun z => z.elim (fun z => bo p z (Wd.top ho)) fun z => z rfl) h3 hz (Reps.less drop_N zs h4)) (frees_rep bo h2 q)
    | _ => cases e
theorem Ok.track {w : Wd} {s : S} {H : Hp} {p : Addr} {xs : List D} {vs : List V} (ok : Ok G w s H) (hb : w.B p) (hp : p ∉ w.α) (h : H p = some (.lst vs)) (hz : vs.length ≤ line) (r : Reps G.K w.N H xs vs) : Ok G { w with α := w.α ++ [p] } (s ++ [xs]) H := by
  refine ⟨?_, by simp [ok.len], fun n ys q h1 h2 => ?_, fun q h => ?_, ok.bo, ok.mu⟩
  · exact List.nodup_append.mpr ⟨ok.nd, by simp, fun a ha b hb => by
      have : b = p := by simpa using hb
      subst this
      exact fun z => hp (z ▸ ha)⟩
  · by_cases hn : n < s.length
    · rw [List.getElem?_append_left hn] at h1
      have h2 : (w.α ++ [p])[n]? = some q := h2
      rw [List.getElem?_append_left (by rw [ok.len]; exact hn)] at h2
      exact ok.cells n ys q h1 h2
    · have h2 : (w.α ++ [p])[n]? = some q := h2
      rw [List.getElem?_append_right (Nat.le_of_not_lt hn)] at h1
      rw [List.getElem?_append_right (by rw [ok.len]; exact Nat.le_of_not_lt hn), ok.len] at h2
      cases hk : n - s.length with
      | zero => rw [hk] at h1 h2; cases h1; cases h2; exact ⟨vs, h, hz, r⟩
      | succ k => rw [hk] at h1; cases h1
  · have h : q ∈ w.α ++ [p] := h
    rcases List.mem_append.mp h with h | h
    · exact ok.ab q h
    · have : q = p := by simpa using h
      subst this; exact hb
theorem s_retL {es : List Expr} {ms : ML} (hl : PA X es (tL G W ms)) : PS X (.Return (some (.List es p)) pos) (tS G W (mRetL ms)) := by
  refine impS (ps_ret (pe_lst hl)) fun D σ H ⟨w, s, e, ok, er, h⟩ => ?_
  refine ⟨w, s, e, ok, er, ?_⟩
  unfold mRetL at h
  cases q : ms e s with
  | stuck => rw [q] at h; exact h.elim
  | exn c y s1 => rw [q] at h; exact fun w' H' cls d x o r => h w' H' σ cls d (x.step o) o (er.ext ok x) r
  | ok vs s1 =>
    rw [q] at h
    dsimp only at h
    intro w1 H1 us x1 ok1 r1
    cases q1 : frees vs with
    | none => rw [q1] at h; exact h.elim
    | some xs =>
      rw [q1] at h
      dsimp only at h
      split at h
      · rename_i hz
        have r := frees_rep ok1.bo r1 q1
        rw [r.length] at hz
        refine ⟨by rw [← line_eq]; exact hz, fun p hp => ?_⟩
        have ok2 := ok1.dropO.addB hp us
        have r2 := Reps.last (last_add ok1.dropO hp us) xs r
        have hpa : p ∉ w1.α := ok1.apart hp
        have ok3 := ok2.track (p := p) (.inr rfl) hpa upd_same hz r2
        refine h { addB (dropO w1) p with α := w1.α ++ [p] } _ (.ref p) ?_ ok3 (fun _ z => z rfl) ⟨p, ?_, rfl⟩
        · refine (x1.step ok1).trans ⟨⟨[p], rfl, fun q hq => (by rw [show q = p by simpa using hq]; exact hp)⟩, fun q h => .inl h, fun q h => ?_, fun q h => absurd rfl h, fun q o h _ _ => grow_upd hp q o h, fun q hq => ?_⟩
          · rcases h with h | h
            · exact .inl h
            · subst h; exact .inr hp
          · by_cases hqp : q = p
            · subst hqp; exact hp
            · rw [upd_ne hqp] at hq; exact hq
        · show (w1.α ++ [p])[s1.length]? = some p
          rw [← ok1.len, List.getElem?_append_right (Nat.le_refl _)]
          simp
      · exact h.elim
/-! ### raise -/
theorem s_raise {ec : EC} {e : Expr} (hc : X.calm = true) (tk : L2N.Takes X W) (he : L2N.PMk X e (fun _ H Q => Q (.ref (G.cA ec)) none H)) : PS X (.Raise (some e) none pos) (tS G W (mRaise ec)) := by
  refine impS (L2N.ps_raise hc tk he) fun D σ H ⟨w, s, e, ok, er, h⟩ => ?_
  exact h w H σ _ _ .refl ok er ⟨rfl, rfl⟩
end
end MP
end

section
set_option Elab.async false
set_option linter.all false
set_option maxRecDepth 100000
set_option maxHeartbeats 4000000
/-! MP, part l: try. -/
namespace MP
open PySem PySem.Spec PyProof.Rows L2
abbrev Gd.with (G : Gd) (a : Addr) (k : EC) (d : Option Addr) : Gd := { G with hx := some (a, k, d) }
section
variable {X : Cx} {G : Gd} {W : WX} {pos p : Pos} {a b c : Expr} {ma mb mc : ME} {st : Stmt} {sts : List Stmt} {w : Wd} {s : S} {H : Hp} {e : Env} {σ : L2.St} {A : Addr} {k : EC} {d : Option Addr}
theorem Ok.with (ok : Ok G w s H) : Ok (G.with A k d) w s H := ⟨ok.nd, ok.len, ok.cells, ok.ab, ok.bo, ok.mu⟩
theorem Ok.without (ok : Ok (G.with A k d) w s H) : Ok G w s H := ⟨ok.nd, ok.len, ok.cells, ok.ab, ok.bo, ok.mu⟩
theorem SlotR.with (h0 : G.hx = none) {v : Val} {u : V} (h : SlotR G w H v u) : SlotR (G.with A k d) w H v u := by
  cases v with
  | exc c y => obtain ⟨a, d, e1, _⟩ := h; rw [h0] at e1; cases e1
  | _ => exact h
theorem SlotR.without {v : Val} {u : V} (hv : ∀ c y, v ≠ .exc c y) (h : SlotR (G.with A k d) w H v u) : SlotR G w H v u := by
  cases v with
  | exc c y => exact absurd rfl (hv c y)
  | _ => exact h
theorem EnvR.with (h0 : G.hx = none) (er : EnvR G w H e σ) : EnvR (G.with A k d) w H e σ := ⟨er.len, fun i v hv => by
  obtain ⟨u, h1, h2⟩ := er.slot i v hv
  exact ⟨u, h1, h2.with h0⟩, er.sep⟩
theorem unX_get {i : Nat} {v : Val} (h : (unX e)[i]? = some (some v)) : e[i]? = some (some v) ∧ ∀ c y, v ≠ .exc c y := by
  unfold unX at h
  rw [List.getElem?_map] at h
  cases q : e[i]? with
  | none => rw [q] at h; cases h
  | some o =>
    rw [q] at h
    cases o with
    | none => cases h
    | some v' =>
      cases v' with
      | exc c y => cases h
      | _ => cases h; exact ⟨rfl, fun c y z => by cases z⟩
theorem EnvR.without (er : EnvR (G.with A k d) w H e σ) : EnvR G w H (unX e) σ := ⟨by rw [← er.len]; unfold unX; rw [List.length_map], fun i v hv => by
  obtain ⟨h0, hx⟩ := unX_get hv
  obtain ⟨u, h1, h2⟩ := er.slot i v h0
  exact ⟨u, h1, h2.without hx⟩, fun i j v v' u hne h1 h2 => er.sep i j v v' u hne (unX_get h1).1 (unX_get h2).1⟩
/-- what the clauses with names wish of an exception of the body, one behind another -/
def wClauses (K : PySem.W.Frag) (Wo : WX) (D : Ends) : List (Value × Nat × (Addr → Value → Option Addr → TS)) → WX
  | [] => Wo
  | (c, i, ts) :: r => wAs K c i ts (wClauses K Wo D r) D
/-- clauses with names: the class, the name's slot, the suite's reading -/
inductive Clauses (X : Cx) : List ExceptHandler → List (Value × Nat × (Addr → Value → Option Addr → TS)) → Prop
  | nil : Clauses X [] []
  | cons {x n : Str} {c : Value} {i : Nat} {ts : Addr → Value → Option Addr → TS} {b0 : Stmt} {suite : List Stmt} {np p1 : Pos} {hds : List ExceptHandler} {l : List (Value × Nat × (Addr → Value → Option Addr → TS))} (hc : L2.Names X x c) (hi : X.N[i]? = some n) (hln : X.env.kindOf n = some .local)
      (hsu : ∀ (a : Addr) (oe : Obj) (cls : Value) (d : Option Addr) (pn : List (Addr × Obj)), L2N.Zn cls d oe → (∃ vs, oe.data = .fields vs) → PSs (X.suite a ((a, oe) :: pn)) (b0 :: suite) (ts a cls d)) (r : Clauses X hds l) :
      Clauses X (.ExceptHandler (some (.Name x np)) (some n) (b0 :: suite) p1 :: hds) ((c, i, ts) :: l)
/-- the clauses at work: the error has landed in heap h -/
theorem clauses_run {Wo : WX} {D : Ends} {pins : List (Addr × Obj)} {σ1 : L2.St} {H1 : Hp} {s : Shared} {cls : Value} {B h : Heap} (hf : X.env.frame = some X.env.locals) (hN : X.N.Nodup) (ok : X.Ok) (fl : HandSPX.FlyingZ B (X.env :: X.outer) A (L2N.Zn cls d) h)
    (J : ∀ {g : Heap}, B.StaysIn g → h.UpToSlots g → Inv X pins σ1 H1 { s with heap := g }) (na : H1 A = none) (nL : A ≠ X.env.locals) (nF : A ∉ X.fs)
    (out : Wo cls d σ1 H1 → wpAny (model X.prog X.w) X.A (setFlight (.ref A) X.env.frame) (fun _ s4 => wpAny (model X.prog X.w) X.A (throw (.ref A) : Sem Flow) (SP X pins D) X.xe s4) X.xe { s with heap := h }) :
    ∀ {hds : List ExceptHandler} {l : List (Value × Nat × (Addr → Value → Option Addr → TS))}, Clauses X hds l → wClauses X.K Wo D l cls d σ1 H1 → wpAny (model X.prog X.w) X.A (handleBy (.ref A) X.env hds) (SP X pins D) X.xe { s with heap := h } := by
  have n0 : h.UpToSlots h := fun b o e _ => ⟨o.slots, e⟩
  have J3 := J fl.1 n0
  obtain ⟨oe3, vs3, he3, hz3, hd3⟩ := fl.there
  have S3 := J3.suite he3 hd3 na nL nF
  intro hds l hk
  induction hk with
  | nil =>
    intro wq
    refine wpAny_handleBy_nil ?_
    obtain ⟨_, _, _, oe, vs, T, oT, ts', he, hz, hd, h1, hr⟩ := id fl
    unfold PySem.passOn
    refine wpAny_bind (wpAny_field he hd h1 ?_)
    rw [if_neg (show ¬ ((Value.ref T == Value.none) = true) from by simp)]
    have fin := out wq
    first
      | exact wpAny_bind (wpAny_pure (wpAny_bind fin))
      | exact wpAny_bind fin
  | @cons x n c i ts b0 suite np p1 hds l hc hi hln hsu r ih =>
    intro ⟨b, hb1, yes, no⟩
    refine wpAny_handleBy_cons (codeAny_handlers_test ?_) (by intro q; cases q)
    have LT : PySem.W.Looks (model X.prog X.w) h (typeOf (.ref A)) cls := fun A Q E s k q => wpAny_typeOf_ref (k _ _ he3) (by rw [hz3.1]; exact q)
    have LM := PySem.W.exm_one (M := model X.prog X.w) J3.kIn LT hb1
    have test : ∀ {Q E : Value → Shared → Prop}, Q c { s with heap := h } → wpAny (model X.prog X.w) (X.A.mark (some (.ref A))) (eval (.Name x np) X.env) Q E { s with heap := h } := fun {Q E} q => by
      obtain ⟨hg, hdb, hm | ⟨hm, hv, hnn⟩⟩ := hc
      · exact ld_glob (X := X.suite A ((A, oe3) :: (X.pn ++ pins))) S3 hg hm q hdb
      · exact ld_blt (X := X.suite A ((A, oe3) :: (X.pn ++ pins))) S3 hg hm hv q hnn hdb
    refine test (LM.here ?_)
    cases b with
    | false => exact ih (no rfl)
    | true =>
      refine codeAny_handlers_suite_as (HandSPX.lands_againZ fl fun h4 fl4 up4 => ?_)
      have J4 := J fl4.1 up4
      obtain ⟨oe4, vs4, he4, hz4, hd4⟩ := fl4.there
      have S4 := J4.suite he4 hd4 na nL nF
      refine store_ok (X := X.suite A ((A, oe4) :: (X.pn ++ pins))) (v := .ref A) S4 hN hi (.inl hln) rfl (fun s5 S5 => ?_) (.inr hln)
      refine wpAny_mono ((hsu A oe4 cls d (X.pn ++ pins) hz4 ⟨_, hd4⟩).run [] s5 _ H1 _ S5 (yes rfl A na)) (fun f s6 hsp => ?_) (fun _ _ z => False.elim z)
      cases f with
      | next =>
        obtain ⟨_, _, S6, q6⟩ := hsp
        exact gone_ok (S6.unsuite ok) hN hi hln fun s7 J7 => ⟨_, _, J7, q6⟩
      | brk =>
        obtain ⟨_, _, S6, q6⟩ := hsp
        exact gone_ok (S6.unsuite ok) hN hi hln fun s7 J7 => ⟨_, _, J7, q6⟩
      | cont =>
        obtain ⟨_, _, S6, q6⟩ := hsp
        exact gone_ok (S6.unsuite ok) hN hi hln fun s7 J7 => ⟨_, _, J7, q6⟩
      | ret u =>
        obtain ⟨_, _, _, S6, r6, q6⟩ := hsp
        exact gone_ok (S6.unsuite ok) hN hi hln fun s7 J7 => ⟨_, _, _, J7, r6, q6⟩
theorem ps_clauses {Wo : WX} {body : List Stmt} {tb : WX → TS} {h0 : ExceptHandler} {hds : List ExceptHandler} {l : List (Value × Nat × (Addr → Value → Option Addr → TS))} (hs : X.stack = X.env :: X.outer) (hf : X.env.frame = some X.env.locals) (hN : X.N.Nodup) (tk : L2N.Takes X Wo)
    (hb : ∀ (W' : WX) (pn : List (Addr × Obj)) (xe : Value → Shared → Prop), L2N.Takes (X.tr pn xe) W' → PassesOwn (model X.prog X.w) X.A X.env xe → PSs (X.tr pn xe) body (tb W')) (hh : Clauses X (h0 :: hds) l) :
    PS X (.Try body (h0 :: hds) [] [] pos) (fun D σ H => tb (wClauses X.K Wo D l) D σ H) := by
  refine ⟨fun pins s σ H D I h => ?_⟩
  have ok := I.ok
  have hfr : X.A.frames = some (X.env :: X.outer) := by rw [ok.frames, hs]
  refine wpAny_Try_except (wpAny_mono ((hb (wClauses X.K Wo D l) (X.pn ++ pins) (fun e s₁ => wpAny (model X.prog X.w) X.A (noteFrame e X.env) (fun _ s₂ => wpAny (model X.prog X.w) X.A (setFlight e none) (fun _ s₃ =>
    wpAny (model X.prog X.w) X.A (handleBy e X.env (h0 :: hds)) (SP X pins D) X.xe s₃) X.xe s₂) X.xe s₁) (fun u s' xx => ?_) PassesOwn.looking).run [] s σ H D (I.toTry _) h) (fun f s1 hsp => ?_) (fun e s1 he => he))
  · obtain ⟨a, B, sI, pins', σ', H', cls, d, rfl, J', nb, up, sky, na, os, ag, wq⟩ := xx
    have J : Inv X pins σ' H' sI := J'.ofTry ok
    have sky' : Sky B (X.env :: X.outer) a (L2N.Zn cls d) X.env.locals s'.heap := by rw [← hs]; exact sky
    show wpAny (model X.prog X.w) X.A (noteFrame (.ref a) X.env) _ _ _
    refine L2N.Sky.land L2N.Zn.steady hfr hf sky' fun h3 fl3 up3 => ?_
    obtain ⟨oe3, vs3, he3, hz3, hd3⟩ := fl3.there
    have nfr : a ∉ frs (X.env :: X.outer) := fun hm => by
      obtain ⟨_, o', e', hnf⟩ := fl3.2.2.1.mem hm
      rw [he3] at e'; cases e'
      exact hnf _ hd3
    refine clauses_run (Wo := Wo) (B := B) hf hN ok fl3 (fun {g} st up4 => J.landed nb st ((up.trans up3).trans up4) os ag) na (fun z => nfr (List.mem_filterMap.mpr ⟨X.env, List.mem_cons_self, by rw [hf, z]⟩)) (fun hm => ?_) (fun wo => ?_) hh wq
    · obtain ⟨e, he, q⟩ := List.mem_filterMap.mp hm
      exact nfr (List.mem_filterMap.mpr ⟨e, List.mem_cons_of_mem _ he, q⟩)
    · rw [hf]
      refine HandSPX.setFlight_upZ fl3 fun h4 hh4 up4 => wpAny_throw (tk _ _ ?_)
      exact ⟨a, B, sI, pins, σ', H', cls, d, rfl, J, nb, (up.trans up3).trans up4, .inr (.inr (by rw [hs]; exact hh4)), na, os, ag, wo⟩
  · cases f with
    | next =>
      obtain ⟨_, _, J', q⟩ := hsp
      exact wpAny_execs_nil ⟨_, _, J'.ofTry ok, q⟩
    | brk =>
      obtain ⟨_, _, J', q⟩ := hsp
      exact ⟨_, _, J'.ofTry ok, q⟩
    | cont =>
      obtain ⟨_, _, J', q⟩ := hsp
      exact ⟨_, _, J'.ofTry ok, q⟩
    | ret u =>
      obtain ⟨_, _, _, J', r, q⟩ := hsp
      exact ⟨_, _, _, J'.ofTry ok, r, q⟩
/-- the clauses and their meanings -/
inductive HdsM (X : Cx) (G : Gd) : List ExceptHandler → List (Ty × Nat × MS) → Prop
  | nil : HdsM X G [] []
  | cons {x n : Str} {ec : Ty} {i : Nat} {mh : MS} {b0 : Stmt} {suite : List Stmt} {np p1 : Pos} {hds : List ExceptHandler} {l : List (Ty × Nat × MS)} (hc : L2.Names X x (ec.u G.cA)) (hi : X.N[i]? = some n) (hln : X.env.kindOf n = some .local)
      (hcls : ∀ k, PySem.W.exmOne G.K (.ref (G.cA k)) (ec.u G.cA) = some (isEx k ec))
      (hsu : ∀ (a : Addr) (oe : Obj) (k : EC) (d : Option Addr) (pn : List (Addr × Obj)), L2N.Zn (.ref (G.cA k)) d oe → (∃ vs, oe.data = .fields vs) → PSs (X.suite a ((a, oe) :: pn)) (b0 :: suite) (tS (G.with a k d) WF mh)) (r : HdsM X G hds l) :
      HdsM X G (.ExceptHandler (some (.Name x np)) (some n) (b0 :: suite) p1 :: hds) ((ec, i, mh) :: l)
/-- a suite's reading, by its meaning -/
def tSu (G : Gd) (mh : MS) : Addr → Value → Option Addr → TS := fun a cls d D σ H => ∃ k, cls = .ref (G.cA k) ∧ tS (G.with a k d) WF mh D σ H
theorem HdsM.to {hds : List ExceptHandler} {hs : List (Ty × Nat × MS)} (h : HdsM X G hds hs) : Clauses X hds (hs.map fun q => (q.1.u G.cA, q.2.1, tSu G q.2.2)) := by
  induction h with
  | nil => exact .nil
  | cons hc hi hln hcls hsu r ih =>
    refine .cons hc hi hln (fun a oe cls d pn hz hf => ⟨fun pins s σ H D I ⟨k, e, h⟩ => ?_⟩) ih
    subst e
    exact (hsu a oe k d pn hz hf).run pins s σ H D I h
theorem HdsM.cls {hds : List ExceptHandler} {hs : List (Ty × Nat × MS)} (h : HdsM X G hds hs) : ∀ q ∈ hs, ∀ k, PySem.W.exmOne G.K (.ref (G.cA k)) (q.1.u G.cA) = some (isEx k q.1) := by
  induction h with
  | nil => exact fun q h => by cases h
  | cons hc hi hln hcls hsu r ih =>
    intro q hq
    rcases List.mem_cons.mp hq with hq | hq
    · subst hq; exact hcls
    · exact ih q hq
theorem hd_read (h0 : G.hx = none) {Dn : Ends} {x : Option D} {e1 : Env} {s1 : S} : ∀ {hs : List (Ty × Nat × MS)}, (∀ q ∈ hs, ∀ k, PySem.W.exmOne G.K (.ref (G.cA k)) (q.1.u G.cA) = some (isEx k q.1)) → PostS G W w H (hdGo k x e1 s1 hs) Dn →
    ∀ {w1 : Wd} {H1 : Hp} {σ1 : L2.St} {d : Option Addr}, Step w H w1 H1 → Ok G w1 s1 H1 → EnvR G w1 H1 e1 σ1 → Pay G.K w1.N H1 k x d → wClauses G.K W Dn (hs.map fun q => (q.1.u G.cA, q.2.1, tSu G q.2.2)) (.ref (G.cA k)) d σ1 H1
  | [], _, h, w1, H1, σ1, d, st, ok1, er1, pay => h w1 H1 σ1 _ d st ok1 er1 ⟨rfl, pay⟩
  | (ec, i, mh) :: hs, hm, h, w1, H1, σ1, d, st, ok1, er1, pay => by
    unfold hdGo at h
    refine ⟨isEx k ec, hm _ List.mem_cons_self k, fun hy a ha => ?_, fun hn => ?_⟩
    · rw [if_pos hy] at h
      refine ⟨k, rfl, w1, s1, e1.set i (some (.exc k x)), ok1.with, (er1.with h0).setV (v := .exc k x) i ⟨a, d, rfl, rfl, pay⟩ rfl, ?_⟩
      show PostS _ _ _ _ (mh (e1.set i (some (.exc k x))) s1) _
      cases q2 : mh (e1.set i (some (.exc k x))) s1 with
      | nxt e3 s3 => rw [q2] at h; exact fun w3 H3 σ3 st3 ok3 er3 => h w3 H3 _ (st.trans st3) ok3.without (er3.without.unset i)
      | brk e3 s3 => rw [q2] at h; exact fun w3 H3 σ3 st3 ok3 er3 => h w3 H3 _ (st.trans st3) ok3.without (er3.without.unset i)
      | cnt e3 s3 => rw [q2] at h; exact fun w3 H3 σ3 st3 ok3 er3 => h w3 H3 _ (st.trans st3) ok3.without (er3.without.unset i)
      | ret v s3 =>
        rw [q2] at h
        intro w3 H3 u st3 ok3 hO r3
        cases v with
        | exc c y => exact h.elim
        | d y => exact h w3 H3 u (st.trans st3) ok3.without hO (r3.without fun c y z => nomatch z)
        | ref y => exact h w3 H3 u (st.trans st3) ok3.without hO (r3.without fun c y z => nomatch z)
        | own y => exact h w3 H3 u (st.trans st3) ok3.without hO (r3.without fun c y z => nomatch z)
        | snap y => exact h w3 H3 u (st.trans st3) ok3.without hO (r3.without fun c y z => nomatch z)
        | own2 y => exact h w3 H3 u (st.trans st3) ok3.without hO (r3.without fun c y z => nomatch z)
        | ownT y z => exact h w3 H3 u (st.trans st3) ok3.without hO (r3.without fun c y z => nomatch z)
        | scr y => exact h w3 H3 u (st.trans st3) ok3.without hO (r3.without fun c y z => nomatch z)
      | exn c y e3 s3 => rw [q2] at h; exact h.elim
      | stuck => rw [q2] at h; exact h.elim
    · rw [if_neg (by rw [hn]; exact Bool.false_ne_true)] at h
      exact hd_read h0 (fun q hq => hm q (List.mem_cons_of_mem _ hq)) h st ok1 er1 pay
theorem s_try {body : List Stmt} {h1 : ExceptHandler} {hds : List ExceptHandler} {mb : MS} {hs : List (Ty × Nat × MS)} (hK : G.K = X.K) (h0 : G.hx = none) (hst : X.stack = X.env :: X.outer) (hf : X.env.frame = some X.env.locals) (hN : X.N.Nodup) (tk : L2N.Takes X W)
    (hb : ∀ (W' : WX) (pn : List (Addr × Obj)) (xe : Value → Shared → Prop), L2N.Takes (X.tr pn xe) W' → PassesOwn (model X.prog X.w) X.A X.env xe → PSs (X.tr pn xe) body (tS G W' mb)) (hh : HdsM X G (h1 :: hds) hs) :
    PS X (.Try body (h1 :: hds) [] [] pos) (tS G W (mTry mb hs)) := by
  refine impS (ps_clauses (tb := fun W' => tS G W' mb) hst hf hN tk hb hh.to) fun D σ H ⟨w, s, e, ok, er, h⟩ => ⟨w, s, e, ok, er, ?_⟩
  unfold mTry at h
  cases q : mb e s with
  | exn k x e1 s1 =>
    rw [q] at h
    intro w1 H1 σ1 cls d st ok1 er1 ⟨ec', pay⟩
    subst ec'
    rw [← hK]
    exact hd_read h0 hh.cls h st ok1 er1 pay
  | nxt e1 s1 => rw [q] at h; exact h
  | brk e1 s1 => rw [q] at h; exact h
  | cnt e1 s1 => rw [q] at h; exact h
  | ret v s1 => rw [q] at h; exact h
  | stuck => rw [q] at h; exact h.elim
end
end MP
end

section
set_option Elab.async false
set_option linter.all false
set_option maxRecDepth 100000
set_option maxHeartbeats 4000000
/-! MP, part m: defs and calls. -/
namespace MP
open PySem PySem.Spec PyProof.Rows L2
abbrev Mu (N : Addr → Prop) (H : Hp) : Prop := ∀ p, N p → ∃ o, H p = some o ∧ (∀ xs, o ≠ .tup xs) ∧ ∀ ob u, o ≠ .frz ob u
def EndP (G : Gd) (N : Addr → Prop) (H : Hp) (r : P) (Q : VK) (E : XK) : Prop := match r with
  | .ok x => ∀ H' u, (∀ p o, H p = some o → H' p = some o) → Rep G.K N H' x u → Q u H'
  | .fresh xs => ∀ H' p vs, (∀ p o, H p = some o → H' p = some o) → H p = none → H' p = some (.lst vs) → vs.length ≤ line → Reps G.K N H' xs vs → Q (.ref p) H'
  | .exn c x => ∀ H' d, (∀ p o, H p = some o → H' p = some o) → Pay G.K N H' c x d → E (.ref (G.cA c)) d H'
  | .stuck => False
/-- a def of data -/
def spP (G : Gd) (n : Nat) (f : List D → P) : Sp := fun vs H Q E => vs.length = n ∧ ∃ N xs, Mu N H ∧ Reps G.K N H xs vs ∧ EndP G N H (f xs) Q E
def EndE (G : Gd) (w : Wd) (H : Hp) (r : R Val) (Q : VK) (E : XK) : Prop := match r with
  | .ok v s' => ∀ w' H' u, Ext w H w' H' → Ok G w' s' H' → SlotR G w' H' v u → Q u H'
  | .exn c x s' => ∀ w' H' d, Ext w H w' H' → Ok G w' s' H' → Pay G.K w'.N H' c x d → E (.ref (G.cA c)) d H'
  | .stuck => False
/-- a def that may turn the tracked lists -/
def spE (G : Gd) (n : Nat) (f : List Val → S → R Val) : Sp := fun vs H Q E => vs.length = n ∧ ∃ w s vals, Ok G w s H ∧ (∀ p, ¬ w.O p) ∧ SlotRs G w H vals vs ∧ vals.all (fun v => !isOwnV v) = true ∧ EndE G w H (f vals s) Q E
section
variable {G : Gd} {w w1 : Wd} {s : S} {H H1 : Hp} {e : Env} {σ : L2.St}
theorem SlotRs.length : ∀ {vals : List Val} {vs : List V}, SlotRs G w H vals vs → vals.length = vs.length
  | [], vs, h => by unfold SlotRs at h; subst h; rfl
  | v :: vals, vs, h => by obtain ⟨u, r, rfl, _, h2⟩ := h; rw [List.length_cons, List.length_cons, h2.length]
theorem SlotRs.get : ∀ {vals : List Val} {vs : List V} {i : Nat} {v : Val}, SlotRs G w H vals vs → vals[i]? = some v → ∃ u, vs[i]? = some u ∧ SlotR G w H v u
  | [], vs, i, v, h, e => by simp at e
  | x :: vals, vs, i, v, h, e => by
    obtain ⟨u, r, rfl, h1, h2⟩ := h
    cases i with
    | zero => simp at e; subst e; exact ⟨u, rfl, h1⟩
    | succ i => exact h2.get (by simpa using e)
theorem initE_get {n i : Nat} {vals : List Val} {v : Val} (h : (initE n vals)[i]? = some (some v)) : vals[i]? = some v := by
  unfold initE at h
  by_cases hi : i < vals.length
  · rw [List.getElem?_append_left (by simpa using hi), List.getElem?_map] at h
    cases q : vals[i]? with
    | none => rw [q] at h; cases h
    | some x => rw [q] at h; cases h; rfl
  · rw [List.getElem?_append_right (by simpa using hi), List.getElem?_replicate] at h
    split at h <;> cases h
theorem start_get {N : List Str} {vs : List V} {i : Nat} {u : V} (h : vs[i]? = some u) : (L2.start N vs)[i]? = some (some u) := by
  unfold L2.start
  have hi : i < vs.length := (List.getElem?_eq_some_iff.mp h).1
  rw [List.getElem?_append_left (by simpa using hi), List.getElem?_map, h]
  rfl
theorem env_start {N : List Str} {vals : List Val} {vs : List V} (h : SlotRs G w H vals vs) (ho : vals.all (fun v => !isOwnV v) = true) : EnvR G w H (initE N.length vals) (L2.start N vs) := by
  have no : ∀ (i : Nat) v, (initE N.length vals)[i]? = some (some v) → isOwn v = false := fun i v hv => by
    have hm := List.mem_of_getElem? (initE_get hv)
    have := List.all_eq_true.mp ho v hm
    cases v <;> first | rfl | (exact absurd this Bool.false_ne_true)
  refine ⟨by unfold initE L2.start; simp [h.length], fun i v hv => ?_, fun i j v v' u hne h1 h2 h3 h4 => ?_⟩
  · obtain ⟨u, h1, h2⟩ := h.get (initE_get hv)
    exact ⟨u, start_get h1, h2⟩
  · rw [no i v h1] at h3; cases h3
theorem slots_of_reps : ∀ {xs : List D} {vs : List V}, Reps G.K w.N H xs vs → SlotRs G w H (xs.map .d) vs
  | [], vs, h => by unfold Reps at h; exact h
  | x :: xs, vs, h => by
    unfold Reps at h
    obtain ⟨v, r, rfl, h1, h2⟩ := h
    exact ⟨v, r, rfl, h1, slots_of_reps h2⟩
theorem noOwn_d (xs : List D) : (xs.map Val.d).all (fun v => !isOwnV v) = true := List.all_eq_true.mpr fun v hv => by
  obtain ⟨x, _, rfl⟩ := List.mem_map.mp hv
  rfl
theorem len_name {G : Gd} {n : Nat} {f : List D → P} : ∀ vs H Q E, spP G n f vs H Q E → vs.length = n := fun _ _ _ _ h => h.1
/-- the world of a def of data at its entry -/
theorem ok_start {N : Addr → Prop} (mu : Mu N H) : Ok G ⟨[], N, fun _ => none⟩ [] H :=
  ⟨List.nodup_nil, rfl, fun n xs p h => by simp at h, fun p h => by simp at h, fun _ _ h => h rfl, fun p h => h.elim (mu p) fun z => absurd rfl z⟩
variable {Pr : Program} {wo : World} {mg : Str → Option Value} {base : Heap} {k : Nat} {f : Addr} {fd : FuncData} {x qual : Str} {params : Arguments} {body : List Stmt} {scope : Scope} {N ps : List Str}
abbrev WO (E : XK) : WX := fun cls d _ H => E cls d H
theorem takes_def {A : Around} {outer : List PySem.Env} {s : Shared} {H : Hp} {cdv : Value} {K : PySem.W.Frag} {E : XK} : L2N.Takes (cxOf (L2N.CX Pr wo) Pr wo K mg base N qual scope f cdv A outer s H E) (WO E) := L2N.takes_of rfl rfl rfl rfl
/-- a def of data keeps its promise -/
theorem def_P {m : MS} (F : FunD G.K x qual params body scope [] [] f fd) (S : FnScope N ps scope)
    (hb : ∀ (cdv : Value) (A : Around) (outer : List PySem.Env) (s : Shared) (H : Hp) (E : XK), Room k (A.deeper (envOfC qual scope s.heap.objs.size f cdv)) → PSs (cxOf (L2N.CX Pr wo) Pr wo G.K mg base N qual scope f cdv A outer s H E) body (tS G (WO E) m)) :
    FnOk Pr wo G.K mg base (L2N.CX Pr wo) (k + 1) f fd ps (spP G ps.length (runP N.length m)) := by
  refine F.ok S len_name fun cdv A outer s H vs Q E hr ⟨hl, N0, xs, mu, r, h⟩ => ⟨_, hb cdv A outer s H E hr, ?_⟩
  refine ⟨⟨[], N0, fun _ => none⟩, [], initE N.length (xs.map .d), ok_start mu, ?_, ?_⟩
  · exact env_start (slots_of_reps (Reps.less (fun p h => h.elim id fun z => absurd rfl z) xs r)) (noOwn_d xs)
  have sub : ∀ {w' : Wd} {H' : Hp}, Step ⟨[], N0, fun _ => none⟩ H w' H' → (∀ p, N0 p → w'.N p) ∧ ∀ p o, H p = some o → H' p = some o := fun st => ⟨fun p h => .inl (st.bm p h), fun p o h => st.keep p o h (by simp) (fun z => z rfl)⟩
  unfold runP at h
  cases q : m (initE N.length (xs.map .d)) [] with
  | nxt e1 s1 => rw [q] at h; exact fun w' H' σ' st ok er => h H' .non (sub st).2 rep_non
  | ret v s1 =>
    rw [q] at h
    intro w' H' u st ok hO r
    cases v with
    | ref n =>
      dsimp only at h
      obtain ⟨p, e, rfl⟩ := r
      obtain ⟨ys, us, e2, h1, hz, h2⟩ := ok.cell e
      rw [e2] at h
      obtain ⟨l, hl', nl⟩ := st.al
      have hm := List.mem_of_getElem? e
      rw [hl'] at hm
      exact h H' p us (sub st).2 (nl p (by simpa using hm)) h1 hz (Reps.less (sub st).1 _ h2)
    | d z => exact h H' u (sub st).2 (Rep.less (sub st).1 _ r)
    | own z => obtain ⟨p, _, _, ho, _⟩ := r; exact absurd (Wd.top ho) (hO p)
    | snap z => obtain ⟨p, _, _, ho, _⟩ := r; exact absurd (Wd.top ho) (hO p)
    | ownT z t => obtain ⟨p, _, _, ho, _⟩ := r; exact absurd (Wd.top ho) (hO p)
    | own2 z => obtain ⟨p, _, _, ho, _⟩ := r; exact absurd (Wd.top ho) (hO p)
    | exc _ _ => exact h.elim
    | scr _ => exact h.elim
  | brk e1 s1 => rw [q] at h; exact h.elim
  | cnt e1 s1 => rw [q] at h; exact h.elim
  | exn c y e1 s1 =>
    rw [q] at h
    intro w' H' σ' cls d st ok er ⟨ec, pay⟩
    subst ec
    exact h H' d (sub st).2 (pay.less (sub st).1)
  | stuck => rw [q] at h; exact h.elim
theorem def_E {m : MS} (F : FunD G.K x qual params body scope [] [] f fd) (S : FnScope N ps scope)
    (hb : ∀ (cdv : Value) (A : Around) (outer : List PySem.Env) (s : Shared) (H : Hp) (E : XK), Room k (A.deeper (envOfC qual scope s.heap.objs.size f cdv)) → PSs (cxOf (L2N.CX Pr wo) Pr wo G.K mg base N qual scope f cdv A outer s H E) body (tS G (WO E) m)) :
    FnOk Pr wo G.K mg base (L2N.CX Pr wo) (k + 1) f fd ps (spE G ps.length (runE N.length m)) := by
  refine F.ok S (fun vs H Q E h => h.1) fun cdv A outer s H vs Q E hr ⟨hl, w, s0, vals, ok, hO, r, ho, h⟩ => ⟨_, hb cdv A outer s H E hr, ?_⟩
  refine ⟨w, s0, initE N.length vals, ok, env_start r ho, ?_⟩
  have ext : ∀ {w' : Wd} {H' : Hp}, Step w H w' H' → (∀ p, ¬ w'.O p) → Ext w H w' H' := fun {w' H'} st h2 => ⟨st.al, st.bm, st.bn, by funext p; exact (Classical.not_not.mp (h2 p)).trans (Classical.not_not.mp (hO p)).symm, fun p o h hp => st.keep p o h hp (hO p)⟩
  unfold runE at h
  cases q : m (initE N.length vals) s0 with
  | nxt e1 s1 => rw [q] at h; exact fun w' H' σ' st ok er => h (dropO w') H' .non (ext (st.trans step_drop) fun _ z => z rfl) ok.dropO (rep_non (K := G.K) (N := (dropO w').N) (H := H'))
  | ret v s1 => rw [q] at h; exact fun w' H' u st ok hO' r => h w' H' u (ext st hO') ok r
  | brk e1 s1 => rw [q] at h; exact h.elim
  | cnt e1 s1 => rw [q] at h; exact h.elim
  | exn c y e1 s1 =>
    rw [q] at h
    intro w' H' σ' cls d st ok er ⟨ec, pay⟩
    subst ec
    exact h (dropO w') H' d (ext (st.trans step_drop) fun _ z => z rfl) ok.dropO (pay.less drop_N)
  | stuck => rw [q] at h; exact h.elim
/-! ### calls -/
mutual
theorem Rep.free {K : PySem.W.Frag} {N N' : Addr → Prop} : ∀ (x : D) {v : V}, noL x = true → Rep K N H x v → Rep K N' H x v
  | .non, v, _, h => by unfold Rep at *; exact h
  | .bl _, v, _, h => by unfold Rep at *; exact h
  | .int _, v, _, h => by unfold Rep at *; exact h
  | .str _, v, _, h => by unfold Rep at *; exact h
  | .tup xs, v, e, h => by
    unfold Rep at *
    obtain ⟨p, vs, e1, h1, hz, h2⟩ := h
    exact ⟨p, vs, e1, h1, hz, Reps.free xs (by unfold noL at e; exact e) h2⟩
  | .tuq xs, v, e, h => by
    unfold Rep at *
    obtain ⟨p, vs, e1, h1, hz, h2⟩ := h
    exact ⟨p, vs, e1, h1, hz, Reps.free xs (by unfold noL at e; exact e) h2⟩
  | .lst _, v, e, h => by unfold noL at e; cases e
  | .dic _ _, v, e, h => by unfold noL at e; cases e
theorem Reps.free {K : PySem.W.Frag} {N N' : Addr → Prop} : ∀ (xs : List D) {us : List V}, noLs xs = true → Reps K N H xs us → Reps K N' H xs us
  | [], us, _, h => by unfold Reps at *; exact h
  | x :: xs, us, e, h => by
    unfold Reps at *
    unfold noLs at e
    obtain ⟨e1, e2⟩ := Bool.and_eq_true_iff.mp e
    obtain ⟨v, r, e3, h1, h2⟩ := h
    exact ⟨v, r, e3, Rep.free x e1 h1, Reps.free xs e2 h2⟩
end
theorem rdR_nil {K : PySem.W.Frag} {M : Addr → Prop} {x : D} {u : V} (r : RdR K M H x u) : Rep K (fun _ => False) H x u := by
  cases x with
  | lst xs =>
    obtain ⟨p, vs, rfl, h1, hz, h2⟩ := r
    exact rep_lst (fun z => z) h1 hz (Reps.less (fun _ z => z.elim) xs h2)
  | non => exact Rep.less (N := M) (fun _ z => z.elim) _ r
  | bl _ => exact Rep.less (N := M) (fun _ z => z.elim) _ r
  | int _ => exact Rep.less (N := M) (fun _ z => z.elim) _ r
  | str _ => exact Rep.less (N := M) (fun _ z => z.elim) _ r
  | tup _ => exact Rep.less (N := M) (fun _ z => z.elim) _ r
  | tuq _ => exact Rep.less (N := M) (fun _ z => z.elim) _ r
  | dic _ _ => exact Rep.less (N := M) (fun _ z => z.elim) _ r
theorem rds_rep (ok : Ok G w s H) : ∀ {vals : List Val} {us : List V} {xs : List D}, SlotRs G w H vals us → rds s vals = some xs → Reps G.K (fun _ => False) H xs us
  | [], us, xs, h, e => by cases e; unfold SlotRs at h; subst h; exact .nil
  | v :: vals, us, xs, h, e => by
    obtain ⟨u, r, rfl, h1, h2⟩ := h
    unfold rds at e
    cases q : rd s v with
    | none => rw [q] at e; cases e
    | some x =>
      rw [q] at e
      dsimp only at e
      cases q2 : rds s vals with
      | none => rw [q2] at e; cases e
      | some ys => rw [q2] at e; cases e; exact .cons (rdR_nil (rd_ok ok h1 q)) (rds_rep ok h2 q2)
theorem frefs_eq : ∀ {vals vals' : List Val}, frefs vals = some vals' → vals' = vals ∧ vals.all (fun v => !isOwnV v) = true ∧ ∀ v ∈ vals, (∃ x, v = .d x) ∨ (∃ n, v = .ref n) ∨ ∃ n, v = .scr n
  | [], vals', e => by cases e; exact ⟨rfl, rfl, fun v h => by simp at h⟩
  | v :: vals, vals', e => by
    cases v with
    | d x =>
      unfold frefs at e
      cases q : frefs vals with
      | none => rw [q] at e; cases e
      | some ys =>
        rw [q] at e; cases e
        obtain ⟨h1, h2, h3⟩ := frefs_eq q
        refine ⟨by rw [h1], by simpa [isOwnV] using h2, fun v hv => ?_⟩
        rcases List.mem_cons.mp hv with hv | hv
        · exact .inl ⟨x, hv⟩
        · exact h3 v hv
    | ref x =>
      unfold frefs at e
      cases q : frefs vals with
      | none => rw [q] at e; cases e
      | some ys =>
        rw [q] at e; cases e
        obtain ⟨h1, h2, h3⟩ := frefs_eq q
        refine ⟨by rw [h1], by simpa [isOwnV] using h2, fun v hv => ?_⟩
        rcases List.mem_cons.mp hv with hv | hv
        · exact .inr (.inl ⟨x, hv⟩)
        · exact h3 v hv
    | scr x =>
      unfold frefs at e
      cases q : frefs vals with
      | none => rw [q] at e; cases e
      | some ys =>
        rw [q] at e; cases e
        obtain ⟨h1, h2, h3⟩ := frefs_eq q
        refine ⟨by rw [h1], by simpa [isOwnV] using h2, fun v hv => ?_⟩
        rcases List.mem_cons.mp hv with hv | hv
        · exact .inr (.inr ⟨x, hv⟩)
        · exact h3 v hv
    | _ => cases e
end
section
variable {X : Cx} {G : Gd} {W : WX} {k n : Nat} {f : Addr} {fd : FuncData} {ps : List Str} {x : Str} {p pos : Pos} {e : Expr} {es : List Expr} {ml : ML}
theorem nil_read {σ : L2.St} {H : Hp} {R : List V → Hp → Prop} (h : tL G W mNil σ H R) : R [] H := by
  obtain ⟨w, s, e, ok, er, h⟩ := h
  exact h w H [] .refl ok rfl
theorem read_P {fP : List D → P} {σ : L2.St} {H : Hp} {Q : VK} (h : tE G W (mCall (.pure n fP) ml) σ H Q) : tCallS (spP G n fP) (fun σ cls d H => W cls d σ H) (tL G W ml) σ H Q := by
  obtain ⟨w, s, e, ok, er, h⟩ := h
  refine ⟨w, s, e, ok, er, Post.bind (rel := relL G) h fun w1 s1 H1 vs us x1 ok1 r1 h1 => ?_⟩
  dsimp only at h1
  split at h1
  · rename_i hl
    refine ⟨by rw [← SlotRs.length r1]; exact hl, ?_⟩
    cases q : datas vs with
    | some xs =>
      rw [q] at h1
      refine ⟨w1.N, xs, ok1.mu, datas_rep r1 q, ?_⟩
      dsimp only at h1
      cases q2 : fP xs with
      | ok y =>
        rw [q2] at h1
        exact fun H' u g r => h1 w1 H' u (ok1.grow g).2 (ok1.grow g).1 r
      | fresh ys =>
        rw [q2] at h1
        exact fun H' p vs g hn hp hz r => h1 w1 H' _ (ok1.grow g).2 (ok1.grow g).1 (rep_lst (ok1.notN hn) hp hz r)
      | exn c y =>
        rw [q2] at h1
        exact fun H' d g r => h1 w1 H' _ d (ok1.grow g).2 (ok1.grow g).1 ⟨rfl, r⟩
      | stuck => rw [q2] at h1; exact h1.elim
    | none =>
      rw [q] at h1
      dsimp only at h1
      cases q1 : rds s1 vs with
      | none => rw [q1] at h1; exact h1.elim
      | some xs =>
        rw [q1] at h1
        dsimp only at h1
        refine ⟨fun _ => False, xs, fun _ z => z.elim, rds_rep ok1 r1 q1, ?_⟩
        cases q2 : fP xs with
        | ok y =>
          rw [q2] at h1
          unfold P.toL at h1
          dsimp only at h1
          split at h1
          · rename_i hn
            exact fun H' u g r => h1 w1 H' u (ok1.grow g).2 (ok1.grow g).1 (Rep.free y hn r)
          · exact h1.elim
        | fresh ys =>
          rw [q2] at h1
          unfold P.toL at h1
          dsimp only at h1
          split at h1
          · rename_i hn
            exact fun H' p vs g hp0 hp hz r => h1 w1 H' _ (ok1.grow g).2 (ok1.grow g).1 (rep_lst (ok1.notN hp0) hp hz (Reps.free ys hn r))
          · exact h1.elim
        | exn c y =>
          rw [q2] at h1
          cases y with
          | none => exact fun H' d g r => h1 w1 H' _ d (ok1.grow g).2 (ok1.grow g).1 ⟨rfl, r⟩
          | some y => exact h1.elim
        | stuck => rw [q2] at h1; exact h1.elim
  · exact h1.elim
theorem call_P {fP : List D → P} (F : FnOk X.prog X.w X.K X.mg X.base (L2N.CX X.prog X.w) k f fd ps (spP G n fP)) (hr : Room k X.A) (hg : Gl X x) (hm : X.mg x = some (.ref f)) (hk : PySem.W.keepIn X.K (.ref f) = true) (hb : Binds X.K fd ps []) (tk : L2N.Takes X W)
    (ha : PA X (e :: es) (tL G W ml)) (hdb : (x == ("__debug__" : Str)) = false) (he : starEach (e :: es) X.env = (false, eval e X.env) :: starEach es X.env) (hpl : (backTo pos (starEach es X.env)).any (·.1) = false) :
    PE X (.Call (.Name x p) (e :: es) [] pos) (tE G W (mCall (.pure n fP) ml)) :=
  impE (pe_callS F hr hg hm hk hb (E := fun σ cls d H => W cls d σ H) (fun σ pins H s e s' I c => tk e s' (L2N.XE.of_call I (fun _ _ _ h => h) c)) ha hdb he hpl) fun σ H Q h => read_P h
theorem call_P0 {fP : List D → P} (F : FnOk X.prog X.w X.K X.mg X.base (L2N.CX X.prog X.w) k f fd ps (spP G n fP)) (hr : Room k X.A) (hg : Gl X x) (hm : X.mg x = some (.ref f)) (hk : PySem.W.keepIn X.K (.ref f) = true) (hb : Binds X.K fd ps []) (tk : L2N.Takes X W)
    (hdb : (x == ("__debug__" : Str)) = false) : PE X (.Call (.Name x p) [] [] pos) (tE G W (mCall (.pure n fP) mNil)) := ⟨fun pins s σ H Q I h =>
  wpAny_Call_Name_kw (ld_glob I hg hm (PySem.W.callWith_K0 I.kIn hk (run_fnS (us := []) (E := fun σ cls d H => W cls d σ H) F hr hb (fun pins H s e s' I c => tk e s' (L2N.XE.of_call I (fun _ _ _ h => h) c)) I .nil (nil_read (read_P h)))) hdb)⟩
theorem read_E {fE : List Val → S → MP.R Val} {σ : L2.St} {H : Hp} {Q : VK} (h : tE G W (mCall (.eff n fE) ml) σ H Q) : tCallS (spE G n fE) (fun σ cls d H => W cls d σ H) (tL G W ml) σ H Q := by
  obtain ⟨w, s, e, ok, er, h⟩ := h
  refine ⟨w, s, e, ok, er, Post.bind (rel := relL G) h fun w1 s1 H1 vs us x1 ok1 r1 h1 => ?_⟩
  dsimp only at h1
  split at h1
  · rename_i hl
    refine ⟨by rw [← SlotRs.length r1]; exact hl, ?_⟩
    cases q : frefs vs with
    | none => rw [q] at h1; exact h1.elim
    | some vs' =>
      rw [q] at h1
      obtain ⟨e1, hO, hd⟩ := frefs_eq q
      subst e1
      dsimp only at h1
      have hN : ∀ p, (Wd.mk w1.α w1.N fun _ => none).N p → w1.N p := fun p h => h.elim id fun z => absurd rfl z
      have okc : Ok G ⟨w1.α, w1.N, fun _ => none⟩ s1 H1 := ⟨ok1.nd, ok1.len, fun m xs p h1 h2 => by
        obtain ⟨us, h3, hz, h4⟩ := ok1.cells m xs p h1 h2
        exact ⟨us, h3, hz, Reps.less hN xs h4⟩, fun p h => .inl (ok1.ab p h), fun _ _ z => z rfl, fun p h => ok1.mu p (hN p h)⟩
      have rs : ∀ {vs : List Val} {us : List V}, (∀ v ∈ vs, (∃ x, v = Val.d x) ∨ (∃ n, v = .ref n) ∨ ∃ n, v = .scr n) → SlotRs G w1 H1 vs us → SlotRs G ⟨w1.α, w1.N, fun _ => none⟩ H1 vs us := fun {vs} => by
        induction vs with
        | nil => exact fun _ h => h
        | cons v vs ih =>
          intro us hd h
          obtain ⟨u, r, e, h1, h2⟩ := h
          refine ⟨u, r, e, ?_, ih (fun v hv => hd v (List.mem_cons_of_mem _ hv)) h2⟩
          rcases hd v List.mem_cons_self with ⟨x, rfl⟩ | ⟨n, rfl⟩ | ⟨n, rfl⟩
          · exact Rep.less hN x h1
          · exact h1
          · exact h1
      refine ⟨⟨w1.α, w1.N, fun _ => none⟩, s1, vs', okc, fun _ z => z rfl, rs hd r1, hO, ?_⟩
      have back : ∀ {w' : Wd} {s' : S} {H' : Hp}, Ext ⟨w1.α, w1.N, fun _ => none⟩ H1 w' H' → Ok G w' s' H' → (∀ p, (Wd.mk w'.α (fun p => w'.B p ∧ ¬ w1.O p) w1.o).N p → w'.N p) ∧ Ext w1 H1 ⟨w'.α, fun p => w'.B p ∧ ¬ w1.O p, w1.o⟩ H' ∧ Ok G ⟨w'.α, fun p => w'.B p ∧ ¬ w1.O p, w1.o⟩ s' H' := fun {w' s' H'} x o => by
        have hN' : ∀ p, (Wd.mk w'.α (fun p => w'.B p ∧ ¬ w1.O p) w1.o).N p → w'.N p := fun p h => by
          rcases h with h | h
          · exact .inl h.1
          · exact .inl (x.bm p (.inr h))
        refine ⟨hN', ⟨x.al, fun p h => ⟨x.bm p (.inl h), ok1.bo p h⟩, fun p h => ?_, rfl, x.keep⟩, ⟨o.nd, o.len, fun m xs p h1 h2 => ?_, fun p h => ⟨o.ab p h, fun z => ?_⟩, fun p h => h.2, fun p h => o.mu p (hN' p h)⟩⟩
        · rcases x.bn p h.1 with (z | z) | z
          · exact .inl z
          · exact absurd z h.2
          · exact .inr z
        · obtain ⟨us, h3, hz, h4⟩ := o.cells m xs p h1 h2
          exact ⟨us, h3, hz, Reps.less hN' xs h4⟩
        · obtain ⟨l, hl, nl⟩ := x.al
          have h : p ∈ w'.α := h
          rw [hl] at h
          rcases List.mem_append.mp h with h | h
          · exact ok1.bo p (ok1.ab p h) z
          · obtain ⟨o', e', _⟩ := ok1.mu p (.inr z)
            rw [nl p h] at e'; cases e'
      cases q2 : fE vs' s1 with
      | ok v s' =>
        rw [q2] at h1
        intro w' H' u x o r
        obtain ⟨b1, b2, b3⟩ := back x o
        refine h1 _ H' u b2 b3 (r.less b1 rfl fun ho q _ _ hq => ?_)
        rw [show w'.o = fun _ => none from x.oo] at hq
        cases hq
      | exn c y s' =>
        rw [q2] at h1
        intro w' H' d x o r
        obtain ⟨b1, b2, b3⟩ := back x o
        exact h1 _ H' _ d b2 b3 ⟨rfl, r.less b1⟩
      | stuck => rw [q2] at h1; exact h1.elim
  · exact h1.elim
theorem call_E {fE : List Val → S → MP.R Val} (F : FnOk X.prog X.w X.K X.mg X.base (L2N.CX X.prog X.w) k f fd ps (spE G n fE)) (hr : Room k X.A) (hg : Gl X x) (hm : X.mg x = some (.ref f)) (hk : PySem.W.keepIn X.K (.ref f) = true) (hb : Binds X.K fd ps []) (tk : L2N.Takes X W)
    (ha : PA X (e :: es) (tL G W ml)) (hdb : (x == ("__debug__" : Str)) = false) (he : starEach (e :: es) X.env = (false, eval e X.env) :: starEach es X.env) (hpl : (backTo pos (starEach es X.env)).any (·.1) = false) :
    PE X (.Call (.Name x p) (e :: es) [] pos) (tE G W (mCall (.eff n fE) ml)) :=
  impE (pe_callS F hr hg hm hk hb (E := fun σ cls d H => W cls d σ H) (fun σ pins H s e s' I c => tk e s' (L2N.XE.of_call I (fun _ _ _ h => h) c)) ha hdb he hpl) fun σ H Q h => read_E h
theorem call_E0 {fE : List Val → S → MP.R Val} (F : FnOk X.prog X.w X.K X.mg X.base (L2N.CX X.prog X.w) k f fd ps (spE G n fE)) (hr : Room k X.A) (hg : Gl X x) (hm : X.mg x = some (.ref f)) (hk : PySem.W.keepIn X.K (.ref f) = true) (hb : Binds X.K fd ps []) (tk : L2N.Takes X W)
    (hdb : (x == ("__debug__" : Str)) = false) : PE X (.Call (.Name x p) [] [] pos) (tE G W (mCall (.eff n fE) mNil)) := ⟨fun pins s σ H Q I h =>
  wpAny_Call_Name_kw (ld_glob I hg hm (PySem.W.callWith_K0 I.kIn hk (run_fnS (us := []) (E := fun σ cls d H => W cls d σ H) F hr hb (fun pins H s e s' I c => tk e s' (L2N.XE.of_call I (fun _ _ _ h => h) c)) I .nil (nil_read (read_E h)))) hdb)⟩
end
end MP
end

section
set_option Elab.async false
set_option linter.all false
set_option maxRecDepth 100000
set_option maxHeartbeats 4000000
/-! MP, part n: within an except suite, or a def that is called there. -/
namespace MP
open PySem PySem.Spec PyProof.Rows L2
/-- a comprehension's context there: what is pinned stays -/
abbrev _root_.L2.Cx.blkH (X : Cx) (s : Shared) (H : Hp) (scope : Scope) (cenv : PySem.Env) (fp : List Addr) : Cx := { X.blk s H scope cenv fp with pn := X.pn }
section
variable {X : Cx} {pins : List (Addr × Obj)} {σ : L2.St} {H H' : Hp} {s : Shared}
theorem block_hot {scope : Scope} {own : List (Str × Nat)} {fp : List Addr} (I : Inv X pins σ H s) (ok : BlkOk X.N X.env.scope scope own) (hN : X.N.Nodup) (hfp : ∀ b ∈ fp, FpOk X pins H b ∧ b < s.heap.objs.size) :
    Inv (X.blkH s H scope (compEnvC scope (cellsFrom (s.heap.objs.size + 1) scope.names (cloFrom X.env.cells scope.names [])) s.heap.objs.size X.env) fp) [] (L2.wipe σ (own.map (·.2))) H { s with heap := pushCells (s.heap.push { cls := .type "dict", data := .dict #[] }) scope.names } := by
  have J := block_start I ok hN hfp
  have kp : ∀ b o, s.heap.get? b = some o → (pushCells (s.heap.push { cls := .type "dict", data := .dict #[] }) scope.names).get? b = some o := fun b o e => pushCells_keeps _ _ _ _ (Heap.get?_push_of_some _ e)
  refine ⟨⟨J.ok.mod, J.ok.kind, J.ok.glob, J.ok.blt, J.ok.above, J.ok.inj, J.ok.has, J.ok.cab, J.ok.hd, J.ok.frames, J.ok.stk, J.ok.exf, J.ok.bs, J.ok.bsz, J.ok.noex, J.ok.exfs, J.ok.funs, J.ok.frf⟩, J.os, J.bare, J.base, J.loc, J.cell, J.free, J.freeC, fun p hp => ?_, J.hok, J.len⟩
  obtain ⟨h1, h2, h3, h4, h5⟩ := I.pin p (List.mem_append_left _ (by rw [List.append_nil] at hp; exact hp))
  refine ⟨kp _ _ h1, h2, ?_, fun z => ?_, h5⟩
  · show p.1 ≠ s.heap.objs.size
    exact Nat.ne_of_lt (Heap.lt_size h1)
  · have z : p.1 ∈ frs X.stack := z
    rcases List.mem_cons.mp (I.stkSub p.1 z) with z | z
    · exact h3 z
    · exact h4 z
theorem lc_hot {pins : List (Addr × Obj)} {s : Shared} {σ : L2.St} {H : Hp} {Q : VK} {elt tg iter : Expr} {ifs : List Expr} {scope : Scope} {own : List (Str × Nat)} {pos pos' : Pos} {wi : TI} {g : TG} {tt : TT} {te : TE} {use : Option (Value → Sem Unit)} {Qf : Value → Shared → Prop}
    (hc : L2H.HotC X) (hN : X.N.Nodup) (I : Inv X pins σ H s) (hi : L2H.PIH X tg iter wi) (ok : BlkOk X.N X.env.scope scope own)
    (hg : ∀ (s : Shared) (H : Hp) (C : Addr) (cl : List (Str × Addr)) (fp : List Addr), PG (X.blkH s H scope (compEnvC scope cl C X.env) fp) tg g) (ht : ∀ (s : Shared) (H : Hp) (C : Addr) (cl : List (Str × Addr)) (fp : List Addr), PTs (X.blkH s H scope (compEnvC scope cl C X.env) fp) ifs tt)
    (he : ∀ (s : Shared) (H : Hp) (C : Addr) (cl : List (Str × Addr)) (fp : List Addr), PE (X.blkH s H scope (compEnvC scope cl C X.env) fp) elt te) (hs : ∀ x, foldedSetIterable iter X.env x = pure x)
    (h : tLc wi g tt te (own.map (·.2)) σ H Q)
    (hRR : ∀ D C s' m H', Inv X pins σ H' s' → Q (.ref D) H' → s'.heap.Ns C m → FpOk X pins H' C → compPost (model X.prog X.w) X.A X.xe use Qf (.ref D) C (.ok .next) s') :
    wpAny (model X.prog X.w) X.A (comprehension (.ListComp elt [⟨tg, iter, ifs, 0⟩] scope pos) scope X.env pos' (newList []) false (eval iter X.env) use) Qf X.xe s := by
  have hfree : ∀ y ∈ scope.names, y.2 = .free → ∃ c, X.env.cells.lookup y.1 = some c := fun y hy e => by
    rcases ok.free y hy e with k | k
    · exact I.ok.has _ (.inl k)
    · exact I.ok.has _ (.inr k)
  refine wpAny_comprehension_free (use := use) rfl hs (closure_ok hfree) ok.kind (fun y hy e => by rw [ok.uniq y hy, e])
    (thn (hi.run pins s σ H _ I h) fun xv s1 hx => thn hx fun itv s2 h2 => ?_)
  obtain ⟨it, fp, tn, J, H2, e, I2, T, st2, f2, q⟩ := h2
  subst e
  refine wpAny_newObj_type (newEnv_comp ?_) (by show 0 ≤ sizeLine; decide)
  generalize hD : s2.heap.objs.size = D
  have hDn : H2 D = none := I2.hok.fresh (Nat.le_of_eq hD)
  obtain ⟨W, ⟨m0, w0⟩, turn⟩ := q D hDn
  -- the new list
  generalize hs3 : ({ s2 with heap := s2.heap.push { cls := .type "list", data := .seq ([] : List Value).toArray } } : Shared) = s3
  have I3 : Inv X pins σ (upd H2 D (.lst [])) s3 := by
    rw [← hs3]
    refine I2.laid (t' := s2.toks) (fun b o e => Heap.get?_push_of_some _ e) (Nat.le_of_eq hD) ⟨Nat.zero_le _, [], 0, .nil, ?_⟩
    rw [← hD]
    exact Heap.get?_push_size _ rfl
  have h3 : s3.heap = s2.heap.push { cls := .type "list", data := .seq ([] : List Value).toArray } := by rw [← hs3]
  have sz : ∀ b ∈ fp, b < s2.heap.objs.size := fun b hb => by
    obtain ⟨o, e, _⟩ := T.obj _ _ st2 b hb
    exact Heap.lt_size e
  have f3 : ∀ b ∈ fp, FpOk X pins (upd H2 D (.lst [])) b ∧ b < s3.heap.objs.size := fun b hb => by
    have hlt := sz b hb
    refine ⟨⟨?_, (f2 b hb).2⟩, by rw [h3, Heap.size_push]; exact Nat.lt_succ_of_lt hlt⟩
    rw [upd_ne (by rw [← hD]; exact Nat.ne_of_lt hlt)]
    exact (f2 b hb).1
  have st3 : tn 0 s3.heap := T.keep _ _ _ st2 fun b _ o e => by rw [h3]; exact Heap.get?_push_of_some _ e
  have I4 := block_hot I3 ok hN f3
  have pg := hg s3 (upd H2 D (.lst [])) s3.heap.objs.size (cellsFrom (s3.heap.objs.size + 1) scope.names (cloFrom X.env.cells scope.names [])) fp
  have pt := ht s3 (upd H2 D (.lst [])) s3.heap.objs.size (cellsFrom (s3.heap.objs.size + 1) scope.names (cloFrom X.env.cells scope.names [])) fp
  have pe := he s3 (upd H2 D (.lst [])) s3.heap.objs.size (cellsFrom (s3.heap.objs.size + 1) scope.names (cloFrom X.env.cells scope.names [])) fp
  show codeAny _ _ (.compStart (.ListComp elt [⟨tg, iter, ifs, 0⟩] scope pos) 0 (.ref it) (.ref D) (compEnvC scope (cellsFrom (s3.heap.objs.size + 1) scope.names (cloFrom X.env.cells scope.names [])) s3.heap.objs.size X.env)) (compPost (model X.prog X.w) X.A X.xe use Qf (.ref D) s3.heap.objs.size) { s3 with heap := pushCells (s3.heap.push { cls := .type "dict", data := .dict #[] }) scope.names }
  have nfp : ∀ b ∈ fp, (upd H2 D (.lst [])) b = none := fun b hb => (f3 b hb).1.1
  generalize hce : compEnvC scope (cellsFrom (s3.heap.objs.size + 1) scope.names (cloFrom X.env.cells scope.names [])) s3.heap.objs.size X.env = ce at I4 pg pt pe ⊢
  have cL : ce.locals = s3.heap.objs.size := by subst hce; rfl
  generalize hH3 : upd H2 D (.lst []) = H3 at I3 I4 pg pt pe w0 nfp f3
  generalize hs4 : ({ s3 with heap := pushCells (s3.heap.push { cls := .type "dict", data := .dict #[] }) scope.names } : Shared) = s4 at I4 ⊢
  have st4 : tn 0 s4.heap := T.keep _ _ _ st3 fun b _ o e => by rw [← hs4]; exact pushCells_keeps _ _ _ _ (Heap.get?_push_of_some _ e)
  have stat : ∀ {σ' : L2.St} {H' : Hp} {s' : Shared}, Inv (X.blkH s3 H3 scope ce fp) [] σ' H' s' → (∀ b ∈ fp, H' b = none) → ∀ b ∈ fp, FpOk (X.blkH s3 H3 scope ce fp) [] H' b := fun {σ' H' s'} I' hn b hb =>
    ⟨hn b hb, (I'.ok.exf b hb).1, I'.ok.exfs b hb, .inl hb, fun x c e => (I'.ok.exf b hb).2 x c e, fun p hp => (f3 b hb).1.2.2.2.2.2 p (List.mem_append_left _ (by rw [List.append_nil] at hp; exact hp))⟩
  have loop : codeAny (model X.prog X.w) X.A (.compLoop (.ListComp elt [⟨tg, iter, ifs, 0⟩] scope pos) 0 (.ref it) (.ref D) ce) (compPost (model X.prog X.w) X.A X.xe use Qf (.ref D) s3.heap.objs.size) s4 := by
    refine compLoop_any (fun n s' => ∃ i H', Inv (X.blkH s3 H3 scope ce fp) [] (L2.wipe σ (own.map (·.2))) H' s' ∧ tn i s'.heap ∧ (∀ b ∈ fp, H' b = none) ∧ W i n H') ?_ m0 ⟨0, H3, I4, st4, nfp, w0⟩
    rintro n s5 ⟨i, H5, I5, st5, n5, w5⟩
    rcases turn i n H5 w5 with ⟨stop, qq⟩ | ⟨go, Nx, hNx, step⟩
    · have td := T.done (X.blkH s3 H3 scope ce fp) rfl rfl rfl hc i [] s5 _ H5 (fun _ _ => False) I5 (stat I5 n5) st5 stop
      refine thnF td fun r s6 ⟨hr, I6⟩ => ?_
      subst hr
      -- back in the def's context
      have I7 : Inv X pins σ H5 s6 := I3.call' (ch := fp) I6.os I6.base I6.hok I6.bare fun b hb => ⟨(f3 b hb).1.2.2.2.1, (f3 b hb).1.2.1, (f3 b hb).1.2.2.2.2.1, (f3 b hb).1.2.2.2.2.2⟩
      have nC : H5 s3.heap.objs.size = none := by
        have z : H5 ce.locals = none := I6.free
        rw [cL] at z
        exact z
      obtain ⟨m, hn, _⟩ := I6.loc
      have hn : s6.heap.Ns ce.locals m := hn
      rw [cL] at hn
      exact hRR D s3.heap.objs.size s6 m H5 I7 qq hn (I3.fpOk (Nat.le_refl _) nC)
    · have ti := T.item (X.blkH s3 H3 scope ce fp) rfl rfl rfl hc i [] s5 _ H5 (fun _ _ => False) I5 (stat I5 n5) st5 go
      refine thnF ti fun r s6 ⟨u, hr, h6⟩ => ?_
      subst hr
      refine thnF h6 fun _ s7 ⟨x, H7, I7, r7, y7, st7, n7⟩ => ?_
      have I7' := I7.pinned (stat I7 n7) (T.obj _ _ st7)
      refine thnF (pg.run _ s7 _ H7 x u _ I7' r7 (step x H7 y7)) fun _ s8 ⟨σ8, H8, I8, hw8, q8⟩ => ?_
      refine thnF (pt.run _ s8 σ8 H8 _ I8 q8) fun b s9 ⟨H9, I9, q9⟩ => ?_
      -- the turn's end
      have fin : ∀ {s' : Shared} {H' : Hp}, Inv (X.blkH s3 H3 scope ce fp) ([] ++ pinsAt fp s7.heap) σ8 H' s' → Nx H' → ∃ m, m < n ∧ ∃ i H', Inv (X.blkH s3 H3 scope ce fp) [] (L2.wipe σ (own.map (·.2))) H' s' ∧ tn i s'.heap ∧ (∀ b ∈ fp, H' b = none) ∧ W i m H' := fun {s' H'} I' nx => by
        obtain ⟨m', hm, w'⟩ := hNx H' nx
        have pin' : ∀ b ∈ fp, ∀ o, s7.heap.get? b = some o → s'.heap.get? b = some o ∧ H' b = none := fun b hb o e =>
          let z := I'.pin (b, o) (List.mem_append_right _ (List.mem_append_right _ (mem_pinsAt hb e)))
          ⟨z.1, z.2.1⟩
        have hl : (L2.wipe σ (own.map (·.2))).length = σ8.length := by rw [← hw8, L2.wipe_length]
        refine ⟨m', hm, i + 1, H', (I'.unpinned (pins := [])).weak hl (fun j v e => ?_), T.keep _ _ _ st7 fun b hb o e => (pin' b hb o e).1, fun b hb => ?_, w'⟩
        · rw [← hw8] at e
          exact (L2.wipe_some e).1
        · obtain ⟨o, e, _⟩ := T.obj _ _ st7 b hb
          exact (pin' b hb o e).2
      cases b with
      | false =>
        simp only [Bool.false_eq_true, if_false] at q9 ⊢
        exact fin I9 q9
      | true =>
        simp only [if_true] at q9 ⊢
        refine thnF (pe.run _ s9 σ8 H9 _ I9 q9) fun z s10 ⟨yv, H10, I10, r10, acc, hD10, hz10, nx⟩ => ?_
        exact app_ok (X := X.blkH s3 H3 scope ce fp) I10 hD10 hz10 r10 fun s11 I11 => fin I11 nx
  exact codeAny_compStart_list loop (T.self X.A 0 _ _ _ st4 loop)
end
section
variable {X : Cx} {G : Gd} {W : WX} {pos p : Pos} {tg a b c : Expr} {ma mb mc : ME}
/-- as a value, hot -/
theorem pe_lcH {elt tg iter : Expr} {ifs : List Expr} {scope : Scope} {own : List (Str × Nat)} {pos : Pos} {wi : TI} {g : TG} {tt : TT} {te : TE} (hc : L2H.HotC X) (hN : X.N.Nodup) (hi : L2H.PIH X tg iter wi) (ok : BlkOk X.N X.env.scope scope own)
    (hg : ∀ (s : Shared) (H : Hp) (C : Addr) (cl : List (Str × Addr)) (fp : List Addr), PG (X.blkH s H scope (compEnvC scope cl C X.env) fp) tg g) (ht : ∀ (s : Shared) (H : Hp) (C : Addr) (cl : List (Str × Addr)) (fp : List Addr), PTs (X.blkH s H scope (compEnvC scope cl C X.env) fp) ifs tt)
    (he : ∀ (s : Shared) (H : Hp) (C : Addr) (cl : List (Str × Addr)) (fp : List Addr), PE (X.blkH s H scope (compEnvC scope cl C X.env) fp) elt te) (hs : ∀ x, foldedSetIterable iter X.env x = pure x) :
    PE X (.ListComp elt [⟨tg, iter, ifs, 0⟩] scope pos) (tLc wi g tt te (own.map (·.2))) := by
  refine ⟨fun pins s σ H Q I h => ?_⟩
  rw [eval_ListComp]
  refine lc_hot hc hN I hi ok hg ht he hs h fun D C s' m H' I' q hn f => ⟨m, hn, fun h'' sb => ?_⟩
  obtain ⟨f0, f1, f2, f3, f4, f5⟩ := f
  exact ⟨.ref D, H', I'.turned (t' := s'.toks) (fun b o hb e => (sb.2 b hb).trans e) f0 f1 f3 f4 f5, rfl, q⟩
/-- name = [..] on one line, hot -/
theorem ps_setLcH {i : Nat} {y : Str} {py : Pos} {elt tg iter : Expr} {ifs : List Expr} {scope : Scope} {own : List (Str × Nat)} {pos spos : Pos} {wi : TI} {g : TG} {tt : TT} {te : TE} (hc : L2H.HotC X) (hN : X.N.Nodup) (hy : X.N[i]? = some y) (hyl : X.env.scope.names.lookup y = some .local)
    (hsw : swapsWith (.ListComp elt [⟨tg, iter, ifs, 0⟩] scope pos) (some (.Name y py)) spos.line X.env = pure true) (hi : L2H.PIH X tg iter wi) (ok : BlkOk X.N X.env.scope scope own)
    (hg : ∀ (s : Shared) (H : Hp) (C : Addr) (cl : List (Str × Addr)) (fp : List Addr), PG (X.blkH s H scope (compEnvC scope cl C X.env) fp) tg g) (ht : ∀ (s : Shared) (H : Hp) (C : Addr) (cl : List (Str × Addr)) (fp : List Addr), PTs (X.blkH s H scope (compEnvC scope cl C X.env) fp) ifs tt)
    (he : ∀ (s : Shared) (H : Hp) (C : Addr) (cl : List (Str × Addr)) (fp : List Addr), PE (X.blkH s H scope (compEnvC scope cl C X.env) fp) elt te) (hs : ∀ x, foldedSetIterable iter X.env x = pure x) :
    PS X (.Assign [.Name y py] (.ListComp elt [⟨tg, iter, ifs, 0⟩] scope pos) spos) (tAsg (tLc wi g tt te (own.map (·.2))) (gName i)) := by
  refine ⟨fun pins s σ H D I h => ?_⟩
  rw [exec_Assign_Name_used _ _ _ _ hsw]
  refine wpAny_bind (wpAny_standAt (wpAny_bind ?_))
  show wpAny _ X.A (do let _ ← comprehension (.ListComp elt [⟨tg, iter, ifs, 0⟩] scope pos) scope X.env (firstIterPos [⟨tg, iter, ifs, 0⟩] pos) (newList []) false (eval iter X.env) (some (assign (.Name y py) X.env))) _ _ s
  have h : tLc wi g tt te (own.map (·.2)) σ H (fun x H1 => gName i x σ H1 D.nx) := h
  refine wpAny_bind (thn (lc_hot (Qf := fun _ s' => SP X pins D .next s') hc hN I hi ok hg ht he hs h fun L C s' m H' I' q hn f => ?_) fun _ s' hq => wpAny_pure (wpAny_pure hq))
  show wpAny _ _ (assign (.Name y py) X.env (.ref L)) _ _ _
  refine wpAny_assign_Name (store_ok2 (v := V.ref L) I' hN hy (.inl hyl) rfl (fun s2 I2 ⟨a, sb, ha⟩ => ?_) (.inr hyl))
  obtain ⟨f0, f1, f2, f3, f4, f5⟩ := f
  have haC : C ≠ a := by
    rcases ha with z | z
    · rw [z]; exact f1
    · exact fun e => f4 y a z e.symm
  refine ⟨m, hn.sameBut sb haC, fun h3 sb3 => ?_⟩
  exact ⟨_, H', I2.turned (t' := s2.toks) (fun b o hb e => (sb3.2 b hb).trans e) f0 f1 f3 f4 f5, q⟩
theorem impIH {tg e : Expr} {t t' : TI} (h : L2H.PIH X tg e t) (i : ∀ σ H R, t' σ H R → t σ H R) : L2H.PIH X tg e t' := ⟨fun pins s σ H R I q => h.run pins s σ H R I (i σ H R q)⟩
theorem s_rg1H (hg : Gl X "range") (hm : X.mg "range" = none) (ha : PE X a (tE G W ma)) (hs : starEach [a] X.env = [(false, eval a X.env)]) : L2H.PIH X tg (.Call (.Name "range" p) [a] [] pos) (tI G W (mRg1 ma)) := by
  refine impIH (L2H.pi_range1H hg hm (pa_cons ha pa_nil hs) hs) fun σ H R ⟨w, s, e, ok, er, h⟩ => ?_
  refine ⟨w, s, e, ok, er, Post.bind (rel := relV G) h fun w1 s1 H1 v u x1 ok1 r1 h1 => ?_⟩
  match v, h1 with
  | .d (.int j), h1 =>
    rw [int_inv (slot_d r1)]
    dsimp only at h1
    split at h1
    · rename_i hc
      have hc := of_decide_eq_true hc
      exact ⟨j, rfl, hc.2.2.1, hc.2.2.2.1, Post.here (rel := relI G) ok1 h1 ⟨walks_rng 0 _, by rw [rangeI_length]; have := hc.2.2.2.2; omega⟩⟩
    · exact h1.elim
theorem s_lcH {elt iter : Expr} {ifs : List Expr} {scope : Scope} {own : List (Str × Nat)} {tgm : Tg} {it : MI} {t : MT} {m : ME} (hK : G.K = X.K) (hc : L2H.HotC X) (hN : X.N.Nodup) (hi : L2H.PIH X tg iter (tI G W it)) (ok : BlkOk X.N X.env.scope scope own)
    (hg : ∀ (s : Shared) (H : Hp) (C : Addr) (cl : List (Str × Addr)) (fp : List Addr), PG (X.blkH s H scope (compEnvC scope cl C X.env) fp) tg (gTg X.K tgm)) (ht : ∀ (s : Shared) (H : Hp) (C : Addr) (cl : List (Str × Addr)) (fp : List Addr), PTs (X.blkH s H scope (compEnvC scope cl C X.env) fp) ifs (tT G WF t))
    (he : ∀ (s : Shared) (H : Hp) (C : Addr) (cl : List (Str × Addr)) (fp : List Addr), PE (X.blkH s H scope (compEnvC scope cl C X.env) fp) elt (tE G WF m)) (hs : ∀ x, foldedSetIterable iter X.env x = pure x) (hsl : ∀ i ∈ tgSlots tgm, i ∈ own.map (·.2)) :
    PE X (.ListComp elt [⟨tg, iter, ifs, 0⟩] scope pos) (tE G W (mLc (own.map (·.2)) tgm it t m)) :=
  impE (pe_lcH hc hN hi ok hg ht he hs) fun σ H Q h => by rw [← hK]; exact lc_read hsl h
end
end MP
end

section
set_option Elab.async false
set_option linter.all false
set_option maxRecDepth 100000
set_option maxHeartbeats 4000000
/-! MP, part o: defs that are called within an except suite. -/
namespace MP
open PySem PySem.Spec PyProof.Rows L2
/-- what the error classes say -/
structure ClsOk (G : Gd) : Prop where
  exc : ∀ k, ExcC G.K (G.cA k)
  kit : ∀ k (t : Ty), t.data = false → PySem.W.kitOne G.K (.ref (G.cA k)) (t.u G.cA) = some (isEx k t)
  exm : ∀ k (t : Ty), t.data = false → PySem.W.exmOne G.K (.ref (G.cA k)) (t.u G.cA) = some (isEx k t)
  keep : ∀ k, PySem.W.keepIn G.K (.ref (G.cA k)) = true
  sub : ∀ k, PySem.W.subIn G.K (.ref (G.cA k)) (.type "BaseException") = some true
  typ : ∀ k, PySem.W.typeIn G.K (.ref (G.cA k)) = some (.type "type")
  own : ∀ k : EC, k.fld = Str.empty → PySem.W.excIn G.K (G.cA k) He.veBase "ValueError.__new__" = true
  no : ∀ k : EC, PySem.W.findIn G.K (.ref (G.cA k)) k.fld = some none
/-- the context holds the handled error, of class k, its own dict at d -/
def HotX (X : Cx) (a : Addr) (D : Value) (d : Option Addr) : Prop := ∃ oe, (a, oe) ∈ X.pn ∧ L2H.Hot1 X.A (a, oe) ∧ Zc D d oe ∧ ∃ vs, oe.data = .fields vs
theorem HotX.hot {X : Cx} {a : Addr} {D : Value} {d : Option Addr} (h : HotX X a D d) : L2H.HotC X := let ⟨oe, h1, h2, _⟩ := h; ⟨(a, oe), h2, h1⟩
theorem kitAny_ec {G : Gd} (C : ClsOk G) (k : EC) : ∀ ts : List Ty, ts.any Ty.data = false → PySem.W.kitAny G.K (.ref (G.cA k)) (ts.map (Ty.u G.cA)) = some (ts.any (isEx k))
  | [], _ => rfl
  | t :: ts, h => by
    rw [List.any_cons, Bool.or_eq_false_iff] at h
    have e1 := C.kit k t h.1
    have e2 := kitAny_ec C k ts h.2
    rw [List.map_cons, List.any_cons]
    unfold PySem.W.kitAny
    rw [e1]
    cases q : isEx k t with
    | true => simp
    | false => simp only [Bool.false_or]; exact e2
section
variable {prog : Program} {w : World} {A : Around} {E : Value → Shared → Prop} {s : Shared} {K : PySem.W.Frag} {x D : Addr} {ox : Obj} {od : Option Obj}
open PySem.W in
/-- e.__class__, e an error, its own dict whatever -/
theorem classOf_exc {Q : Option Value → Shared → Prop} (c : ExcC K D) (X : K.In s.heap) (I : PySem.W.InstAt s.heap x ox D od) (h : Q (some (.ref D)) { s with toks := s.toks + 1 }) : wpAny (model prog w) A (getAttr? (.ref x) "__class__") Q E s := by
  obtain ⟨cdD, hcD, _⟩ := any_some c.hd
  have hf : findObj K D od "__class__" = some (.bind (.builtin "getset_descriptor.__get__") (.builtin "object.__class__")) := by
    unfold findObj
    rw [hcD, Option.bind_some, c.ha, Option.bind_some]
    simp [c.hn, c.ht]
  obtain ⟨hp, g, d, t, os⟩ := s
  have lt := I.type (M := model prog w)
  have lg := looks_findIn (M := model prog w) X c.hg
  have lk := looks_findIn (M := model prog w) X c.hk
  have lo := looks_find (M := model prog w) X I hf
  have ne : (Value.builtin "BaseException.__getattribute__" == Value.builtin "object.__getattribute__") = false := by decide +kernel
  have nf : (onTheHeap (Value.ref D) && Value.builtin "BaseException.__getattribute__" == Value.builtin "object.__getattribute__") = false := by rw [ne]; rfl
  have nh : (false && onTheHeap (Value.builtin "BaseException.__getattribute__")) = false := rfl
  unfold getAttr? getAttrBy? getAttrBy
  refine wpAny_bind (wpAny_mkText (wpAny_bind (wpAny_attempt (wpAny_holding (wpAny_bind (lt.at (wpAny_bind (lg.at ?_))))))))
  show wpAny _ _ (if (onTheHeap (Value.ref D) && Value.builtin "BaseException.__getattribute__" == Value.builtin "object.__getattribute__") = true then _ else _) _ _ _
  rw [nf, if_neg Bool.false_ne_true]
  unfold getAttrByItsOwn hookBefore
  refine wpAny_bind ?_
  rw [if_pos (show onTheHeap (Value.ref D) = true from rfl)]
  refine lk.at (wpAny_bind (wpAny_attempt (wpAny_holding ?_)))
  unfold callGetattribute
  rw [nh, if_neg Bool.false_ne_true]
  unfold boundAndCalled
  rw [PySem.F.excAttr_ValueError.ga.bind (.ref x)]
  refine wpAny_bind (wpAny_pure ?_)
  show wpAny _ _ (call (.builtin "BaseException.__getattribute__") [.ref x, .str "__class__" t]) _ _ _
  refine wpAny_call (codeAny_call_builtin PySem.F.excAttr_ValueError.ga.plain PySem.F.entry_bexc_ga ?_)
  refine @check_slot (model prog w) _ _ ⟨hp, g, d, t + 1, os⟩ "BaseException.__getattribute__" "BaseException" "__getattribute__" (.ref x) [.str "__class__" t] [] _ (by decide +kernel) (by decide +kernel) (lt.andThen (looks_subIn X c.hs)) (PySem.F.args_bexc_ga (.ref x) (.str "__class__" t)) ?_
  unfold Builtin.«object.__getattribute__»
  refine wpAny_bind (wpAny_of_eq (a := ((Value.ref x : Value), [Value.str "__class__" t])) (by first | rfl | (simp only [slotArgs]; rfl)) ?_)
  refine wpAny_bind (wpAny_pure (wpAny_bind (lt.at (wpAny_bind (lo.at ?_)))))
  show wpAny _ _ (holding [Value.builtin "object.__class__"] (call (.builtin "getset_descriptor.__get__") [.builtin "object.__class__", .ref x, .ref D]) >>= ret) _ _ _
  refine wpAny_bind (wpAny_holding (wpAny_call (class_get (s := ⟨hp, g, d, t + 1, os⟩) (ox := ox) (od := od) X I c.hm (wpAny_pure ?_))))
  show wpAny _ _ (handedOut (.ref D)) _ _ _
  rw [handedOut_of (v := .ref D) rfl]
  first
    | exact wpAny_pure (wpAny_pure h)
    | exact wpAny_pure h
    | exact wpAny_pure (wpAny_bind (wpAny_pure (wpAny_pure h)))
theorem kitx_exc (c : ExcC K D) : PySem.W.KitX K (.ref x) (.ref D) (fun h => ∃ od, PySem.W.InstAt h x ox D od) :=
  let o := PySem.W.handS_kitx_exc (x := x) (ox := ox) c.hg c.hk c.hs c.hd c.ha c.hn c.ht c.hm
  ⟨fun _ _ _ ⟨_, I⟩ => I.type, fun h M X _ => (by
    obtain ⟨cdD, hcD, _⟩ := PySem.W.any_some c.hd
    unfold PySem.W.clsIn at hcD
    split at hcD
    · rename_i c' d' cd' sl' ho
      intro A' Q' E' s' k q
      unfold isType loadHead
      exact wpAny_bind (wpAny_loadPart (k _ _ (X _ _ ho)) (wpAny_pure q))
    · cases hcD), o.ne, fun X ⟨_, I⟩ k => classOf_exc c X I k⟩
end
theorem inst_of {X : Cx} {pins : List (Addr × Obj)} {σ : L2.St} {H : Hp} {s : Shared} {a C : Addr} {d : Option Addr} {oe : Obj} (I : Inv X pins σ H s) (hp : (a, oe) ∈ X.pn) (hz : Zc (.ref C) d oe) (hf : ∃ vs, oe.data = .fields vs) (hd : DOk H d) : ∃ od, PySem.W.InstAt s.heap a oe C od := by
  obtain ⟨hget, _⟩ := I.pin (a, oe) (List.mem_append.mpr (.inl hp))
  obtain ⟨vs, hv⟩ := hf
  obtain ⟨oc, od, oda, osl⟩ := oe
  obtain ⟨h1, h2⟩ := hz
  dsimp only at h1 h2 hv
  subst h1 h2 hv
  cases od with
  | none => exact ⟨none, hget, rfl, rfl, trivial⟩
  | some p =>
    obtain ⟨fs, e⟩ := hd p rfl
    have hx : ObjOk X.prog X.w H s.heap p (.xd fs) := I.hok p _ e
    obtain ⟨mA, hns, hr⟩ := hx
    obtain ⟨ob, ho, _⟩ := lookIn_ns hns
    exact ⟨some ob, hget, rfl, rfl, ho⟩
theorem hxOk {X : Cx} {G : Gd} {a : Addr} {k : EC} {d : Option Addr} (hK : G.K = X.K) (C : ClsOk G) (h : HotX X a (.ref (G.cA k)) d) : HxOk X (G.with a k d) := by
  obtain ⟨oe, hp, hot, hz, hf⟩ := h
  have kx : PySem.W.KitX X.K (.ref a) (.ref (G.cA k)) (fun h => ∃ od, PySem.W.InstAt h a oe (G.cA k) od) := by
    rw [← hK]
    exact kitx_exc (C.exc k)
  refine ⟨fun a' c d e t ht pins s σ H xs us Q I r ⟨e1, hd, q⟩ => ?_, fun a' c d e ts ht pins s σ H xs us Q I r ⟨tp, e1, e2, hd, q⟩ => ?_⟩
  · cases e
    subst e1
    obtain ⟨u1, u2, rfl, r1, r2⟩ := vals2 r
    cases r1
    have e2 := (t.cls G.cA).eq r2
    subst e2
    have ek := C.kit k t ht
    rw [hK] at ek
    exact PySem.W.kia_one kx I.kIn (inst_of I hp hz hf hd) ek (fun z => nomatch z) fun tk => ⟨.bl _, H, I.kept (t' := tk) fun _ _ z => z, rfl, q⟩
  · cases e
    subst e1
    obtain ⟨u1, u2, rfl, r1, r2⟩ := vals2 r
    cases r1
    cases (show u2 = Value.ref tp from r2)
    obtain ⟨_, its, rv, o, h1, h2, n, h3⟩ := (show ObjOk X.prog X.w H s.heap tp (.tup (ts.map (Ty.v G.cA))) from I.hok tp _ e2)
    have e3 := ClsV.all (paired_cls G.cA ts) rv
    subst e3
    obtain ⟨oc, od, dt, sl⟩ := o
    simp only at h2 h3
    subst h2 h3
    have ek := kitAny_ec C k ts ht
    rw [hK] at ek
    exact PySem.W.kia_tup kx I.kIn (inst_of I hp hz hf hd) h1 ek (fun z => nomatch z) fun tk => ⟨.bl _, H, I.kept (t' := tk) fun _ _ z => z, rfl, q⟩
/-- e.f, e the handled error -/
theorem s_fld {X : Cx} {G : Gd} {W : WX} {a : Addr} {k : EC} {d : Option Addr} {e : Expr} {n : Str} {pos : Pos} {ma : ME} (hK : G.K = X.K) (C : ClsOk G) (hh : HotX X a (.ref (G.cA k)) d) (he : PE X e (tE (G.with a k d) W ma)) (hb : attributeBase e n X.env (eval e X.env) = eval e X.env) :
    PE X (.Attribute e n pos) (tE (G.with a k d) W (mFld n ma)) := by
  refine ⟨fun pins s σ H Q I ⟨w, s0, e0, ok, er, h⟩ => ?_⟩
  obtain ⟨oe, hp, hot, hz, hf⟩ := hh
  have rd : tE (G.with a k d) W ma σ H fun x H1 => x = .ref a ∧ PySem.W.findIn X.K (.ref (G.cA k)) n = some none ∧ ∃ (dd : Addr) (v : V), d = some dd ∧ H1 dd = some (.xd [(n, v)]) ∧ Q v H1 := by
    refine ⟨w, s0, e0, ok, er, Post.bind (rel := relV (G.with a k d)) h fun w1 s1 H1 v u x1 ok1 r1 h1 => ?_⟩
    cases v with
    | exc c y =>
      cases y with
      | none => exact h1.elim
      | some y =>
        dsimp only at h1
        split at h1
        · rename_i hn
          subst hn
          obtain ⟨a', d', e1, rfl, pay⟩ := r1
          cases e1
          obtain ⟨p, v, rfl, h2, _, h3⟩ := pay
          have hno := C.no k
          rw [hK] at hno
          exact ⟨rfl, hno, p, v, rfl, h2, Post.hereD ok1 h1 h3⟩
        · exact h1.elim
    | _ => exact h1.elim
  refine attr_of hb (thn (he.run pins s σ H _ I rd) fun u s1 ⟨x, H1, I1, rx, ex, hno, dd, v, ed, ea, q⟩ => ?_)
  subst ex
  obtain rfl : u = Value.ref a := rx
  have cx := C.exc k
  rw [hK] at cx
  obtain ⟨ha, _⟩ := I1.pin (a, oe) (List.mem_append_left _ hp)
  obtain ⟨vs, hd⟩ := hf
  have hx : ObjOk X.prog X.w H1 s1.heap dd (.xd [(n, v)]) := I1.hok dd _ ea
  obtain ⟨mA, hns, hr⟩ := hx
  obtain ⟨od, ho, hl⟩ := lookIn_ns hns
  obtain ⟨u, hu, ru⟩ := RelO.some_of (v := v) (o := mA n) (by
    have := hr n
    rw [List.lookup_cons_self] at this
    exact this)
  have J : PySem.W.InstAt s1.heap a oe (G.cA k) (some od) := ⟨ha, hz.1, by unfold PySem.W.notCls; rw [hd] <;> rfl, by rw [hz.2, ed]; exact ho⟩
  exact HandSPX.exc_get I1.kIn J cx.hg cx.hk cx.hs (PySem.W.findObj_own cx.hd hno rfl (by rw [hl, hu])) (handed_of ru) ⟨v, H1, I1.tok _, ru, q⟩
/-! ### such defs -/
abbrev NoE : XK := fun _ _ _ => False
/-- what is promised there; p the handled error -/
def spH (G : Gd) (n : Nat) (f : List Val → S → MP.R Val) (p : Addr × Obj) : Sp := fun vs H Q _ => vs.length = n ∧ ∃ k d w s vals, Zc (.ref (G.cA k)) d p.2 ∧ (∃ us, p.2.data = .fields us) ∧ Ok (G.with p.1 k d) w s H ∧ (∀ p, ¬ w.O p) ∧ SlotRs (G.with p.1 k d) w H vals vs ∧
  vals.all (fun v => !isOwnV v) = true ∧ EndE (G.with p.1 k d) w H (f vals s) Q NoE
structure FnHot (P : Program) (w : World) (K : PySem.W.Frag) (mg : Str → Option Value) (base : Heap) (k : Nat) (f : Addr) (fd : FuncData) (ps : List Str) (sp : Addr × Obj → Sp) : Prop where
  run : ∀ (A : Around) (outer : List PySem.Env) (s : Shared) (H : Hp) (args : Args) (us : List Value) (vs : List V) (Q : VK) (p : Addr × Obj), L2H.RoomH k A → L2H.Hot1 A p → L2H.PinOk outer H s p → Env0 P w K mg base A outer s H → BindsTo s fd args (ps.zip us) → Vals vs us →
    vs.length = ps.length → sp p vs H Q NoE → codeAny (model P w) A (.call (.ref f) args) (CR (L2N.CX P w) outer P w H s Q NoE) s
theorem FnHot.mono {P : Program} {w : World} {K : PySem.W.Frag} {mg : Str → Option Value} {base : Heap} {j k : Nat} {f : Addr} {fd : FuncData} {ps : List Str} {sp : Addr × Obj → Sp} (F : FnHot P w K mg base j f fd ps sp) (h : j ≤ k) : FnHot P w K mg base k f fd ps sp :=
  ⟨fun A outer s H args us vs Q p hr => F.run A outer s H args us vs Q p (hr.mono h)⟩
section
variable {P : Program} {w : World} {mg : Str → Option Value} {base : Heap} {k : Nat} {f : Addr} {fd : FuncData} {x qual : Str} {params : Arguments} {body : List Stmt} {scope : Scope} {N ps : List Str} {G : Gd}
theorem hot_len {G : Gd} {n : Nat} {g : List Val → S → MP.R Val} {p : Addr × Obj} : ∀ vs H Q E, (fun vs H Q E => vs.length = n ∧ spH G n g p vs H Q E : Sp) vs H Q E → vs.length = n := fun _ _ _ _ h => h.1
theorem def_H {m : MS} (F : FunD G.K x qual params body scope [] [] f fd) (S : FnScope N ps scope)
    (hb : ∀ (cdv : Value) (A : Around) (outer : List PySem.Env) (s : Shared) (H : Hp) (p : Addr × Obj) (c : EC) (d : Option Addr), L2H.RoomH k (A.deeper (envOfC qual scope s.heap.objs.size f cdv)) → HotX (L2H.cxH (L2N.CX P w) P w G.K mg base N qual scope f cdv A outer s H NoE p) p.1 (.ref (G.cA c)) d →
      PSs (L2H.cxH (L2N.CX P w) P w G.K mg base N qual scope f cdv A outer s H NoE p) body (tS (G.with p.1 c d) WF m)) :
    FnHot P w G.K mg base (k + 1) f fd ps (spH G ps.length (runE N.length m)) := by
  obtain ⟨oc, od, dV, kV, doc, pm, an, cdv, ct, osl, rfl, lk, hcd, _, _⟩ := F.ex
  refine ⟨fun A outer s H args us vs Q p hr hot hpin e0 hbd r hl hsp => ?_⟩
  have KX : G.K.In s.heap := e0.mod.kin.keeps fun b o e => (e0.bs b o e).1
  have lim : s.heap.NoLimit := e0.mod.nolimit.keeps fun b o e => (e0.bs b o e).1
  have hkind : ∀ y ∈ ps.zip us, scope.names.lookup y.1 = some .local ∨ (scope.names.lookup y.1 = some .cell ∧ ((cellsFrom (s.heap.objs.size + 1) scope.names []).lookup y.1).isSome = true) := fun ⟨n, v⟩ hy => by
    rcases S.par n (List.of_mem_zip hy).1 with q | q
    · exact .inl q
    · exact .inr ⟨q, PySem.W.cellsFrom_some _ _ _ (.inl q)⟩
  refine codeAny_call_function hr.depth (KX _ _ lk) rfl S.co S.gen rfl (PySem.W.codeRec_of KX hcd) (hbd _ _ _ _ ?_)
  refine wpAny_newFunctionEnv_cells S.kind hkind fun env he s1 xx => ?_
  subst he
  refine ⟨lim.keeps xx.toInCall.keep, codeAny_func ?_⟩
  obtain ⟨hl', c, d, w0, s0, vals, hz, hf, ok, hO, rs, ho, h⟩ := hsp
  have ht := hb cdv A outer s H p c d (hr.deeper _) ⟨p.2, List.mem_cons_self, hot, hz, hf⟩
  have I := L2H.inv_startH (CX := L2N.CX P w) (E := NoE) (qual := qual) (f := f) (cd := cdv) S hpin e0 hl r xx
  refine wpAny_mono (ht.run [] s1 (L2.start N vs) H { nx := fun _ H' => Q .non H', rt := Q } I ⟨w0, s0, initE N.length vals, ok, env_start rs ho, ?_⟩) (fun fl s' hs => ?_) fun e s' hs => hs
  · have ext : ∀ {w' : Wd} {H' : Hp}, Step w0 H w' H' → (∀ p, ¬ w'.O p) → Ext w0 H w' H' := fun {w' H'} st h2 => ⟨st.al, st.bm, st.bn, by funext p; exact (Classical.not_not.mp (h2 p)).trans (Classical.not_not.mp (hO p)).symm, fun p o h hp => st.keep p o h hp (hO p)⟩
    unfold runE at h
    cases q : m (initE N.length vals) s0 with
    | nxt e1 s1 => rw [q] at h; exact fun w' H' σ' st ok er => h (dropO w') H' .non (ext (st.trans step_drop) fun _ z => z rfl) ok.dropO (rep_non (K := G.K) (N := (dropO w').N) (H := H'))
    | ret v s1 => rw [q] at h; exact fun w' H' u st ok hO' r => h w' H' u (ext st hO') ok r
    | brk e1 s1 => rw [q] at h; exact h.elim
    | cnt e1 s1 => rw [q] at h; exact h.elim
    | exn c y e1 s1 =>
      rw [q] at h
      intro w' H' σ' cls d st ok er ⟨ec, pay⟩
      exact h (dropO w') H' d (ext (st.trans step_drop) fun _ z => z rfl) ok.dropO (pay.less drop_N)
    | stuck => rw [q] at h; exact h.elim
  · cases fl with
    | ret u =>
      obtain ⟨v, σ', H', J, rv, q⟩ := hs
      exact ⟨v, H', J.os, J.bare, J.base, J.hok, rv, q⟩
    | next =>
      obtain ⟨σ', H', J, q⟩ := hs
      exact ⟨.non, H', J.os, J.bare, J.base, J.hok, rfl, q⟩
    | brk => obtain ⟨_, _, _, q⟩ := hs; exact False.elim q
    | cont => obtain ⟨_, _, _, q⟩ := hs; exact False.elim q
end
/-! ### calls -/
section
variable {G : Gd} {w w1 : Wd} {s s1 : S} {H H1 : Hp}
theorem callee_N (p : Addr) : (Wd.mk w.α w.N fun _ => none).N p → w.N p := fun h => h.elim id fun z => absurd rfl z
theorem Ok.callee (ok : Ok G w s H) : Ok G ⟨w.α, w.N, fun _ => none⟩ s H := ⟨ok.nd, ok.len, fun m xs p h1 h2 => by
  obtain ⟨us, h3, hz, h4⟩ := ok.cells m xs p h1 h2
  exact ⟨us, h3, hz, Reps.less callee_N xs h4⟩, fun p h => .inl (ok.ab p h), fun _ _ z => z rfl, fun p h => ok.mu p (callee_N p h)⟩
theorem SlotRs.callee : ∀ {vs : List Val} {us : List V}, vs.all (fun v => !isOwnV v) = true → SlotRs G w H vs us → SlotRs G ⟨w.α, w.N, fun _ => none⟩ H vs us
  | [], us, _, h => h
  | v :: vs, us, ho, h => by
    rw [List.all_cons, Bool.and_eq_true] at ho
    obtain ⟨u, r, e, h1, h2⟩ := h
    refine ⟨u, r, e, h1.less callee_N rfl fun hv => ?_, SlotRs.callee ho.2 h2⟩
    have := ho.1
    cases v <;> first | (exact absurd this Bool.false_ne_true) | cases hv
theorem Ext.callee (ok1 : Ok G w1 s1 H1) {w' : Wd} {s' : S} {H' : Hp} (x : Ext ⟨w1.α, w1.N, fun _ => none⟩ H1 w' H') (o : Ok G w' s' H') :
    (∀ p, (Wd.mk w'.α (fun p => w'.B p ∧ ¬ w1.O p) w1.o).N p → w'.N p) ∧ Ext w1 H1 ⟨w'.α, fun p => w'.B p ∧ ¬ w1.O p, w1.o⟩ H' ∧ Ok G ⟨w'.α, fun p => w'.B p ∧ ¬ w1.O p, w1.o⟩ s' H' := by
  have hN' : ∀ p, (Wd.mk w'.α (fun p => w'.B p ∧ ¬ w1.O p) w1.o).N p → w'.N p := fun p h => by
    rcases h with h | h
    · exact .inl h.1
    · exact .inl (x.bm p (.inr h))
  refine ⟨hN', ⟨x.al, fun p h => ⟨x.bm p (.inl h), ok1.bo p h⟩, fun p h => ?_, rfl, x.keep⟩, ⟨o.nd, o.len, fun m xs p h1 h2 => ?_, fun p h => ⟨o.ab p h, fun z => ?_⟩, fun p h => h.2, fun p h => o.mu p (hN' p h)⟩⟩
  · rcases x.bn p h.1 with (z | z) | z
    · exact .inl z
    · exact absurd z h.2
    · exact .inr z
  · obtain ⟨us, h3, hz, h4⟩ := o.cells m xs p h1 h2
    exact ⟨us, h3, hz, Reps.less hN' xs h4⟩
  · obtain ⟨l, hl, nl⟩ := x.al
    have h : p ∈ w'.α := h
    rw [hl] at h
    rcases List.mem_append.mp h with h | h
    · exact ok1.bo p (ok1.ab p h) z
    · obtain ⟨o', e', _⟩ := ok1.mu p (.inr z)
      rw [nl p h] at e'; cases e'
end
section
variable {X : Cx} {G : Gd} {W : WX} {k n : Nat} {f : Addr} {fd : FuncData} {ps : List Str} {x : Str} {p pos : Pos} {e : Expr} {es : List Expr} {ml : ML} {a : Addr} {c : EC} {d : Option Addr}
theorem call_H {fE : List Val → S → MP.R Val} (F : FnHot X.prog X.w X.K X.mg X.base k f fd ps (spH G n fE)) (hn : ps.length = n) (hr : L2H.RoomH k X.A) (hot : HotX X a (.ref (G.cA c)) d) (hg : Gl X x) (hm : X.mg x = some (.ref f)) (hk : PySem.W.keepIn X.K (.ref f) = true) (hb : Binds X.K fd ps [])
    (ha : PA X (e :: es) (tL (G.with a c d) W ml)) (hdb : (x == ("__debug__" : Str)) = false) (he : starEach (e :: es) X.env = (false, eval e X.env) :: starEach es X.env) (hpl : (backTo pos (starEach es X.env)).any (·.1) = false) :
    PE X (.Call (.Name x p) (e :: es) [] pos) (tE (G.with a c d) W (mHot (.hot n fE) ml)) := by
  refine ⟨fun pins s σ H Q I ⟨w, s0, e0, ok, er, h⟩ => ?_⟩
  refine wpAny_Call_Name_kw (ld_glob I hg hm ?_ hdb)
  obtain ⟨oe, hp, h1, hz, hf⟩ := hot
  have rd : tL (G.with a c d) W ml σ H fun vs H1 => vs.length = n ∧ spH G n fE (a, oe) vs H1 Q NoE := by
    refine ⟨w, s0, e0, ok, er, Post.bind (rel := relL (G.with a c d)) h fun w1 s1 H1 vs us x1 ok1 r1 h1 => ?_⟩
    dsimp only at h1
    split at h1
    · rename_i hl
      have hlen : us.length = n := by rw [← SlotRs.length r1]; exact hl.1
      refine ⟨hlen, hlen, c, d, ⟨w1.α, w1.N, fun _ => none⟩, s1, vs, hz, hf, ok1.callee, fun _ z => z rfl, SlotRs.callee hl.2 r1, hl.2, ?_⟩
      cases q2 : fE vs s1 with
      | ok v s' =>
        rw [q2] at h1
        intro w' H' u x o r
        obtain ⟨b1, b2, b3⟩ := Ext.callee ok1 x o
        refine h1 _ H' u b2 b3 (r.less b1 rfl fun ho q _ _ hq => ?_)
        rw [show w'.o = fun _ => none from x.oo] at hq
        cases hq
      | exn c y s' => rw [q2] at h1; exact h1.elim
      | stuck => rw [q2] at h1; exact h1.elim
    · exact h1.elim
  refine PySem.W.callWith_K (h₀ := X.base) I.ok.mod.kin hk (thn (ha.run pos pins s σ H _ I rd) fun us s1 ⟨vs, H1, I1, r, hl, q⟩ => ⟨I1.kIn, ?_⟩) he hpl
  have hl2 : us.length = ps.length := by rw [← r.length, hl, hn]
  have b := hb s1 us I1.kIn (by rw [List.append_nil]; exact hl2)
  rw [List.append_nil] at b
  have P1 := I1.pin (a, oe) (List.mem_append_left _ hp)
  have hpin : L2H.PinOk X.stack H1 s1 (a, oe) := ⟨P1.1, P1.2.1, fun hm => (List.mem_cons.mp (I1.stkSub a hm)).elim P1.2.2.1 P1.2.2.2.1, P1.2.2.2.2⟩
  refine wpAny_call (codeAny_mono (F.run X.A X.stack s1 H1 ⟨us, []⟩ us vs Q (a, oe) hr h1 hpin I1.env0 b r (by rw [hl, hn]) q) fun r s' hq => ?_)
  cases r with
  | error e => obtain ⟨a', B, H', cls, d, _, _, _, _, _, _, _, z⟩ := hq; exact z.elim
  | ok fl =>
    cases fl with
    | ret u => exact I1.after hq
    | next => exact False.elim hq
    | brk => exact False.elim hq
    | cont => exact False.elim hq
end
end MP
end

section
set_option Elab.async false
set_option linter.all false
set_option maxRecDepth 100000
set_option maxHeartbeats 4000000
/-! MP, part ox: chained comparisons, x += e, count, tables of the module, dicts of one's own. -/
namespace MP
open PySem PySem.Spec PyProof.Rows L2
section
variable {X : Cx} {G : Gd} {W : WX} {pos p : Pos} {a b c : Expr} {ma mb mc : ME} {st : Stmt} {sts : List Stmt}
theorem s_chain (hK : G.K = X.K) (hu : X.A.units + 64 < cLine) (o o' : Cmp) (ha : PE X a (tE G W ma)) (hb : PE X b (tE G W mb)) (hc : PE X c (tE G W mc)) (hm : lastMarks [o.o, o'.o] [b, c] = false) :
    PT X (.Compare a [o.o, o'.o] [b, c] pos) (tT G W (mChain o o' ma mb mc)) := by
  refine impT (pt_chain (op_rC hu o) (op_rC hu o') ha hb hc hm) fun σ H Q ⟨w, s, e, ok, er, h⟩ => ?_
  refine two (W := W) (R := fun x y H => rC X.K o x y H fun z H3 => ∃ k, z = .bl k ∧ if k = true then tE G W mc σ H3 (fun w' H4 => rC X.K o' y w' H4 fun x H' => ∃ k, x = .bl k ∧ Q k H') else ∃ k, V.bl false = .bl k ∧ Q k H3) ok er h fun w s H v v' u u' ok r r' er h => ?_
  cases q1 : rd s v with
  | none => rw [q1] at h; exact h.elim
  | some x =>
    cases q2 : rd s v' with
    | none => rw [q1, q2] at h; exact h.elim
    | some y =>
      rw [q1, q2] at h
      dsimp only at h
      cases q3 : cmpD o x y with
      | none => simp only [q3] at h; exact h.elim
      | some k =>
        simp only [q3] at h
        rw [← hK]
        refine cmp_ok (rd_ok ok r q1) (rd_ok ok r' q2) q3 ⟨k, rfl, ?_⟩
        cases k with
        | false => exact ⟨false, rfl, Post.hereB ok h⟩
        | true =>
          rw [if_pos rfl]
          have h : Post G W relB w H σ ((mc e s).bind fun z s => match rd s v', rd s z with
            | some y, some z => R.of (cmpD o' y z) s
            | _, _ => .stuck) Q := h
          refine ⟨w, s, e, ok, er, Post.bind (rel := relV G) h fun w2 s2 H2 v2 u2 x2 ok2 r2 h2 => ?_⟩
          obtain ⟨y, z, ry, rz, h2⟩ := rds_two ok2 (r'.ext ok x2) r2 h2
          obtain ⟨k, e, h2⟩ := of_ok h2
          exact cmp_ok ry rz e ⟨k, rfl, Post.hereB ok2 h2⟩
theorem s_chainV (hK : G.K = X.K) (hu : X.A.units + 64 < cLine) (o o' : Cmp) (ha : PE X a (tE G W ma)) (hb : PE X b (tE G W mb)) (hc : PE X c (tE G W mc)) (hm : lastMarks [o.o, o'.o] [b, c] = false) :
    PE X (.Compare a [o.o, o'.o] [b, c] pos) (tE G W (mBl (mChain o o' ma mb mc))) := by
  refine impE (pe_chain (op_rC hu o) (op_rC hu o') ha hb hc hm) fun σ H Q ⟨w, s, e, ok, er, h⟩ => ?_
  unfold mBl mChain at h
  have h : Post G W (relV G) w H σ ((ma e s).bind fun x s => (mb e s).bind fun y s => (match rd s x, rd s y with
  | some x, some y' => (R.of (cmpD o x y') s).bind fun k s => if k then (mc e s).bind fun z s => (match rd s y, rd s z with
    | some y, some z => R.of (cmpD o' y z) s
    | _, _ => .stuck) else .ok false s
  | _, _ => .stuck).bind fun b s => .ok (.d (.bl b)) s) Q := by
    revert h
    cases ma e s with
    | ok v s => dsimp only [R.bind_ok]; cases mb e s <;> exact id
    | exn c x s => exact id
    | stuck => exact id
  refine two (W := W) (R := fun x y H => rC X.K o x y H fun z H3 => ∃ k, z = .bl k ∧ if k = true then tE G W mc σ H3 (fun w' H4 => rC X.K o' y w' H4 Q) else Q (.bl false) H3) ok er h fun w s H v v' u u' ok r r' er h => ?_
  cases q1 : rd s v with
  | none => rw [q1] at h; exact h.elim
  | some x =>
    cases q2 : rd s v' with
    | none => rw [q1, q2] at h; exact h.elim
    | some y =>
      rw [q1, q2] at h
      dsimp only at h
      cases q3 : cmpD o x y with
      | none => simp only [q3] at h; exact h.elim
      | some k =>
        simp only [q3] at h
        rw [← hK]
        refine cmp_ok (rd_ok ok r q1) (rd_ok ok r' q2) q3 ⟨k, rfl, ?_⟩
        cases k with
        | false => exact Post.hereD ok h (rep_bl false)
        | true =>
          rw [if_pos rfl]
          have h : Post G W (relV G) w H σ ((mc e s).bind fun z s => (match rd s v', rd s z with
            | some y, some z => R.of (cmpD o' y z) s
            | _, _ => .stuck).bind fun b s => .ok (.d (.bl b)) s) Q := by
            revert h
            simp only [R.of_some, R.bind_ok, if_true]
            cases mc e s <;> exact id
          refine ⟨w, s, e, ok, er, Post.bind (rel := relV G) h fun w2 s2 H2 v2 u2 x2 ok2 r2 h2 => ?_⟩
          cases q4 : rd s2 v' with
          | none => rw [q4] at h2; exact h2.elim
          | some y2 =>
            cases q5 : rd s2 v2 with
            | none => rw [q4, q5] at h2; exact h2.elim
            | some z =>
              rw [q4, q5] at h2
              cases q6 : cmpD o' y2 z with
              | none => simp only [q6] at h2; exact h2.elim
              | some k =>
                simp only [q6] at h2
                exact cmp_ok (rd_ok ok2 (r'.ext ok x2) q4) (rd_ok ok2 r2 q5) q6 (Post.hereD ok2 h2 (rep_bl k))
/-! ### x += e -/
def augOf : Operator → Option Op
  | .Add => some .add
  | .Sub => some .sub
  | _ => none
theorem ip_aug {o : Op} {op : Operator} (h : augOf op = some o) : PIp X op (fun x y H Q => ∃ i j k, x = .int i ∧ y = .int j ∧ opI o i j = some k ∧ Q (.int k) H) := by
  intro pins s σ H x y v u Q I r1 r2 ⟨i, j, k, e1, e2, e3, q⟩
  cases op <;> cases h
  · cases e3
    exact ip_add pins s σ H x y v u Q I r1 r2 ⟨i, j, e1, e2, q⟩
  · cases e3
    exact ip_sub pins s σ H x y v u Q I r1 r2 ⟨i, j, e1, e2, q⟩
theorem s_aug {i : Nat} {x : Str} {o : Op} {op : Operator} {pos' : Pos} (ho : augOf op = some o) (hN : X.N.Nodup) (hi : X.N[i]? = some x) (hx : Loc X.env.scope x) (he : PE X a (tE G W ma)) (hf : X.fn x = true ∨ X.env.scope.names.lookup x = some .local) :
    PS X (.AugAssign (.Name x pos') op a pos) (tS G W (mAug i o ma)) := by
  refine impS (ps_aug hN hi hx he (ip_aug ho) hf) fun D σ H ⟨w, s, e, ok, er, h⟩ => ?_
  unfold mAug at h
  split at h
  · rename_i k q
    obtain ⟨u, hu, r⟩ := er.slot i _ q
    have hk := int_inv (slot_d r)
    subst hk
    refine ⟨_, hu, w, s, e, ok, er, PostS.go ok er h fun w1 s1 H1 v u x1 ok1 r1 er1 h3 => ?_⟩
    split at h3
    · rename_i l
      split at h3
      · rename_i m q2
        exact ⟨k, l, m, rfl, int_inv (slot_d r1), q2, h3 w1 H1 _ (Step.refl) ok1 (er1.setV (v := .d (.int m)) (u := .int m) i (rep_int (K := G.K) (N := w1.N) (H := H1) m) rfl)⟩
      · exact h3.elim
    · exact h3.elim
  · exact h.elim
/-! ### t.count(i) -/
def rCntT (K : PySem.W.Frag) : V → List V → Hp → VK → Prop := fun x xs H Q => ∃ (p : Addr) (ns : List Int) (k : Int), x = .ref p ∧ xs = [.int k] ∧ SqT K H p (ns.map V.int) ∧ Q (.int (ns.count k : Nat)) H
theorem mt_tcount : MtR X "tuple.count" (rCntT X.K) := by
  intro pins s σ H x xs v us Q I rx rxs h
  obtain ⟨p, ns, k, rfl, rfl, hs, q⟩ := h
  cases rx
  obtain ⟨u, rfl, ru⟩ := rxs.one
  obtain ⟨t, rfl⟩ := ru
  obtain ⟨its, rv, ⟨⟨cls, dd, data, sl⟩, ho, hc, n, hd⟩, hlen⟩ := I.tuple hs
  simp only at hc hd
  subst hc hd
  have hi := ints_of_vals rv
  refine call_meets PySem.F.slot_tuple_count ⟨_, ho, rfl⟩ PySem.F.entry_tuple_count (PySem.F.args_tuple_count_2 _ _)
    (SeqAt.tuple_countAt p its.toArray n dd sl (.int k t) (eqk k)) ⟨ho, fun y hy => (eqk_gives hi y (by simpa using hy)).at _ _, ?_⟩
  have ec : its.toArray.toList.countP (eqk k) = ns.count k := eqk_count hi
  refine ⟨.int (ns.count k : Nat), H, I.tok _, ⟨s.toks, ?_⟩, q⟩
  show Value.int ((its.toArray.toList.countP (eqk k) : Nat) : Int) s.toks = Value.int ((ns.count k : Nat) : Int) s.toks
  rw [ec]
/-- a method of a tuple whose own dict is known to be none -/
def tBQ (r : V → List V → Hp → VK → Prop) (to : TE) (t : TA) : TE := fun σ H Q => to σ H fun x H1 => (∃ (q : Addr) (o : Obj) (ys : List V), x = .ref q ∧ o.dict = none ∧ H1 q = some (.frz o (.tup ys))) ∧ t σ H1 fun xs H2 => r x xs H2 Q
theorem pe_bq {o1 e1 : Expr} {es : List Expr} {to : TE} {ta : TA} {nm : Str} {ap cp : Pos} {id : String} {r : V → List V → Hp → VK → Prop} (sl : Slot "tuple" nm id) (ty : typeOf (.builtin id) = pure (.type "method_descriptor")) (mr : MtR X id r)
    (po : PE X o1 to) (pa : PA X (e1 :: es) ta) (hb : attrOk o1 nm X.env) (hf : few X (e1 :: es) cp) (hl : (ap.endLine == cp.line) = true) (hs : starEach (e1 :: es) X.env = (false, eval e1 X.env) :: starEach es X.env) (hp : (backTo cp (starEach es X.env)).any (·.1) = false) :
    PE X (.Call (.Attribute o1 nm ap) (e1 :: es) [] cp) (tBQ r to ta) := by
  refine ⟨fun pins s σ H Q I h => ?_⟩
  refine wpAny_Call_method_late hb hf hl rfl (thn (po.run pins s σ H _ I h) fun v s1 ⟨x, H1, J, rx, ⟨q, o, ys, ex, hd, hq⟩, h1⟩ => ?_)
  subst ex
  cases rx
  obtain ⟨_, _, tt, _⟩ := J.tuple (xs := ys) (.inl (.inr ⟨o, hq⟩))
  obtain ⟨o2, g2, c2, _⟩ := tt
  have g1 : s1.heap.get? q = some o := (show s1.heap.get? q = some o ∧ ObjOk X.prog X.w H1 s1.heap q (.tup ys) from J.hok q _ hq).1
  have eo : o2 = o := by rw [g1] at g2; exact (Option.some.inj g2).symm
  subst eo
  refine ⟨"tuple", id, PySem.F.plainAttrs_tuple, sl, ty, ⟨o2, g1, c2⟩, fun z ez => by cases ez; exact ⟨o2, g1, hd⟩, ?_⟩
  have hA := pa.run cp pins s1 σ H1 _ J h1
  rw [hs] at hA ⊢
  refine Calls.callWith_builtin (by show (false || (backTo cp (starEach es X.env)).any (·.1)) = false; rw [hp]; rfl) (Calls.evalArgs_plain ?_)
  exact thn hA fun us s2 ⟨vs, H2, J2, r2, q2⟩ => mr pins s2 σ H2 (.ref q) vs (.ref q) us Q J2 rfl r2 q2
theorem s_count (hK : G.K = X.K) {apos : Pos} (ha : PE X a (tE G W ma)) (hb : PE X b (tE G W mb)) (hbase : attrOk a "count" X.env) (hf : few X [b] pos) (hl : (apos.endLine == pos.line) = true) (hs : starEach [b] X.env = (false, eval b X.env) :: starEach [] X.env) :
    PE X (.Call (.Attribute a "count" apos) [b] [] pos) (tE G W (mCount ma mb)) := by
  refine impE (pe_bq PySem.F.slot_tuple_count PySem.F.type_tuple_count mt_tcount ha (pa_cons hb pa_nil hs) hbase hf hl hs rfl) fun σ H Q ⟨w, s, e, ok, er, h⟩ => ?_
  refine ⟨w, s, e, ok, er, Post.bind (rel := relV G) h fun w1 s1 H1 v u x1 ok1 r1 h1 => ?_⟩
  split at h1
  · rename_i xs
    obtain ⟨q, vs, rfl, ⟨o, hd, hq⟩, hz, hr⟩ := rep_tuq_inv (slot_d r1)
    refine ⟨⟨q, o, vs, rfl, hd, hq⟩, w1, s1, e, ok1, er.ext ok x1, Post.bind (rel := relV G) h1 fun w2 s2 H2 v2 u2 x2 ok2 r2 h2 => ?_⟩
    split at h2
    · rename_i i
      split at h2
      · rename_i ns qn
        have r3 := slot_d (r1.ext ok1 x2)
        obtain ⟨q', vs', e', ⟨o', _, hq'⟩, _, hr'⟩ := rep_tuq_inv r3
        cases e'
        rw [ints_ok qn] at hr'
        rw [reps_int hr'] at hq'
        exact ⟨q, ns, i, rfl, by rw [int_inv (slot_d r2)], .inl (.inr ⟨o', hq'⟩), Post.hereD ok2 h2 (rep_int _)⟩
      · exact h2.elim
    · exact h2.elim
  · exact h1.elim
/-! ### a tuple whose own dict is known to be none -/
def tTuqE (t : TA) : TE := fun σ H Q => t σ H fun xs H1 => xs.length ≤ sizeLine ∧ ∀ (q : Addr) (o : Obj), H1 q = none → o.dict = none → Q (.ref q) (upd H1 q (.frz o (.tup xs)))
theorem pe_tuq {es : List Expr} {t : TA} {x1} (h : PA X es t) : PE X (.Tuple es x1 pos) (tTuqE t) := by
  refine ⟨fun pins s σ H Q I hq => ?_⟩
  refine wpAny_Tuple_spliced (thn (h.run pos pins s σ H _ I hq) fun us s1 ⟨xs, H1, J, r, hz, q⟩ => ⟨by rw [← r.length]; exact hz, ?_⟩)
  have ho : ObjOk X.prog X.w H1 (s1.heap.push { cls := .type "tuple", data := .seq us.toArray }) s1.heap.objs.size (.tup xs) := ⟨hz, us, r, IsTup.new _ _⟩
  have J2 := J.laid (t' := s1.toks) (o := .frz { cls := .type "tuple", data := .seq us.toArray } (.tup xs)) (fun _ _ e => Heap.get?_push_of_some _ e) (Nat.le_refl _) ⟨Heap.get?_push_size _ rfl, ho⟩
  exact ⟨.ref s1.heap.objs.size, _, J2, rfl, q _ _ (J.hok.fresh (Nat.le_refl _)) rfl⟩
theorem s_tuq {es : List Expr} {ms : ML} {x1} (hl : PA X es (tL G W ms)) : PE X (.Tuple es x1 pos) (tE G W (mTuq ms)) := by
  refine impE (pe_tuq hl) fun σ H Q ⟨w, s, e, ok, er, h⟩ => ?_
  refine ⟨w, s, e, ok, er, Post.bind (rel := relL G) h fun w1 s1 H1 v u x1 ok1 r1 h1 => ?_⟩
  cases q : datas v with
  | none => rw [q] at h1; exact h1.elim
  | some xs =>
    rw [q] at h1
    dsimp only at h1
    split at h1
    · rename_i hl
      have r := datas_rep r1 q
      rw [r.length] at hl
      exact ⟨by rw [← line_eq]; exact hl, Post.newQ ok1 h1 r hl⟩
    · exact h1.elim
/-! ### a table of the module -/
/-- the table at x -/
def TabAt (X : Cx) (K : PySem.W.Frag) (x : Str) (kvs : List (Str × D)) : Prop := ∃ a : Addr, X.mg x = some (.ref a) ∧ ∀ z y, kvs.lookup z = some y → ∀ (N : Addr → Prop) (H : Hp), ∃ v, KDct X.K X.w a z v ∧ Rep K N H y v
theorem s_tab {x : Str} {p1 : Pos} {kvs : List (Str × D)} (ht : TabAt X G.K x kvs) (hg : Gl X x) (hd : (x == ("__debug__" : Str)) = false) (hs : PlainIx a) (ha : PE X a (tE G W ma)) : PE X (.Subscript (.Name x p1) a pos) (tE G W (mTab kvs ma)) := by
  obtain ⟨ad, hm, hk⟩ := ht
  refine impE (pe_ix ix_kdict (pe_glob (v := .ref ad) hg hm rfl hd) ha hs) fun σ H Q ⟨w, s, e, ok, er, h⟩ => ?_
  refine ⟨w, s, e, ok, er, Post.bind (rel := relV G) h fun w1 s1 H1 v u x1 ok1 r1 h1 => ?_⟩
  split at h1
  · rename_i z
    split at h1
    · rename_i y q
      obtain ⟨v, k1, k2⟩ := hk z y q w1.N H1
      exact ⟨ad, z, v, rfl, str_inv (slot_d r1), k1, Post.hereD ok1 h1 k2⟩
    · exact h1.elim
  · exact h1.elim
/-! ### dicts of one's own -/
variable {w w1 : Wd} {s : S} {H H1 : Hp} {e : Env} {σ : L2.St} {q : Addr}
theorem EnvR.lastO (L : Last w.N w1.N H H1) (ha : w1.α = w.α) (hO : ∀ q r, w.o q = some r → w1.o q = some r) (hk : ∀ q o, H q = some o → w.O q → H1 q = some o) (er : EnvR G w H e σ) : EnvR G w1 H1 e σ := by
  refine ⟨er.len, fun i v hv => ?_, er.sep⟩
  obtain ⟨u, h1, h2⟩ := er.slot i v hv
  refine ⟨u, h1, ?_⟩
  cases v with
  | d y => exact Rep.last L y h2
  | ref n => obtain ⟨q, e1, e2⟩ := h2; exact ⟨q, ha ▸ e1, e2⟩
  | own xs => obtain ⟨q, vs, e1, ho, e2, hz, e3⟩ := h2; exact ⟨q, vs, e1, hO q q ho, hk q _ e2 (Wd.top ho), hz, Reps.last L xs e3⟩
  | snap xs => obtain ⟨q, vs, e1, ho, e2, hz, e3⟩ := h2; exact ⟨q, vs, e1, hO q q ho, hk q _ e2 (Wd.top ho), hz, Reps.last L xs e3⟩
  | ownT ks xs => obtain ⟨q, vs, e1, ho, e2, hk', hz, e3⟩ := h2; exact ⟨q, vs, e1, hO q q ho, hk q _ e2 (Wd.top ho), hk', hz, Reps.last L xs e3⟩
  | own2 xss => obtain ⟨q, vs, e1, ho, e2, hz, e3⟩ := h2; exact ⟨q, vs, e1, hO q q ho, hk q _ e2 (Wd.top ho), hz, e3.map (fun r h => hO r q h) (fun r u h hr => hk r u hr (Wd.top h)) fun xs us => Reps.last L xs⟩
  | exc c y => obtain ⟨a, d, e1, e2, e3⟩ := h2; exact ⟨a, d, e1, e2, e3.last L⟩
  | scr ns =>
    obtain ⟨q, e1, e2, hz⟩ := h2
    refine ⟨q, e1, ?_, hz⟩
    rcases e2 with ⟨o, e2⟩ | e2
    · exact .inl ⟨o, frz.last L e2⟩
    · exact .inr e2
/-- a new object is one's own -/
def newB (w : Wd) (q : Addr) : Wd := { w with o := fun r => if r = q then some q else w.o r }
theorem newB_same (w : Wd) (q : Addr) : (newB w q).o q = some q := if_pos rfl
theorem newB_ne {w : Wd} {q r : Addr} (h : r ≠ q) : (newB w q).o r = w.o r := if_neg h
theorem Ok.newO (ok : Ok G w s H) (hn : H q = none) {o : HO} (n1 : ∀ xs, o ≠ .tup xs) (n2 : ∀ ob u, o ≠ .frz ob u) :
    Ok G (newB w q) s (upd H q o) ∧ Last w.N (newB w q).N H (upd H q o) ∧ Step w H (newB w q) (upd H q o) := by
  have nb : ¬ w.N q := ok.notN hn
  have L : Last w.N (newB w q).N H (upd H q o) := by
    refine ⟨fun r u h _ => grow_upd hn r u h, fun r h => ?_, ok.mu⟩
    by_cases e : r = q
    · subst e; exact .inr hn
    · rcases h with h | h
      · exact .inl (.inl h)
      · rw [Wd.O, newB_ne e] at h; exact .inl (.inr h)
  refine ⟨⟨ok.nd, ok.len, fun n xs r h1 h2 => ?_, ok.ab, fun r hb hr => ?_, fun r hr => ?_⟩, L, ⟨⟨[], by simp [newB], by simp⟩, fun _ h => h, fun _ h => .inl h, fun r h => ?_, fun r u h _ _ => grow_upd hn r u h, fun r hr => ?_⟩⟩
  · obtain ⟨vs, h3, hz, h4⟩ := ok.cells n xs r h1 h2
    exact ⟨vs, grow_upd hn r _ h3, hz, Reps.last L xs h4⟩
  · by_cases e : r = q
    · subst e; exact nb (.inl hb)
    · rw [Wd.O, newB_ne e] at hr; exact ok.bo r hb hr
  · by_cases e : r = q
    · subst e; exact ⟨o, upd_same, n1, n2⟩
    · have hr' : w.N r := by
        rcases hr with h | h
        · exact .inl h
        · rw [Wd.O, newB_ne e] at h; exact .inr h
      obtain ⟨u, e1, e2⟩ := ok.mu r hr'
      exact ⟨u, by rw [upd_ne e]; exact e1, e2⟩
  · by_cases e : r = q
    · subst e; exact .inr hn
    · rw [Wd.O, newB_ne e] at h; exact .inl h
  · by_cases e : r = q
    · subst e; exact hn
    · rw [upd_ne e] at hr; exact hr
theorem s_asgE {i : Nat} {x : Str} {pos' : Pos} (hN : X.N.Nodup) (hi : X.N[i]? = some x) (hx : Loc X.env.scope x) (hs : swapsWith (.Dict [] [] p) (some (.Name x pos')) pos.line X.env = pure false) (hf : X.fn x = true ∨ X.env.scope.names.lookup x = some .local) :
    PS X (.Assign [.Name x pos'] (.Dict [] [] p) pos) (tS G W (mAsgE i)) := impS (ps_set hN hi hx pe_dnewT hs hf) fun D σ H ⟨w, s, e, ok, er, h⟩ => by
  intro q hn
  obtain ⟨ok2, L, st⟩ := ok.newO hn (o := .dT []) (fun xs h => by cases h) (fun ob u h => by cases h)
  have er2 := er.lastO (w1 := newB w q) L rfl (fun r t h => by rw [newB_ne fun z => ok.notN hn (.inr (Wd.top (by rw [← z]; exact h)))]; exact h) (fun r o h _ => grow_upd hn r o h)
  refine h _ _ _ st ok2 (er2.setG i ⟨q, [], rfl, newB_same w q, upd_same, rfl, ⟨Nat.zero_le _, fun k hk => by cases hk⟩, .nil⟩ fun j v hj hv hov z => ?_)
  obtain ⟨u, h1, h2⟩ := er.slot j v hv
  rw [z] at h1
  cases h1
  cases v with
  | own ys => obtain ⟨r, _, e1, ho, _⟩ := h2; cases e1; exact ok.notN hn (.inr (Wd.top ho))
  | snap ys => obtain ⟨r, _, e1, ho, _⟩ := h2; cases e1; exact ok.notN hn (.inr (Wd.top ho))
  | ownT ks ys => obtain ⟨r, _, e1, ho, _⟩ := h2; cases e1; exact ok.notN hn (.inr (Wd.top ho))
  | own2 ys => obtain ⟨r, _, e1, ho, _⟩ := h2; cases e1; exact ok.notN hn (.inr (Wd.top ho))
  | _ => cases hov
theorem keys_rep {N : Addr → Prop} : ∀ {ds : List D} {k : List Key} {vs : List V}, keysOfD ds = some k → Reps G.K N H ds vs → vs = k.map kV
  | [], k, vs, h, r => by cases h; unfold Reps at r; exact r
  | d :: ds, k, vs, h, r => by
    unfold Reps at r
    obtain ⟨v, r', rfl, h1, h2⟩ := r
    unfold keysOfD at h
    cases d with
    | int i =>
      dsimp only [keyOfD] at h
      cases q : keysOfD ds with
      | none => rw [q] at h; cases h
      | some k' =>
        rw [q] at h; cases h
        unfold Rep at h1
        rw [h1, keys_rep q h2]; rfl
    | str i =>
      dsimp only [keyOfD] at h
      cases q : keysOfD ds with
      | none => rw [q] at h; cases h
      | some k' =>
        rw [q] at h; cases h
        unfold Rep at h1
        rw [h1, keys_rep q h2]; rfl
    | _ => cases h
theorem keysOf_len : ∀ {ds : List D} {k : List Key}, keysOfD ds = some k → k.length = ds.length
  | [], k, h => by cases h; rfl
  | d :: ds, k, h => by
    unfold keysOfD at h
    split at h
    · cases q : keysOfD ds with
      | none => rw [q] at h; cases h
      | some k' => rw [q] at h; cases h; rw [List.length_cons, List.length_cons, keysOf_len q]
    · cases h
theorem put_map {N : Addr → Prop} {k : List Key} {x : D} {u : V} (r : Rep G.K N H x u) : ∀ {kvs : List (List Key × V)} {xs : List D}, Reps G.K N H xs (kvs.map fun (q : List Key × V) => q.2) →
    Reps G.K N H (((kvs.map fun (q : List Key × V) => q.1).zip xs).map fun q => if q.1 = k then x else q.2) ((kvs.map fun kv => if kv.1 = k then (kv.1, u) else kv).map fun (q : List Key × V) => q.2)
  | [], xs, h => by unfold Reps; rfl
  | p :: kvs, xs, h => by
    cases xs with
    | nil => unfold Reps at h; cases h
    | cons y ys =>
      unfold Reps at h
      obtain ⟨v, r', e, h1, h2⟩ := h
      cases e
      refine .cons ?_ (put_map r h2)
      by_cases hk : p.1 = k
      · dsimp only
        rw [if_pos hk, if_pos hk]; exact r
      · dsimp only
        rw [if_neg hk, if_neg hk]; exact h1
theorem put_rep {N : Addr → Prop} {k : List Key} {x : D} {u : V} (r : Rep G.K N H x u) {kvs : List (List Key × V)} {xs : List D} (h : Reps G.K N H xs (kvs.map fun (q : List Key × V) => q.2)) :
    (putK kvs k u).map (fun (q : List Key × V) => q.1) = (putT (kvs.map fun (q : List Key × V) => q.1) xs k x).1 ∧ Reps G.K N H (putT (kvs.map fun (q : List Key × V) => q.1) xs k x).2 ((putK kvs k u).map fun (q : List Key × V) => q.2) := by
  have e : ((kvs.map fun (q : List Key × V) => q.1).any fun l => decide (l = k)) = kvs.any fun kv => decide (kv.1 = k) := by
    rw [List.any_map]; rfl
  unfold putT putK
  rw [e]
  split
  · refine ⟨?_, put_map r h⟩
    rw [List.map_map]
    refine List.map_congr_left fun kv _ => ?_
    dsimp only [Function.comp]
    split <;> rfl
  · rw [List.map_append, List.map_append]
    exact ⟨rfl, h.append (.one r)⟩
theorem put_len {k : List Key} {u : V} {kvs : List (List Key × V)} : (putK kvs k u).length ≤ kvs.length + 1 := by
  unfold putK
  split
  · rw [List.length_map]; omega
  · rw [List.length_append]; exact Nat.le_refl _
theorem putT_len {k : List Key} {ks : List (List Key)} {xs : List D} {x : D} (h : ∀ l ∈ ks, l.length ≤ line) (hk : k.length ≤ line) : ∀ l ∈ (putT ks xs k x).1, l.length ≤ line := by
  intro l hl
  unfold putT at hl
  split at hl
  · exact h l hl
  · rcases List.mem_append.mp hl with hl | hl
    · exact h l hl
    · rw [List.mem_singleton.mp hl]; exact hk
theorem ownT_of {w : Wd} {H : Hp} {e : Env} {i : Nat} {f : List (List Key) → List D → F} {D : Ends} (h : PostS G W w H (match e[i]? with
    | some (some (.ownT ks xs)) => f ks xs
    | _ => .stuck) D) : ∃ ks xs, e[i]? = some (some (.ownT ks xs)) ∧ PostS G W w H (f ks xs) D := by
  split at h
  · rename_i ks xs q; exact ⟨ks, xs, q, h⟩
  · exact h.elim
theorem s_setT {i : Nat} {x : Str} {p1 p2 p4 : Pos} {j : Expr} {mj : ME} {p3 : Pos} (hu : X.A.units + 1 < cLine) (hN : X.N[i]? = some x) (hv : Vis X.env.scope x) (hd : (x == ("__debug__" : Str)) = false) (hcd : (x == ("__classdict__" : Str)) = false)
    (ha : PE X a (tE G W ma)) (hj : PE X j (tE G W mj)) (hg : Gl X "tuple") (hm : X.mg "tuple" = none) (hst : starEach [j] X.env = (false, eval j X.env) :: starEach [] X.env) (hK : G.K = X.K)
    (hsw : swapsWithSole [.Subscript (.Name x p1) (.Call (.Name "tuple" p2) [j] [] p4) p3] a pos.line X.env = pure false) (hw : swappedStores [.Subscript (.Name x p1) (.Call (.Name "tuple" p2) [j] [] p4) p3] a X.env = pure none)
    (hasg : ∀ v, assign (.Subscript (.Name x p1) (.Call (.Name "tuple" p2) [j] [] p4) p3) X.env v = (do
      let ov ← holding [v] (eval (.Name x p1) X.env)
      let iv ← holding [v, ov] (eval (.Call (.Name "tuple" p2) [j] [] p4) X.env)
      standAt p3
      holding [v, ov, iv] (setItem ov iv v)
      release [v, ov, iv] [])) : PS X (.Assign [.Subscript (.Name x p1) (.Call (.Name "tuple" p2) [j] [] p4) p3] a pos) (tS G W (mSetT i mj ma)) := by
  have pa : PA X [j] (tCons (tE G W mj) tNil) := pa_cons hj pa_nil hst
  have pt := pe_callTy (pos := p4) (p := p2) (cr_b1 (X := X) .tuple (fun h => nomatch h)) hg hm (by decide +kernel) pa (by decide +kernel) (by decide +kernel) hst rfl
  refine impS (ps_asg ha (pg_sub (pe_var hN hv hd hcd) pt (set_dict hu) hasg) hsw hw rfl) fun D σ H ⟨w, s, e, ok, er, h⟩ => ?_
  refine ⟨w, s, e, ok, er, PostS.go ok er h fun w1 s1 H1 v u x1 ok1 r1 er1 h3 => ?_⟩
  obtain ⟨ks, xs, q, h3⟩ := ownT_of h3
  obtain ⟨u0, hu0, pd, kvs, rfl, ho, h1, hk, hz, h2⟩ := er1.slot i _ q
  refine ⟨.ref pd, hu0, w1, s1, e, ok1, er1, PostS.go ok1 er1 h3 fun w2 s2 H2 v2 u2 x2 ok2 r2 er2 h4 => ?_⟩
  have r1 := r1.ext ok1 x2
  cases v with
  | d y =>
    cases v2 with
    | d z =>
      cases z with
      | lst ds =>
        cases qk : keysOfD ds with
        | none => simp only [qk] at h4; exact h4.elim
        | some k =>
          simp only [qk] at h4
          split at h4
          · rename_i hl
            have rl : Rep G.K w2.N H2 (.lst ds) u2 := r2
            unfold Rep at rl
            obtain ⟨pl, vs, rfl, _, hpl, hvz, hr⟩ := rl
            have hvs := keys_rep qk hr
            subst hvs
            refine ⟨pl, _, rfl, .inl ⟨.inl (.inl hpl), fun l hl2 => ?_⟩⟩
            obtain ⟨ok3, x3⟩ := ok2.grow (grow_upd (o := .tup (k.map kV)) hl2)
            have er3 := er2.ext ok2 x3
            obtain ⟨u3, hu3, pd3, kvs3, e3, ho3, hd3, hk3, ⟨hz3, hkz3⟩, hr3⟩ := er3.slot i _ q
            rw [hu0] at hu3
            cases hu3
            cases e3
            have hlen : kvs3.length < line := by
              have z := congrArg List.length hk3
              rw [List.length_map] at z
              rw [z]; exact hl.1
            obtain ⟨ok4, L4, st4⟩ := ok3.putG (Wd.top ho3) (.dT (putK kvs3 k u)) (fun xs h => by cases h) (fun ob u h => by cases h)
            obtain ⟨g1, g2⟩ := put_rep (k := k) (kvs := kvs3) (r1.ext ok2 x3 : Rep G.K w2.N _ y u) hr3
            rw [hk3] at g1 g2
            refine ⟨pd, _, rfl, DPut.t hd3 upd_same (by rw [← line_eq]; exact hlen), ?_⟩
            refine h4 w2 _ σ ((x3.step ok3).trans st4) ok4 (EnvR.putG ok3 er3 q rfl hu0 ho3 ho3 L4 ⟨pd, putK kvs3 k u, rfl, ho3, upd_same, g1, ⟨Nat.le_trans put_len hlen, putT_len hkz3 (by rw [keysOf_len qk]; exact hl.2)⟩, Reps.last L4 _ g2⟩)
          · exact h4.elim
      | _ => exact h4.elim
    | _ => exact h4.elim
  | _ => exact h4.elim
end
end MP
end

section
set_option Elab.async false
set_option linter.all false
set_option maxRecDepth 100000
set_option maxHeartbeats 4000000
/-! MP, part oy: pop. -/
namespace MP
open PySem PySem.Spec PyProof.Rows L2
section
variable {X : Cx} {G : Gd} {W : WX} {pos p : Pos} {a b c : Expr} {ma mb mc : ME} {st : Stmt} {sts : List Stmt}
variable {w w1 : Wd} {s : S} {H H1 : Hp} {e : Env} {σ : L2.St} {q : Addr}
theorem Reps.erase {N : Addr → Prop} : ∀ {xs : List D} {vs : List V} (m : Nat), Reps G.K N H xs vs → Reps G.K N H (xs.eraseIdx m) (vs.eraseIdx m)
  | [], vs, m, h => by unfold Reps at h; subst h; exact .nil
  | x :: xs, vs, m, h => by
    unfold Reps at h
    obtain ⟨v, r, rfl, h1, h2⟩ := h
    cases m with
    | zero => exact h2
    | succ m => exact .cons h1 (Reps.erase m h2)
theorem popN_ok {N : Addr → Prop} {xs ys : List D} {vs : List V} {k : Int} {y : D} (r : Reps G.K N H xs vs) (h : popN xs k = some (y, ys)) : ∃ m u, seqIndex? k vs.length = some m ∧ vs[m]? = some u ∧ Rep G.K N H y u ∧ Reps G.K N H ys (vs.eraseIdx m) := by
  unfold popN at h
  cases q1 : ixN xs.length k with
  | none => rw [q1] at h; cases h
  | some m =>
    rw [q1] at h
    dsimp only at h
    cases q2 : xs[m]? with
    | none => rw [q2] at h; cases h
    | some y' =>
      rw [q2] at h
      cases h
      obtain ⟨u, h1, h2⟩ := r.get q2
      refine ⟨m, u, ?_, h1, h2, Reps.erase m r⟩
      rw [r.length] at q1
      unfold ixN at q1
      unfold seqIndex?
      split at q1
      · rename_i h0
        split at q1
        · rename_i hl
          cases q1
          have e1 : (if k < 0 then k + (vs.length : Int) else k) = k := if_neg (by omega)
          simp only [e1]
          rw [if_pos (by simp only [Bool.and_eq_true, decide_eq_true_eq]; omega)]
        · cases q1
      · rename_i h0
        split at q1
        · rename_i hl
          cases q1
          have e1 : (if k < 0 then k + (vs.length : Int) else k) = k + vs.length := if_pos (by omega)
          simp only [e1]
          rw [if_pos (by simp only [Bool.and_eq_true, decide_eq_true_eq]; omega)]
        · cases q1
variable {x : Str} {j : Nat} {p1 apos cp : Pos}
abbrev tPopE (X : Cx) (G : Gd) (W : WX) (j : Nat) (ma : ME) : TE := tBM X.K "list" rPopAt (tVar j) (tCons (tE G W ma) tNil)
theorem pe_popE (hN : X.N[j]? = some x) (hv : Vis X.env.scope x) (hd : (x == ("__debug__" : Str)) = false) (hcd : (x == ("__classdict__" : Str)) = false) (ha : PE X a (tE G W ma))
    (hf : few X [a] cp) (hl : (apos.endLine == cp.line) = true) (hs : starEach [a] X.env = (false, eval a X.env) :: starEach [] X.env) : PE X (.Call (.Attribute (.Name x p1) "pop" apos) [a] [] cp) (tPopE X G W j ma) :=
  pe_bm F.plainAttrs_list F.slot_list_pop F.type_list_pop mt_popAt (pe_var hN hv hd hcd) (pa_cons ha pa_nil hs) rfl hf hl hs rfl
theorem pop_read {f : D → MS} {D : Ends} {Q : VK} (h : tS G W (mPop j ma f) D σ H) (hQ : ∀ w s e y u H', Ok G w s H' → EnvR G w H' e σ → Rep G.K w.N H' y u → PostS G W w H' (f y e s) D → Q u H') : tPopE X G W j ma σ H Q := by
  obtain ⟨w, s, e, ok, er, h⟩ := h
  unfold mPop at h
  obtain ⟨xs, q, h⟩ := own_of h
  obtain ⟨u, hu, p, vs, rfl, ho, h1, hz, h2⟩ := er.slot j _ q
  refine ⟨.ref p, hu, .inl ⟨rfl, vs, .inl (.inl h1)⟩, ?_⟩
  refine ⟨w, s, e, ok, er, PostS.go ok er h fun w1 s1 H1 v u x1 ok1 r1 er1 h3 => ?_⟩
  obtain ⟨vs', ho', h1', hz', h2'⟩ := own_at er1 q hu
  split at h3
  · rename_i k
    split at h3
    · rename_i hk
      split at h3
      · rename_i y ys qp
        obtain ⟨m, u', g1, g2, g3, g4⟩ := popN_ok h2' qp
        obtain ⟨ok4, L4, st4⟩ := ok1.putO (Wd.top ho') (vs'.eraseIdx m) h1'
        refine ⟨p, vs', k, m, u', rfl, by rw [int_inv (slot_d r1)], h1', by omega, by omega, g1, g2, ?_⟩
        exact hQ w1 s1 _ y u' _ ok4 (er1.putO ok1 q hu ho' h1' (Nat.le_trans (List.length_eraseIdx_le ..) hz') g4) (Rep.last L4 y g3) (PostS.mono st4 h3)
      · exact h3.elim
    · exact h3.elim
  · exact h3.elim
theorem s_popA {i : Nat} {y : Str} {pos' : Pos} (hN : X.N.Nodup) (hi : X.N[i]? = some y) (hx : Loc X.env.scope y) {e : Expr} (he : PE X e (tPopE X G W j ma)) (hs : swapsWith e (some (.Name y pos')) pos.line X.env = pure false) (hf : X.fn y = true ∨ X.env.scope.names.lookup y = some .local) :
    PS X (.Assign [.Name y pos'] e pos) (tS G W (mPopA i j ma)) := impS (ps_set hN hi hx he hs hf) fun D σ H h => pop_read h fun w s e y u H' ok er r h => h w H' _ .refl ok (er.setV (v := .d y) (u := u) i r rfl)
theorem s_popE {e : Expr} (he : PE X e (tPopE X G W j ma)) (hs : swapsWith e none pos.line X.env = pure false) : PS X (.Expr e pos) (tS G W (mPopE j ma)) :=
  impS (ps_expr he hs) fun D σ H h => pop_read h fun w s e y u H' ok er r h => h w H' _ .refl ok er
theorem s_popP {r : Nat} {y : Str} {p2 p3 ap2 : Pos} {e : Expr} (hN : X.N[r]? = some y) (hv : Vis X.env.scope y) (hd : (y == ("__debug__" : Str)) = false) (hcd : (y == ("__classdict__" : Str)) = false) (he : PE X e (tPopE X G W j ma))
    (hf : few X [e] pos) (hl : (ap2.endLine == pos.line) = true) (hs : starEach [e] X.env = (false, eval e X.env) :: starEach [] X.env) : PS X (.Expr (.Call (.Attribute (.Name y p2) "append" ap2) [e] [] pos) p3) (tS G W (mPopP r j ma)) := by
  refine impS (ps_expr (pe_bm F.plainAttrs_list F.slot_list_append F.type_list_append mt_append (pe_var hN hv hd hcd) (pa_cons he pa_nil hs) rfl hf hl hs rfl) rfl) fun D σ H ⟨w, s, e, ok, er, h⟩ => ?_
  unfold mPopP at h
  obtain ⟨xs, q, h⟩ := own_of h
  obtain ⟨u, hu, p, vs, rfl, ho, h1, hz, h2⟩ := er.slot r _ q
  refine ⟨.ref p, hu, .inl ⟨rfl, vs, .inl (.inl h1)⟩, ?_⟩
  refine pop_read (D := D) ⟨w, s, e, ok, er, h⟩ fun w2 s2 e2 y2 u2 H2 ok2 er2 r2 h3 => ?_
  obtain ⟨zs, q2, h3⟩ := own_of h3
  obtain ⟨vs', ho', h1', hz', h2'⟩ := own_at er2 q2 hu
  split at h3
  · rename_i hlt
    rw [h2'.length] at hlt
    obtain ⟨ok4, L4, st4⟩ := ok2.putO (Wd.top ho') (vs' ++ [u2]) h1'
    exact ⟨p, vs', u2, rfl, rfl, h1', by rw [← line_eq]; exact hlt, h3 w2 _ σ st4 ok4 (er2.putO ok2 q2 hu ho' h1' (by rw [List.length_append]; exact hlt) (h2'.append (.one r2)))⟩
  · exact h3.elim
end
end MP
end

section
set_option Elab.async false
set_option linter.all false
set_option maxRecDepth 100000
set_option maxHeartbeats 4000000
/-! MP, part oz: own lists of lists. -/
namespace MP
open PySem PySem.Spec PyProof.Rows L2
/-- the turns of a comprehension whose elements are new lists -/
def lcGoL (e : Env) (tg : Tg) (t : MT) (m : ME) : List D → List (List D) → S → R (List (List D))
  | [], acc, s => .ok acc s
  | x :: xs, acc, s => match tgSet tg x e with
    | some e2 => (match t e2 s with
      | .ok true s => (match m e2 s with
        | .ok (.d (.lst y)) s => lcGoL e tg t m xs (acc ++ [y]) s
        | _ => .stuck)
      | .ok false s => lcGoL e tg t m xs acc s
      | _ => .stuck)
    | none => .stuck
/-- x = [NEW for ..], x's own, with its rows -/
def mAsgO2 (i : Nat) (own : List Nat) (tg : Tg) (it : MI) (t : MT) (m : ME) : MS := fun e s => match it e s with
  | .ok xs s => (match lcGoL (wipe e own) tg t m xs [] s with
    | .ok yss s => .nxt (e.set i (some (.own2 yss))) s
    | _ => .stuck)
  | .exn c x s => .exn c x e s
  | .stuck => .stuck
/-- x[a][b] = c, x's own, with its rows -/
def mSto2 (i : Nat) (ja jb a : ME) : MS := fun e s => (a e s).go e fun v s => match e[i]? with
  | some (some (.own2 xss)) => (ja e s).go e fun k s => (match k with
    | .d (.int k) => (match ixN xss.length k with
      | some k => (jb e s).go e fun l s => (match v, l, xss[k]? with
        | .d x, .d (.int l), some xs => (match ixN xs.length l with
          | some l => .nxt (e.set i (some (.own2 (xss.set k (xs.set l x))))) s
          | none => .stuck)
        | _, _, _ => .stuck)
      | none => .stuck)
    | _ => .stuck)
  | _ => .stuck
section
variable {X : Cx} {G : Gd} {W : WX} {pos p : Pos} {a b c : Expr} {ma mb mc : ME} {st : Stmt} {sts : List Stmt}
variable {K : PySem.W.Frag} {w w1 : Wd} {s : S} {H H1 : Hp} {e : Env} {σ : L2.St}
theorem Rows.snoc {o : Addr → Option Addr} {N : Addr → Prop} {p q : Addr} {us : List V} {xs : List D} (ho : o q = some p) (hp : q ≠ p) (hq : H q = some (.lst us)) (hz : us.length ≤ line) (hx : Reps K N H xs us) :
    ∀ {xss : List (List D)} {vs : List V}, Rows K o N H p xss vs → V.ref q ∉ vs → Rows K o N H p (xss ++ [xs]) (vs ++ [.ref q])
  | [], vs, h, hn => by
    unfold Rows at h; subst h
    exact ⟨q, us, [], rfl, ho, hp, (fun z => by cases z), hq, hz, hx, rfl⟩
  | ys :: xss, vs, h, hn => by
    obtain ⟨r, us', l, e, h1, h2, h3, h4, h5, h6, h7⟩ := h
    subst e
    rw [List.mem_cons, not_or] at hn
    refine ⟨r, us', l ++ [.ref q], rfl, h1, h2, fun z => ?_, h4, h5, h6, Rows.snoc ho hp hq hz hx h7 hn.2⟩
    rcases List.mem_append.mp z with z | z
    · exact h3 z
    · exact hn.1 (List.mem_singleton.mp z).symm
theorem Rows.mem {o : Addr → Option Addr} {N : Addr → Prop} {p q : Addr} : ∀ {xss : List (List D)} {vs : List V}, Rows K o N H p xss vs → V.ref q ∈ vs → o q = some p ∧ q ≠ p ∧ ∃ us, H q = some (.lst us)
  | [], vs, h, hn => by unfold Rows at h; subst h; cases hn
  | ys :: xss, vs, h, hn => by
    obtain ⟨r, us', l, e, h1, h2, h3, h4, h5, h6, h7⟩ := h
    subst e
    rcases List.mem_cons.mp hn with z | z
    · cases z; exact ⟨h1, h2, us', h4⟩
    · exact Rows.mem h7 z
theorem Rows.refs {o : Addr → Option Addr} {N : Addr → Prop} {p : Addr} {v : V} : ∀ {xss : List (List D)} {vs : List V}, Rows K o N H p xss vs → v ∈ vs → ∃ q, v = .ref q
  | [], vs, h, hn => by unfold Rows at h; subst h; cases hn
  | ys :: xss, vs, h, hn => by
    obtain ⟨r, us', l, e, h1, h2, h3, h4, h5, h6, h7⟩ := h
    subst e
    rcases List.mem_cons.mp hn with z | z
    · exact ⟨r, z⟩
    · exact Rows.refs h7 z
theorem Rows.mapG {o o' : Addr → Option Addr} {N N' : Addr → Prop} {H' : Hp} {p : Addr} (hk : ∀ q us, o q = some p → q ≠ p → H q = some (.lst us) → o' q = some p ∧ H' q = some (.lst us))
    (hr : ∀ xs us, Reps K N H xs us → Reps K N' H' xs us) : ∀ {xss : List (List D)} {vs : List V}, Rows K o N H p xss vs → Rows K o' N' H' p xss vs
  | [], vs, h => h
  | xs :: xss, vs, h => by
    obtain ⟨q, us, r, e, h1, h2, h3, h4, h5, h6, h7⟩ := h
    exact ⟨q, us, r, e, (hk q us h1 h2 h4).1, h2, h3, (hk q us h1 h2 h4).2, h5, hr _ _ h6, Rows.mapG hk hr h7⟩
/-- new since H1, apart: as if the list p's own -/
noncomputable def aprt (w : Wd) (H1 : Hp) (p : Addr) : Addr → Option Addr := fun q => @ite _ (w.B q ∧ q ∉ w.α ∧ H1 q = none) (Classical.propDecidable _) (some p) none
theorem aprt_iff {p q r : Addr} : aprt w H1 p q = some r ↔ (w.B q ∧ q ∉ w.α ∧ H1 q = none) ∧ p = r := by
  unfold aprt
  by_cases h : w.B q ∧ q ∉ w.α ∧ H1 q = none
  · rw [if_pos h]
    exact ⟨fun z => ⟨h, Option.some.inj z⟩, fun z => by rw [z.2]⟩
  · rw [if_neg h]
    exact ⟨fun z => (by cases z), fun z => absurd z.1 h⟩
structure LcI2 (G : Gd) (Fin : R (List (List D)) → Prop) (w1 : Wd) (H1 : Hp) (σ : L2.St) (own : List Nat) (e : Env) (tg : Tg) (t : MT) (m : ME) (J : It) (xs : List D) (p : Addr) (i : Nat) (n : Nat) (H : Hp) (wz : Wd) (s : S) (acc : List (List D)) (vs : List V) : Prop where
  hi : i ≤ xs.length
  hn : n = xs.length - i
  bp : wz.B p
  ap : p ∉ wz.α
  ok : Ok G wz s H
  ex : Ext w1 H1 (subB wz p) H
  at_ : H p = some (.lst vs)
  ac : Rows G.K (aprt wz H1 p) wz.N H p acc vs
  len : vs.length ≤ i
  er : EnvR G wz H (MP.wipe e own) (L2.wipe σ own)
  wk : Walks G.K wz.N H J xs
  po : Fin (lcGoL (MP.wipe e own) tg t m (xs.drop i) acc s)
theorem lc_turns2 {own : List Nat} {tg : Tg} {t : MT} {m : ME} (ht : ∀ i ∈ tgSlots tg, i ∈ own) {σ : L2.St} {H1 : Hp} {w1 : Wd} {s1 : S} {e : Env} {J : It} {xs : List D} {Q : Addr → Hp → Prop} (Fin : R (List (List D)) → Prop) (hst : ¬ Fin .stuck)
    (ok1 : Ok G w1 s1 H1) (er1 : EnvR G w1 H1 e σ) (wk : Walks G.K w1.N H1 J xs) (hz : xs.length ≤ line) (h1 : Fin (lcGoL (MP.wipe e own) tg t m xs [] s1)) (p : Addr) (hp : H1 p = none)
    (hfin : ∀ wz s acc H vs, wz.B p → p ∉ wz.α → Ok G wz s H → Ext w1 H1 (subB wz p) H → H p = some (.lst vs) → Rows G.K (aprt wz H1 p) wz.N H p acc vs → vs.length ≤ line → Fin (.ok acc s) → Q p H) :
    ∃ W : Nat → Nat → Hp → Prop, (∃ m, W 0 m (upd H1 p (.lst []))) ∧ ∀ i k H, W i k H →
  (J.stop i H ∧ Q p H) ∨ (J.go i H ∧ ∃ Nx : Hp → Prop, (∀ H', Nx H' → ∃ m', m' < k ∧ W (i + 1) m' H') ∧ ∀ x H', J.yld i H x H' → gTg G.K tg x (L2.wipe σ own) H' fun σ2 H2 => L2.wipe σ2 own = L2.wipe σ own ∧ tT G WF t σ2 H2 fun b H3 =>
    if b = true then tEO G WF m σ2 H3 fun y H4 => ∃ acc, H4 p = some (.lst acc) ∧ acc.length < sizeLine ∧ Nx (upd H4 p (.lst (acc ++ [y]))) else Nx H3) := by
  refine ⟨fun i n H' => ∃ wz s acc vs, LcI2 G Fin w1 H1 σ own e tg t m J xs p i n H' wz s acc vs, ⟨xs.length, addB w1 p, s1, [], [], ?_⟩, ?_⟩
  · have L := last_add ok1 hp []
    refine ⟨Nat.zero_le _, rfl, .inr rfl, fun z => ?_, ok1.addB hp [], ?_, upd_same, rfl, Nat.le_refl _, ?_, wk.last L, h1⟩
    · obtain ⟨vs, e⟩ := ok1.at z
      rw [hp] at e; cases e
    · refine ⟨⟨[], by simp [subB, addB], by simp⟩, fun q h => ⟨.inl h, fun z => ?_⟩, fun q h => ?_, rfl, fun q o h _ => grow_upd hp q o h⟩
      · subst z
        exact ok1.notN hp (.inl h)
      · rcases h.1 with z | z
        · exact .inl z
        · exact absurd z h.2
    · exact (er1.wipe own).last L rfl rfl fun q o h _ => grow_upd hp q o h
  · rintro i n H2 ⟨wz, s2, acc, vs, I⟩
    have wk2 := I.wk _ _ (Last.refl I.ok)
    cases hx : xs[i]? with
    | none =>
      have hi : i = xs.length := Nat.le_antisymm I.hi (List.getElem?_eq_none_iff.mp hx)
      refine .inl ⟨by rw [hi]; exact wk2.stop, ?_⟩
      have po := I.po
      rw [hi, List.drop_length] at po
      exact hfin wz s2 acc H2 vs I.bp I.ap I.ok I.ex I.at_ I.ac (Nat.le_trans I.len (by rw [hi]; exact hz)) po
    | some x =>
      obtain ⟨hgo, hy⟩ := wk2.go i x hx
      have hlt : i < xs.length := (List.getElem?_eq_some_iff.mp hx).1
      have hdrop : xs.drop i = x :: xs.drop (i + 1) := by
        rw [List.drop_eq_getElem_cons hlt]
        rw [List.getElem?_eq_getElem hlt] at hx
        rw [Option.some.inj hx]
      refine .inr ⟨hgo, fun H' => ∃ wz s acc vs, LcI2 G Fin w1 H1 σ own e tg t m J xs p (i + 1) (n - 1) H' wz s acc vs, fun H' h => ⟨n - 1, by have := I.hn; omega, h⟩, fun y H' yl => ?_⟩
      obtain ⟨rfl, ry⟩ := hy y H' yl
      have po := I.po
      rw [hdrop] at po
      unfold lcGoL at po
      cases q1 : tgSet tg x (MP.wipe e own) with
      | none => rw [q1] at po; exact (hst po).elim
      | some e2 =>
        rw [q1] at po
        dsimp only at po
        refine tg_ok I.er ry q1 fun σ2 er2 bf => ⟨(bf own ht).trans (wipe_wipe σ own), ?_⟩
        refine ⟨wz, s2, e2, I.ok, er2, ?_⟩
        cases q2 : t e2 s2 with
        | exn c z s3 => rw [q2] at po; exact (hst po).elim
        | stuck => rw [q2] at po; exact (hst po).elim
        | ok b s3 =>
          rw [q2] at po
          intro w3 H3 b' x3 ok3 eb
          subst eb
          have at3 : H3 p = some (.lst vs) := x3.keep p _ I.at_ I.ap
          have ap3 : p ∉ w3.α := x3.notin I.ap I.at_
          have ex3 : Ext w1 H1 (subB w3 p) H3 := I.ex.trans (I.ok.subB I.ap) (x3.sub I.at_)
          have L3 := x3.last I.ok
          have ac3 : Rows G.K (aprt w3 H1 p) w3.N H3 p acc vs := I.ac.mapG (fun q us h1 h2 h3 => by
            obtain ⟨⟨a1, a2, a3⟩, _⟩ := aprt_iff.mp h1
            exact ⟨aprt_iff.mpr ⟨⟨x3.bm q a1, x3.notin a2 h3, a3⟩, rfl⟩, x3.keep q _ h3 a2⟩) fun xs us h => Reps.last L3 xs h
          cases b with
          | false =>
            rw [if_neg Bool.false_ne_true]
            exact ⟨w3, s3, acc, vs, ⟨hlt, by have := I.hn; omega, x3.bm p I.bp, ap3, ok3, ex3, at3, ac3, Nat.le_succ_of_le I.len, I.er.ext I.ok x3, I.wk.last L3, po⟩⟩
          | true =>
            rw [if_pos rfl]
            dsimp only at po
            refine ⟨w3, s3, e2, ok3, er2.ext I.ok x3, ?_⟩
            cases q3 : m e2 s3 with
            | exn c z s4 => rw [q3] at po; exact (hst po).elim
            | stuck => rw [q3] at po; exact (hst po).elim
            | ok v s4 =>
              rw [q3] at po
              match v, po with
              | .d (.lst y), po =>
                refine ⟨⟨y, rfl⟩, fun w4 H4 q ys us ev hn x4 ok4 bq aq atq hzq rq => ?_⟩
                cases ev
                have at4 : H4 p = some (.lst vs) := x4.keep p _ at3 ap3
                have ap4 : p ∉ w4.α := x4.notin ap3 at3
                have bp4 : w4.B p := x4.bm p (x3.bm p I.bp)
                have ex4 : Ext w1 H1 (subB w4 p) H4 := ex3.trans (ok3.subB ap3) (x4.sub at3)
                have L4 := x4.last ok3
                obtain ⟨ok5, L5⟩ := ok4.put bp4 ap4 (vs ++ [.ref q]) at4
                have hl : vs.length < line := Nat.lt_of_le_of_lt I.len (Nat.lt_of_lt_of_le hlt hz)
                have hqp : q ≠ p := fun z => by rw [z, at3] at hn; cases hn
                have hn1 : H1 q = none := (ok3.subB ap3).none_of ex3 hn
                have hqv : V.ref q ∉ vs := fun z => by
                  obtain ⟨_, _, us, e⟩ := ac3.mem z
                  rw [hn] at e; cases e
                refine ⟨vs, at4, by rw [← line_eq]; exact hl, w4, s4, acc ++ [y], vs ++ [.ref q], ⟨hlt, by have := I.hn; omega, bp4, ap4, ok5, ex4.put hp, upd_same, ?_, ?_, ?_, (I.wk.last (L3.trans L4)).last L5, po⟩⟩
                · refine Rows.snoc (aprt_iff.mpr ⟨⟨bq, aq, hn1⟩, rfl⟩) hqp (by rw [upd_ne hqp]; exact atq) hzq (Reps.last L5 y rq) (ac3.mapG (fun r us h1 h2 h3 => ?_) fun xs us h => Reps.last L5 xs (Reps.last L4 xs h)) hqv
                  obtain ⟨⟨a1, a2, a3⟩, _⟩ := aprt_iff.mp h1
                  exact ⟨aprt_iff.mpr ⟨⟨x4.bm r a1, x4.notin a2 h3, a3⟩, rfl⟩, by rw [upd_ne h2]; exact x4.keep r _ h3 a2⟩
                · rw [List.length_append, List.length_singleton]; exact Nat.succ_le_succ I.len
                · refine ((I.er.ext I.ok x3).ext ok3 x4).last L5 rfl rfl fun q o h ho => ?_
                  rw [upd_ne (b := q) fun z => ok4.bo p bp4 (by rw [← z]; exact ho)]
                  exact h
              | .d .non, po => exact (hst po).elim
              | .d (.bl _), po => exact (hst po).elim
              | .d (.int _), po => exact (hst po).elim
              | .d (.str _), po => exact (hst po).elim
              | .d (.tup _), po => exact (hst po).elim
              | .d (.tuq _), po => exact (hst po).elim
              | .d (.dic _ _), po => exact (hst po).elim
              | .ref _, po => exact (hst po).elim
              | .own _, po => exact (hst po).elim
              | .snap _, po => exact (hst po).elim
              | .ownT _ _, po => exact (hst po).elim
              | .own2 _, po => exact (hst po).elim
              | .exc _ _, po => exact (hst po).elim
              | .scr _, po => exact (hst po).elim
/-- a list apart with its rows is one's own from now on -/
noncomputable def ownR (w : Wd) (p : Addr) (vs : List V) : Wd := { w with B := fun q => w.B q ∧ q ≠ p ∧ V.ref q ∉ vs, o := fun q => @ite _ (q = p ∨ V.ref q ∈ vs) (Classical.propDecidable _) (some p) (w.o q) }
section
variable {p : Addr} {vs : List V}
theorem ownR_in {q : Addr} (h : q = p ∨ V.ref q ∈ vs) : (ownR w p vs).o q = some p := if_pos h
theorem ownR_out {q : Addr} (h : ¬ (q = p ∨ V.ref q ∈ vs)) : (ownR w p vs).o q = w.o q := if_neg h
theorem ownR_N (hb : w.B p) (hr : ∀ q, V.ref q ∈ vs → w.B q) (q : Addr) : (ownR w p vs).N q → w.N q := fun h => by
  rcases h with h | h
  · exact .inl h.1
  · by_cases e : q = p ∨ V.ref q ∈ vs
    · rcases e with e | e
      · subst e; exact .inl hb
      · exact .inl (hr q e)
    · exact .inr (by rwa [Wd.O, ownR_out e] at h)
theorem Ok.ownR (ok : Ok G w s H) (hb : w.B p) (hp : p ∉ w.α) (hr : ∀ q, V.ref q ∈ vs → w.B q ∧ q ∉ w.α) : Ok G (MP.ownR w p vs) s H := by
  have hN := ownR_N hb fun q h => (hr q h).1
  refine ⟨ok.nd, ok.len, fun n xs q h1 h2 => ?_, fun q h => ⟨ok.ab q h, fun z => hp (z ▸ h), fun z => (hr q z).2 h⟩, fun q h z => ?_, fun q h => ok.mu q (hN q h)⟩
  · obtain ⟨us, h3, hz, h4⟩ := ok.cells n xs q h1 h2
    exact ⟨us, h3, hz, Reps.less hN xs h4⟩
  · rw [Wd.O, ownR_out fun z => z.elim h.2.1 h.2.2] at z
    exact ok.bo q h.1 z
theorem EnvR.ownR (ok : Ok G w s H) (er : EnvR G w H e σ) (hb : w.B p) (hr : ∀ q, V.ref q ∈ vs → w.B q ∧ q ∉ w.α) : EnvR G (MP.ownR w p vs) H e σ := ⟨er.len, fun i v hv => by
  obtain ⟨u, h1, h2⟩ := er.slot i v hv
  refine ⟨u, h1, h2.less (ownR_N hb fun q h => (hr q h).1) rfl fun _ q r _ h => ?_⟩
  rw [ownR_out fun z => ?_]
  · exact h
  · rcases z with z | z
    · exact ok.bo p hb (by rw [← z]; exact Wd.top h)
    · exact ok.bo r (hr r z).1 (Wd.top h), er.sep⟩
end
theorem asgO2_read {i : Nat} {own : List Nat} {tg : Tg} {it : MI} {t : MT} {m : ME} (ht : ∀ i ∈ tgSlots tg, i ∈ own) {D : Ends} (h : tS G W (mAsgO2 i own tg it t m) D σ H) :
    tAsg (tLc (tI G W it) (gTg G.K tg) (tT G WF t) (tEO G WF m) own) (gName i) D σ H := by
  obtain ⟨w, s, e, ok, er, h⟩ := h
  refine ⟨w, s, e, ok, er, ?_⟩
  unfold mAsgO2 at h
  cases q : it e s with
  | stuck => rw [q] at h; exact h.elim
  | exn c y s1 => rw [q] at h; exact fun w' H' cls d x o r => h w' H' σ cls d (x.step o) o (er.ext ok x) r
  | ok xs s1 =>
    rw [q] at h
    intro w1 H1 J x1 ok1 ⟨wk, hz⟩ p hp
    refine lc_turns2 (Q := fun p H => gName i (.ref p) σ H D.nx) ht (fun r => PostS G W w1 H1 (match r with
      | .ok yss s => .nxt (e.set i (some (.own2 yss))) s
      | _ => .stuck) D) (fun h => h) ok1 (er.ext ok x1) wk hz (PostS.mono (x1.step ok1) h) p hp fun wz s2 acc H2 vs bp ap okz ex at_ ac hl po => ?_
    have hr : ∀ q, V.ref q ∈ vs → wz.B q ∧ q ∉ wz.α := fun q hq => by
      obtain ⟨h1, _, _⟩ := ac.mem hq
      obtain ⟨⟨a1, a2, _⟩, _⟩ := aprt_iff.mp h1
      exact ⟨a1, a2⟩
    have hr1 : ∀ q, V.ref q ∈ vs → H1 q = none := fun q hq => by
      obtain ⟨h1, _, _⟩ := ac.mem hq
      exact (aprt_iff.mp h1).1.2.2
    have exz : Ext w1 H1 wz H2 := by
      refine ⟨ex.al, fun q h => (ex.bm q h).1, fun q h => ?_, ex.oo, ex.keep⟩
      by_cases hq : q = p
      · subst hq; exact .inr hp
      · exact ex.bn q ⟨h, hq⟩
    have erz := (er.ext ok x1).ext ok1 exz
    have st : Step w1 H1 (ownR wz p vs) H2 := by
      refine ⟨exz.al, fun q h => ⟨exz.bm q h, fun z => ?_, fun z => ?_⟩, fun q h => exz.bn q h.1, fun q h => ?_, fun q o h hq _ => exz.keep q o h hq, fun q h => okz.none_of exz h⟩
      · subst z; exact ok1.notN hp (.inl h)
      · exact ok1.notN (hr1 q z) (.inl h)
      · by_cases e : q = p ∨ V.ref q ∈ vs
        · rcases e with e | e
          · subst e; exact .inr hp
          · exact .inr (hr1 q e)
        · rw [Wd.O, ownR_out e] at h; exact .inl ((exz.O q).mp h)
    have hN := ownR_N (vs := vs) bp fun q h => (hr q h).1
    refine po (ownR wz p vs) H2 _ st (okz.ownR bp ap hr) ?_
    refine (EnvR.ownR okz erz bp hr).setG i ⟨p, vs, rfl, ownR_in (.inl rfl), at_, hl, ?_⟩ fun j v hj hv hov z => ?_
    · have key : ∀ {xss : List (List MP.D)} {l : List V}, (∀ v ∈ l, v ∈ vs) → Rows G.K (aprt wz H1 p) wz.N H2 p xss l → Rows G.K (ownR wz p vs).o (ownR wz p vs).N H2 p xss l := fun {xss} => by
        induction xss with
        | nil => exact fun _ h => h
        | cons ys xss ih =>
          intro l hm h
          obtain ⟨q, us, r, e1, h1, h2, h3, h4, h5, h6, h7⟩ := h
          subst e1
          exact ⟨q, us, r, rfl, ownR_in (.inr (hm _ List.mem_cons_self)), h2, h3, h4, h5, Reps.less hN ys h6, ih (fun v hv => hm v (List.mem_cons_of_mem _ hv)) h7⟩
      exact key (fun _ h => h) ac
    · obtain ⟨u, h1, h2⟩ := erz.slot j v hv
      rw [z] at h1
      cases h1
      cases v with
      | own ys => obtain ⟨q, _, e1, ho, _⟩ := h2; cases e1; exact okz.bo p bp (Wd.top ho)
      | snap ys => obtain ⟨q, _, e1, ho, _⟩ := h2; cases e1; exact okz.bo p bp (Wd.top ho)
      | ownT ks ys => obtain ⟨q, _, e1, ho, _⟩ := h2; cases e1; exact okz.bo p bp (Wd.top ho)
      | own2 ys => obtain ⟨q, _, e1, ho, _⟩ := h2; cases e1; exact okz.bo p bp (Wd.top ho)
      | _ => cases hov
theorem own2_of {w : Wd} {H : Hp} {e : Env} {i : Nat} {f : List (List D) → F} {D : Ends} (h : PostS G W w H (match e[i]? with
    | some (some (.own2 xss)) => f xss
    | _ => .stuck) D) : ∃ xss, e[i]? = some (some (.own2 xss)) ∧ PostS G W w H (f xss) D := by
  split at h
  · rename_i xs q; exact ⟨xs, q, h⟩
  · exact h.elim
theorem s_sto2 {i : Nat} {x : Str} {p1 p2 p3 : Pos} {j l : Expr} {mj ml : ME} (hN : X.N[i]? = some x) (hv : Vis X.env.scope x) (hd : (x == ("__debug__" : Str)) = false) (hcd : (x == ("__classdict__" : Str)) = false) (ha : PE X a (tE G W ma)) (hj : PE X j (tE G W mj)) (hl : PE X l (tE G W ml)) (hix : PlainIx j)
    (hsw : swapsWithSole [.Subscript (.Subscript (.Name x p1) j p2) l p3] a pos.line X.env = pure false) (hw : swappedStores [.Subscript (.Subscript (.Name x p1) j p2) l p3] a X.env = pure none)
    (hasg : ∀ v, assign (.Subscript (.Subscript (.Name x p1) j p2) l p3) X.env v = (do
      let ov ← holding [v] (eval (.Subscript (.Name x p1) j p2) X.env)
      let iv ← holding [v, ov] (eval l X.env)
      standAt p3
      holding [v, ov, iv] (setItem ov iv v)
      release [v, ov, iv] [])) : PS X (.Assign [.Subscript (.Subscript (.Name x p1) j p2) l p3] a pos) (tS G W (mSto2 i mj ml ma)) := by
  have pix : PE X (.Subscript (.Name x p1) j p2) (tOp (rIxL X.K) (tVar i) (tE G W mj)) := pe_ix ix_list (pe_var hN hv hd hcd) hj hix
  refine impS (ps_asg ha (pg_sub pix hl set_list hasg) hsw hw rfl) fun D σ H ⟨w, s, e, ok, er, h⟩ => ?_
  refine ⟨w, s, e, ok, er, PostS.go ok er h fun w1 s1 H1 v u x1 ok1 r1 er1 h3 => ?_⟩
  obtain ⟨xss, q, h3⟩ := own2_of h3
  obtain ⟨u0, hu, pa, vs, rfl, ho, h1, hz, h2⟩ := er1.slot i _ q
  refine ⟨.ref pa, hu, w1, s1, e, ok1, er1, PostS.go ok1 er1 h3 fun w2 s2 H2 v2 u2 x2 ok2 r2 er2 h4 => ?_⟩
  have r1 := r1.ext ok1 x2
  match v2, r2, h4 with
  | .d (.int k), r2, h4 =>
    dsimp only at h4
    cases q1 : MP.ixN xss.length k with
    | none => simp only [q1] at h4; exact h4.elim
    | some m =>
      simp only [q1] at h4
      obtain ⟨u0', hu', pa', vs', e', ho', h1', hz', h2'⟩ := er2.slot i _ q
      rw [hu] at hu'
      cases hu'
      cases e'
      obtain ⟨xs, hxs⟩ : ∃ xs, xss[m]? = some xs := by
        have : m < xss.length := by
          unfold MP.ixN at q1
          split at q1
          · split at q1
            · cases q1; omega
            · cases q1
          · split at q1
            · cases q1; omega
            · cases q1
        exact ⟨_, List.getElem?_eq_getElem this⟩
      obtain ⟨pr, us, g1, g2, g3, g4, g5, g6⟩ := h2'.get hxs
      have hat : atI vs' k = some (.ref pr) := by
        unfold atI
        rw [← h2'.length, q1]
        exact g1
      refine ⟨pa, vs', k, .ref pr, rfl, int_inv (slot_d r2), .inl (.inl h1'), hat, ?_⟩
      refine ⟨w2, s2, e, ok2, er2, PostS.go ok2 er2 h4 fun w3 s3 H3 v3 u3 x3 ok3 r3 er3 h5 => ?_⟩
      have r1 := r1.ext ok2 x3
      rw [hxs] at h5
      match v, r1, v3, r3, h5 with
      | .d y, r1, .d (.int z), r3, h5 =>
        dsimp only at h5
        obtain ⟨u0'', hu'', pa'', vs'', e'', ho'', h1'', hz'', h2''⟩ := er3.slot i _ q
        rw [hu] at hu''
        cases hu''
        cases e''
        obtain ⟨pr', us', g1', g2', g3', g4', g5', g6'⟩ := h2''.get hxs
        have ev : vs'' = vs' := by
          have hna : pa ∉ w2.α := fun z => ok2.bo pa (ok2.ab pa z) (Wd.top ho')
          have := x3.keep pa _ h1' hna
          rw [h1''] at this
          cases this; rfl
        subst ev
        rw [g1] at g1'
        cases g1'
        cases q2 : MP.ixN xs.length z with
        | none => simp only [q2] at h5; exact h5.elim
        | some n =>
          simp only [q2] at h5
          have q3 := q2
          rw [g6'.length] at q3
          obtain ⟨ok4, L4, st4⟩ := ok3.putO (Wd.top g2') (us'.set n u) g4'
          refine ⟨pr, us', z, n, rfl, int_inv (slot_d r3), g4', ixN_ok q3, h5 w3 _ σ st4 ok4 (er3.putG ok3 q rfl hu ho'' g2' L4 ⟨pa, vs'', rfl, ho'', ?_, hz'', ?_⟩)⟩
          · rw [upd_ne (Ne.symm g3')]; exact h1''
          · exact Rows.put upd_same (by rw [List.length_set]; exact g5') (Reps.last L4 _ (g6'.set n r1)) (fun r u _ hr h => by rw [upd_ne hr]; exact h) (fun xs us => Reps.last L4 xs) h2'' g1
      | .d _, _, .d .non, _, h5 => exact h5.elim
      | .d _, _, .d (.bl _), _, h5 => exact h5.elim
      | .d _, _, .d (.str _), _, h5 => exact h5.elim
      | .d _, _, .d (.tup _), _, h5 => exact h5.elim
      | .d _, _, .d (.tuq _), _, h5 => exact h5.elim
      | .d _, _, .d (.lst _), _, h5 => exact h5.elim
      | .d _, _, .d (.dic _ _), _, h5 => exact h5.elim
      | .d _, _, .ref _, _, h5 => exact h5.elim
      | .d _, _, .own _, _, h5 => exact h5.elim
      | .d _, _, .snap _, _, h5 => exact h5.elim
      | .d _, _, .ownT _ _, _, h5 => exact h5.elim
      | .d _, _, .own2 _, _, h5 => exact h5.elim
      | .d _, _, .exc _ _, _, h5 => exact h5.elim
      | .d _, _, .scr _, _, h5 => exact h5.elim
      | .ref _, _, _, _, h5 => exact h5.elim
      | .own _, _, _, _, h5 => exact h5.elim
      | .snap _, _, _, _, h5 => exact h5.elim
      | .ownT _ _, _, _, _, h5 => exact h5.elim
      | .own2 _, _, _, _, h5 => exact h5.elim
      | .exc _ _, _, _, _, h5 => exact h5.elim
      | .scr _, _, _, _, h5 => exact h5.elim
  | .d .non, _, h4 => exact h4.elim
  | .d (.bl _), _, h4 => exact h4.elim
  | .d (.str _), _, h4 => exact h4.elim
  | .d (.tup _), _, h4 => exact h4.elim
  | .d (.tuq _), _, h4 => exact h4.elim
  | .d (.lst _), _, h4 => exact h4.elim
  | .d (.dic _ _), _, h4 => exact h4.elim
  | .ref _, _, h4 => exact h4.elim
  | .own _, _, h4 => exact h4.elim
  | .snap _, _, h4 => exact h4.elim
  | .ownT _ _, _, h4 => exact h4.elim
  | .own2 _, _, h4 => exact h4.elim
  | .exc _ _, _, h4 => exact h4.elim
  | .scr _, _, h4 => exact h4.elim
end
end MP
end

section
set_option Elab.async false
set_option linter.all false
set_option maxRecDepth 100000
set_option maxHeartbeats 4000000
/-! MP, part ini: an own error class's __init__ that calls super().__init__ with a text and stores its argument. -/
namespace MP
open PySem PySem.Spec PyProof.Rows L2
/-- the written shape: self.fld = fld behind super().__init__(text) -/
def iniBody (fld : Str) : List Stmt → Bool
  | [.Expr (.Call (.Attribute (.Call (.Name x _) [] [] _) m ap) [.Constant (.str _) _ _] [] ps) _, .Assign [.Attribute (.Name z _) g _] (.Name y _) _] =>
    decide (x = ("super" : Str)) && decide (m = ("__init__" : Str)) && (ap.endLine == ps.line) && decide (z = ("self" : Str)) && decide (g = fld) && decide (y = fld)
  | _ => false
theorem iniBody_ok {fld : Str} {b : List Stmt} (h : iniBody fld b = true) : ∃ p0 p1 p2 msg j2 p3 p4 p5 r1 r2 r3 r4, (p2.endLine == p4.line) = true ∧ b = [.Expr (.Call (.Attribute (.Call (.Name "super" p0) [] [] p1) "__init__" p2) [.Constant (.str msg) j2 p3] [] p4) p5, .Assign [.Attribute (.Name "self" r1) fld r2] (.Name fld r3) r4] := by
  unfold iniBody at h
  split at h
  · simp only [Bool.and_eq_true, decide_eq_true_eq] at h
    obtain ⟨⟨⟨⟨⟨rfl, rfl⟩, hl⟩, rfl⟩, rfl⟩, rfl⟩ := h
    exact ⟨_, _, _, _, _, _, _, _, _, _, _, _, hl, rfl⟩
  · cases h
/-- what is asked of the class at C and its def at f -/
structure IniK (P : Program) (K : PySem.W.Frag) (C : Addr) (fld : Str) (f : Addr) (fd : FuncData) : Prop where
  ex : ∃ (name qual : Str) (params : Arguments) (body : List Stmt) (scope : Scope) (dV kV doc pm ct oc : Value) (an od : Option Addr) (cda cc : Addr) (osl : Array (Option Value)) (ccl cl : Value) (cdd cld : Option Addr) (ccs csl : Array (Option Value)) (vs : Array Value) (file : Str) (tf : Tok) (ar : Arg) (cdD : ClassData),
    fd = PySem.W.fnX name qual params body scope [("__class__", cc)] dV kV doc pm an (.ref cda) ct ∧ K.lookup f = some ⟨oc, od, .func fd, osl⟩ ∧ PySem.W.codeIn K (.ref cda) qual = true ∧ K.lookup cda = some ⟨ccl, cdd, .fields vs, ccs⟩ ∧ vs[2]? = some (.str file tf) ∧ (P.main.file == file) = true ∧
    K.lookup cc = some ⟨cl, cld, .cell (some (.ref C)), csl⟩ ∧ PySem.W.clsIn K C = some cdD ∧ (params.posonlyargs ++ params.args).head? = some ar ∧ ar.arg = "self" ∧ iniBody fld body = true ∧ scope.kind = .function ∧ scope.isCoroutine = false ∧ scope.isGenerator = false ∧
    scope.names.lookup ("self" : Str) = some .local ∧ scope.names.lookup fld = some .local ∧ scope.names.lookup ("super" : Str) = some .globalImplicit ∧ scope.names.lookup ("__class__" : Str) = some .free ∧ (scope.names.all fun x => decide (x.2 ≠ .cell)) = true
  bind : ∀ a b : Value, bindArgs fd ⟨[a, b], []⟩ = pure [(("self" : Str), a), (fld, b)]
  sup : PySem.W.nsIn K mainGlobals "super" = some none
  top : (P.main.scope.names.lookup ("super" : Str)).isSome = false
  any : PySem.W.nsIn K cStatics "thirdparty.any" = some none
  along : PySem.W.ks_superIn K C C "__init__" = some (some (.builtin "ValueError.__init__"))
  sub : PySem.W.subIn K (.ref C) (.type "ValueError") = some true
  slf : PySem.W.mroIn K C (.ref C) = some true
  oex : OexC K C
  no : PySem.W.findIn K (.ref C) fld = some none
  fname : fld ≠ ("self" : Str) ∧ (fld == ("__debug__" : Str)) = false ∧ (fld == ("__classdict__" : Str)) = false
theorem call_ev {o : Expr} {name : Str} {apos pos : Pos} {x : Str} {j : Nat} {p : Pos} {env : PySem.Env} (hl : (apos.endLine == pos.line) = true) : eval (.Call (.Attribute o name apos) [.Constant (.str x) j p] [] pos) env = (do
      let ov ← attributeBase o name env (eval o env)
      standAt apos.atName
      let (f, first) ← holding [ov] (getMethod ov name (do return (← importBound o env).getD true))
      callWith pos f first (backTo pos (starEach [.Constant (.str x) j p] env)) []) := by
  rw [arm_eval_Call]
  have hform : methodCallForm ([Expr.Constant (.str x) j p].length + ([] : List Keyword).length) (backTo pos (starEach [.Constant (.str x) j p] env)) (backToKw pos (keywordEach [] env)) = true := rfl
  unfold methodCall
  rw [hform]
  unfold methodCallPos calleeOf
  rw [hl]
  rfl
theorem fm_cong {α β : Type} {f g : α → Option β} : ∀ {l : List α}, (∀ a ∈ l, f a = g a) → l.filterMap f = l.filterMap g
  | [], _ => rfl
  | a :: l, h => by rw [List.filterMap_cons, List.filterMap_cons, h a List.mem_cons_self, fm_cong fun b hb => h b (List.mem_cons_of_mem _ hb)]
theorem zip_lookup : ∀ {ps : List Str} {us : List Value}, ps.Nodup → us.length = ps.length → (ps.filterMap fun n => ((ps.zip us).lookup n).map (n, ·)) = ps.zip us ∧ ∀ n ∈ ps, ((ps.zip us).lookup n).isNone = false
  | [], us, _, h => by cases us <;> first | (refine ⟨rfl, fun n h => ?_⟩; simp at h) | simp at h
  | p :: ps, [], _, h => by simp at h
  | p :: ps, u :: us, nd, h => by
    obtain ⟨n1, n2⟩ := List.nodup_cons.mp nd
    obtain ⟨i1, i2⟩ := zip_lookup (ps := ps) (us := us) n2 (by simpa using h)
    have ne : ∀ n ∈ ps, (n == p) = false := fun n hn => by
      simp only [beq_eq_false_iff_ne]
      intro e; subst e; exact n1 hn
    refine ⟨?_, fun n hn => ?_⟩
    · rw [List.zip_cons_cons, List.filterMap_cons, List.lookup_cons_self, Option.map_some]
      dsimp only
      have e : (ps.filterMap fun n => (List.lookup n ((p, u) :: ps.zip us)).map (n, ·)) = ps.filterMap fun n => ((ps.zip us).lookup n).map (n, ·) := by
        exact fm_cong fun n hn => by rw [List.lookup_cons, ne n hn]
      rw [e, i1]
    · rw [List.zip_cons_cons, List.lookup_cons]
      rcases List.mem_cons.mp hn with hn | hn
      · subst hn; simp
      · rw [ne n hn]; exact i2 n hn
theorem bind_plain {fd : FuncData} {ps : List Str} {us : List Value} (h1 : fd.params.posonlyargs = []) (h2 : fd.params.args.map (·.arg) = ps) (h3 : fd.params.vararg = none) (h4 : fd.params.kwonlyargs = []) (h5 : fd.params.kwarg = none) (h6 : fd.defaults = .none) (nd : ps.Nodup) (hl : us.length = ps.length) :
    bindArgs fd ⟨us, []⟩ = pure (ps.zip us) := by
  obtain ⟨z1, z2⟩ := zip_lookup nd hl
  have hm : (ps.filter fun n => ((ps.zip us).lookup n).isNone) = [] := List.filter_eq_nil_iff.mpr fun n hn => by rw [z2 n hn]; exact Bool.false_ne_true
  have hs : seqItems? Value.none = pure none := rfl
  unfold bindArgs
  simp only [h1, h2, h3, h4, h5, h6, hs, List.map_nil, List.nil_append, List.append_nil, pure_bind, hl, Option.isNone_none, Bool.and_true, List.forIn_nil]
  simp [hl, hm, z1]


/-- an own class's def __init__, asked for by the heap's head -/
def iniFd (K : PySem.W.Frag) (file : Str) (C : Addr) (fld : Str) : FuncData → Bool
  | ⟨name, qual, params, .stmts body, scope, gl, [(cn, cc)], dV, kV, doc, pm, an, .ref cda, ct, bi⟩ =>
    (match dV with | .none => true | _ => false) && decide (gl = mainGlobals) && decide (bi = builtinsNs) && decide (cn = ("__class__" : Str)) && PySem.W.codeIn K (.ref cda) qual &&
    (match K.lookup cda with
      | some ⟨_, _, .fields vs, _⟩ => (match (vs[2]? : Option Value) with
        | some (.str fl _) => decide (fl = file)
        | _ => false)
      | _ => false) &&
    (match K.lookup cc with
      | some ⟨_, _, .cell (some (.ref D)), _⟩ => decide (D = C)
      | _ => false) &&
    params.posonlyargs.isEmpty && decide (params.args.map (·.arg) = [("self" : Str), fld]) && params.vararg.isNone && params.kwonlyargs.isEmpty && params.kwarg.isNone && iniBody fld body &&
    decide (scope.kind = .function) && (scope.isCoroutine == false) && (scope.isGenerator == false) && decide (scope.names.lookup ("self" : Str) = some .local) && decide (scope.names.lookup fld = some .local) && decide (scope.names.lookup ("super" : Str) = some .globalImplicit) &&
    decide (scope.names.lookup ("__class__" : Str) = some .free) && (scope.names.all fun x => decide (x.2 ≠ .cell))
  | _ => false
def iniC (K : PySem.W.Frag) (C : Addr) : Bool := match K.lookup C with
  | some ⟨.type "type", _, .cls ⟨_, _, .ref C' :: bm, _, _, true, _, _, _, _, false⟩, sl⟩ => (match sl.toList with
    | [_, _, _, _, some (.builtin n), _] => decide (C' = C) && decide (n = "ValueError.__new__") && PySem.HandSPX.refsVE bm
    | _ => false)
  | _ => false
def iniB (K : PySem.W.Frag) (file : Str) (C : Addr) (fld : Str) : Bool := (match PySem.W.findIn K (.ref C) "__init__" with
  | some (some (.ref f)) => decide (PySem.W.typeIn K (.ref f) = some (.type "function")) && (match K.lookup f with
    | some ⟨_, _, .func fd, _⟩ => iniFd K file C fld fd
    | _ => false)
  | _ => false) && iniC K C && He.eqO (PySem.W.nsIn K mainGlobals "super") (some none) && He.eqO (PySem.W.nsIn K cStatics "thirdparty.any") (some none) && He.eqO (PySem.W.ks_superIn K C C "__init__") (some (some (.builtin "ValueError.__init__"))) &&
  decide (PySem.W.subIn K (.ref C) (.type "ValueError") = some true) && decide (PySem.W.mroIn K C (.ref C) = some true) && He.eqO (PySem.W.findIn K (.ref C) "__setattr__") (some (some (.builtin "object.__setattr__"))) &&
  decide (PySem.W.subIn K (.ref C) (.type "BaseException") = some true) && decide (PySem.W.typeIn K (.ref C) = some (.type "type")) && PySem.W.keepIn K (.ref C) && He.eqO (PySem.W.findIn K (.ref C) fld) (some none)
theorem iniC_ok {K : PySem.W.Frag} {C : Addr} (h : iniC K C = true) : ∃ nm q N bs bm sn sub ab col dd k0 k1 k2 k3 k5, K.lookup C = some (excClassObj nm q C N bs bm true sn sub ab col dd k0 k1 k2 k3 k5 "ValueError.__new__") ∧ PySem.HandSPX.refsVE bm = true := by
  unfold iniC at h
  split at h
  · rename_i dd nm bs C' bm N q sn sub ab col sl ho
    split at h
    · rename_i k0 k1 k2 k3 n k5 hs
      simp only [Bool.and_eq_true, decide_eq_true_eq] at h
      obtain ⟨⟨rfl, rfl⟩, hb⟩ := h
      have e : sl = #[k0, k1, k2, k3, some (.builtin "ValueError.__new__"), k5] := by rw [← hs]
      subst e
      exact ⟨nm, q, N, bs, bm, sn, sub, ab, col, dd, k0, k1, k2, k3, k5, ho, hb⟩
    · cases h
  · cases h
theorem iniB_ok {P : Program} {K : PySem.W.Frag} {C : Addr} {fld file : Str} (h : iniB K file C fld = true) (hf : P.main.file = file) (ht : (P.main.scope.names.lookup ("super" : Str)).isSome = false) (hn : fld ≠ ("self" : Str) ∧ (fld == ("__debug__" : Str)) = false ∧ (fld == ("__classdict__" : Str)) = false) :
    ∃ f fd, IniK P K C fld f fd ∧ PySem.W.findIn K (.ref C) "__init__" = some (some (.ref f)) ∧ PySem.W.typeIn K (.ref f) = some (.type "function") ∧ Binds K fd ["self", fld] [] := by
  unfold iniB at h
  simp only [Bool.and_eq_true, decide_eq_true_eq] at h
  obtain ⟨⟨⟨⟨⟨⟨⟨⟨⟨⟨⟨h1, h2⟩, h3⟩, h4⟩, h5⟩, h6⟩, h7⟩, h8⟩, h9⟩, h10⟩, h11⟩, h12⟩ := h
  split at h1
  · rename_i f hfi
    rw [Bool.and_eq_true, decide_eq_true_eq] at h1
    obtain ⟨hty, h1⟩ := h1
    split at h1
    · rename_i oc od fd osl lk
      unfold iniFd at h1
      split at h1
      · rename_i name qual params body scope gl cn cc dV kV doc pm an cda ct bi
        simp only [Bool.and_eq_true, decide_eq_true_eq, beq_iff_eq] at h1
        obtain ⟨⟨⟨⟨⟨⟨⟨⟨⟨⟨⟨⟨⟨⟨⟨⟨⟨⟨⟨⟨g1, rfl⟩, rfl⟩, rfl⟩, g5⟩, g6⟩, g7⟩, g8⟩, g9⟩, g10⟩, g11⟩, g12⟩, g13⟩, g14⟩, g15⟩, g16⟩, g17⟩, g18⟩, g19⟩, g20⟩, g21⟩ := h1
        split at g6
        · rename_i ccl cdd vs ccs lcd
          split at g6
          · rename_i fl tf hvs
            split at g7
            · rename_i cl cld D csl lcc
              have g7 := of_decide_eq_true g7
              have g6 := of_decide_eq_true g6
              subst g7
              split at g1
              · have gp : params.posonlyargs = [] := List.isEmpty_iff.mp g8
                obtain ⟨ar, hp, har⟩ : ∃ ar, (params.posonlyargs ++ params.args).head? = some ar ∧ ar.arg = ("self" : Str) := by
                  rw [gp, List.nil_append]
                  cases q : params.args with
                  | nil => rw [q] at g9; cases g9
                  | cons ar r =>
                    rw [q] at g9
                    exact ⟨ar, rfl, (List.cons.inj g9).1⟩
                have hD : ∃ cdD, PySem.W.clsIn K D = some cdD := by
                  obtain ⟨nm, q, N, bs, bm, sn, sub, ab, col, dd, k0, k1, k2, k3, k5, hC, hbm⟩ := iniC_ok h2
                  exact ⟨_, by unfold PySem.W.clsIn; rw [hC] <;> rfl⟩
                obtain ⟨cdD, hD⟩ := hD
                have nd : [("self" : Str), fld].Nodup := by simp [Ne.symm hn.1]
                have hbind : ∀ us : List Value, us.length = [("self" : Str), fld].length → bindArgs ⟨name, qual, params, .stmts body, scope, mainGlobals, [(("__class__" : Str), cc)], .none, kV, doc, pm, an, .ref cda, ct, builtinsNs⟩ ⟨us, []⟩ = pure ([("self" : Str), fld].zip us) := fun us hl =>
                  bind_plain gp g9 (Option.isNone_iff_eq_none.mp g10) (List.isEmpty_iff.mp g11) (Option.isNone_iff_eq_none.mp g12) rfl nd hl
                refine ⟨f, _, ⟨⟨name, qual, params, body, scope, .none, kV, doc, pm, ct, oc, an, od, cda, cc, osl, ccl, cl, cdd, cld, ccs, csl, vs, fl, tf, ar, cdD, rfl, lk, g5, lcd, hvs, ?_, lcc, hD, hp, har, g13, g14, g15, g16, g17, g18, g19, g20, g21⟩, fun a b => hbind [a, b] rfl, He.eqO_ok h3, ht, He.eqO_ok h4, He.eqO_ok h5, h6, h7, ⟨iniC_ok h2, He.eqO_ok h8, h9, h10, h11⟩, He.eqO_ok h12, hn⟩, hfi, hty, Binds.all hbind⟩
                rw [hf, ← g6]; simp
              · cases g1
            · cases g7
          · cases g6
        · cases g6
      · cases h1
    · cases h1
  · cases h1
def spI (C : Addr) (fld : Str) : Sp := fun vs H Q E => ∃ a v, vs = [.ref a, v] ∧ H a = some (exo a C none) ∧ ∀ d, H d = none → d ≠ a → Q .non (upd (upd H d (exd d [(fld, v)])) a (exo a C (some d)))
section
variable {P : Program} {w : World} {K : PySem.W.Frag} {mg : Str → Option Value} {base : Heap} {C f : Addr} {fld : Str} {fd : FuncData} {CX : CXT}
theorem ini_ok (hI : IniK P K C fld f fd) : FnOk P w K mg base CX 1 f fd ["self", fld] (spI C fld) := by
  refine ⟨fun vs H Q E ⟨a, v, h, _⟩ => by rw [h]; rfl, fun A outer s H args us vs Q E hr e0 hb rv hsp => ?_⟩
  obtain ⟨a, v, rfl, ha, hq⟩ := hsp
  obtain ⟨name, qual, params, body, scope, dV, kV, doc, pm, ct, oc, an, od, cda, cc, osl, ccl, cl, cdd, cld, ccs, csl, vs, file, tf, ar, cdD, efd, lk, hcd, lcd, hvs, hfile, lcc, hD, hp, har, hbd, hk, hco, hgen, l1, l2, l3, l4, lnc⟩ := hI.ex
  obtain ⟨p0, p1, p2, msg, j2, p3, p4, p5, r1, r2, r3, r4, hln, rfl⟩ := iniBody_ok hbd
  cases rv with
  | @cons _ ua _ ur ra rr =>
  obtain rfl : ua = Value.ref a := ra
  cases rr with
  | @cons _ u _ ur2 ru rn =>
  cases rn
  have KX : K.In s.heap := e0.mod.kin.keeps fun b o e => (e0.bs b o e).1
  have lim : s.heap.NoLimit := e0.mod.nolimit.keeps fun b o e => (e0.bs b o e).1
  obtain ⟨t1, ho⟩ := exo_at e0.hok ha
  have hsz : a < s.heap.objs.size := Heap.lt_size ho
  subst efd
  refine PySem.ks_codeAny_call_defAt (fd := PySem.W.fnX name qual params _ scope [("__class__", cc)] dV kV doc pm an (.ref cda) ct) (binds := [(("self" : Str), Value.ref a), (fld, u)]) hr.depth (KX _ _ lk) rfl lim (PySem.W.codeRec_of KX hcd) rfl hb
    (fun x hx => of_decide_eq_true (List.all_eq_true.mp lnc x hx)) (fun x hx => ?_) (fun h₁ hns hk₁ => ?_) hco hgen hk
  · rcases List.mem_cons.mp hx with hx | hx
    · subst hx; exact l1
    · rw [List.mem_singleton.mp hx]; exact l2
  have bs : ∀ b o, base.get? b = some o → h₁.get? b = some o := fun b o e => hk₁ b o (e0.bs b o e).1
  have X1 : K.In h₁ := KX.keeps hk₁
  have hxa : h₁.get? a = some { cls := .ref C, dict := none, data := .fields #[.ref t1, .none, .none, .none, .bool false, .none] } := hk₁ _ _ ho
  have I1 : PySem.W.InstAt h₁ a { cls := .ref C, dict := none, data := .fields #[.ref t1, .none, .none, .none, .bool false, .none] } C none := ⟨hxa, rfl, rfl, trivial⟩
  have neC : a ≠ C := PySem.W.ks_ne X1 I1 hD
  obtain ⟨oD, hD1, hD2⟩ : ∃ oD, h₁.get? C = some oD ∧ oD.data = .cls cdD := by
    have hD' := hD
    unfold PySem.W.clsIn at hD'
    split at hD'
    · rename_i c d cd' sl ho
      cases hD'
      exact ⟨_, X1 _ _ ho, rfl⟩
    · cases hD'
  obtain ⟨mb, hb1, hb2⟩ := e0.mod.blt
  generalize henv : callEnv (PySem.W.fnX name qual params _ scope [("__class__", cc)] dV kV doc pm an (.ref cda) ct) s.heap.objs.size f = env
  have esc : env.scope = scope := by subst henv; rfl
  have ekind : ∀ x, env.kindOf x = scope.names.lookup x := fun x => by subst henv; rfl
  have efu : env.func = some f := by subst henv; rfl
  have eco : env.code = .ref cda := by subst henv; rfl
  have egl : env.globals = mainGlobals := by subst henv; rfl
  have ebl : env.builtins = builtinsNs := by subst henv; rfl
  have ece : env.cells = [(("__class__" : Str), cc)] := by subst henv; rfl
  have elo : env.locals = s.heap.objs.size := by subst henv; rfl
  have ekd : env.scope.kind = .function := by rw [esc]; exact hk
  have hint : interactive env = false := by simp [interactive, ekd]
  have lself : ([(("self" : Str), Value.ref a), (fld, u)].reverse).lookup ("self" : Str) = some (Value.ref a) := by
    show ([(fld, u), (("self" : Str), Value.ref a)]).lookup ("self" : Str) = _
    have e : (("self" : Str) == fld) = false := by simpa using (Ne.symm hI.fname.1)
    unfold List.lookup
    rw [e]
    rfl
  have lfld : ([(("self" : Str), Value.ref a), (fld, u)].reverse).lookup fld = some u := by
    show ([(fld, u), (("self" : Str), Value.ref a)]).lookup fld = _
    unfold List.lookup
    rw [show (fld == fld) = true from by simp]
  obtain ⟨hp0, g, d, t, os⟩ := s
  refine ks_wpAt_execs_cons (ks_wpAt_Expr_any (ks_wpAt_MethodCall (ks_wpAt_super_base ((ekind _).trans l3) ((ekind _).trans l4) (by decide) efu (X1 _ _ lk) rfl hp eco (X1 _ _ lcd) rfl hvs hfile hI.top ?_) (call_ev hln)) hint rfl)
  refine PySem.W.ks_loadName_global ekd ((ekind _).trans l3) (Calls.loadGlobal_builtin (by rw [egl]; exact e0.mod.glob.keeps bs) (PySem.W.mg_none_of e0.mod.kin e0.mod.glob hI.sup) (by rw [ebl]; exact hb1.keeps bs) ((hb2 "super" (by decide)).trans (by decide +kernel)) ⟨rfl, ?_⟩)
  refine wpAny_loadName_free ekd ((ekind _).trans l4) (by rw [ece]; rfl) ⟨_, X1 _ _ lcc, rfl⟩ ?_
  refine wpAny_loadName_local ekd (by rw [har]; exact (ekind _).trans l1) (by rw [elo]; exact hns) (by rw [har]; exact lself) ?_
  refine ks_wpAny_isType_cls hD1 hD2 ⟨rfl, ?_⟩
  refine ks_wpAny_call_super hD1 hD2 hxa rfl (fun c e => by cases e) (PySem.W.looks_mroIn X1 hI.slf) (fun h2 e2 k2 => ?_)
  have X2 : K.In h2 := X1.keeps k2
  have I2 : PySem.W.InstAt h2 a { cls := .ref C, dict := none, data := .fields #[.ref t1, .none, .none, .none, .bool false, .none] } C none := ⟨k2 _ _ hxa, rfl, rfl, trivial⟩
  have hal := hI.along
  unfold PySem.W.ks_superIn at hal
  rw [hD] at hal
  refine PySem.W.kxs_getMethod PySem.W.kxs_ValueError e2 (PySem.W.looks_opaque X2 hI.any) (l₀ := cdD.mro) (fun A Q E s k q => wpAny_bind ((PySem.W.looks_clsIn X2 hD) A _ E s k (wpAny_pure q))) rfl X2 hal (I2.type.andThen (PySem.W.looks_subIn X2 hI.sub)) neC (by decide) ?_
  obtain ⟨u2, hu2⟩ : ∃ u2, u2 = h2.objs.size := ⟨_, rfl⟩
  rw [← hu2]
  have k3 : ∀ b o, h2.get? b = some o → (h2.push (PySem.W.kxs_mw "ValueError.__init__" a)).get? b = some o := fun b o e => Heap.get?_push_of_some _ e
  have hmw : (h2.push (PySem.W.kxs_mw "ValueError.__init__" a)).get? u2 = some (PySem.W.kxs_mw "ValueError.__init__" a) := by rw [hu2]; exact Heap.get?_push_at rfl rfl
  have X3 := X2.keeps k3
  have hx3 := k3 _ _ (k2 _ _ hxa)
  generalize (h2.push (PySem.W.kxs_mw "ValueError.__init__" a)) = h3 at k3 hmw X3 hx3 ⊢
  refine PySem.W.kxs_callWith (i := "ValueError.__init__") (x := a) rfl (Calls.evalArgs_plain (Calls.spliced_cons (Calls.Constant_str (k := j2) (pos := p3) ?_)))
  show wpAny _ _ (spliced []) _ _ _
  refine Calls.spliced_nil ⟨hmw, ?_⟩
  obtain ⟨nm, qq, N, bs', bm, sn, sub, ab, col, dd', k0', k1', k2', k3', k5', hC, hbm⟩ := hI.oex.cls
  have FB := F.excBase_ValueError
  refine wpAny_call (codeAny_of_tree ?_)
  show wpAny _ _ (callAny (.ref u2) ⟨_, []⟩) _ _ _
  simp only [callAny]
  refine wpAny_bind (wpAny_load hmw ?_)
  simp only [PySem.W.kxs_mw, show (Value.type "method-wrapper" == Value.type "method" || Value.type "method-wrapper" == Value.type "builtin_function_or_method" || Value.type "method-wrapper" == Value.type "method-wrapper") = true by decide, if_true]
  refine PySem.W.KFB.if_so (by decide) ?_
  refine wpAny_bind (PySem.W.check_bound_init FB.toExcCallFacts (X3 _ _ hC) hx3 rfl ?_)
  refine wpAny_bind (wpAny_pure (wpAny_pure ?_))
  refine ⟨plainId_quiet FB.init.plain _, codeAny_builtin FB.initEntry ?_⟩
  refine PySem.W.exc_init_tree (cls := .ref C) (t0 := t1) (dv := none) (c2 := .none) (c3 := .none) (b4 := .bool false) hx3 (by show 1 ≤ sizeLine; decide) fun h4 k4 e4 t4 => ?_
  show PySem.wpAt _ _ _ (execs _ _) _ _ _
  have nb : ∀ b o, K.lookup b = some o → b ≠ a := fun b o e z => by
    have h1 := e0.mod.kin b o e
    have h2 := (e0.bs b o h1).2
    rw [z, ha] at h2; cases h2
  have X4 : K.In h4 := fun b o e => k4 b o (nb b o e) (X3 b o e)
  have hLa : hp0.objs.size ≠ a := fun z => absurd hsz (by rw [← z]; exact Nat.lt_irrefl _)
  obtain ⟨oL, es, ep, hL, rL⟩ := hns
  have ns4 : h4.Ns hp0.objs.size (fun x => [(("self" : Str), Value.ref a), (fld, u)].reverse.lookup x) := ⟨oL, es, ep, k4 _ _ hLa (k3 _ _ (k2 _ _ hL)), rL⟩
  have lt4 : hp0.objs.size < h4.objs.size := Heap.lt_size (k4 _ _ hLa (k3 _ _ (k2 _ _ hL)))
  refine ks_wpAt_execs_cons (PySem.wpAt_of_wpAny (plainObj_wpAny_Assign_Attribute (wpAny_Name (wpAny_loadName_local ekd ((ekind _).trans l2) (by rw [elo]; exact ns4) lfld (wpAny_Name (wpAny_loadName_local ekd ((ekind _).trans l1) (by rw [elo]; exact ns4) lself ?_) (by decide))) hI.fname.2.1) rfl))
  have hcl : PySem.W.clsIn K C = some { name := nm, bases := bs', mro := .ref C :: bm, ns := N, qualname := qq, hasDict := true, slotNames := sn, subclasses := sub, abstract := ab, collection := col, hasDel := false } := by unfold PySem.W.clsIn; rw [hC] <;> rfl
  refine PySem.W.set_plain X4 (ox := { cls := .ref C, dict := none, data := _ }) (od := none) ⟨e4, rfl, rfl, trivial⟩ hI.oex.sa ?_
  refine PySem.HandSPX.exc_osa X4 e4 hcl (show PySem.HandSPX.refsVE (.ref C :: bm) = true from hbm) rfl hI.no (fun h' tk' dx k dn dne hx hn => ?_)
  show PySem.wpAt _ _ _ (execs [] _) _ _ _
  refine PySem.wpAt_of_wpAny (wpAny_execs_nil ?_)
  have kk : ∀ b o, b ≠ a → hp0.get? b = some o → h'.get? b = some o := fun b o hb e => k b o hb (k4 b o hb (k3 _ _ (k2 _ _ (hk₁ _ _ e))))
  have hnd : H dx = none := e0.hok.fresh (Nat.le_of_lt (Nat.lt_of_lt_of_le lt4 dn))
  have nd : ∀ {b : Addr} {o : Obj}, hp0.get? b = some o → b ≠ dx := fun {b o} q => Nat.ne_of_lt (Nat.lt_of_lt_of_le (Nat.lt_trans (Heap.lt_size q) lt4) dn)
  have na : ∀ {b : Addr}, H b = none → b ≠ a := fun {b} n z => by
    rw [z, ha] at n
    cases n
  have Un1 : Un (frs outer) [] H (upd (upd H dx (exd dx [(fld, v)])) a (exo a C (some dx))) hp0 h' := {
    keep := fun b o q n _ _ => kk b o (na n) q
    slot := fun b o q n _ _ => ⟨o.slots, kk b o (na n) q⟩
    free := fun b o q n _ => by rw [upd_ne (na n), upd_ne (nd q)]; exact n
    there := fun b o q _ => by
      by_cases hb : b = a
      · exact ⟨_, by rw [hb]; exact hx⟩
      · exact ⟨o, kk b o hb q⟩
    tups := fun b xs q => by rw [upd_ne (at_ne ha q exo_tup), upd_ne (ne_of_none q hnd)]; exact q
    frzs := fun b o v q => by rw [upd_ne (at_ne ha q exo_frz), upd_ne (ne_of_none q hnd)]; exact q
    tbls := fun b ps q => ⟨#[], by rw [upd_ne (at_ne ha q exo_tbl), upd_ne (ne_of_none q hnd), q]; simp⟩ }
  have hok' : HOk P w (upd (upd H dx (exd dx [(fld, v)])) a (exo a C (some dx))) h' := fun b o q => by
    by_cases hb : b = a
    · subst hb
      rw [upd_same] at q
      cases q
      exact exo_ok hx
    · rw [upd_ne hb] at q
      by_cases hd : b = dx
      · subst hd
        rw [upd_same] at q
        cases q
        exact exd_ok hn (relO_put (fs := []) ru fun g => True.intro)
      · rw [upd_ne hd] at q
        exact (e0.hok b o q).stay (fun c v hc z => kk c v (by
            rcases hc with hc | hc
            · rw [hc]
              exact hb
            · exact at_ne ha hc exo_own) z)
          (fun c hc => by rw [upd_ne (at_ne ha hc exo_own), upd_ne (ne_of_none hc hnd)]; exact hc) (fun c xs hc => by rw [upd_ne (at_ne ha hc exo_tup), upd_ne (ne_of_none hc hnd)]; exact hc)
  exact ⟨.non, _, rfl, e0.bare, Un1, hok', rfl, hq dx hnd dne⟩
/-- the class at C is made through its def at f -/
structure IniF (P : Program) (w : World) (K : PySem.W.Frag) (mg : Str → Option Value) (base : Heap) (C : Addr) (fld : Str) (f : Addr) (fd : FuncData) : Prop where
  fn : FnOk P w K mg base (L2N.CX P w) 1 f fd ["self", fld] (spI C fld)
  oex : OexC K C
  iC : PySem.W.findIn K (.ref C) "__init__" = some (some (.ref f))
  tI : PySem.W.typeIn K (.ref f) = some (.type "function")
  bd : Binds K fd ["self", fld] []
end
section
variable {X : Cx} {G : Gd} {W : WX} {pos p p2 : Pos} {a : Expr} {ma : ME} {x : Str} {f : Addr} {fd : FuncData} {C : Addr} {fld : Str}
/-- C(e), an error with its own dict; nothing is handled now -/
theorem mk_ini (F : IniF X.prog X.w X.K X.mg X.base C fld f fd) (hr : Room 2 X.A) (hg : Gl X x) (hm : X.mg x = some (.ref C)) {ta : TE} (ha : PE X a ta) (hdb : (x == ("__debug__" : Str)) = false) (hst : starEach [a] X.env = (false, eval a X.env) :: starEach [] X.env) :
    L2N.PMk X (.Call (.Name x p) [a] [] pos) (fun σ H Q => ta σ H fun v H1 => ∀ d, H1 d = none → Q (.ref C) (some d) (upd H1 d (.xd [(fld, v)]))) := by
  intro pins s σ H Q I h
  obtain ⟨nm, q, N, bs, bm, sn, sub, ab, col, dd, k0, k1, k2, k3, k5, hC, hbm⟩ := F.oex.cls
  have pa : PA X [a] (tCons ta tNil) := pa_cons ha pa_nil hst
  refine wpAny_Call_Name_kw (ld_glob I hg hm ?_ hdb)
  refine PySem.W.callWith_K (h₀ := X.base) I.ok.mod.kin F.oex.kC (thn (pa.run pos pins s σ H (fun vs H1 => match vs with
    | [v] => ∀ d, H1 d = none → Q (.ref C) (some d) (upd H1 d (.xd [(fld, v)]))
    | _ => False) I h) fun us s1 ⟨vs, H1, I1, r1, q1⟩ => ⟨I1.kIn, ?_⟩) hst rfl
  match vs, q1, r1 with
  | [v], q1, r1 =>
  cases r1 with
  | @cons _ u _ _ rv rn =>
  cases rn
  show wpAny _ _ (call (.ref C) [u]) _ _ _
  obtain ⟨hp, g, dr, tk, os⟩ := s1
  have hsz : hp.objs.size ≤ hp.objs.size + 1 := Nat.le_succ _
  generalize hA : hp.objs.size + 1 = A at hsz
  have hn : H1 A = none := I1.hok.fresh hsz
  have kk : ∀ b o, hp.get? b = some o → ((hp.push (PySem.W.kdv_tup [u])).push (PySem.HandSPX.excO C hp.objs.size)).get? b = some o := fun b o e => Heap.get?_push_of_some _ (Heap.get?_push_of_some _ e)
  have hget : ((hp.push (PySem.W.kdv_tup [u])).push (PySem.HandSPX.excO C hp.objs.size)).get? A = some (PySem.HandSPX.excO C hp.objs.size) := by rw [← hA]; heap_get
  have I2 : Inv X pins σ (upd H1 A (exo A C none)) ⟨(hp.push (PySem.W.kdv_tup [u])).push (PySem.HandSPX.excO C hp.objs.size), g, dr, tk, os⟩ := I1.laid (t' := tk) (a := A) (o := exo A C none) (h' := (hp.push (PySem.W.kdv_tup [u])).push (PySem.HandSPX.excO C hp.objs.size)) kk hsz (exo_ok hget)
  have hsp : spI C fld [.ref A, v] (upd H1 A (exo A C none)) (fun z H2 => z = .non ∧ ∃ d, H2 A = some (exo A C (some d)) ∧ H2 d = some (exd d [(fld, v)]) ∧ H1 d = none ∧ Q (.ref C) (some d) (upd (del H2 A) d (.xd [(fld, v)]))) (fun _ _ _ => False) := by
    refine ⟨A, v, rfl, upd_same, fun d hd hne => ⟨rfl, d, upd_same, by rw [upd_ne hne, upd_same], by rwa [upd_ne hne] at hd, ?_⟩⟩
    rw [upd_ne hne] at hd
    have e : upd (del (upd (upd (upd H1 A (exo A C none)) d (exd d [(fld, v)])) A (exo A C (some d))) A) d (.xd [(fld, v)]) = upd H1 d (.xd [(fld, v)]) := by
      funext b
      by_cases hb : b = d
      · subst hb; rw [upd_same, upd_same]
      · rw [upd_ne hb, upd_ne hb]
        by_cases ha : b = A
        · subst ha; rw [del_same, hn]
        · rw [del_ne ha, upd_ne ha, upd_ne hb, upd_ne ha]
    rw [e]
    exact q1 d hd
  have hus : [u].length ≤ sizeLine := by show 1 ≤ sizeLine; decide
  have b2 := F.bd _ [Value.ref A, u] I2.kIn rfl
  subst hA
  refine wpAny_call (PySem.HandSPX.call_own PySem.F.excBase_ValueError (fun Y => PySem.HandSPX.refsVE_contains Y bm hbm) (I1.kIn _ _ hC) (PySem.W.looks_findIn I1.kIn F.iC) (fun self => PySem.W.bind_fn I1.kIn self F.tI) hus
    (codeAny_mono (F.fn.run _ X.stack _ _ ⟨[Value.ref (hp.objs.size + 1), u], []⟩ [Value.ref (hp.objs.size + 1), u] [V.ref (hp.objs.size + 1), v] _ (fun _ _ _ => False) (Room.make hr C [u] []) (I2.env0.make C [u] []) b2 (.cons rfl (.cons rv .nil)) hsp) fun r s' hq' => ?_))
  cases r with
  | error er => obtain ⟨_, _, _, _, _, _, _, _, _, _, _, _, z⟩ := hq'; exact z.elim
  | ok fl =>
    cases fl with
    | ret u' =>
      obtain ⟨v', H2, os2, bare2, un2, hok2, rv', ev, d, ea, ed, hd1, q2⟩ := hq'
      subst ev
      obtain ⟨h2, g2, d2, t2, os'⟩ := s'
      obtain ⟨t0, B, J, kG, ge, hoe, na⟩ := mk_end0 (d2 := d2) (t2 := t2) I1 hsz kk un2 hok2 os2 bare2 ea ed hd1
      exact ⟨rv', hp.objs.size + 1, _, _, ⟨B, g2, d2, t2, os'⟩, _, .ref C, some d, rfl, J, kG, ge, hoe, ⟨rfl, rfl, fun vs hv => (by cases hv; rfl)⟩, rfl, rfl, na, rfl, bare2, raises_own F.oex.exC F.oex.tyC, q2⟩
    | next => exact False.elim hq'
    | brk => exact False.elim hq'
    | cont => exact False.elim hq'
/-- the errors with a field can be made -/
def IniAll (P : Program) (w : World) (mg : Str → Option Value) (base : Heap) (G : Gd) : Prop := ∀ k : EC, k.fld ≠ Str.empty → ∃ f fd, IniF P w G.K mg base (G.cA k) k.fld f fd
theorem fld_name (k : EC) (h : k.fld ≠ Str.empty) : k.fld ≠ ("self" : Str) ∧ (k.fld == ("__debug__" : Str)) = false ∧ (k.fld == ("__classdict__" : Str)) = false := by
  cases k <;> first | exact absurd rfl h | (refine ⟨?_, ?_, ?_⟩ <;> decide)
theorem ini_all {P : Program} {w : World} {mg : Str → Option Value} {base : Heap} {G : Gd} {file : Str} (h : ∀ k : EC, k.fld ≠ Str.empty → iniB G.K file (G.cA k) k.fld = true) (hf : P.main.file = file) (ht : (P.main.scope.names.lookup ("super" : Str)).isSome = false) : IniAll P w mg base G := fun k hk => by
  obtain ⟨f, fd, I, h1, h2, h3⟩ := iniB_ok (h k hk) hf ht (fld_name k hk)
  exact ⟨f, fd, ini_ok I, I.oex, h1, h2, h3⟩
/-- raise C(e) -/
theorem s_raiseX {ec : EC} (F : IniF X.prog X.w X.K X.mg X.base (G.cA ec) ec.fld f fd) (hr : Room 2 X.A) (hc : X.calm = true) (tk : L2N.Takes X W) (hg : Gl X x) (hm : X.mg x = some (.ref (G.cA ec))) (ha : PE X a (tE G W ma)) (hdb : (x == ("__debug__" : Str)) = false) (hst : starEach [a] X.env = (false, eval a X.env) :: starEach [] X.env) :
    PS X (.Raise (some (.Call (.Name x p) [a] [] p2)) none pos) (tS G W (mRaiseX ec ma)) := by
  refine impS (L2N.ps_raise hc tk (mk_ini F hr hg hm ha hdb hst)) fun D σ H ⟨w, s, e, ok, er, h⟩ => ?_
  refine ⟨w, s, e, ok, er, PostS.go ok er h fun w1 s1 H1 v u x1 ok1 r1 er1 h1 => fun d hd => ?_⟩
  cases v with
  | d y =>
    obtain ⟨ok2, x2⟩ := ok1.grow (grow_upd (o := .xd [(ec.fld, u)]) hd)
    exact h1 w1 _ σ _ (some d) (x2.step ok2) ok2 (er1.ext ok1 x2) ⟨rfl, d, u, rfl, upd_same, ok1.notN hd, (SlotR.ext (v := .d y) ok1 x2 r1)⟩
  | _ => exact h1.elim
end
end MP
end

section
set_option Elab.async false
set_option linter.all false
set_option maxRecDepth 100000
set_option maxHeartbeats 4000000
/-! MP, part lc2: comprehensions with two fors. -/
namespace MP
open PySem PySem.Spec PyProof.Rows L2
/-- the inner turns; the list is looked at for its length -/
def lcGoI (e : Env) (tg : Tg) (t : MT) (m : ME) : List D → List D → S → R (List D)
  | [], acc, s => .ok acc s
  | x :: xs, acc, s => match tgSet tg x e with
    | some e2 => (match t e2 s with
      | .ok true s => (match m e2 s with
        | .ok (.d y) s => if acc.length < line then lcGoI e tg t m xs (acc ++ [y]) s else .stuck
        | _ => .stuck)
      | .ok false s => lcGoI e tg t m xs acc s
      | _ => .stuck)
    | none => .stuck
def lcGo2 (e : Env) (tg : Tg) (t : MT) (it1 : MI) (own1 : List Nat) (tg1 : Tg) (t1 : MT) (m : ME) : List D → List D → S → R (List D)
  | [], acc, s => .ok acc s
  | x :: xs, acc, s => match tgSet tg x e with
    | some e2 => (match t e2 s with
      | .ok true s => (match it1 e2 s with
        | .ok ys s => (match lcGoI (wipe e2 own1) tg1 t1 m ys acc s with
          | .ok acc s => lcGo2 e tg t it1 own1 tg1 t1 m xs acc s
          | _ => .stuck)
        | _ => .stuck)
      | .ok false s => lcGo2 e tg t it1 own1 tg1 t1 m xs acc s
      | _ => .stuck)
    | none => .stuck
/-- [m for tg in it if t for tg1 in it1 if t1] -/
def mLc2 (own : List Nat) (tg : Tg) (it : MI) (t : MT) (it1 : MI) (own1 : List Nat) (tg1 : Tg) (t1 : MT) (m : ME) : ME := fun e s => (it e s).bind fun xs s => (lcGo2 (wipe e own) tg t it1 own1 tg1 t1 m xs [] s).bind fun ys s => .ok (.d (.lst ys)) s
/-- the list that is made, and what is known of the outer loop -/
structure LcB (G : Gd) (w1 : Wd) (H1 : Hp) (p : Addr) (E0 : Env) (S0 : L2.St) (J0 : It) (xs0 : List D) (H : Hp) (wz : Wd) (s : S) (acc : List D) (vs : List V) : Prop where
  bp : wz.B p
  ap : p ∉ wz.α
  ok : Ok G wz s H
  ex : Ext w1 H1 (subB wz p) H
  at_ : H p = some (.lst vs)
  ac : Reps G.K wz.N H acc vs
  len : vs.length ≤ line
  er0 : EnvR G wz H E0 S0
  wk0 : Walks G.K wz.N H J0 xs0
section
variable {X : Cx} {G : Gd} {W : WX} {w1 wz w' : Wd} {H1 H H' : Hp} {p : Addr} {E0 : Env} {S0 : L2.St} {J0 : It} {xs0 : List D} {s s' : S} {acc : List D} {vs : List V}
theorem LcB.step (b : LcB G w1 H1 p E0 S0 J0 xs0 H wz s acc vs) (x : Ext wz H w' H') (ok' : Ok G w' s' H') : LcB G w1 H1 p E0 S0 J0 xs0 H' w' s' acc vs :=
  ⟨x.bm p b.bp, x.notin b.ap b.at_, ok', b.ex.trans (b.ok.subB b.ap) (x.sub b.at_), x.keep p _ b.at_ b.ap, Reps.last (x.last b.ok) acc b.ac, b.len, b.er0.ext b.ok x, b.wk0.last (x.last b.ok)⟩
theorem LcB.put (b : LcB G w1 H1 p E0 S0 J0 xs0 H wz s acc vs) (hp : H1 p = none) {z : D} {u : V} (r : Rep G.K wz.N H z u) (hl : vs.length < line) : LcB G w1 H1 p E0 S0 J0 xs0 (upd H p (.lst (vs ++ [u]))) wz s (acc ++ [z]) (vs ++ [u]) ∧ Last wz.N wz.N H (upd H p (.lst (vs ++ [u]))) := by
  obtain ⟨ok5, L5⟩ := b.ok.put b.bp b.ap (vs ++ [u]) b.at_
  refine ⟨⟨b.bp, b.ap, ok5, b.ex.put hp, upd_same, (Reps.last L5 acc b.ac).append (.one (Rep.last L5 z r)), by rw [List.length_append]; exact hl, b.er0.last L5 rfl rfl fun q o h ho => ?_, b.wk0.last L5⟩, L5⟩
  rw [upd_ne (b := q) fun z => b.ok.bo p b.bp (by rw [← z]; exact ho)]
  exact h
theorem lc_inner {tg : Tg} {t : MT} {m : ME} {own1 : List Nat} (ht : ∀ i ∈ tgSlots tg, i ∈ own1) (hp : H1 p = none) {e2 : Env} {σ2 : L2.St} {J : It} {ys : List D} (Fin : R (List D) → Prop) (hst : ¬ Fin .stuck) (Nx : Hp → Prop)
    (hfin : ∀ wz s acc H vs, LcB G w1 H1 p E0 S0 J0 xs0 H wz s acc vs → Fin (.ok acc s) → Nx H) (b0 : LcB G w1 H1 p E0 S0 J0 xs0 H wz s acc vs) (er : EnvR G wz H e2 σ2) (wk : Walks G.K wz.N H J ys) (h : Fin (lcGoI (MP.wipe e2 own1) tg t m ys acc s)) :
    ∃ W : Nat → Nat → Hp → Prop, (∃ m, W 0 m H) ∧ ∀ i k H, W i k H →
  (J.stop i H ∧ Nx H) ∨ (J.go i H ∧ ∃ Nx1 : Hp → Prop, (∀ H', Nx1 H' → ∃ m', m' < k ∧ W (i + 1) m' H') ∧ ∀ x H', J.yld i H x H' → gTg G.K tg x (L2.wipe σ2 own1) H' fun σ3 H2 => L2.wipe σ3 own1 = L2.wipe σ2 own1 ∧ tT G WF t σ3 H2 fun b H3 =>
    if b = true then tE G WF m σ3 H3 fun y H4 => ∃ acc, H4 p = some (.lst acc) ∧ acc.length < sizeLine ∧ Nx1 (upd H4 p (.lst (acc ++ [y]))) else Nx1 H3) := by
  refine ⟨fun i n H' => ∃ wz s acc vs, i ≤ ys.length ∧ n = ys.length - i ∧ LcB G w1 H1 p E0 S0 J0 xs0 H' wz s acc vs ∧ EnvR G wz H' (MP.wipe e2 own1) (L2.wipe σ2 own1) ∧ Walks G.K wz.N H' J ys ∧ Fin (lcGoI (MP.wipe e2 own1) tg t m (ys.drop i) acc s), ⟨_, wz, s, acc, vs, Nat.zero_le _, rfl, b0, er.wipe own1, wk, h⟩, ?_⟩
  rintro i n H2 ⟨wz, s2, acc, vs, hi, hn, b2, er2, wk2, po⟩
  have wk2' := wk2 _ _ (Last.refl b2.ok)
  cases hx : ys[i]? with
  | none =>
    have hi : i = ys.length := Nat.le_antisymm hi (List.getElem?_eq_none_iff.mp hx)
    rw [hi, List.drop_length] at po
    exact .inl ⟨by rw [hi]; exact wk2'.stop, hfin wz s2 acc H2 vs b2 po⟩
  | some x =>
    obtain ⟨hgo, hy⟩ := wk2'.go i x hx
    have hlt : i < ys.length := (List.getElem?_eq_some_iff.mp hx).1
    have hdrop : ys.drop i = x :: ys.drop (i + 1) := by
      rw [List.drop_eq_getElem_cons hlt]
      rw [List.getElem?_eq_getElem hlt] at hx
      rw [Option.some.inj hx]
    refine .inr ⟨hgo, _, fun H' h => ⟨n - 1, by omega, h⟩, fun y H' yl => ?_⟩
    obtain ⟨rfl, ry⟩ := hy y H' yl
    rw [hdrop] at po
    unfold lcGoI at po
    cases q1 : tgSet tg x (MP.wipe e2 own1) with
    | none => rw [q1] at po; exact (hst po).elim
    | some e3 =>
      rw [q1] at po
      dsimp only at po
      refine tg_ok er2 ry q1 fun σ3 er3 bf => ⟨(bf own1 ht).trans (wipe_wipe σ2 own1), ?_⟩
      refine ⟨wz, s2, e3, b2.ok, er3, ?_⟩
      cases q2 : t e3 s2 with
      | exn c z s3 => rw [q2] at po; exact (hst po).elim
      | stuck => rw [q2] at po; exact (hst po).elim
      | ok b s3 =>
        rw [q2] at po
        intro w3 H3 b' x3 ok3 eb
        subst eb
        have b3 := b2.step x3 ok3
        cases b with
        | false =>
          rw [if_neg Bool.false_ne_true]
          exact ⟨w3, s3, acc, vs, hlt, by omega, b3, er2.ext b2.ok x3, wk2.last (x3.last b2.ok), po⟩
        | true =>
          rw [if_pos rfl]
          dsimp only at po
          refine ⟨w3, s3, e3, ok3, er3.ext b2.ok x3, ?_⟩
          cases q3 : m e3 s3 with
          | exn c z s4 => rw [q3] at po; exact (hst po).elim
          | stuck => rw [q3] at po; exact (hst po).elim
          | ok v s4 =>
            rw [q3] at po
            cases v with
            | d z =>
              dsimp only at po
              split at po
              · rename_i hlen
                intro w4 H4 u x4 ok4 r4
                have b4 := b3.step x4 ok4
                have hlen : vs.length < line := by rw [← b4.ac.length]; exact hlen
                obtain ⟨b5, L5⟩ := b4.put hp r4 hlen
                refine ⟨vs, b4.at_, by rw [← line_eq]; exact hlen, w4, s4, acc ++ [z], vs ++ [u], hlt, by omega, b5, ?_, ?_, po⟩
                · refine ((er2.ext b2.ok x3).ext ok3 x4).last L5 rfl rfl fun q o h ho => ?_
                  rw [upd_ne (b := q) fun z => ok4.bo p b4.bp (by rw [← z]; exact ho)]
                  exact h
                · exact (wk2.last ((x3.last b2.ok).trans (x4.last ok3))).last L5
              · exact (hst po).elim
            | _ => exact (hst po).elim
theorem lc2_read {own own1 : List Nat} {tg tg1 : Tg} {it it1 : MI} {t t1 : MT} {m : ME} (ht : ∀ i ∈ tgSlots tg, i ∈ own) (ht1 : ∀ i ∈ tgSlots tg1, i ∈ own1) {σ : L2.St} {H : Hp} {Q : VK} (h : tE G W (mLc2 own tg it t it1 own1 tg1 t1 m) σ H Q) :
    tLc2 (tI G W it) (gTg G.K tg) (tT G WF t) (tI G WF it1) (gTg G.K tg1) (tT G WF t1) (tE G WF m) own own1 σ H Q := by
  obtain ⟨w, s, e, ok, er, h⟩ := h
  refine ⟨w, s, e, ok, er, Post.bind (rel := relI G) h fun w1 s1 H1 xs J x1 ok1 ⟨wk, hz⟩ h1 => fun p hp => ?_⟩
  generalize hFin : (fun r => Post G W (relV G) w1 H1 σ (R.bind r fun ys s => .ok (.d (.lst ys)) s) Q) = Fin
  have hst : ¬ Fin .stuck := by subst hFin; exact fun h => h
  have h1 : Fin (lcGo2 (MP.wipe e own) tg t it1 own1 tg1 t1 m xs [] s1) := by subst hFin; exact h1
  have er1 := er.ext ok x1
  have L := last_add ok1 hp []
  refine ⟨fun i n H' => ∃ wz s acc vs, i ≤ xs.length ∧ n = xs.length - i ∧ LcB G w1 H1 p (MP.wipe e own) (L2.wipe σ own) J xs H' wz s acc vs ∧ Fin (lcGo2 (MP.wipe e own) tg t it1 own1 tg1 t1 m (xs.drop i) acc s), ⟨_, addB w1 p, s1, [], [], Nat.zero_le _, rfl, ⟨.inr rfl, fun z => ?_, ok1.addB hp [], ?_, upd_same, .nil, Nat.zero_le _, ?_, wk.last L⟩, h1⟩, ?_⟩
  · obtain ⟨vs, e⟩ := ok1.at z
    rw [hp] at e; cases e
  · refine ⟨⟨[], by simp [subB, addB], by simp⟩, fun q h => ⟨.inl h, fun z => ?_⟩, fun q h => ?_, rfl, fun q o h _ => grow_upd hp q o h⟩
    · subst z
      exact ok1.notN hp (.inl h)
    · rcases h.1 with z | z
      · exact .inl z
      · exact absurd z h.2
  · exact (er1.wipe own).last L rfl rfl fun q o h _ => grow_upd hp q o h
  rintro i n H2 ⟨wz, s2, acc, vs, hi, hn, b2, po⟩
  have wk2' := b2.wk0 _ _ (Last.refl b2.ok)
  cases hx : xs[i]? with
  | none =>
    have hi : i = xs.length := Nat.le_antisymm hi (List.getElem?_eq_none_iff.mp hx)
    rw [hi, List.drop_length] at po
    refine .inl ⟨by rw [hi]; exact wk2'.stop, ?_⟩
    subst hFin
    refine po (subB wz p) H2 (.ref p) b2.ex (b2.ok.subB b2.ap) ?_
    show Rep G.K (subB wz p).N H2 (.lst acc) (.ref p)
    refine rep_lst (fun z => ?_) b2.at_ b2.len (Reps.less sub_N acc b2.ac)
    rcases z with z | z
    · exact z.2 rfl
    · exact b2.ok.bo p b2.bp z
  | some x =>
    obtain ⟨hgo, hy⟩ := wk2'.go i x hx
    have hlt : i < xs.length := (List.getElem?_eq_some_iff.mp hx).1
    have hdrop : xs.drop i = x :: xs.drop (i + 1) := by
      rw [List.drop_eq_getElem_cons hlt]
      rw [List.getElem?_eq_getElem hlt] at hx
      rw [Option.some.inj hx]
    generalize hNx : (fun H' => ∃ wz s acc vs, i + 1 ≤ xs.length ∧ n - 1 = xs.length - (i + 1) ∧ LcB G w1 H1 p (MP.wipe e own) (L2.wipe σ own) J xs H' wz s acc vs ∧ Fin (lcGo2 (MP.wipe e own) tg t it1 own1 tg1 t1 m (xs.drop (i + 1)) acc s)) = Nx
    have nx : ∀ {wz : Wd} {s : S} {acc : List D} {vs : List V} {H' : Hp}, LcB G w1 H1 p (MP.wipe e own) (L2.wipe σ own) J xs H' wz s acc vs → Fin (lcGo2 (MP.wipe e own) tg t it1 own1 tg1 t1 m (xs.drop (i + 1)) acc s) → Nx H' := fun {wz s acc vs H'} b f => by
      subst hNx; exact ⟨wz, s, acc, vs, hlt, by omega, b, f⟩
    refine .inr ⟨hgo, Nx, fun H' h => ⟨n - 1, by omega, by subst hNx; exact h⟩, fun y H' yl => ?_⟩
    obtain ⟨rfl, ry⟩ := hy y H' yl
    rw [hdrop] at po
    unfold lcGo2 at po
    cases q1 : tgSet tg x (MP.wipe e own) with
    | none => rw [q1] at po; exact (hst po).elim
    | some e2 =>
      rw [q1] at po
      dsimp only at po
      refine tg_ok b2.er0 ry q1 fun σ2 er2 bf => ⟨(bf own ht).trans (wipe_wipe σ own), ?_⟩
      refine ⟨wz, s2, e2, b2.ok, er2, ?_⟩
      cases q2 : t e2 s2 with
      | exn c z s3 => rw [q2] at po; exact (hst po).elim
      | stuck => rw [q2] at po; exact (hst po).elim
      | ok b s3 =>
        rw [q2] at po
        intro w3 H3 b' x3 ok3 eb
        subst eb
        have b3 := b2.step x3 ok3
        cases b with
        | false =>
          rw [if_neg Bool.false_ne_true]
          exact nx b3 po
        | true =>
          rw [if_pos rfl]
          dsimp only at po
          refine ⟨w3, s3, e2, ok3, er2.ext b2.ok x3, ?_⟩
          cases q3 : it1 e2 s3 with
          | exn c z s4 => rw [q3] at po; exact (hst po).elim
          | stuck => rw [q3] at po; exact (hst po).elim
          | ok ys s4 =>
            rw [q3] at po
            dsimp only at po
            intro w4 H4 J1 x4 ok4 ⟨wk1, hz1⟩
            refine lc_inner ht1 hp (fun r => Fin (match r with
              | .ok acc s => lcGo2 (MP.wipe e own) tg t it1 own1 tg1 t1 m (xs.drop (i + 1)) acc s
              | _ => .stuck)) hst Nx (fun wz s acc H vs b f => nx b f) (b3.step x4 ok4) ((er2.ext b2.ok x3).ext ok3 x4) wk1 po
end
end MP
end

section
set_option Elab.async false
set_option linter.all false
set_option maxRecDepth 100000
set_option maxHeartbeats 4000000
/-! MP, part p: from the text to its meaning: expressions. -/
namespace MP
open PySem PySem.Spec PyProof.Rows L2
abbrev Nm := List (Str × NameKind)
/-- what is known of a place in the text -/
structure Inf where
  N : List Str
  sc : Nm
  own : Nm
  hot : Bool
  T : Str → FK
  cls : Str → Option EC
  glo : Str → Option D
  gd : Str → Option (List (Str × D))
  tq : List Nat
  bl : List Str
def idx : List Str → Str → Option Nat
  | [], _ => none
  | y :: r, x => if y = x then some 0 else (idx r x).map (· + 1)
theorem idx_ok : ∀ {l : List Str} {x : Str} {i : Nat}, idx l x = some i → l[i]? = some x
  | [], x, i, h => by cases h
  | y :: r, x, i, h => by
    unfold idx at h
    split at h
    · rename_i e; cases h; rw [e]; rfl
    · cases q : idx r x with
      | none => rw [q] at h; cases h
      | some j =>
        rw [q] at h
        cases h
        show r[j]? = some x
        exact idx_ok q
def okName (x : Str) : Bool := !(x == ("__debug__" : Str)) && !(x == ("__classdict__" : Str))
def Inf.vis (Γ : Inf) (x : Str) : Option Nat := if okName x then (match Γ.sc.lookup x with
  | some .local => idx Γ.N x
  | some .cell => idx Γ.N x
  | some .free => idx Γ.N x
  | _ => none) else none
def Inf.gl (Γ : Inf) (x : Str) : Bool := decide (Γ.sc.lookup x = some .globalImplicit) && okName x
def Inf.blt (Γ : Inf) (x : Str) : Bool := Γ.gl x && decide (x ∈ Γ.bl)
/-- a name that may be set here -/
def Inf.st (Γ : Inf) (x : Str) : Option Nat := match Γ.own.lookup x with
  | some .local => idx Γ.N x
  | some .cell => idx Γ.N x
  | _ => none
def noStar : Expr → Bool
  | .Starred .. => false
  | _ => true
def noCall : Expr → Bool
  | .Call .. => false
  | _ => true
def noSlice : Expr → Bool
  | .Slice .. => false
  | _ => true
def plainT : Expr → Bool
  | .UnaryOp .Not _ _ => false
  | .BoolOp .. => false
  | .IfExp .. => false
  | .Compare .. => false
  | _ => true
def isNone : Expr → Bool
  | .Constant .none _ _ => true
  | _ => false
def opOf : Operator → Option Op
  | .Add => some .add | .Sub => some .sub | .Mult => some .mul | .FloorDiv => some .fdiv | .Mod => some .mod | .Pow => some .pow | .LShift => some .shl | .RShift => some .shr | .BitAnd => some .band | .BitOr => some .bor | .BitXor => some .bxor
  | _ => none
theorem opOf_ok {o : Operator} {k : Op} (h : opOf o = some k) : o = k.o := by cases o <;> first | (cases h; rfl) | cases h
def cmpOf : CmpOp → Option Cmp
  | .Lt => some .lt | .LtE => some .le | .Gt => some .gt | .GtE => some .ge | .Eq => some .eq | .NotEq => some .ne | .In => some .in_ | .NotIn => some .notin
  | _ => none
theorem cmpOf_ok {o : CmpOp} {k : Cmp} (h : cmpOf o = some k) : o = k.o := by cases o <;> first | (cases h; rfl) | cases h
def b1B : List (Str × B1) := [("len", .len), ("int", .int), ("bool", .bool), ("str", .str), ("abs", .abs), ("tuple", .tuple), ("list", .list), ("sum", .sum), ("sorted", .sorted), ("all", .all), ("any", .any), ("max", .max), ("min", .min)]
def tyB : List (Str × Ty) := [("int", .int), ("bool", .bool), ("str", .str), ("list", .list), ("tuple", .tuple), ("dict", .dict), ("ValueError", .valueError)]
def Inf.ty (Γ : Inf) : Expr → Option Ty
  | .Name x _ => if Γ.blt x then tyB.lookup x else if Γ.gl x then (Γ.cls x).map .ec else none
  | _ => none
def Inf.tys (Γ : Inf) : List Expr → Option (List Ty)
  | [] => some []
  | e :: r => (Γ.ty e).bind fun t => (Γ.tys r).map (t :: ·)
/-- a block's names -/
def relN (names sc : Nm) : Nm := names.map fun (n, k) => if k = .free ∧ sc.lookup n = some .cell then (n, .cell) else (n, k)
def ownOf (N : List Str) : Nm → List (Str × Nat)
  | [] => []
  | (n, k) :: r => if k = .local ∨ k = .cell then (match idx N n with
    | some i => (n, i) :: ownOf N r
    | none => ownOf N r) else ownOf N r
def Inf.blk (Γ : Inf) (scope : Scope) : Inf := { Γ with sc := relN scope.names Γ.sc, own := scope.names }
def Inf.tg (Γ : Inf) : Expr → Option Tg
  | .Name x _ => (Γ.st x).map .nm
  | .Tuple es _ _ => if Γ.hot then none else (go es).map .tp
  | _ => none
where go : List Expr → Option (List Nat)
  | [] => some []
  | .Name x _ :: r => (Γ.st x).bind fun i => (go r).map (i :: ·)
  | _ => none
structure CF where
  e : Inf → Expr → Option ME
  t : Inf → Expr → Option MT
  l : Inf → List Expr → Option ML
  i : Inf → Expr → Option MI
  r : Inf → Expr → Option MI
def stC (c : CF) (Γ : Inf) (a : Expr) (op : CmpOp) (b : Expr) : Option MT := match op with
  | .Is => if isNone b then (c.e Γ a).map mIsN else none
  | .IsNot => if isNone b then (c.e Γ a).map mNotN else none
  | op => (cmpOf op).bind fun o => if behindInMarks o.o b = false then (c.e Γ a).bind fun ma => (c.e Γ b).map fun mb => mCmp o ma mb else none
/-- a o b o' d -/
def stCh (c : CF) (Γ : Inf) (a : Expr) (op op' : CmpOp) (b d : Expr) : Option MT := (cmpOf op).bind fun o => (cmpOf op').bind fun o' =>
  if lastMarks [o.o, o'.o] [b, d] = false then (c.e Γ a).bind fun ma => (c.e Γ b).bind fun mb => (c.e Γ d).map fun md => mChain o o' ma mb md else none
def isTupleE : Expr → Option (List Expr)
  | .Tuple es _ _ => some es
  | _ => none
def stCall (c : CF) (Γ : Inf) (x : Str) (args : List Expr) : Option ME :=
  if Γ.blt x then (match args with
    | [a] => if noStar a then (match (if Γ.hot then none else c.r Γ a) with
      | some mi => if x = ("tuple" : Str) then some (mTupI mi) else if x = ("list" : Str) then some (mLstI mi) else none
      | none => (b1B.lookup x).bind fun f => if f.walks && Γ.hot then none else (c.e Γ a).map (mB1 f)) else none
    | [a, b] => if noStar a && noStar b then
        (if x = ("isinstance" : Str) then (match isTupleE b with
          | some es => (Γ.tys es).bind fun ts => if es.all noStar && decide (ts.length ≤ 100) then (c.e Γ a).map fun ma => mBl (mIsIs ma ts) else none
          | none => (Γ.ty b).bind fun t => (c.e Γ a).map fun ma => mBl (mIsI ma t))
        else if Γ.hot then none else if x = ("min" : Str) then (c.e Γ a).bind fun ma => (c.e Γ b).map fun mb => mMin2 ma mb
        else if x = ("max" : Str) then (c.e Γ a).bind fun ma => (c.e Γ b).map fun mb => mMax2 ma mb else none) else none
    | _ => none)
  else if Γ.gl x && args.all noStar then (c.l Γ args).bind fun ml => (match Γ.T x with
    | .hot n f => if Γ.hot && !args.isEmpty then some (mHot (.hot n f) ml) else none
    | .none => none
    | fk => if Γ.hot then none else some (mCall fk ml)) else none
def stMeth (c : CF) (Γ : Inf) (a : Expr) (m : Str) (el : Bool) (args : List Expr) : Option ME :=
  if noCall a && el then (match args with
    | [] => if m = ("split" : Str) then (c.e Γ a).map mWords else none
    | [b] => if noStar b then (if m = ("count" : Str) then (c.e Γ a).bind fun ma => (c.e Γ b).map fun mb => mCount ma mb
        else if m = ("join" : Str) then (c.e Γ a).bind fun ma => (c.e Γ b).map fun mb => mJoin ma mb
        else if m = ("split" : Str) then (c.e Γ a).bind fun ma => (c.e Γ b).map fun mb => mSplit ma mb else none) else none
    | _ => none) else none
def blkOk (Γ : Inf) (scope : Scope) : Bool := blkC Γ.N { scope with names := Γ.sc } scope (ownOf Γ.N scope.names)
def tgIn (own : List (Str × Nat)) (tg : Tg) : Bool := (tgSlots tg).all fun i => decide (i ∈ own.map fun (q : Str × Nat) => q.2)
def stIfs (c : CF) (Γ : Inf) : List Expr → Option MT
  | [] => some mYes
  | [f] => c.t Γ f
  | _ => none
def stLc (c : CF) (Γ : Inf) (elt tg iter : Expr) (ifs : List Expr) (scope : Scope) : Option ME :=
  if blkOk Γ scope then (c.i Γ iter).bind fun mi => ((Γ.blk scope).tg tg).bind fun tgm => (c.e (Γ.blk scope) elt).bind fun me =>
    (match ifs with
      | [] => some mYes
      | [f] => c.t (Γ.blk scope) f
      | _ => none).bind fun mt => if tgIn (ownOf Γ.N scope.names) tgm then some (mLc ((ownOf Γ.N scope.names).map fun (q : Str × Nat) => q.2) tgm mi mt me) else none
  else none
/-- two fors -/
def stLc2 (c : CF) (Γ : Inf) (elt tg iter : Expr) (ifs : List Expr) (tg1 iter1 : Expr) (ifs1 : List Expr) (scope : Scope) : Option ME :=
  if blkOk Γ scope && !Γ.hot then (c.i Γ iter).bind fun mi => ((Γ.blk scope).tg tg).bind fun tgm => (c.i (Γ.blk scope) iter1).bind fun mi1 => ((Γ.blk scope).tg tg1).bind fun tgm1 => (c.e (Γ.blk scope) elt).bind fun me =>
    (stIfs c (Γ.blk scope) ifs).bind fun mt => (stIfs c (Γ.blk scope) ifs1).bind fun mt1 => if tgIn (ownOf Γ.N scope.names) tgm && tgIn (ownOf Γ.N scope.names) tgm1 then some (mLc2 ((ownOf Γ.N scope.names).map fun (q : Str × Nat) => q.2) tgm mi mt mi1 (tgSlots tgm1) tgm1 mt1 me) else none
  else none
def stO (c : CF) (Γ : Inf) : Option Expr → Option (Option ME)
  | none => some none
  | some e => (c.e Γ e).map some
def stTab (Γ : Inf) : Expr → Option (List (Str × D))
  | .Name x _ => if Γ.gl x then Γ.gd x else none
  | _ => none
def stSub (c : CF) (Γ : Inf) (a b : Expr) : Option ME := match b with
  | .Slice none none (some (.UnaryOp .USub (.Constant (.int 1) _ _) _)) _ => (c.e Γ a).map mRev
  | .Slice lo hi none _ => (c.e Γ a).bind fun ma => (stO c Γ lo).bind fun ml => (stO c Γ hi).map fun mh => mSl ma ml mh
  | .Slice .. => none
  | b => match stTab Γ a with
    | some kvs => (c.e Γ b).map fun mb => mTab kvs mb
    | none => (c.e Γ a).bind fun ma => (c.e Γ b).map fun mb => mIx ma mb
def stBool (c : CF) (Γ : Inf) (op : BoolOp) (pos : Pos) : List Expr → Option ME
  | [a] => c.e Γ a
  | a :: b :: r => (c.e Γ a).bind fun ma => (c.e Γ (.BoolOp op (b :: r) pos)).map fun mb => match op with
    | .And => mAndV ma mb
    | .Or => mOrV ma mb
  | [] => none
def stE (c : CF) (Γ : Inf) : Expr → Option ME
  | .Constant (.int i) _ _ => some (mCon (.int i))
  | .Constant (.bool b) _ _ => some (mCon (.bl b))
  | .Constant (.str s) _ _ => some (mCon (.str s))
  | .Constant .none _ _ => some (mCon .non)
  | .Name x _ => (match Γ.vis x with
    | some i => some (mVar i)
    | none => if Γ.gl x then (Γ.glo x).map mCon else none)
  | .BinOp a o b _ => (opOf o).bind fun o => (c.e Γ a).bind fun ma => (c.e Γ b).map fun mb => mBin o ma mb
  | .UnaryOp .USub a _ => (c.e Γ a).map mNeg
  | .UnaryOp .Not a _ => (c.e Γ a).map fun m => mBl (mNot (mTru m))
  | .Compare a [op] [b] _ => (stC c Γ a op b).map mBl
  | .Compare a [op, op'] [b, d] _ => (stCh c Γ a op op' b d).map mBl
  | .BoolOp op es pos => stBool c Γ op pos es
  | .IfExp t a b _ => (c.t Γ t).bind fun mt => (c.e Γ a).bind fun ma => (c.e Γ b).map fun mb => mIfE mt ma mb
  | .Tuple es _ p => (c.l Γ es).map (if p.line ∈ Γ.tq then mTuq else mTup)
  | .List es _ => (c.l Γ es).map mLst
  | .Dict [] [] _ => some mDic0
  | .Subscript a b _ => stSub c Γ a b
  | .ListComp elt [⟨tg, iter, ifs, 0⟩] scope _ => stLc c Γ elt tg iter ifs scope
  | .ListComp elt [⟨tg, iter, ifs, 0⟩, ⟨tg1, iter1, ifs1, 0⟩] scope _ => stLc2 c Γ elt tg iter ifs tg1 iter1 ifs1 scope
  | .Attribute a n _ => if Γ.hot && noCall a then (c.e Γ a).map (mFld n) else none
  | .Call (.Name x _) args [] _ => stCall c Γ x args
  | .Call (.Attribute a m apos) args [] pos => stMeth c Γ a m (apos.endLine == pos.line) args
  | _ => none
def stBT (c : CF) (Γ : Inf) (op : BoolOp) (pos : Pos) : List Expr → Option MT
  | [a] => c.t Γ a
  | a :: b :: r => (c.t Γ a).bind fun ma => (c.t Γ (.BoolOp op (b :: r) pos)).map fun mb => match op with
    | .And => mAnd ma mb
    | .Or => mOr ma mb
  | [] => none
def stT (c : CF) (Γ : Inf) : Expr → Option MT
  | .BoolOp op es pos => stBT c Γ op pos es
  | .UnaryOp .Not a _ => (c.t Γ a).map mNot
  | .Compare a [op] [b] _ => stC c Γ a op b
  | .Compare a [op, op'] [b, d] _ => stCh c Γ a op op' b d
  | e => if plainT e then (c.e Γ e).map mTru else none
def stL (c : CF) (Γ : Inf) : List Expr → Option ML
  | [] => some mNil
  | a :: r => if noStar a then (c.e Γ a).bind fun ma => (c.l Γ r).map fun mr => mCons ma mr else none
def stR (c : CF) (Γ : Inf) : Expr → Option MI
  | .Call (.Name x _) [a] [] _ => if Γ.blt x && decide (x = ("range" : Str)) && noStar a then (c.e Γ a).map mRg1 else none
  | .Call (.Name x _) [a, b] [] _ => if Γ.blt x && decide (x = ("range" : Str)) && noStar a && noStar b then (c.e Γ a).bind fun ma => (c.e Γ b).map fun mb => mRg2 ma mb else none
  | _ => none
def noSet : Expr → Bool
  | .Set .. => false
  | _ => true
def stI (c : CF) (Γ : Inf) (e : Expr) : Option MI := match c.r Γ e with
  | some mi => if Γ.hot then (match e with
    | .Call (.Name _ _) [_] [] _ => some mi
    | _ => none) else some mi
  | none => if Γ.hot || !noSet e then none else (c.e Γ e).map mItV
def cf : Nat → CF
  | 0 => ⟨fun _ _ => none, fun _ _ => none, fun _ _ => none, fun _ _ => none, fun _ _ => none⟩
  | n + 1 => ⟨stE (cf n), stT (cf n), stL (cf n), stI (cf n), stR (cf n)⟩
end MP
end

section
set_option Elab.async false
set_option linter.all false
set_option maxRecDepth 100000
set_option maxHeartbeats 4000000
/-! MP, part q: the meaning is right: expressions. -/
namespace MP
open PySem PySem.Spec PyProof.Rows L2
/-- a def of the table keeps its promise -/
def FnFact (P : Program) (w : World) (mg : Str → Option Value) (base : Heap) (G : Gd) (k : Nat) (x : Str) : FK → Prop
  | .pure n f => ∃ a fd ps, ps.length = n ∧ FnOk P w G.K mg base (L2N.CX P w) k a fd ps (spP G n f) ∧ mg x = some (.ref a) ∧ PySem.W.keepIn G.K (.ref a) = true ∧ Binds G.K fd ps []
  | .eff n f => ∃ a fd ps, ps.length = n ∧ FnOk P w G.K mg base (L2N.CX P w) k a fd ps (spE G n f) ∧ mg x = some (.ref a) ∧ PySem.W.keepIn G.K (.ref a) = true ∧ Binds G.K fd ps []
  | .hot n f => ∃ a fd ps, ps.length = n ∧ FnHot P w G.K mg base k a fd ps (spH G n f) ∧ mg x = some (.ref a) ∧ PySem.W.keepIn G.K (.ref a) = true ∧ Binds G.K fd ps []
  | .none => True
/-- a place in the text, as it is reached -/
structure Ctx (Γ : Inf) (k : Nat) (G0 : Gd) (X : Cx) (G : Gd) (W : WX) : Prop where
  N : X.N = Γ.N
  nd : Γ.N.Nodup
  kind : X.env.scope.kind = .function
  sc : X.env.scope.names = Γ.sc
  K : G0.K = X.K
  h0 : G0.hx = none
  cold : Γ.hot = false → G = G0 ∧ X.calm = true ∧ Room k X.A ∧ L2N.Takes X W
  warm : Γ.hot = true → ∃ a c d, G = G0.with a c d ∧ HotX X a (.ref (G0.cA c)) d
  hx : HxOk X G
  roomH : L2H.RoomH k X.A
  st : ∀ x i, Γ.st x = some i → Loc X.env.scope x ∧ (X.fn x = true ∨ X.env.scope.names.lookup x = some .local)
  bl : ∀ x ∈ Γ.bl, X.mg x = none
  fns : ∀ x, FnFact X.prog X.w X.mg X.base G0 k x (Γ.T x)
  cls : ∀ x c, Γ.cls x = some c → X.mg x = some (.ref (G0.cA c))
  glo : ∀ x d, Γ.glo x = some d → ∃ v u, X.mg x = some u ∧ RelV v u ∧ ∀ N H, Rep G0.K N H d v
  gd : ∀ x kvs, Γ.gd x = some kvs → TabAt X G0.K x kvs
  ini : IniAll X.prog X.w X.mg X.base G0
  two : 2 ≤ k
section
variable {Γ : Inf} {k : Nat} {G0 : Gd} {X : Cx} {G : Gd} {W : WX} {pos p : Pos} {x : Str} {i : Nat} {a b e : Expr} {es : List Expr}
theorem Ctx.gk (C : Ctx Γ k G0 X G W) : G.K = X.K ∧ G.cA = G0.cA ∧ G.K = G0.K := by
  cases h : Γ.hot with
  | false => obtain ⟨rfl, _⟩ := C.cold h; exact ⟨C.K, rfl, rfl⟩
  | true => obtain ⟨a, c, d, rfl, _⟩ := C.warm h; exact ⟨C.K, rfl, rfl⟩
theorem Ctx.units (C : Ctx Γ k G0 X G W) : X.A.units + 64 < cLine := by have := C.roomH.un; omega
theorem okName_ok (h : okName x = true) : (x == ("__debug__" : Str)) = false ∧ (x == ("__classdict__" : Str)) = false := by
  unfold okName at h
  rw [Bool.and_eq_true, Bool.not_eq_true', Bool.not_eq_true'] at h
  exact h
theorem Ctx.vis (C : Ctx Γ k G0 X G W) (h : Γ.vis x = some i) : X.N[i]? = some x ∧ Vis X.env.scope x ∧ (x == ("__debug__" : Str)) = false ∧ (x == ("__classdict__" : Str)) = false := by
  unfold Inf.vis at h
  split at h
  · rename_i hn
    obtain ⟨h1, h2⟩ := okName_ok hn
    rw [C.N]
    unfold Vis
    rw [C.sc]
    split at h
    · rename_i q; exact ⟨idx_ok h, .inl q, h1, h2⟩
    · rename_i q; exact ⟨idx_ok h, .inr (.inl q), h1, h2⟩
    · rename_i q; exact ⟨idx_ok h, .inr (.inr q), h1, h2⟩
    · cases h
  · cases h
theorem Ctx.gl (C : Ctx Γ k G0 X G W) (h : Γ.gl x = true) : Gl X x ∧ (x == ("__debug__" : Str)) = false := by
  unfold Inf.gl at h
  rw [Bool.and_eq_true] at h
  refine ⟨?_, (okName_ok h.2).1⟩
  show X.env.scope.names.lookup x = _
  rw [C.sc]
  exact of_decide_eq_true h.1
theorem Ctx.blt (C : Ctx Γ k G0 X G W) (h : Γ.blt x = true) : Gl X x ∧ (x == ("__debug__" : Str)) = false ∧ X.mg x = none := by
  unfold Inf.blt at h
  rw [Bool.and_eq_true] at h
  exact ⟨(C.gl h.1).1, (C.gl h.1).2, C.bl x (of_decide_eq_true h.2)⟩
theorem Ctx.set (C : Ctx Γ k G0 X G W) (h : Γ.st x = some i) : X.N[i]? = some x ∧ X.N.Nodup ∧ Loc X.env.scope x ∧ (X.fn x = true ∨ X.env.scope.names.lookup x = some .local) := by
  obtain ⟨h1, h2⟩ := C.st x i h
  refine ⟨?_, by rw [C.N]; exact C.nd, h1, h2⟩
  rw [C.N]
  unfold Inf.st at h
  split at h
  · exact idx_ok h
  · exact idx_ok h
  · cases h
theorem star (h : noStar a = true) : starEach (a :: es) X.env = (false, eval a X.env) :: starEach es X.env := by cases a <;> first | rfl | cases h
theorem stars : ∀ {es : List Expr}, es.all noStar = true → (starEach es X.env).any (·.1) = false
  | [], _ => rfl
  | a :: es, h => by
    rw [List.all_cons, Bool.and_eq_true] at h
    rw [star h.1, List.any_cons, stars h.2]
    rfl
theorem backs {pos : Pos} {l : List (Bool × Sem Value)} (h : l.any (·.1) = false) : (backTo pos l).any (·.1) = false := by
  unfold backTo
  rw [List.any_map]
  exact h
theorem plain {es : List Expr} {pos : Pos} (h : es.all noStar = true) : (backTo pos (starEach es X.env)).any (·.1) = false := backs (stars h)
theorem few1 {pos : Pos} (h : noStar a = true) : few X [a] pos := by
  unfold few
  rw [star h]
  rfl
theorem attr_ok {n : Str} (h : noCall a = true) : attrOk a n X.env := by
  unfold attrOk
  cases a <;> first | rfl | cases h
theorem plainIx (h : noSlice a = true) : PlainIx a := by
  intro o i
  cases a <;> first | rfl | cases h
theorem plainTru (h : plainT a = true) : ∀ whole, isTrue a X.env whole = (do let v ← whole; standAt a.pos; holding [v] (truthy v)) := by
  intro whole
  cases a with
  | UnaryOp op e p => cases op <;> first | rfl | cases h
  | BoolOp _ _ _ => cases h
  | IfExp _ _ _ _ => cases h
  | Compare _ _ _ _ => cases h
  | _ => rfl
theorem noFoldE (h : noSet a = true) : ∀ (env : PySem.Env) (x : Value), foldedSetIterable a env x = pure x := by
  intro env x
  cases a <;> first | rfl | cases h
theorem noFold (h : noSet a = true) : ∀ x, foldedSetIterable a X.env x = pure x := by
  intro x
  cases a <;> first | rfl | cases h
theorem isNone_ok (h : isNone a = true) : ∃ j p, a = .Constant .none j p := by
  cases a with
  | Constant v j p => cases v <;> first | exact ⟨_, _, rfl⟩ | cases h
  | _ => cases h
theorem pw_pt {op : BoolOp} {t : TT} (h : PT X (.BoolOp op es pos) t) : PW X (.BoolOp op es pos) t := ⟨fun _ pins s σ H Q I q => h.run pins s σ H Q I q⟩
theorem b1B_ok {f : B1} (h : b1B.lookup x = some f) : x = Str.ofString f.nm := by
  have hm := PySem.mem_of_lookup h
  unfold b1B at hm
  simp only [List.mem_cons, Prod.mk.injEq, List.not_mem_nil, or_false] at hm
  rcases hm with ⟨rfl, rfl⟩ | ⟨rfl, rfl⟩ | ⟨rfl, rfl⟩ | ⟨rfl, rfl⟩ | ⟨rfl, rfl⟩ | ⟨rfl, rfl⟩ | ⟨rfl, rfl⟩ | ⟨rfl, rfl⟩ | ⟨rfl, rfl⟩ | ⟨rfl, rfl⟩ | ⟨rfl, rfl⟩ | ⟨rfl, rfl⟩ | ⟨rfl, rfl⟩ <;> rfl
theorem tyB_ok {t : Ty} {cA : EC → Addr} (h : tyB.lookup x = some t) : bootBuiltins x = some (t.u cA) ∧ x ≠ ("__name__" : Str) := by
  have hm := PySem.mem_of_lookup h
  unfold tyB at hm
  simp only [List.mem_cons, Prod.mk.injEq, List.not_mem_nil, or_false] at hm
  rcases hm with ⟨rfl, rfl⟩ | ⟨rfl, rfl⟩ | ⟨rfl, rfl⟩ | ⟨rfl, rfl⟩ | ⟨rfl, rfl⟩ | ⟨rfl, rfl⟩ | ⟨rfl, rfl⟩
  · exact ⟨(by decide +kernel : bootBuiltins (Str.ofString "int") = some (Value.type "int")), by decide +kernel⟩
  · exact ⟨(by decide +kernel : bootBuiltins (Str.ofString "bool") = some (Value.type "bool")), by decide +kernel⟩
  · exact ⟨(by decide +kernel : bootBuiltins (Str.ofString "str") = some (Value.type "str")), by decide +kernel⟩
  · exact ⟨(by decide +kernel : bootBuiltins (Str.ofString "list") = some (Value.type "list")), by decide +kernel⟩
  · exact ⟨(by decide +kernel : bootBuiltins (Str.ofString "tuple") = some (Value.type "tuple")), by decide +kernel⟩
  · exact ⟨(by decide +kernel : bootBuiltins (Str.ofString "dict") = some (Value.type "dict")), by decide +kernel⟩
  · exact ⟨(by decide +kernel : bootBuiltins (Str.ofString "ValueError") = some (Value.type "ValueError")), by decide +kernel⟩
theorem Ctx.ty (C : Ctx Γ k G0 X G W) {t : Ty} (h : Γ.ty e = some t) : PE X e (tC (t.v G.cA)) ∧ noStar e = true := by
  cases e with
  | Name x p =>
    refine ⟨?_, rfl⟩
    unfold Inf.ty at h
    dsimp only at h
    split at h
    · rename_i hb
      obtain ⟨h1, h2, h3⟩ := C.blt hb
      obtain ⟨h4, h5⟩ := tyB_ok (cA := G.cA) h
      exact pe_bltn h1 h3 h4 (t.rel G.cA) h5 h2
    · split at h
      · rename_i hg
        obtain ⟨h1, h2⟩ := C.gl hg
        cases q : Γ.cls x with
        | none => rw [q] at h; cases h
        | some c =>
          rw [q] at h
          cases h
          have e := C.cls x c q
          rw [← C.gk.2.1] at e
          exact pe_glob h1 e rfl h2
      · cases h
  | _ => cases h
theorem Ctx.tys (C : Ctx Γ k G0 X G W) : ∀ {es : List Expr} {ts : List Ty}, Γ.tys es = some ts → Paired (fun t e => PE X e (tC (Ty.v G.cA t))) ts es ∧ es.all noStar = true
  | [], ts, h => by cases h; exact ⟨.nil, rfl⟩
  | e :: es, ts, h => by
    unfold Inf.tys at h
    cases q1 : Γ.ty e with
    | none => rw [q1] at h; cases h
    | some t =>
      rw [q1, Option.bind_some] at h
      cases q2 : Γ.tys es with
      | none => rw [q2] at h; cases h
      | some ts' =>
        rw [q2] at h
        cases h
        obtain ⟨h1, h2⟩ := C.ty q1
        obtain ⟨h3, h4⟩ := C.tys q2
        exact ⟨.cons h1 h3, by rw [List.all_cons, h2, h4]; rfl⟩
end
end MP
end

section
set_option Elab.async false
set_option linter.all false
set_option maxRecDepth 100000
set_option maxHeartbeats 4000000
/-! MP, part r: blocks, targets. -/
namespace MP
open PySem PySem.Spec PyProof.Rows L2
section
variable {Γ : Inf} {k : Nat} {G0 : Gd} {X : Cx} {G : Gd} {W : WX} {pos p : Pos} {x : Str} {i : Nat} {a b e : Expr} {es : List Expr} {scope : Scope}
theorem relN_eq (hk : X.env.scope.kind = .function) (hs : X.env.scope.names = Γ.sc) : (relS scope X.env.scope).names = relN scope.names Γ.sc := by
  unfold relS relN
  refine List.map_congr_left fun q _ => ?_
  obtain ⟨n, kd⟩ := q
  rw [hk, hs]
  dsimp only
  by_cases h : kd = .free ∧ Γ.sc.lookup n = some .cell
  · rw [if_pos h, if_pos (by rw [h.1, h.2]; rfl)]
  · rw [if_neg h, if_neg]
    intro z
    simp only [Bool.and_eq_true, beq_iff_eq] at z
    exact h ⟨z.1.1, z.2⟩
theorem rel_own {names sc : Nm} {x : Str} {kd : NameKind} (h : names.lookup x = some kd) (hk : kd ≠ .free) : (relN names sc).lookup x = some kd := by
  induction names with
  | nil => cases h
  | cons q r ih =>
    obtain ⟨n, k'⟩ := q
    unfold relN
    rw [List.map_cons]
    rw [List.lookup_cons] at h
    dsimp only
    by_cases hn : (x == n) = true
    · rw [hn] at h
      cases h
      rw [if_neg (fun z => hk z.1), List.lookup_cons, hn]
    · have hn : (x == n) = false := by simpa using hn
      rw [hn] at h
      have h2 := ih h
      unfold relN at h2
      by_cases hc : k' = .free ∧ sc.lookup n = some .cell
      · rw [if_pos hc, List.lookup_cons, hn]; exact h2
      · rw [if_neg hc, List.lookup_cons, hn]; exact h2
theorem Ctx.blkO (C : Ctx Γ k G0 X G W) (h : blkOk Γ scope = true) : BlkOk X.N X.env.scope scope (ownOf Γ.N scope.names) := by
  have q := blkOk_by h
  exact ⟨q.kind, q.uniq, by rw [C.N]; exact q.ix, by rw [C.sc]; exact q.free, by rw [C.N]; exact q.own⟩
theorem Ctx.bst (hk : X.env.scope.kind = .function) (hs : X.env.scope.names = Γ.sc) {fn : Str → Bool} (hf : fn = fun x => scope.names.lookup x == some NameKind.cell) : ∀ x i, (Γ.blk scope).st x = some i → Loc (relS scope X.env.scope) x ∧ (fn x = true ∨ (relS scope X.env.scope).names.lookup x = some .local) := by
  intro x i h
  unfold Inf.st at h
  subst hf
  have key : ∀ kd, scope.names.lookup x = some kd → kd ≠ .free → (relS scope X.env.scope).names.lookup x = some kd := fun kd e hn => by
    rw [relN_eq hk hs]
    exact rel_own e hn
  split at h
  · rename_i q
    exact ⟨.inl (key _ q (by decide)), .inr (key _ q (by decide))⟩
  · rename_i q
    refine ⟨.inr (key _ q (by decide)), .inl ?_⟩
    have q : scope.names.lookup x = some NameKind.cell := q
    show (scope.names.lookup x == some NameKind.cell) = true
    rw [q]
    rfl
  · cases h
theorem Ctx.blk (C : Ctx Γ k G0 X G W) (hb : blkOk Γ scope = true) (hh : Γ.hot = false) (s : Shared) (H : Hp) (A : Addr) (cl : List (Str × Addr)) (fp : List Addr) : Ctx (Γ.blk scope) k G0 (X.blk s H scope (compEnvC scope cl A X.env) fp) G WF := by
  obtain ⟨rfl, hc, hr, tk⟩ := C.cold hh
  refine ⟨C.N, C.nd, (C.blkO hb).kind, relN_eq C.kind C.sc, C.K, C.h0, fun _ => ⟨rfl, hc, hr, fun u s' ⟨a, B, sI, pins, σ, H, cls, d, e, I, nb, up, sky, na, os, ag, w⟩ => w.elim⟩, fun z => absurd z (by show Γ.hot ≠ true; rw [hh]; exact Bool.false_ne_true), HxOk.no C.h0, C.roomH, Ctx.bst C.kind C.sc rfl, C.bl, C.fns, C.cls, C.glo, C.gd, C.ini, C.two⟩
theorem Ctx.blkH (C : Ctx Γ k G0 X G W) (K : ClsOk G0) (hb : blkOk Γ scope = true) (hh : Γ.hot = true) (s : Shared) (H : Hp) (A : Addr) (cl : List (Str × Addr)) (fp : List Addr) : Ctx (Γ.blk scope) k G0 (X.blkH s H scope (compEnvC scope cl A X.env) fp) G WF := by
  obtain ⟨a, c, d, rfl, hx⟩ := C.warm hh
  have hx' : HotX (X.blkH s H scope (compEnvC scope cl A X.env) fp) a (.ref (G0.cA c)) d := hx
  exact ⟨C.N, C.nd, (C.blkO hb).kind, relN_eq C.kind C.sc, C.K, C.h0, fun z => absurd z (by show Γ.hot ≠ false; rw [hh]; exact Bool.noConfusion), fun _ => ⟨a, c, d, rfl, hx'⟩, hxOk C.K K hx', C.roomH, Ctx.bst C.kind C.sc rfl, C.bl, C.fns, C.cls, C.glo, C.gd, C.ini, C.two⟩
theorem Ctx.many (C : Ctx Γ k G0 X G W) : ∀ {es : List Expr} {is : List Nat}, Inf.tg.go Γ es = some is → PGs X es (gMany is) ∧ (assignEach es X.env).length = is.length ∧ (assignEach es X.env).findIdx? (·.1) = none
  | [], is, h => by cases h; exact ⟨pgs_nil, rfl, rfl⟩
  | e :: es, is, h => by
    cases e with
    | Name x p =>
      unfold Inf.tg.go at h
      cases q1 : Γ.st x with
      | none => rw [q1] at h; cases h
      | some i =>
        rw [q1, Option.bind_some] at h
        cases q2 : Inf.tg.go Γ es with
        | none => rw [q2] at h; cases h
        | some is' =>
          rw [q2] at h
          cases h
          obtain ⟨h1, h2, h3⟩ := C.many q2
          obtain ⟨s1, s2, s3, s4⟩ := C.set q1
          refine ⟨pgs_cons (pg_name s2 s1 s3 s4) h1 rfl, ?_, ?_⟩
          · show (_ :: assignEach es X.env).length = _
            rw [List.length_cons, List.length_cons, h2]
          · show (((false, _) : Bool × _) :: assignEach es X.env).findIdx? (·.1) = none
            rw [List.findIdx?_cons, h3]
            rfl
    | _ => cases h
theorem Ctx.tg (C : Ctx Γ k G0 X G W) {t : Tg} (h : Γ.tg e = some t) : PG X e (gTg X.K t) := by
  cases e with
  | Name x p =>
    unfold Inf.tg at h
    dsimp only at h
    cases q1 : Γ.st x with
    | none => rw [q1] at h; cases h
    | some i =>
      rw [q1] at h
      cases h
      obtain ⟨s1, s2, s3, s4⟩ := C.set q1
      exact pg_name s2 s1 s3 s4
  | Tuple es kk p =>
    unfold Inf.tg at h
    dsimp only at h
    split at h
    · cases h
    · rename_i hh
      have hh : Γ.hot = false := by simpa using hh
      cases q2 : Inf.tg.go Γ es with
      | none => rw [q2] at h; cases h
      | some is' =>
        rw [q2] at h
        cases h
        obtain ⟨h1, h2, h3⟩ := C.many q2
        exact pg_tup (C.cold hh).2.1 h1 h2 h3
  | _ => cases h
end
end MP
end

section
set_option Elab.async false
set_option linter.all false
set_option maxRecDepth 100000
set_option maxHeartbeats 4000000
/-! MP, part s: the meaning of expressions is right. -/
namespace MP
open PySem PySem.Spec PyProof.Rows L2
structure CFok (G0 : Gd) (c : CF) : Prop where
  e : ∀ {Γ k X G W}, Ctx Γ k G0 X G W → ∀ {e m}, c.e Γ e = some m → PE X e (tE G W m)
  t : ∀ {Γ k X G W}, Ctx Γ k G0 X G W → ∀ {e m}, c.t Γ e = some m → PT X e (tT G W m)
  l : ∀ {Γ k X G W}, Ctx Γ k G0 X G W → ∀ {e m}, c.l Γ e = some m → PA X e (tL G W m) ∧ (e = [] → m = mNil)
  i : ∀ {Γ k X G W}, Ctx Γ k G0 X G W → ∀ {e m}, c.i Γ e = some m → noSet e = true ∧ (Γ.hot = false → ∀ tg, PI X tg e (tI G W m)) ∧ (Γ.hot = true → ∀ tg, L2H.PIH X tg e (tI G W m))
  r : ∀ {Γ k X G W}, Ctx Γ k G0 X G W → ∀ {e m}, c.r Γ e = some m → noSet e = true ∧ PRg X e (tRgM G W m) ∧ (∀ tg, PI X tg e (tI G W m)) ∧ ∀ f a kw q, e = .Call f [a] kw q → ∀ tg, L2H.PIH X tg e (tI G W m)
section
variable {G0 : Gd} {c : CF} {Γ : Inf} {k : Nat} {X : Cx} {G : Gd} {W : WX}
theorem sound_C (K : CFok G0 c) (C : Ctx Γ k G0 X G W) {a b : Expr} {op : CmpOp} {pos : Pos} {m : MT} (h : stC c Γ a op b = some m) : PT X (.Compare a [op] [b] pos) (tT G W m) ∧ PE X (.Compare a [op] [b] pos) (tE G W (mBl m)) := by
  have gen : ∀ {op : CmpOp}, ((cmpOf op).bind fun o => if behindInMarks o.o b = false then (c.e Γ a).bind fun ma => (c.e Γ b).map fun mb => mCmp o ma mb else none) = some m → PT X (.Compare a [op] [b] pos) (tT G W m) ∧ PE X (.Compare a [op] [b] pos) (tE G W (mBl m)) := fun {op} h => by
    obtain ⟨o, h1, h⟩ := Option.bind_eq_some_iff.mp h
    split at h
    · rename_i hm
      obtain ⟨ma, h2, h⟩ := Option.bind_eq_some_iff.mp h
      obtain ⟨mb, h3, rfl⟩ := Option.map_eq_some_iff.mp h
      rw [cmpOf_ok h1]
      exact ⟨s_cmp C.gk.1 C.units o (K.e C h2) (K.e C h3) hm, s_cmpV C.gk.1 C.units o (K.e C h2) (K.e C h3) hm⟩
    · cases h
  cases op with
  | Is =>
    unfold stC at h
    dsimp only at h
    split at h
    · rename_i hn
      obtain ⟨ma, h2, rfl⟩ := Option.map_eq_some_iff.mp h
      obtain ⟨j, p, rfl⟩ := isNone_ok hn
      exact ⟨s_isN (K.e C h2), s_isNV (K.e C h2)⟩
    · cases h
  | IsNot =>
    unfold stC at h
    dsimp only at h
    split at h
    · rename_i hn
      obtain ⟨ma, h2, rfl⟩ := Option.map_eq_some_iff.mp h
      obtain ⟨j, p, rfl⟩ := isNone_ok hn
      exact ⟨s_notN (K.e C h2), s_notNV (K.e C h2)⟩
    · cases h
  | Eq => exact gen h
  | NotEq => exact gen h
  | Lt => exact gen h
  | LtE => exact gen h
  | Gt => exact gen h
  | GtE => exact gen h
  | In => exact gen h
  | NotIn => exact gen h
theorem sound_call (K : CFok G0 c) (C : Ctx Γ k G0 X G W) {x : Str} {args : List Expr} {p pos : Pos} {m : ME} (h : stCall c Γ x args = some m) : PE X (.Call (.Name x p) args [] pos) (tE G W m) := by
  unfold stCall at h
  split at h
  · rename_i hb
    obtain ⟨h1, h2, h3⟩ := C.blt hb
    split at h
    · rename_i a
      split at h
      · rename_i hs
        split at h
        · rename_i mi hr
          split at hr
          · cases hr
          · rename_i hh
            have hh : Γ.hot = false := by simpa using hh
            obtain ⟨_, hr1, _⟩ := K.r C hr
            split at h
            · rename_i hx; subst hx; cases h
              exact s_tupI (C.cold hh).2.1 h1 h3 hr1 (star hs)
            · split at h
              · rename_i hx; subst hx; cases h
                exact s_lstI (C.cold hh).2.1 h1 h3 hr1 (star hs)
              · cases h
        · obtain ⟨f, hf, h⟩ := Option.bind_eq_some_iff.mp h
          split at h
          · cases h
          · rename_i hw
            obtain ⟨ma, h4, rfl⟩ := Option.map_eq_some_iff.mp h
            have hx := b1B_ok hf
            subst hx
            refine s_b1 C.gk.1 f (fun hfw => ?_) h1 h3 (K.e C h4) (star hs)
            cases hh : Γ.hot with
            | false => exact (C.cold hh).2.1
            | true => rw [hfw, hh] at hw; exact absurd rfl hw
      · cases h
    · rename_i a b
      split at h
      · rename_i hs
        obtain ⟨hs1, hs2⟩ := Bool.and_eq_true_iff.mp hs
        have hpl : ((backTo pos (starEach [b] X.env)).any (·.1)) = false := plain (by rw [List.all_cons, hs2]; rfl)
        split at h
        · rename_i hx
          subst hx
          split at h
          · rename_i es ht
            obtain ⟨x1, p2, rfl⟩ : ∃ x1 p2, b = .Tuple es x1 p2 := by
              cases b <;> first | (cases ht; exact ⟨_, _, rfl⟩) | cases ht
            obtain ⟨ts, h4, h⟩ := Option.bind_eq_some_iff.mp h
            split at h
            · rename_i hz
              obtain ⟨ma, h5, rfl⟩ := Option.map_eq_some_iff.mp h
              obtain ⟨hz1, hz2⟩ := Bool.and_eq_true_iff.mp hz
              obtain ⟨q1, q2⟩ := C.tys h4
              refine s_isIs C.gk.1 C.hx (pa_tys q1 fun e r ⟨i, hi⟩ => ?_) (of_decide_eq_true hz2) h1 h3 (K.e C h5) (star hs1) (star hs2) hpl
              refine star (List.all_eq_true.mp hz1 e ?_)
              exact List.mem_of_mem_drop (by rw [hi]; exact List.mem_cons_self)
            · cases h
          · obtain ⟨t, h4, h⟩ := Option.bind_eq_some_iff.mp h
            obtain ⟨ma, h5, rfl⟩ := Option.map_eq_some_iff.mp h
            obtain ⟨q1, q2⟩ := C.ty h4
            exact s_isI C.gk.1 C.hx q1 h1 h3 (K.e C h5) (star hs1) (star hs2) hpl
        · split at h
          · cases h
          · rename_i hh
            have hh : Γ.hot = false := by simpa using hh
            split at h
            · rename_i hx; subst hx
              obtain ⟨ma, h4, h⟩ := Option.bind_eq_some_iff.mp h
              obtain ⟨mb, h5, rfl⟩ := Option.map_eq_some_iff.mp h
              exact s_min2 (C.cold hh).2.1 h1 h3 (K.e C h4) (K.e C h5) (star hs1) (star hs2) hpl
            · split at h
              · rename_i hx; subst hx
                obtain ⟨ma, h4, h⟩ := Option.bind_eq_some_iff.mp h
                obtain ⟨mb, h5, rfl⟩ := Option.map_eq_some_iff.mp h
                exact s_max2 (C.cold hh).2.1 h1 h3 (K.e C h4) (K.e C h5) (star hs1) (star hs2) hpl
              · cases h
      · cases h
    · cases h
  · split at h
    · rename_i hg
      obtain ⟨hg1, hg2⟩ := Bool.and_eq_true_iff.mp hg
      obtain ⟨h1, h2⟩ := C.gl hg1
      obtain ⟨ml, h3, h⟩ := Option.bind_eq_some_iff.mp h
      obtain ⟨la, l0⟩ := K.l C h3
      have F := C.fns x
      cases hT : Γ.T x with
      | none => rw [hT] at h; cases h
      | pure n f =>
        rw [hT] at h F
        dsimp only at h
        split at h
        · cases h
        · rename_i hh
          have hh : Γ.hot = false := by simpa using hh
          cases h
          obtain ⟨rfl, hc, hr, tk⟩ := C.cold hh
          obtain ⟨a, fd, ps, hl, F, hm, hk, hb⟩ := F
          rw [C.K] at F hk hb
          cases args with
          | nil => rw [l0 rfl]; exact call_P0 F hr h1 hm hk hb tk h2
          | cons e es =>
            rw [List.all_cons, Bool.and_eq_true] at hg2
            exact call_P F hr h1 hm hk hb tk la h2 (star hg2.1) (plain hg2.2)
      | eff n f =>
        rw [hT] at h F
        dsimp only at h
        split at h
        · cases h
        · rename_i hh
          have hh : Γ.hot = false := by simpa using hh
          cases h
          obtain ⟨rfl, hc, hr, tk⟩ := C.cold hh
          obtain ⟨a, fd, ps, hl, F, hm, hk, hb⟩ := F
          rw [C.K] at F hk hb
          cases args with
          | nil => rw [l0 rfl]; exact call_E0 F hr h1 hm hk hb tk h2
          | cons e es =>
            rw [List.all_cons, Bool.and_eq_true] at hg2
            exact call_E F hr h1 hm hk hb tk la h2 (star hg2.1) (plain hg2.2)
      | hot n f =>
        rw [hT] at h F
        dsimp only at h
        split at h
        · rename_i hh
          obtain ⟨hh, hne⟩ := Bool.and_eq_true_iff.mp hh
          cases h
          obtain ⟨a, ck, dd, rfl, hx⟩ := C.warm hh
          obtain ⟨fa, fd, ps, hl, F, hm, hk, hb⟩ := F
          rw [C.K] at F hk hb
          cases args with
          | nil => cases hne
          | cons e es =>
            rw [List.all_cons, Bool.and_eq_true] at hg2
            exact call_H F hl C.roomH hx h1 hm hk hb la h2 (star hg2.1) (plain hg2.2)
        · cases h
    · cases h
theorem sound_meth (K : CFok G0 c) (C : Ctx Γ k G0 X G W) {a : Expr} {nm : Str} {apos pos : Pos} {args : List Expr} {m : ME} (h : stMeth c Γ a nm (apos.endLine == pos.line) args = some m) : PE X (.Call (.Attribute a nm apos) args [] pos) (tE G W m) := by
  unfold stMeth at h
  split at h
  · rename_i hq
    obtain ⟨hn, hl⟩ := Bool.and_eq_true_iff.mp hq
    split at h
    · split at h
      · rename_i hx; subst hx
        obtain ⟨ma, h1, rfl⟩ := Option.map_eq_some_iff.mp h
        exact s_words (K.e C h1) (attr_ok hn) hl
      · cases h
    · rename_i b
      split at h
      · rename_i hs
        split at h
        · rename_i hx; subst hx
          obtain ⟨ma, h1, h⟩ := Option.bind_eq_some_iff.mp h
          obtain ⟨mb, h2, rfl⟩ := Option.map_eq_some_iff.mp h
          exact s_count C.gk.1 (K.e C h1) (K.e C h2) (attr_ok hn) (few1 hs) hl (star hs)
        · split at h
          · rename_i hx; subst hx
            obtain ⟨ma, h1, h⟩ := Option.bind_eq_some_iff.mp h
            obtain ⟨mb, h2, rfl⟩ := Option.map_eq_some_iff.mp h
            exact s_join C.gk.1 (K.e C h1) (K.e C h2) (attr_ok hn) (few1 hs) hl (star hs)
          · split at h
            · rename_i hx; subst hx
              obtain ⟨ma, h1, h⟩ := Option.bind_eq_some_iff.mp h
              obtain ⟨mb, h2, rfl⟩ := Option.map_eq_some_iff.mp h
              exact s_split (K.e C h1) (K.e C h2) (attr_ok hn) (few1 hs) hl (star hs)
            · cases h
      · cases h
    · cases h
  · cases h
theorem lc_parts (K : CFok G0 c) (KC : ClsOk G0) (C : Ctx Γ k G0 X G W) {elt tg iter : Expr} {ifs : List Expr} {scope : Scope} {m : ME} (h : stLc c Γ elt tg iter ifs scope = some m) :
    ∃ tgm mi mt me, m = mLc ((ownOf Γ.N scope.names).map (·.2)) tgm mi mt me ∧ BlkOk X.N X.env.scope scope (ownOf Γ.N scope.names) ∧ (∀ i ∈ tgSlots tgm, i ∈ (ownOf Γ.N scope.names).map (·.2)) ∧ (∀ x, foldedSetIterable iter X.env x = pure x) ∧
    (Γ.hot = false → (∀ tg, PI X tg iter (tI G W mi)) ∧ ∀ s H A cl fp, PG (X.blk s H scope (compEnvC scope cl A X.env) fp) tg (gTg X.K tgm) ∧ PTs (X.blk s H scope (compEnvC scope cl A X.env) fp) ifs (tT G WF mt) ∧ PE (X.blk s H scope (compEnvC scope cl A X.env) fp) elt (tE G WF me)) ∧
    (Γ.hot = true → (∀ tg, L2H.PIH X tg iter (tI G W mi)) ∧ ∀ s H A cl fp, PG (X.blkH s H scope (compEnvC scope cl A X.env) fp) tg (gTg X.K tgm) ∧ PTs (X.blkH s H scope (compEnvC scope cl A X.env) fp) ifs (tT G WF mt) ∧ PE (X.blkH s H scope (compEnvC scope cl A X.env) fp) elt (tE G WF me)) := by
  unfold stLc at h
  split at h
  · rename_i hb
    obtain ⟨mi, h1, h⟩ := Option.bind_eq_some_iff.mp h
    obtain ⟨tgm, h2, h⟩ := Option.bind_eq_some_iff.mp h
    obtain ⟨me, h3, h⟩ := Option.bind_eq_some_iff.mp h
    obtain ⟨mt, h4, h⟩ := Option.bind_eq_some_iff.mp h
    split at h
    · rename_i ht
      cases h
      obtain ⟨i1, i2, i3⟩ := K.i C h1
      have tests : ∀ {Y : Cx} {W' : WX}, Ctx (Γ.blk scope) k G0 Y G W' → PTs Y ifs (tT G W' mt) := fun {Y W'} CY => by
        match ifs, h4 with
        | [], h4 => cases h4; exact s_yes
        | [f], h4 => exact s_if1 (K.t CY h4)
      refine ⟨tgm, mi, mt, me, rfl, C.blkO hb, fun i hi => of_decide_eq_true (List.all_eq_true.mp ht i hi), noFold i1, fun hh => ⟨i2 hh, fun s H A cl fp => ?_⟩, fun hh => ⟨i3 hh, fun s H A cl fp => ?_⟩⟩
      · have CY := C.blk hb hh s H A cl fp
        exact ⟨CY.tg h2, tests CY, K.e CY h3⟩
      · have CY := C.blkH KC hb hh s H A cl fp
        exact ⟨CY.tg h2, tests CY, K.e CY h3⟩
    · cases h
  · cases h
theorem sound_lc (K : CFok G0 c) (KC : ClsOk G0) (C : Ctx Γ k G0 X G W) {elt tg iter : Expr} {ifs : List Expr} {scope : Scope} {pos : Pos} {m : ME} (h : stLc c Γ elt tg iter ifs scope = some m) : PE X (.ListComp elt [⟨tg, iter, ifs, 0⟩] scope pos) (tE G W m) := by
  obtain ⟨tgm, mi, mt, me, rfl, hb, hsl, hfo, cold, warm⟩ := lc_parts K KC C h
  have nd : X.N.Nodup := by rw [C.N]; exact C.nd
  cases hh : Γ.hot with
  | false =>
    obtain ⟨i1, q⟩ := cold hh
    exact s_lc C.gk.1 (C.cold hh).2.1 nd (i1 tg) hb (fun s H A cl fp => (q s H A cl fp).1) (fun s H A cl fp => (q s H A cl fp).2.1) (fun s H A cl fp => (q s H A cl fp).2.2) hfo hsl
  | true =>
    obtain ⟨i1, q⟩ := warm hh
    obtain ⟨a, ck, dd, _, hx⟩ := C.warm hh
    exact s_lcH C.gk.1 hx.hot nd (i1 tg) hb (fun s H A cl fp => (q s H A cl fp).1) (fun s H A cl fp => (q s H A cl fp).2.1) (fun s H A cl fp => (q s H A cl fp).2.2) hfo hsl
theorem sound_Ifs (K : CFok G0 c) {Γ : Inf} {X : Cx} {G : Gd} {W : WX} (C : Ctx Γ k G0 X G W) {ifs : List Expr} {m : MT} (h : stIfs c Γ ifs = some m) : PTs X ifs (tT G W m) := by
  match ifs, h with
  | [], h => cases h; exact s_yes
  | [f], h => exact s_if1 (K.t C h)
theorem lc2_parts (K : CFok G0 c) (KC : ClsOk G0) (C : Ctx Γ k G0 X G W) {elt tg iter tg1 iter1 : Expr} {ifs ifs1 : List Expr} {scope : Scope} {m : ME} (h : stLc2 c Γ elt tg iter ifs tg1 iter1 ifs1 scope = some m) :
    ∃ tgm mi mt mi1 tgm1 mt1 me, m = mLc2 ((ownOf Γ.N scope.names).map (·.2)) tgm mi mt mi1 (tgSlots tgm1) tgm1 mt1 me ∧ Γ.hot = false ∧ BlkOk X.N X.env.scope scope (ownOf Γ.N scope.names) ∧ (∀ i ∈ tgSlots tgm, i ∈ (ownOf Γ.N scope.names).map (·.2)) ∧ (∀ i ∈ tgSlots tgm1, i ∈ (ownOf Γ.N scope.names).map (·.2)) ∧
    (∀ x, foldedSetIterable iter X.env x = pure x) ∧ (∀ env x, foldedSetIterable iter1 env x = pure x) ∧ (∀ tg, PI X tg iter (tI G W mi)) ∧ ∀ s H A cl fp, PG (X.blk s H scope (compEnvC scope cl A X.env) fp) tg (gTg X.K tgm) ∧ PTs (X.blk s H scope (compEnvC scope cl A X.env) fp) ifs (tT G WF mt) ∧
    (∀ tg1, PI (X.blk s H scope (compEnvC scope cl A X.env) fp) tg1 iter1 (tI G WF mi1)) ∧ PG (X.blk s H scope (compEnvC scope cl A X.env) fp) tg1 (gTg X.K tgm1) ∧ PTs (X.blk s H scope (compEnvC scope cl A X.env) fp) ifs1 (tT G WF mt1) ∧ PE (X.blk s H scope (compEnvC scope cl A X.env) fp) elt (tE G WF me) := by
  unfold stLc2 at h
  split at h
  · rename_i hb
    obtain ⟨hb, hh⟩ := Bool.and_eq_true_iff.mp hb
    have hh : Γ.hot = false := by simpa using hh
    obtain ⟨mi, h1, h⟩ := Option.bind_eq_some_iff.mp h
    obtain ⟨tgm, h2, h⟩ := Option.bind_eq_some_iff.mp h
    obtain ⟨mi1, h3, h⟩ := Option.bind_eq_some_iff.mp h
    obtain ⟨tgm1, h4, h⟩ := Option.bind_eq_some_iff.mp h
    obtain ⟨me, h5, h⟩ := Option.bind_eq_some_iff.mp h
    obtain ⟨mt, h6, h⟩ := Option.bind_eq_some_iff.mp h
    obtain ⟨mt1, h7, h⟩ := Option.bind_eq_some_iff.mp h
    split at h
    · rename_i ht
      cases h
      obtain ⟨t1, t2⟩ := Bool.and_eq_true_iff.mp ht
      obtain ⟨i1, i2, _⟩ := K.i C h1
      have CY := fun s H A cl fp => C.blk hb hh s H A cl fp
      have f1 : noSet iter1 = true := (K.i (C.blk hb hh (X.s_0) (fun _ => none) 0 [] []) h3).1
      exact ⟨tgm, mi, mt, mi1, tgm1, mt1, me, rfl, hh, C.blkO hb, fun i hi => of_decide_eq_true (List.all_eq_true.mp t1 i hi), fun i hi => of_decide_eq_true (List.all_eq_true.mp t2 i hi), noFold i1, noFoldE f1, i2 hh, fun s H A cl fp =>
        ⟨(CY s H A cl fp).tg h2, sound_Ifs K (CY s H A cl fp) h6, (K.i (CY s H A cl fp) h3).2.1 hh, (CY s H A cl fp).tg h4, sound_Ifs K (CY s H A cl fp) h7, K.e (CY s H A cl fp) h5⟩⟩
    · cases h
  · cases h
theorem sound_lc2 (K : CFok G0 c) (KC : ClsOk G0) (C : Ctx Γ k G0 X G W) {elt tg iter tg1 iter1 : Expr} {ifs ifs1 : List Expr} {scope : Scope} {pos : Pos} {m : ME} (h : stLc2 c Γ elt tg iter ifs tg1 iter1 ifs1 scope = some m) : PE X (.ListComp elt [⟨tg, iter, ifs, 0⟩, ⟨tg1, iter1, ifs1, 0⟩] scope pos) (tE G W m) := by
  obtain ⟨tgm, mi, mt, mi1, tgm1, mt1, me, rfl, hh, hb, s1, s2, f1, f2, i1, q⟩ := lc2_parts K KC C h
  have nd : X.N.Nodup := by rw [C.N]; exact C.nd
  refine impE (pe_lc2 (C.cold hh).2.1 nd (i1 tg) hb s2 (fun s H A cl fp => (q s H A cl fp).1) (fun s H A cl fp => (q s H A cl fp).2.1) (fun s H A cl fp => (q s H A cl fp).2.2.1 tg1) (fun s H A cl fp => (q s H A cl fp).2.2.2.1) (fun s H A cl fp => (q s H A cl fp).2.2.2.2.1) (fun s H A cl fp => (q s H A cl fp).2.2.2.2.2) f1 f2) fun σ H Q h => ?_
  rw [← C.gk.1]
  exact lc2_read s1 (fun _ h => h) h
theorem sound_O (K : CFok G0 c) (C : Ctx Γ k G0 X G W) {o : Option Expr} {mo : Option ME} (h : stO c Γ o = some mo) : (o = none ∧ mo = none) ∨ ∃ e m, o = some e ∧ mo = some m ∧ PE X e (tE G W m) := by
  cases o with
  | none => cases h; exact .inl ⟨rfl, rfl⟩
  | some e =>
    obtain ⟨m, h1, rfl⟩ := Option.map_eq_some_iff.mp h
    exact .inr ⟨e, m, rfl, rfl, K.e C h1⟩
theorem sound_sub (K : CFok G0 c) (C : Ctx Γ k G0 X G W) {a b : Expr} {pos : Pos} {m : ME} (h : stSub c Γ a b = some m) : PE X (.Subscript a b pos) (tE G W m) := by
  unfold stSub at h
  split at h
  · obtain ⟨ma, h1, rfl⟩ := Option.map_eq_some_iff.mp h
    exact s_rev C.gk.1 (K.e C h1)
  · obtain ⟨ma, h1, h⟩ := Option.bind_eq_some_iff.mp h
    obtain ⟨ml, h2, h⟩ := Option.bind_eq_some_iff.mp h
    obtain ⟨mh, h3, rfl⟩ := Option.map_eq_some_iff.mp h
    exact s_slice C.gk.1 (K.e C h1) (sound_O K C h2) (sound_O K C h3)
  · cases h
  · rename_i h1 h2 h3
    have ns : noSlice b = true := by
      cases b with
      | Slice lo hi st p => exact absurd rfl (h3 lo hi st p)
      | _ => rfl
    split at h
    · rename_i kvs q
      obtain ⟨mb, h2', rfl⟩ := Option.map_eq_some_iff.mp h
      unfold stTab at q
      split at q
      · rename_i x p
        split at q
        · rename_i hg
          obtain ⟨g1, g2⟩ := C.gl hg
          exact s_tab (by rw [C.gk.2.2]; exact C.gd x kvs q) g1 g2 (plainIx ns) (K.e C h2')
        · cases q
      · cases q
    · obtain ⟨ma, h1', h⟩ := Option.bind_eq_some_iff.mp h
      obtain ⟨mb, h2', rfl⟩ := Option.map_eq_some_iff.mp h
      exact s_ix C.gk.1 (plainIx ns) (K.e C h1') (K.e C h2')
theorem sound_Ch (K : CFok G0 c) (C : Ctx Γ k G0 X G W) {a b d : Expr} {op op' : CmpOp} {pos : Pos} {m : MT} (h : stCh c Γ a op op' b d = some m) : PT X (.Compare a [op, op'] [b, d] pos) (tT G W m) ∧ PE X (.Compare a [op, op'] [b, d] pos) (tE G W (mBl m)) := by
  unfold stCh at h
  obtain ⟨o, h1, h⟩ := Option.bind_eq_some_iff.mp h
  obtain ⟨o', h2, h⟩ := Option.bind_eq_some_iff.mp h
  split at h
  · rename_i hm
    obtain ⟨ma, h3, h⟩ := Option.bind_eq_some_iff.mp h
    obtain ⟨mb, h4, h⟩ := Option.bind_eq_some_iff.mp h
    obtain ⟨md, h5, rfl⟩ := Option.map_eq_some_iff.mp h
    rw [cmpOf_ok h1, cmpOf_ok h2]
    exact ⟨s_chain C.gk.1 C.units o o' (K.e C h3) (K.e C h4) (K.e C h5) hm, s_chainV C.gk.1 C.units o o' (K.e C h3) (K.e C h4) (K.e C h5) hm⟩
  · cases h
theorem sound_E (K : CFok G0 c) (KC : ClsOk G0) (C : Ctx Γ k G0 X G W) {e : Expr} {m : ME} (h : stE c Γ e = some m) : PE X e (tE G W m) := by
  unfold stE at h
  split at h
  · cases h; exact s_int
  · cases h; exact s_bl
  · cases h; exact s_str
  · cases h; exact s_non
  · rename_i x p
    cases q : Γ.vis x with
    | some i =>
      rw [q] at h
      cases h
      obtain ⟨h1, h2, h3, h4⟩ := C.vis q
      exact s_var h1 h2 h3 h4
    | none =>
      rw [q] at h
      dsimp only at h
      split at h
      · rename_i hg
        obtain ⟨d, hd, rfl⟩ := Option.map_eq_some_iff.mp h
        obtain ⟨h1, h2⟩ := C.gl hg
        obtain ⟨v, u, h3, h4, h5⟩ := C.glo x d hd
        exact impE (pe_glob h1 h3 h4 h2) fun σ H Q ⟨w, s, e, ok, er, h⟩ => Post.hereD ok h (by rw [C.gk.2.2]; exact h5 _ _)
      · cases h
  · obtain ⟨o, h1, h⟩ := Option.bind_eq_some_iff.mp h
    obtain ⟨ma, h2, h⟩ := Option.bind_eq_some_iff.mp h
    obtain ⟨mb, h3, rfl⟩ := Option.map_eq_some_iff.mp h
    rw [opOf_ok h1]
    exact s_bin C.gk.1 o (K.e C h2) (K.e C h3)
  · obtain ⟨ma, h2, rfl⟩ := Option.map_eq_some_iff.mp h
    exact s_neg (K.e C h2)
  · obtain ⟨ma, h2, rfl⟩ := Option.map_eq_some_iff.mp h
    exact s_notV C.gk.1 (K.e C h2)
  · obtain ⟨mt, h2, rfl⟩ := Option.map_eq_some_iff.mp h
    exact (sound_C K C h2).2
  · obtain ⟨mt, h2, rfl⟩ := Option.map_eq_some_iff.mp h
    exact (sound_Ch K C h2).2
  · rename_i op es pos
    unfold stBool at h
    split at h
    · have q := K.e C h
      exact ⟨fun pins s σ H Q I h => q.run pins s σ H Q I h⟩
    · rename_i a b r
      obtain ⟨ma, h2, h⟩ := Option.bind_eq_some_iff.mp h
      obtain ⟨mb, h3, rfl⟩ := Option.map_eq_some_iff.mp h
      cases op with
      | And => exact s_andV (K.e C h2) (K.e C h3)
      | Or => exact s_orV (K.e C h2) (K.e C h3)
    · cases h
  · obtain ⟨mt, h1, h⟩ := Option.bind_eq_some_iff.mp h
    obtain ⟨ma, h2, h⟩ := Option.bind_eq_some_iff.mp h
    obtain ⟨mb, h3, rfl⟩ := Option.map_eq_some_iff.mp h
    exact s_ifE (K.t C h1) (K.e C h2) (K.e C h3)
  · obtain ⟨ml, h2, rfl⟩ := Option.map_eq_some_iff.mp h
    split
    · exact s_tuq (K.l C h2).1
    · exact s_tup (K.l C h2).1
  · obtain ⟨ml, h2, rfl⟩ := Option.map_eq_some_iff.mp h
    exact s_lst (K.l C h2).1
  · cases h; exact s_dic0
  · exact sound_sub K C h
  · exact sound_lc K KC C h
  · exact sound_lc2 K KC C h
  · split at h
    · rename_i hc
      obtain ⟨hh, hn⟩ := Bool.and_eq_true_iff.mp hc
      obtain ⟨ma, h2, rfl⟩ := Option.map_eq_some_iff.mp h
      obtain ⟨a', ck, dd, rfl, hx⟩ := C.warm hh
      exact s_fld C.K KC hx (K.e C h2) (attr_ok hn)
    · cases h
  · exact sound_call K C h
  · exact sound_meth K C h
  · cases h
theorem sound_T (K : CFok G0 c) (C : Ctx Γ k G0 X G W) {e : Expr} {m : MT} (h : stT c Γ e = some m) : PT X e (tT G W m) := by
  unfold stT at h
  split at h
  · rename_i op es pos
    unfold stBT at h
    split at h
    · have q := K.t C h
      cases op with
      | And => exact (s_and1 q).pt
      | Or => exact (s_or1 q).pt
    · rename_i a b r
      obtain ⟨ma, h2, h⟩ := Option.bind_eq_some_iff.mp h
      obtain ⟨mb, h3, rfl⟩ := Option.map_eq_some_iff.mp h
      cases op with
      | And => exact (s_and (K.t C h2) (pw_pt (K.t C h3))).pt
      | Or => exact (s_or (K.t C h2) (pw_pt (K.t C h3))).pt
    · cases h
  · obtain ⟨ma, h2, rfl⟩ := Option.map_eq_some_iff.mp h
    exact s_not (K.t C h2)
  · exact (sound_C K C h).1
  · exact (sound_Ch K C h).1
  · split at h
    · rename_i hp
      obtain ⟨ma, h2, rfl⟩ := Option.map_eq_some_iff.mp h
      exact s_tru C.gk.1 (K.e C h2) (plainTru hp)
    · cases h
theorem sound_L (K : CFok G0 c) (C : Ctx Γ k G0 X G W) {e : List Expr} {m : ML} (h : stL c Γ e = some m) : PA X e (tL G W m) ∧ (e = [] → m = mNil) := by
  unfold stL at h
  split at h
  · cases h; exact ⟨s_nil, fun _ => rfl⟩
  · split at h
    · rename_i hs
      obtain ⟨ma, h2, h⟩ := Option.bind_eq_some_iff.mp h
      obtain ⟨mr, h3, rfl⟩ := Option.map_eq_some_iff.mp h
      exact ⟨s_cons (K.e C h2) (K.l C h3).1 (star hs), fun z => nomatch z⟩
    · cases h
theorem sound_R (K : CFok G0 c) (C : Ctx Γ k G0 X G W) {e : Expr} {m : MI} (h : stR c Γ e = some m) : noSet e = true ∧ PRg X e (tRgM G W m) ∧ (∀ tg, PI X tg e (tI G W m)) ∧ ∀ f a kw q, e = .Call f [a] kw q → ∀ tg, L2H.PIH X tg e (tI G W m) := by
  unfold stR at h
  split at h
  · split at h
    · rename_i hc
      obtain ⟨hc, hs⟩ := Bool.and_eq_true_iff.mp hc
      obtain ⟨hb, hx⟩ := Bool.and_eq_true_iff.mp hc
      obtain ⟨ma, h2, rfl⟩ := Option.map_eq_some_iff.mp h
      have hx := of_decide_eq_true hx
      subst hx
      obtain ⟨h1, _, h3⟩ := C.blt hb
      exact ⟨rfl, s_prg1 h1 h3 (K.e C h2) (star hs), fun tg => s_rg1 h1 h3 (K.e C h2) (star hs), fun f a kw q he tg => s_rg1H h1 h3 (K.e C h2) (star hs)⟩
    · cases h
  · split at h
    · rename_i hc
      obtain ⟨hc, hs2⟩ := Bool.and_eq_true_iff.mp hc
      obtain ⟨hc, hs⟩ := Bool.and_eq_true_iff.mp hc
      obtain ⟨hb, hx⟩ := Bool.and_eq_true_iff.mp hc
      obtain ⟨ma, h2, h⟩ := Option.bind_eq_some_iff.mp h
      obtain ⟨mb, h4, rfl⟩ := Option.map_eq_some_iff.mp h
      have hx := of_decide_eq_true hx
      subst hx
      obtain ⟨h1, _, h3⟩ := C.blt hb
      refine ⟨rfl, s_prg2 h1 h3 (K.e C h2) (K.e C h4) (star hs) (star hs2) (plain (by rw [List.all_cons, hs2]; rfl)), fun tg => s_rg2 h1 h3 (K.e C h2) (K.e C h4) ?_ ?_, fun f a kw q he => nomatch he⟩
      · rw [star hs, star hs2]; rfl
      · rw [star hs2]; rfl
    · cases h
  · cases h
theorem sound_I (K : CFok G0 c) (C : Ctx Γ k G0 X G W) {e : Expr} {m : MI} (h : stI c Γ e = some m) : noSet e = true ∧ (Γ.hot = false → ∀ tg, PI X tg e (tI G W m)) ∧ (Γ.hot = true → ∀ tg, L2H.PIH X tg e (tI G W m)) := by
  unfold stI at h
  split at h
  · rename_i mi hr
    obtain ⟨r1, r2, r3, r4⟩ := K.r C hr
    split at h
    · rename_i hh
      split at h
      · cases h
        exact ⟨r1, fun z => absurd hh (by rw [z]; exact Bool.false_ne_true), fun _ => r4 _ _ _ _ rfl⟩
      · cases h
    · rename_i hh
      cases h
      exact ⟨r1, fun _ => r3, fun z => absurd z hh⟩
  · split at h
    · cases h
    · rename_i hc
      have hc : Γ.hot = false ∧ noSet e = true := by simpa using hc
      obtain ⟨ma, h2, rfl⟩ := Option.map_eq_some_iff.mp h
      exact ⟨hc.2, fun _ tg => s_itV C.gk.1 (K.e C h2), fun z => absurd z (by rw [hc.1]; exact Bool.false_ne_true)⟩
end
theorem cf_ok {G0 : Gd} (KC : ClsOk G0) : ∀ n, CFok G0 (cf n)
  | 0 => ⟨fun _ _ _ h => (nomatch h), fun _ _ _ h => (nomatch h), fun _ _ _ h => (nomatch h), fun _ _ _ h => (nomatch h), fun _ _ _ h => (nomatch h)⟩
  | n + 1 => ⟨fun C _ _ h => sound_E (cf_ok KC n) KC C h, fun C _ _ h => sound_T (cf_ok KC n) C h, fun C _ _ h => sound_L (cf_ok KC n) C h, fun C _ _ h => sound_I (cf_ok KC n) C h, fun C _ _ h => sound_R (cf_ok KC n) C h⟩
end MP
end

section
set_option Elab.async false
set_option linter.all false
set_option maxRecDepth 100000
set_option maxHeartbeats 4000000
/-! MP, part t: from the text to its meaning: statements. -/
namespace MP
open PySem PySem.Spec PyProof.Rows L2
/-- hints, by lines: where a list is one's own from now on; where a list that is returned is tracked; which names are looked at only from a line on -/
structure Hn where
  own : List Nat
  trk : List Nat
  frz : List (Nat × Nat)
  tq : List Nat := []
  own2 : List Nat := []
def lineS : Stmt → Nat
  | .Expr _ p => p.line
  | .Return _ p => p.line
  | .If _ _ _ p => p.line
  | .For _ _ _ _ p => p.line
  | .While _ _ _ p => p.line
  | .Assign _ _ p => p.line
  | .Raise _ _ p => p.line
  | .AugAssign _ _ _ p => p.line
  | .Try _ _ _ _ p => p.line
  | _ => 0
def frzs (h : Hn) (n : Nat) (m : MS) : MS := go h.frz
where go : List (Nat × Nat) → MS
  | [] => m
  | (l, i) :: r => if l = n then mSeq (mFrz i) (go r) else go r
def noComp : Expr → Bool
  | .ListComp .. => false
  | .SetComp .. => false
  | .DictComp .. => false
  | _ => true
def noTup : Expr → Bool
  | .Tuple .. => false
  | _ => true
/-- a new list -/
def stNew (c : CF) (Γ : Inf) : Expr → Option ME
  | .List es _ => (c.l Γ es).map mLst
  | .Call (.Name x _) [a] [] _ => if Γ.blt x && noStar a then
      (if x = ("list" : Str) then (match (if Γ.hot then none else c.r Γ a) with
        | some mi => some (mLstI mi)
        | none => if Γ.hot then none else (c.e Γ a).map (mB1 .list))
      else if x = ("sorted" : Str) then (c.e Γ a).map (mB1 .sorted) else none) else none
  | .ListComp elt [⟨tg, iter, ifs, 0⟩] scope _ => stLc c Γ elt tg iter ifs scope
  | .BinOp a .Mult b _ => (c.e Γ a).bind fun ma => (c.e Γ b).map fun mb => mBin .mul ma mb
  | .BinOp a .Add b _ => (c.e Γ a).bind fun ma => (c.e Γ b).map fun mb => mBin .add ma mb
  | _ => none
/-- x = [NEW for ..], its rows x's own, too -/
def stLcN (c : CF) (Γ : Inf) (i : Nat) (elt tg iter : Expr) (ifs : List Expr) (scope : Scope) : Option MS :=
  if blkOk Γ scope && !Γ.hot then (c.i Γ iter).bind fun mi => ((Γ.blk scope).tg tg).bind fun tgm => (stNew c (Γ.blk scope) elt).bind fun me => (stIfs c (Γ.blk scope) ifs).bind fun mt =>
    if tgIn (ownOf Γ.N scope.names) tgm then some (mAsgO2 i ((ownOf Γ.N scope.names).map fun (q : Str × Nat) => q.2) tgm mi mt me) else none
  else none
def wfuel : Nat := 1048576
def dict0 : Expr → Bool
  | .Dict [] [] _ => true
  | _ => false
/-- tuple(e) -/
def tupOf (Γ : Inf) : Expr → Option Expr
  | .Call (.Name x _) [a] [] _ => if Γ.blt x && noStar a && decide (x = ("tuple" : Str)) then some a else none
  | _ => none
/-- x.pop(e) -/
def popOf (Γ : Inf) : Expr → Option (Nat × Expr)
  | .Call (.Attribute (.Name x _) m apos) [a] [] pos => if decide (m = ("pop" : Str)) && noStar a && (apos.endLine == pos.line) then (Γ.vis x).map (·, a) else none
  | _ => none
def stAsg (c : CF) (h : Hn) (Γ : Inf) (x : Str) (e : Expr) (line : Nat) : Option MS := (Γ.st x).bind fun i => match e with
  | .ListComp elt [⟨tg, iter, ifs, 0⟩] scope _ => if line ∈ h.own2 then stLcN c Γ i elt tg iter ifs scope else (stLc c Γ elt tg iter ifs scope).map fun m => if line ∈ h.own then mAsgO i m else mAsg i m
  | .ListComp elt [⟨tg, iter, ifs, 0⟩, ⟨tg1, iter1, ifs1, 0⟩] scope _ => if line ∈ h.own then none else (stLc2 c Γ elt tg iter ifs tg1 iter1 ifs1 scope).map (mAsg i)
  | e => if noComp e then (match popOf Γ e with
    | some (j, a) => (c.e Γ a).map (mPopA i j)
    | none => if line ∈ h.own then (if dict0 e then some (mAsgE i) else (stNew c Γ e).map (mAsgO i)) else (c.e Γ e).map (mAsg i)) else none
def stTo (c : CF) (h : Hn) (Γ : Inf) (t : Expr) (e : Expr) (line : Nat) : Option MS := match t with
  | .Name x _ => stAsg c h Γ x e line
  | .Tuple es _ _ => if Γ.hot || !noComp e || !noTup e then none else (Inf.tg.go Γ es).bind fun is => (c.e Γ e).map (mAsgT is)
  | .Subscript o j _ => if !noComp e || !noSlice j then none else if line ∈ h.own then (match o with
      | .Name x _ => (Γ.vis x).bind fun i => match tupOf Γ j with
        | some jj => (c.e Γ jj).bind fun mj => (c.e Γ e).map fun me => mSetT i mj me
        | none => (c.e Γ j).bind fun mj => (c.e Γ e).map fun me => mSetO i mj me
      | _ => none) else if line ∈ h.own2 then (match o with
      | .Subscript (.Name x _) j1 _ => if noSlice j1 then (Γ.vis x).bind fun i => (c.e Γ j1).bind fun m1 => (c.e Γ j).bind fun mj => (c.e Γ e).map fun me => mSto2 i m1 mj me else none
      | _ => none) else (c.e Γ o).bind fun mo => (c.e Γ j).bind fun mj => (c.e Γ e).map fun me => mSetR mo mj me
  | _ => none
def stMethS (c : CF) (Γ : Inf) (x m : Str) (args : List Expr) : Option MS := (Γ.vis x).bind fun i => match args with
  | [a] => if noStar a then (if m = ("append" : Str) then (match popOf Γ a with
      | some (j, b) => (c.e Γ b).map (mPopP i j)
      | none => (c.e Γ a).map (mApp i)) else if m = ("pop" : Str) then (c.e Γ a).map (mPopE i) else if m = ("extend" : Str) then (c.e Γ a).map (mExt i) else none) else none
  | [] => if m = ("clear" : Str) then some (mClr i) else none
  | _ => none
def stExpr (c : CF) (Γ : Inf) (a : Expr) : Option MS := match a with
  | .Constant (.str _) _ _ => some mPass
  | .Call (.Attribute (.Name x _) m apos) args [] pos => if apos.endLine == pos.line then stMethS c Γ x m args else none
  | a => if noComp a then (c.e Γ a).map mExpr else none
def strE : Expr → Bool
  | .Constant (.str _) _ _ => true
  | _ => false
def stRaise (c : CF) (Γ : Inf) : Expr → Option MS
  | .Call (.Name x _) [a] [] _ => if Γ.gl x && !Γ.hot then (Γ.cls x).bind fun k => if k.fld = Str.empty then (if strE a then some (mRaise k) else none) else if noStar a then (c.e Γ a).map (mRaiseX k) else none else none
  | _ => none
def stHds (Γ : Inf) (rec : Inf → List Stmt → Option MS) : List ExceptHandler → Option (List (Ty × Nat × MS))
  | [] => some []
  | .ExceptHandler (some (.Name x np)) (some n) (b0 :: suite) _ :: r => if !decide (Γ.sc.lookup n = some .local) then none else (Γ.st n).bind fun i => (Γ.ty (.Name x np)).bind fun t => if t.data then none else (rec { Γ with hot := true } (b0 :: suite)).bind fun mh => (stHds Γ rec r).map ((t, i, mh) :: ·)
  | _ => none
def stS (c : CF) (h : Hn) (rec : Inf → List Stmt → Option MS) (Γ : Inf) : Stmt → Option MS
  | .Expr a _ => stExpr c Γ a
  | .Pass _ => some mPass
  | .Break _ => some mBrk
  | .Continue _ => some mCnt
  | .Return none _ => some mRetN
  | .Return (some e) p => (match (if p.line ∈ h.trk then some e else none) with
    | some (.List es _) => (c.l Γ es).map mRetL
    | some _ => none
    | none => (c.e Γ e).map mRet)
  | .If t a b _ => (c.t Γ t).bind fun mt => (rec Γ a).bind fun ma => (rec Γ b).map fun mb => mIf mt ma mb
  | .For tg iter body [] _ => if Γ.hot then none else (Γ.tg tg).bind fun t => (c.i Γ iter).bind fun mi => (rec Γ body).map fun mb => mFor t mi mb
  | .While t body [] _ => if Γ.hot then none else (c.t Γ t).bind fun mt => (rec Γ body).map fun mb => whileGo mt mb wfuel
  | .Assign [t] e p => stTo c h Γ t e p.line
  | .AugAssign (.Name x _) op e _ => if noComp e then (augOf op).bind fun o => (Γ.st x).bind fun i => (c.e Γ e).map (mAug i o) else none
  | .Raise (some e) none _ => stRaise c Γ e
  | .Try body (h1 :: hds) [] [] _ => if Γ.hot then none else (rec Γ body).bind fun mb => (stHds Γ rec (h1 :: hds)).map (mTry mb)
  | _ => none
def cs (c : CF) (h : Hn) : Nat → Inf → List Stmt → Option MS
  | 0 => fun _ _ => none
  | n + 1 => fun Γ sts => match sts with
    | [] => some mPass
    | st :: r => (stS c h (cs c h n) Γ st).bind fun m => (cs c h n Γ r).map fun mr => frzs h (lineS st) (mSeq m mr)
end MP
end

section
set_option Elab.async false
set_option linter.all false
set_option maxRecDepth 100000
set_option maxHeartbeats 4000000
/-! MP, part u: the meaning of statements is right. -/
namespace MP
open PySem PySem.Spec PyProof.Rows L2
structure SC (Γ : Inf) (k : Nat) (G0 : Gd) (X : Cx) (G : Gd) (W : WX) : Prop extends Ctx Γ k G0 X G W where
  pass : Γ.hot = false → PassesOwn (model X.prog X.w) X.A X.env X.xe
  stk : X.stack = X.env :: X.outer
  fr : X.env.frame = some X.env.locals
section
variable {G0 : Gd} {c : CF} {hn : Hn} {Γ : Inf} {k : Nat} {X : Cx} {G : Gd} {W : WX}
theorem sw_not {e : Expr} {tg : Option Expr} {l : Nat} {env : PySem.Env} (h : noComp e = true) : swapsWith e tg l env = pure false := by
  cases e <;> first | rfl | cases h
theorem sw_sole {e t : Expr} {l : Nat} {env : PySem.Env} (h : noComp e = true) : swapsWithSole [t] e l env = pure false := by
  show swapsWith e (some t) l env = pure false
  exact sw_not h
theorem sw_name {x : Str} {p : Pos} {e : Expr} {l : Nat} {env : PySem.Env} (h : noComp e = true) : swapsWith e (some (.Name x p)) l env = pure false := sw_not h
theorem frzs_ok {st : List Stmt} {n : Nat} {m : MS} (h : PSs X st (tS G W m)) : PSs X st (tS G W (frzs hn n m)) := by
  unfold frzs
  induction hn.frz with
  | nil => exact h
  | cons q r ih =>
    obtain ⟨l, i⟩ := q
    unfold frzs.go
    split
    · exact s_frz ih
    · exact ih
theorem sound_lcN (K : CFok G0 c) (KC : ClsOk G0) (C : Ctx Γ k G0 X G W) {elt tg iter : Expr} {ifs : List Expr} {scope : Scope} {pos : Pos} {m : ME} (h : stLc c Γ elt tg iter ifs scope = some m) : PE X (.ListComp elt [⟨tg, iter, ifs, 0⟩] scope pos) (tEO G W m) := by
  obtain ⟨tgm, mi, mt, me, rfl, hb, hsl, hfo, cold, warm⟩ := lc_parts K KC C h
  have nd : X.N.Nodup := by rw [C.N]; exact C.nd
  cases hh : Γ.hot with
  | false =>
    obtain ⟨i1, q⟩ := cold hh
    refine impE (pe_lc (C.cold hh).2.1 nd (i1 tg) hb (fun s H A cl fp => (q s H A cl fp).1) (fun s H A cl fp => (q s H A cl fp).2.1) (fun s H A cl fp => (q s H A cl fp).2.2) hfo) fun σ H Q h => ?_
    rw [← C.gk.1]
    exact lcO_read hsl h
  | true =>
    obtain ⟨i1, q⟩ := warm hh
    obtain ⟨a, ck, dd, _, hx⟩ := C.warm hh
    refine impE (pe_lcH hx.hot nd (i1 tg) hb (fun s H A cl fp => (q s H A cl fp).1) (fun s H A cl fp => (q s H A cl fp).2.1) (fun s H A cl fp => (q s H A cl fp).2.2) hfo) fun σ H Q h => ?_
    rw [← C.gk.1]
    exact lcO_read hsl h
theorem sound_new (K : CFok G0 c) (KC : ClsOk G0) (C : Ctx Γ k G0 X G W) {e : Expr} {m : ME} (h : stNew c Γ e = some m) : PE X e (tEO G W m) := by
  unfold stNew at h
  split at h
  · obtain ⟨ml, h1, rfl⟩ := Option.map_eq_some_iff.mp h
    exact o_lst (K.l C h1).1
  · split at h
    · rename_i hc
      obtain ⟨hb, hs⟩ := Bool.and_eq_true_iff.mp hc
      obtain ⟨h1, h2, h3⟩ := C.blt hb
      split at h
      · rename_i hx; subst hx
        split at h
        · rename_i mi hr
          cases h
          split at hr
          · cases hr
          · rename_i hh
            exact o_lstI (C.cold (by simpa using hh)).2.1 h1 h3 (K.r C hr).2.1 (star hs)
        · split at h
          · cases h
          · rename_i hh
            obtain ⟨ma, h4, rfl⟩ := Option.map_eq_some_iff.mp h
            exact o_list C.gk.1 (C.cold (by simpa using hh)).2.1 h1 h3 (K.e C h4) (star hs)
      · split at h
        · rename_i hx; subst hx
          obtain ⟨ma, h4, rfl⟩ := Option.map_eq_some_iff.mp h
          exact o_sorted C.gk.1 h1 h3 (K.e C h4) (star hs)
        · cases h
    · cases h
  · exact sound_lcN K KC C h
  · obtain ⟨ma, h1, h⟩ := Option.bind_eq_some_iff.mp h
    obtain ⟨mb, h2, rfl⟩ := Option.map_eq_some_iff.mp h
    exact o_mul C.gk.1 (K.e C h1) (K.e C h2)
  · obtain ⟨ma, h1, h⟩ := Option.bind_eq_some_iff.mp h
    obtain ⟨mb, h2, rfl⟩ := Option.map_eq_some_iff.mp h
    exact o_add C.gk.1 (K.e C h1) (K.e C h2)
  · cases h
theorem sound_asgLc (K : CFok G0 c) (KC : ClsOk G0) (C : Ctx Γ k G0 X G W) {elt tg iter : Expr} {ifs : List Expr} {scope : Scope} {pos spos p' : Pos} {x : Str} {i : Nat} {m : ME} (hx : Γ.st x = some i) (h : stLc c Γ elt tg iter ifs scope = some m) :
    PS X (.Assign [.Name x p'] (.ListComp elt [⟨tg, iter, ifs, 0⟩] scope pos) spos) (tS G W (mAsg i m)) ∧ PS X (.Assign [.Name x p'] (.ListComp elt [⟨tg, iter, ifs, 0⟩] scope pos) spos) (tS G W (mAsgO i m)) := by
  obtain ⟨tgm, mi, mt, me, rfl, hb, hsl, hfo, cold, warm⟩ := lc_parts K KC C h
  obtain ⟨s1, s2, s3, s4⟩ := C.set hx
  have hsw : swapsWith (.ListComp elt [⟨tg, iter, ifs, 0⟩] scope pos) (some (.Name x p')) spos.line X.env = pure (X.env.blockKind == .function && X.env.kindOf x == some .local && p'.line == pos.line && !(scope.names.any fun (n, k) => n == x && (k == .local || k == .cell))) := rfl
  have core : PS X (.Assign [.Name x p'] (.ListComp elt [⟨tg, iter, ifs, 0⟩] scope pos) spos) (tAsg (tLc (tI G W mi) (gTg G.K tgm) (tT G WF mt) (tE G WF me) ((ownOf Γ.N scope.names).map (·.2))) (gName i)) := by
    rw [C.gk.1]
    cases hsb : (X.env.blockKind == .function && X.env.kindOf x == some .local && p'.line == pos.line && !(scope.names.any fun (n, k) => n == x && (k == .local || k == .cell))) with
    | false =>
      rw [hsb] at hsw
      cases hh : Γ.hot with
      | false =>
        obtain ⟨i1, q⟩ := cold hh
        exact ps_set s2 s1 s3 (pe_lc (C.cold hh).2.1 s2 (i1 tg) hb (fun s H A cl fp => (q s H A cl fp).1) (fun s H A cl fp => (q s H A cl fp).2.1) (fun s H A cl fp => (q s H A cl fp).2.2) hfo) hsw s4
      | true =>
        obtain ⟨i1, q⟩ := warm hh
        obtain ⟨a, ck, dd, _, hx⟩ := C.warm hh
        exact ps_set s2 s1 s3 (pe_lcH hx.hot s2 (i1 tg) hb (fun s H A cl fp => (q s H A cl fp).1) (fun s H A cl fp => (q s H A cl fp).2.1) (fun s H A cl fp => (q s H A cl fp).2.2) hfo) hsw s4
    | true =>
      have hl : X.env.scope.names.lookup x = some .local := by
        simp only [Bool.and_eq_true] at hsb
        have := hsb.1.1.2
        simpa [Env.kindOf] using this
      rw [hsb] at hsw
      cases hh : Γ.hot with
      | false =>
        obtain ⟨i1, q⟩ := cold hh
        exact ps_setLc (C.cold hh).2.1 s2 s1 hl hsw (i1 tg) hb (fun s H A cl fp => (q s H A cl fp).1) (fun s H A cl fp => (q s H A cl fp).2.1) (fun s H A cl fp => (q s H A cl fp).2.2) hfo
      | true =>
        obtain ⟨i1, q⟩ := warm hh
        obtain ⟨a, ck, dd, _, hx⟩ := C.warm hh
        exact ps_setLcH hx.hot s2 s1 hl hsw (i1 tg) hb (fun s H A cl fp => (q s H A cl fp).1) (fun s H A cl fp => (q s H A cl fp).2.1) (fun s H A cl fp => (q s H A cl fp).2.2) hfo
  exact ⟨impS core fun D σ H h => lc_read hsl (asg_read h), impS core fun D σ H h => lcO_read hsl (asgO_read h)⟩
theorem sound_asg2 (K : CFok G0 c) (KC : ClsOk G0) (C : Ctx Γ k G0 X G W) {elt tg iter : Expr} {ifs : List Expr} {scope : Scope} {pos spos p' : Pos} {x : Str} {i : Nat} {m : MS} (hx : Γ.st x = some i) (h : stLcN c Γ i elt tg iter ifs scope = some m) :
    PS X (.Assign [.Name x p'] (.ListComp elt [⟨tg, iter, ifs, 0⟩] scope pos) spos) (tS G W m) := by
  unfold stLcN at h
  split at h
  · rename_i hb
    obtain ⟨hb, hh⟩ := Bool.and_eq_true_iff.mp hb
    have hh : Γ.hot = false := by simpa using hh
    obtain ⟨mi, h1, h⟩ := Option.bind_eq_some_iff.mp h
    obtain ⟨tgm, h2, h⟩ := Option.bind_eq_some_iff.mp h
    obtain ⟨me, h3, h⟩ := Option.bind_eq_some_iff.mp h
    obtain ⟨mt, h4, h⟩ := Option.bind_eq_some_iff.mp h
    split at h
    · rename_i ht
      cases h
      obtain ⟨i1, i2, _⟩ := K.i C h1
      have CY := fun s H A cl fp => C.blk hb hh s H A cl fp
      have hsl : ∀ i ∈ tgSlots tgm, i ∈ (ownOf Γ.N scope.names).map (·.2) := fun i hi => of_decide_eq_true (List.all_eq_true.mp ht i hi)
      obtain ⟨s1, s2, s3, s4⟩ := C.set hx
      have hsw : swapsWith (.ListComp elt [⟨tg, iter, ifs, 0⟩] scope pos) (some (.Name x p')) spos.line X.env = pure (X.env.blockKind == .function && X.env.kindOf x == some .local && p'.line == pos.line && !(scope.names.any fun (n, k) => n == x && (k == .local || k == .cell))) := rfl
      have core : PS X (.Assign [.Name x p'] (.ListComp elt [⟨tg, iter, ifs, 0⟩] scope pos) spos) (tAsg (tLc (tI G W mi) (gTg G.K tgm) (tT G WF mt) (tEO G WF me) ((ownOf Γ.N scope.names).map (·.2))) (gName i)) := by
        rw [C.gk.1]
        cases hsb : (X.env.blockKind == .function && X.env.kindOf x == some .local && p'.line == pos.line && !(scope.names.any fun (n, k) => n == x && (k == .local || k == .cell))) with
        | false =>
          rw [hsb] at hsw
          exact ps_set s2 s1 s3 (pe_lc (C.cold hh).2.1 s2 (i2 hh tg) (C.blkO hb) (fun s H A cl fp => (CY s H A cl fp).tg h2) (fun s H A cl fp => sound_Ifs K (CY s H A cl fp) h4) (fun s H A cl fp => sound_new K KC (CY s H A cl fp) h3) (noFold i1)) hsw s4
        | true =>
          have hl : X.env.scope.names.lookup x = some .local := by
            simp only [Bool.and_eq_true] at hsb
            have := hsb.1.1.2
            simpa [Env.kindOf] using this
          rw [hsb] at hsw
          exact ps_setLc (C.cold hh).2.1 s2 s1 hl hsw (i2 hh tg) (C.blkO hb) (fun s H A cl fp => (CY s H A cl fp).tg h2) (fun s H A cl fp => sound_Ifs K (CY s H A cl fp) h4) (fun s H A cl fp => sound_new K KC (CY s H A cl fp) h3) (noFold i1)
      exact impS core fun D σ H h => asgO2_read hsl h
    · cases h
  · cases h
theorem sound_asgLc2 (K : CFok G0 c) (KC : ClsOk G0) (C : Ctx Γ k G0 X G W) {elt tg iter tg1 iter1 : Expr} {ifs ifs1 : List Expr} {scope : Scope} {pos spos p' : Pos} {x : Str} {i : Nat} {m : ME} (hx : Γ.st x = some i) (h : stLc2 c Γ elt tg iter ifs tg1 iter1 ifs1 scope = some m) :
    PS X (.Assign [.Name x p'] (.ListComp elt [⟨tg, iter, ifs, 0⟩, ⟨tg1, iter1, ifs1, 0⟩] scope pos) spos) (tS G W (mAsg i m)) := by
  obtain ⟨tgm, mi, mt, mi1, tgm1, mt1, me, rfl, hh, hb, t1, t2, f1, f2, i1, q⟩ := lc2_parts K KC C h
  obtain ⟨s1, s2, s3, s4⟩ := C.set hx
  have hsw : swapsWith (.ListComp elt [⟨tg, iter, ifs, 0⟩, ⟨tg1, iter1, ifs1, 0⟩] scope pos) (some (.Name x p')) spos.line X.env = pure (X.env.blockKind == .function && X.env.kindOf x == some .local && p'.line == pos.line && !(scope.names.any fun (n, k) => n == x && (k == .local || k == .cell))) := rfl
  have core : PS X (.Assign [.Name x p'] (.ListComp elt [⟨tg, iter, ifs, 0⟩, ⟨tg1, iter1, ifs1, 0⟩] scope pos) spos) (tAsg (tLc2 (tI G W mi) (gTg G.K tgm) (tT G WF mt) (tI G WF mi1) (gTg G.K tgm1) (tT G WF mt1) (tE G WF me) ((ownOf Γ.N scope.names).map (·.2)) (tgSlots tgm1)) (gName i)) := by
    rw [C.gk.1]
    cases hsb : (X.env.blockKind == .function && X.env.kindOf x == some .local && p'.line == pos.line && !(scope.names.any fun (n, k) => n == x && (k == .local || k == .cell))) with
    | false =>
      rw [hsb] at hsw
      exact ps_set s2 s1 s3 (pe_lc2 (C.cold hh).2.1 s2 (i1 tg) hb t2 (fun s H A cl fp => (q s H A cl fp).1) (fun s H A cl fp => (q s H A cl fp).2.1) (fun s H A cl fp => (q s H A cl fp).2.2.1 tg1) (fun s H A cl fp => (q s H A cl fp).2.2.2.1) (fun s H A cl fp => (q s H A cl fp).2.2.2.2.1) (fun s H A cl fp => (q s H A cl fp).2.2.2.2.2) f1 f2) hsw s4
    | true =>
      have hl : X.env.scope.names.lookup x = some .local := by
        simp only [Bool.and_eq_true] at hsb
        have := hsb.1.1.2
        simpa [Env.kindOf] using this
      rw [hsb] at hsw
      exact ps_setLc2 (C.cold hh).2.1 s2 s1 hl hsw (i1 tg) hb t2 (fun s H A cl fp => (q s H A cl fp).1) (fun s H A cl fp => (q s H A cl fp).2.1) (fun s H A cl fp => (q s H A cl fp).2.2.1 tg1) (fun s H A cl fp => (q s H A cl fp).2.2.2.1) (fun s H A cl fp => (q s H A cl fp).2.2.2.2.1) (fun s H A cl fp => (q s H A cl fp).2.2.2.2.2) f1 f2
  exact impS core fun D σ H h => by
    obtain ⟨w, s, e, ok, er, h⟩ := asg_read h
    exact lc2_read t1 (fun _ h => h) ⟨w, s, e, ok, er, h⟩
theorem sound_pop (K : CFok G0 c) (C : Ctx Γ k G0 X G W) {e a : Expr} {j : Nat} {ma : ME} (h : popOf Γ e = some (j, a)) (hm : c.e Γ a = some ma) : PE X e (tPopE X G W j ma) ∧ noStar e = true := by
  unfold popOf at h
  split at h
  · split at h
    · rename_i hc
      simp only [Bool.and_eq_true, decide_eq_true_eq] at hc
      obtain ⟨⟨rfl, hs⟩, hl⟩ := hc
      obtain ⟨i, h1, h2⟩ := Option.map_eq_some_iff.mp h
      cases h2
      obtain ⟨v1, v2, v3, v4⟩ := C.vis h1
      exact ⟨pe_popE v1 v2 v3 v4 (K.e C hm) (few1 hs) hl (star hs), rfl⟩
    · cases h
  · cases h
theorem sound_asg (K : CFok G0 c) (KC : ClsOk G0) (C : Ctx Γ k G0 X G W) {x : Str} {p' pos : Pos} {e : Expr} {l : Nat} {m : MS} (h : stAsg c hn Γ x e l = some m) : PS X (.Assign [.Name x p'] e pos) (tS G W m) := by
  unfold stAsg at h
  obtain ⟨i, hx, h⟩ := Option.bind_eq_some_iff.mp h
  obtain ⟨s1, s2, s3, s4⟩ := C.set hx
  split at h
  · split at h
    · exact sound_asg2 K KC C hx h
    obtain ⟨ml, h1, h2⟩ := Option.map_eq_some_iff.mp h
    have q := sound_asgLc K KC C (pos := ‹Pos›) (spos := pos) (p' := p') hx h1
    split at h2
    · subst h2; exact q.2
    · subst h2; exact q.1
  · split at h
    · cases h
    · obtain ⟨ml, h1, rfl⟩ := Option.map_eq_some_iff.mp h
      exact sound_asgLc2 K KC C hx h1
  · split at h
    · rename_i hc
      split at h
      · rename_i j a qp
        obtain ⟨ma, h1, rfl⟩ := Option.map_eq_some_iff.mp h
        exact s_popA s2 s1 s3 (sound_pop K C qp h1).1 (sw_not hc) s4
      split at h
      · split at h
        · rename_i h0
          cases h
          unfold dict0 at h0
          split at h0
          · exact s_asgE s2 s1 s3 (sw_not hc) s4
          · cases h0
        · obtain ⟨ma, h1, rfl⟩ := Option.map_eq_some_iff.mp h
          exact s_asgO s2 s1 s3 (sound_new K KC C h1) (sw_not hc) s4
      · obtain ⟨ma, h1, rfl⟩ := Option.map_eq_some_iff.mp h
        exact s_asg s2 s1 s3 (K.e C h1) (sw_not hc) s4
    · cases h
theorem asg_sub {o j : Expr} {p3 : Pos} (h : noSlice j = true) : ∀ v, assign (.Subscript o j p3) X.env v = (do
      let ov ← holding [v] (eval o X.env)
      let iv ← holding [v, ov] (eval j X.env)
      standAt p3
      holding [v, ov, iv] (setItem ov iv v)
      release [v, ov, iv] []) := by
  intro v
  cases j <;> first | rfl | cases h
theorem sw_st {ts : List Expr} {e : Expr} {env : PySem.Env} (h : ∀ a b c, ts ≠ [.Tuple a b c] ∧ ts ≠ [.List a c]) : swappedStores ts e env = pure none := by
  unfold swappedStores
  split
  · rename_i h2
    split at h2
    · exact absurd rfl (h _ _ _).1
    · exact absurd rfl (h _ 0 _).2
    · cases h2
  · rfl
theorem sw_tup {t : Expr} {e : Expr} {env : PySem.Env} (h : noTup e = true) : swappedStores [t] e env = pure none := by
  unfold swappedStores
  split
  · rename_i h2
    split at h2
    · cases h
    · cases h
    · cases h2
  · rfl
theorem sound_to (K : CFok G0 c) (KC : ClsOk G0) (C : Ctx Γ k G0 X G W) {t e : Expr} {pos : Pos} {l : Nat} {m : MS} (h : stTo c hn Γ t e l = some m) : PS X (.Assign [t] e pos) (tS G W m) := by
  unfold stTo at h
  split at h
  · exact sound_asg K KC C h
  · split at h
    · cases h
    · rename_i hc
      have hc : (Γ.hot = false ∧ noComp e = true) ∧ noTup e = true := by simpa using hc
      obtain ⟨is, h1, h⟩ := Option.bind_eq_some_iff.mp h
      obtain ⟨me, h2, rfl⟩ := Option.map_eq_some_iff.mp h
      have g := C.many h1
      exact s_asgT C.gk.1 (K.e C h2) (pg_tup (C.cold hc.1.1).2.1 g.1 g.2.1 g.2.2) (sw_sole hc.1.2) (sw_tup hc.2) rfl
  · split at h
    · cases h
    · rename_i hc
      have hc : noComp e = true ∧ noSlice ‹Expr› = true := by simpa using hc
      split at h
      · split at h
        · obtain ⟨i, h1, h⟩ := Option.bind_eq_some_iff.mp h
          obtain ⟨v1, v2, v3, v4⟩ := C.vis h1
          split at h
          · rename_i jj qj
            obtain ⟨mj, h2, h⟩ := Option.bind_eq_some_iff.mp h
            obtain ⟨me, h3, rfl⟩ := Option.map_eq_some_iff.mp h
            unfold tupOf at qj
            split at qj
            · split at qj
              · rename_i hq
                cases qj
                simp only [Bool.and_eq_true, decide_eq_true_eq] at hq
                obtain ⟨⟨hb, hs⟩, rfl⟩ := hq
                obtain ⟨g1, g2, g3⟩ := C.blt hb
                exact s_setT (by have := C.units; omega) v1 v2 v3 v4 (K.e C h3) (K.e C h2) g1 g3 (star hs) C.gk.1 (sw_sole hc.1) (sw_st fun _ _ _ => ⟨fun z => (nomatch z), fun z => (nomatch z)⟩) (asg_sub hc.2)
              · cases qj
            · cases qj
          obtain ⟨mj, h2, h⟩ := Option.bind_eq_some_iff.mp h
          obtain ⟨me, h3, rfl⟩ := Option.map_eq_some_iff.mp h
          exact s_setO v1 v2 v3 v4 (K.e C h3) (K.e C h2) (sw_sole hc.1) (sw_st fun _ _ _ => ⟨fun z => (nomatch z), fun z => (nomatch z)⟩) (asg_sub hc.2)
        · cases h
      · split at h
        · split at h
          · split at h
            · rename_i hj1
              obtain ⟨i, h1, h⟩ := Option.bind_eq_some_iff.mp h
              obtain ⟨v1, v2, v3, v4⟩ := C.vis h1
              obtain ⟨m1, h2, h⟩ := Option.bind_eq_some_iff.mp h
              obtain ⟨mj, h3, h⟩ := Option.bind_eq_some_iff.mp h
              obtain ⟨me, h4, rfl⟩ := Option.map_eq_some_iff.mp h
              exact s_sto2 v1 v2 v3 v4 (K.e C h4) (K.e C h2) (K.e C h3) (plainIx hj1) (sw_sole hc.1) (sw_st fun _ _ _ => ⟨fun z => (nomatch z), fun z => (nomatch z)⟩) (asg_sub hc.2)
            · cases h
          · cases h
        obtain ⟨mo, h1, h⟩ := Option.bind_eq_some_iff.mp h
        obtain ⟨mj, h2, h⟩ := Option.bind_eq_some_iff.mp h
        obtain ⟨me, h3, rfl⟩ := Option.map_eq_some_iff.mp h
        exact s_setR (K.e C h3) (K.e C h1) (K.e C h2) (sw_sole hc.1) (sw_st fun _ _ _ => ⟨fun z => (nomatch z), fun z => (nomatch z)⟩) (asg_sub hc.2) rfl
  · cases h
theorem sound_expr (K : CFok G0 c) (C : Ctx Γ k G0 X G W) {a : Expr} {pos : Pos} {m : MS} (h : stExpr c Γ a = some m) : PS X (.Expr a pos) (tS G W m) := by
  unfold stExpr at h
  split at h
  · cases h; exact s_doc
  · split at h
    · rename_i hl
      unfold stMethS at h
      obtain ⟨i, h1, h5⟩ := Option.bind_eq_some_iff.mp h
      obtain ⟨v1, v2, v3, v4⟩ := C.vis h1
      split at h5
      · split at h5
        · rename_i hs
          split at h5
          · rename_i hx; subst hx
            split at h5
            · rename_i j b qp
              obtain ⟨ma, h2, rfl⟩ := Option.map_eq_some_iff.mp h5
              exact s_popP v1 v2 v3 v4 (sound_pop K C qp h2).1 (few1 hs) hl (star hs)
            · obtain ⟨ma, h2, rfl⟩ := Option.map_eq_some_iff.mp h5
              exact s_app v1 v2 v3 v4 (K.e C h2) (few1 hs) hl (star hs)
          · split at h5
            · rename_i hx; subst hx
              obtain ⟨ma, h2, rfl⟩ := Option.map_eq_some_iff.mp h5
              exact s_popE (pe_popE v1 v2 v3 v4 (K.e C h2) (few1 hs) hl (star hs)) rfl
            split at h5
            · rename_i hx; subst hx
              obtain ⟨ma, h2, rfl⟩ := Option.map_eq_some_iff.mp h5
              exact s_ext v1 v2 v3 v4 (K.e C h2) (few1 hs) hl (star hs)
            · cases h5
        · cases h5
      · split at h5
        · rename_i hx; subst hx
          cases h5
          exact s_clr v1 v2 v3 v4 hl
        · cases h5
      · cases h5
    · cases h
  · split at h
    · rename_i hc
      obtain ⟨ma, h2, rfl⟩ := Option.map_eq_some_iff.mp h
      exact s_expr (K.e C h2) (sw_not hc)
    · cases h
theorem strE_ok {a : Expr} (h : strE a = true) : ∃ x j p, a = .Constant (.str x) j p := by
  unfold strE at h
  split at h
  · exact ⟨_, _, _, rfl⟩
  · cases h
theorem room_mono {j k : Nat} {A : Around} (r : Room k A) (h : j ≤ k) : Room j A := r.mono h
theorem sound_raise (K : CFok G0 c) (KC : ClsOk G0) (C : Ctx Γ k G0 X G W) {e : Expr} {pos : Pos} {m : MS} (h : stRaise c Γ e = some m) : PS X (.Raise (some e) none pos) (tS G W m) := by
  unfold stRaise at h
  split at h
  · split at h
    · rename_i hc
      obtain ⟨hg, hh⟩ := Bool.and_eq_true_iff.mp hc
      have hh : Γ.hot = false := by simpa using hh
      obtain ⟨kk, h1, h⟩ := Option.bind_eq_some_iff.mp h
      obtain ⟨g1, g2⟩ := C.gl hg
      obtain ⟨rfl, h2, h3, h4⟩ := C.cold hh
      split at h
      · rename_i hf
        split at h
        · rename_i hs
          cases h
          obtain ⟨z, j, p, rfl⟩ := strE_ok hs
          have e1 := KC.own kk hf
          have e2 := KC.keep kk
          have e3 := KC.sub kk
          have e4 := KC.typ kk
          rw [C.K] at e1 e2 e3 e4
          exact s_raise h2 h4 (L2N.pmk_own PySem.F.excBase_ValueError e1 (C.cls _ _ h1) e2 (raises_own e3 e4) g1 g2)
        · cases h
      · rename_i hf
        split at h
        · rename_i hs
          obtain ⟨ma, h5, rfl⟩ := Option.map_eq_some_iff.mp h
          obtain ⟨f, fd, F⟩ := C.ini kk hf
          rw [C.K] at F
          exact s_raiseX F (h3.mono C.two) h2 h4 g1 (C.cls _ _ h1) (K.e C h5) g2 (star hs)
        · cases h
    · cases h
  · cases h
theorem Ctx.names (C : Ctx Γ k G0 X G W) {e : Expr} {t : Ty} (h : Γ.ty e = some t) : ∃ x p, e = .Name x p ∧ L2.Names X x (t.u G.cA) := by
  cases e with
  | Name x p =>
    refine ⟨x, p, rfl, ?_⟩
    unfold Inf.ty at h
    dsimp only at h
    split at h
    · rename_i hb
      obtain ⟨h1, h2, h3⟩ := C.blt hb
      obtain ⟨h4, h5⟩ := tyB_ok (cA := G.cA) h
      exact ⟨h1, h2, .inr ⟨h3, h4, h5⟩⟩
    · split at h
      · rename_i hg
        obtain ⟨h1, h2⟩ := C.gl hg
        cases q : Γ.cls x with
        | none => rw [q] at h; cases h
        | some c =>
          rw [q] at h
          cases h
          have e := C.cls x c q
          rw [← C.gk.2.1] at e
          exact ⟨h1, h2, .inl e⟩
      · cases h
  | _ => cases h
theorem SC.tr (C : SC Γ k G0 X G W) (hh : Γ.hot = false) {W' : WX} {pn : List (Addr × Obj)} {xe : Value → Shared → Prop} (tk : L2N.Takes (X.tr pn xe) W') (hp : PassesOwn (model X.prog X.w) X.A X.env xe) : SC Γ k G0 (X.tr pn xe) G W' := by
  obtain ⟨rfl, h2, h3, h4⟩ := C.cold hh
  exact ⟨⟨C.N, C.nd, C.kind, C.sc, C.K, C.h0, fun _ => ⟨rfl, h2, h3, tk⟩, fun z => absurd z (by rw [hh]; exact Bool.false_ne_true), HxOk.no C.h0, C.roomH, C.st, C.bl, C.fns, C.cls, C.glo, C.gd, C.ini, C.two⟩, fun _ => hp, C.stk, C.fr⟩
theorem SC.suite (KC : ClsOk G0) (C : SC Γ k G0 X G0 W) {a : Addr} {oe : Obj} {ck : EC} {d : Option Addr} {pn : List (Addr × Obj)} (hz : L2N.Zn (.ref (G0.cA ck)) d oe) (hf : ∃ vs, oe.data = .fields vs) : SC { Γ with hot := true } k G0 (X.suite a ((a, oe) :: pn)) (G0.with a ck d) WF := by
  have hx : HotX (X.suite a ((a, oe) :: pn)) a (.ref (G0.cA ck)) d := by
    obtain ⟨vs, hv⟩ := hf
    exact ⟨oe, List.mem_cons_self, ⟨rfl, vs, hv, hz.2.2 vs hv⟩, hz.zc, vs, hv⟩
  exact ⟨⟨C.N, C.nd, C.kind, C.sc, C.K, C.h0, fun z => (nomatch z), fun _ => ⟨a, ck, d, rfl, hx⟩, hxOk C.K KC hx, ⟨C.roomH.dp, C.roomH.un⟩, C.st, C.bl, C.fns, C.cls, C.glo, C.gd, C.ini, C.two⟩, fun z => (nomatch z), C.stk, C.fr⟩
end
theorem cs_ok {G0 : Gd} {c : CF} {hn : Hn} (KC : ClsOk G0) (K : CFok G0 c) : ∀ (n : Nat) {Γ : Inf} {k : Nat} {X : Cx} {G : Gd} {W : WX}, SC Γ k G0 X G W → ∀ {sts : List Stmt} {m : MS}, cs c hn n Γ sts = some m → PSs X sts (tS G W m)
  | 0, Γ, k, X, G, W, C, sts, m, h => nomatch h
  | n + 1, Γ, k, X, G, W, C, sts, m, h => by
    have nd : X.N.Nodup := by rw [C.N]; exact C.nd
    unfold cs at h
    cases sts with
    | nil => cases h; exact s_none
    | cons st r =>
      obtain ⟨m1, h1, h⟩ := Option.bind_eq_some_iff.mp h
      obtain ⟨m2, h2, rfl⟩ := Option.map_eq_some_iff.mp h
      refine frzs_ok (s_seq ?_ (cs_ok KC K n C h2))
      unfold stS at h1
      split at h1
      · exact sound_expr K C.toCtx h1
      · cases h1; exact s_pass
      · cases h1; exact s_brk
      · cases h1; exact s_cnt
      · cases h1; exact s_retN
      · split at h1
        · rename_i hq
          obtain ⟨ml, h3, rfl⟩ := Option.map_eq_some_iff.mp h1
          split at hq
          · cases hq; exact s_retL (K.l C.toCtx h3).1
          · cases hq
        · cases h1
        · obtain ⟨me, h3, rfl⟩ := Option.map_eq_some_iff.mp h1
          exact s_ret (K.e C.toCtx h3)
      · obtain ⟨mt, h3, h1⟩ := Option.bind_eq_some_iff.mp h1
        obtain ⟨ma, h4, h1⟩ := Option.bind_eq_some_iff.mp h1
        obtain ⟨mb, h5, rfl⟩ := Option.map_eq_some_iff.mp h1
        exact s_if (K.t C.toCtx h3) (cs_ok KC K n C h4) (cs_ok KC K n C h5)
      · split at h1
        · cases h1
        · rename_i hh
          have hh : Γ.hot = false := by simpa using hh
          obtain ⟨t, h3, h1⟩ := Option.bind_eq_some_iff.mp h1
          obtain ⟨mi, h4, h1⟩ := Option.bind_eq_some_iff.mp h1
          obtain ⟨mb, h5, rfl⟩ := Option.map_eq_some_iff.mp h1
          obtain ⟨i1, i2, i3⟩ := K.i C.toCtx h4
          exact s_for C.toCtx.gk.1 (C.pass hh) (C.cold hh).2.1 (i2 hh _) (C.toCtx.tg h3) (cs_ok KC K n C h5) (noFold i1)
      · split at h1
        · cases h1
        · rename_i hh
          have hh : Γ.hot = false := by simpa using hh
          obtain ⟨mt, h3, h1⟩ := Option.bind_eq_some_iff.mp h1
          obtain ⟨mb, h5, rfl⟩ := Option.map_eq_some_iff.mp h1
          exact s_while (C.pass hh) (K.t C.toCtx h3) (cs_ok KC K n C h5)
      · exact sound_to K KC C.toCtx h1
      · split at h1
        · obtain ⟨o, h3, h1⟩ := Option.bind_eq_some_iff.mp h1
          obtain ⟨i, h4, h1⟩ := Option.bind_eq_some_iff.mp h1
          obtain ⟨me, h5, rfl⟩ := Option.map_eq_some_iff.mp h1
          obtain ⟨s1, s2, s3, s4⟩ := C.toCtx.set h4
          exact s_aug h3 s2 s1 s3 (K.e C.toCtx h5) s4
        · cases h1
      · exact sound_raise K KC C.toCtx h1
      · split at h1
        · cases h1
        · rename_i hh
          have hh : Γ.hot = false := by simpa using hh
          obtain ⟨mb, h5, h1⟩ := Option.bind_eq_some_iff.mp h1
          obtain ⟨hs, h6, rfl⟩ := Option.map_eq_some_iff.mp h1
          obtain ⟨rfl, _, _, tk⟩ := C.cold hh
          have hdm : ∀ {hds : List ExceptHandler} {hs : List (Ty × Nat × MS)}, stHds Γ (cs c hn n) hds = some hs → HdsM X G hds hs := fun {hds} => by
            induction hds with
            | nil => intro hs h; cases h; exact .nil
            | cons q r ih =>
              intro hs h
              unfold stHds at h
              split at h
              · rename_i e; cases e
              · rename_i x np nm b0 suite pp r' e
                cases e
                split at h
                · cases h
                · rename_i hl
                  have hl := of_decide_eq_true (p := Γ.sc.lookup _ = some NameKind.local) (by simpa using hl)
                  obtain ⟨i, h3, h⟩ := Option.bind_eq_some_iff.mp h
                  obtain ⟨t, h4, h⟩ := Option.bind_eq_some_iff.mp h
                  split at h
                  · cases h
                  · rename_i ht
                    have ht : t.data = false := by simpa using ht
                    obtain ⟨mh, h7, h⟩ := Option.bind_eq_some_iff.mp h
                    obtain ⟨hs', h8, rfl⟩ := Option.map_eq_some_iff.mp h
                    obtain ⟨x', p', e', hN⟩ := C.toCtx.names h4
                    cases e'
                    obtain ⟨s1, s2, s3, s4⟩ := C.toCtx.set h3
                    exact .cons hN s1 (show X.env.scope.names.lookup _ = some .local by rw [C.sc]; exact hl) (fun k => KC.exm k t ht) (fun a oe ck d pn hz hf => cs_ok KC K n (C.suite KC hz hf) h7) (ih h8)
              · cases h
          exact s_try C.K C.h0 C.stk C.fr nd tk (fun W' pn xe tk' hp => cs_ok KC K n (C.tr hh tk' hp) h5) (hdm h6)
      · cases h1
end MP
end

section
set_option Elab.async false
set_option linter.all false
set_option maxRecDepth 100000
set_option maxHeartbeats 4000000
/-! MP, part v: the table of defs; the law's end. -/
namespace MP
open PySem PySem.Spec PyProof.Rows L2
inductive Kd where
  | pure | eff | hot | rc (n : Nat)
/-- a def of the text: what is known of it, its names by slots, its parameters, hints -/
structure DC where
  d : He.DefD
  N : List Str
  ps : List Str
  hn : Hn
  kd : Kd
/-- what all defs share -/
structure Gt where
  cls : Str → Option EC
  glo : Str → Option D
  gd : Str → Option (List (Str × D))
  bl : List Str
abbrev Tb := List (Str × FK)
def tbT (tb : Tb) (x : Str) : FK := (tb.lookup x).getD .none
def DC.inf (q : DC) (gt : Gt) (hot : Bool) (tb : Tb) : Inf := ⟨q.N, q.d.scope.names, q.d.scope.names, hot, tbT tb, gt.cls, gt.glo, gt.gd, q.hn.tq, gt.bl⟩
def DC.ms (q : DC) (gt : Gt) (hot : Bool) (tb : Tb) : Option MS := cs (cf 120) q.hn 200 (q.inf gt hot tb) q.d.body
def mNo : MS := fun _ _ => .stuck
def DC.m (q : DC) (gt : Gt) (hot : Bool) (tb : Tb) : MS := (q.ms gt hot tb).getD mNo
def recP (q : DC) (gt : Gt) (tb : Tb) : Nat → List D → P
  | 0 => fun _ => .stuck
  | j + 1 => runP q.N.length (q.m gt false ((q.d.at_.1, .pure q.ps.length (recP q gt tb j)) :: tb))
def fkOf (gt : Gt) (tb : Tb) (q : DC) : FK := match q.kd with
  | .pure => .pure q.ps.length (runP q.N.length (q.m gt false tb))
  | .eff => .eff q.ps.length (runE q.N.length (q.m gt false tb))
  | .hot => .hot q.ps.length (runE q.N.length (q.m gt true tb))
  | .rc n => .pure q.ps.length (recP q gt tb n)
def tab (gt : Gt) : Tb → List DC → Tb
  | tb, [] => tb
  | tb, q :: r => tab gt ((q.d.at_.1, fkOf gt tb q) :: tb) r
def DC.lv (q : DC) : Nat := match q.kd with
  | .rc n => n + 1
  | _ => 1
def lev : List DC → Nat
  | [] => 0
  | q :: r => q.lv + lev r
def DC.ok (q : DC) : Bool := decide (q.d.scope.kind = .function) && (q.d.scope.isCoroutine == false) && (q.d.scope.isGenerator == false) && decide q.N.Nodup && decide (q.N.take q.ps.length = q.ps) && (q.ps.all fun x => decide (q.d.scope.names.lookup x = some .local) || decide (q.d.scope.names.lookup x = some .cell)) &&
  (q.d.scope.names.all fun y => decide (y.2 ≠ .free)) && q.d.dfl.isEmpty && q.d.kwd.isEmpty && q.d.params.posonlyargs.isEmpty && decide (q.d.params.args.map (·.arg) = q.ps) && q.d.params.vararg.isNone && q.d.params.kwonlyargs.isEmpty && q.d.params.kwarg.isNone
section
variable {Pr : Program} {wo : World} {mg : Str → Option Value} {base : Heap} {G : Gd} {k : Nat}
theorem DC.scope {q : DC} (h : q.ok = true) : FnScope q.N q.ps q.d.scope := by
  unfold DC.ok at h
  simp only [Bool.and_eq_true, decide_eq_true_eq, beq_iff_eq, List.all_eq_true, Bool.or_eq_true] at h
  obtain ⟨⟨⟨⟨⟨⟨⟨⟨⟨⟨⟨⟨⟨h1, h2⟩, h3⟩, h4⟩, h5⟩, h6⟩, h7⟩, _⟩, _⟩, _⟩, _⟩, _⟩, _⟩, _⟩ := h
  exact ⟨h1, h2, h3, h4, h5, h6, h7⟩
theorem DC.plain {q : DC} (h : q.ok = true) : q.d.dfl = [] ∧ q.d.kwd = [] ∧ q.d.params.posonlyargs = [] ∧ q.d.params.args.map (·.arg) = q.ps ∧ q.d.params.vararg = none ∧ q.d.params.kwonlyargs = [] ∧ q.d.params.kwarg = none ∧ q.ps.Nodup := by
  have S := DC.scope h
  unfold DC.ok at h
  simp only [Bool.and_eq_true, decide_eq_true_eq, List.isEmpty_iff, Option.isNone_iff_eq_none] at h
  obtain ⟨⟨⟨⟨⟨⟨⟨_, h8⟩, h9⟩, h10⟩, h11⟩, h12⟩, h13⟩, h14⟩ := h
  exact ⟨h8, h9, h10, h11, h12, h13, h14, by rw [← S.pre]; exact S.nd.sublist (List.take_sublist _ _)⟩
/-- where a def stands -/
structure At (K : PySem.W.Frag) (mg : Str → Option Value) (q : DC) (f : Addr) (fd : FuncData) : Prop where
  F : FunD K q.d.name q.d.qual q.d.params q.d.body q.d.scope [] [] f fd
  g : mg q.d.at_.1 = some (.ref f)
theorem At.binds {q : DC} {f : Addr} {fd : FuncData} {K : PySem.W.Frag} (A : At K mg q f fd) (h : q.ok = true) : Binds K fd q.ps [] := by
  obtain ⟨_, _, h1, h2, h3, h4, h5, nd⟩ := DC.plain h
  exact A.F.bindsN fun kV doc pm an cdv ct us hl => bind_plain h1 h2 h3 h4 h5 rfl nd hl
theorem At.bindsA {q : DC} {f : Addr} {fd : FuncData} {K : PySem.W.Frag} (A : At K mg q f fd) (h : q.ok = true) (s : Shared) (us : List Value) (hl : us.length = q.ps.length) : BindsTo s fd ⟨us, []⟩ (q.ps.zip us) := by
  obtain ⟨_, _, h1, h2, h3, h4, h5, nd⟩ := DC.plain h
  exact A.F.bindsA (fun kV doc pm an cdv ct us hl => bind_plain h1 h2 h3 h4 h5 rfl nd hl) s us hl
theorem FnFact.mono {x : Str} {fk : FK} {j : Nat} (h : FnFact Pr wo mg base G j x fk) (hk : j ≤ k) : FnFact Pr wo mg base G k x fk := by
  cases fk with
  | pure n f => obtain ⟨a, fd, ps, h1, F, h2⟩ := h; exact ⟨a, fd, ps, h1, F.mono hk, h2⟩
  | eff n f => obtain ⟨a, fd, ps, h1, F, h2⟩ := h; exact ⟨a, fd, ps, h1, F.mono hk, h2⟩
  | hot n f => obtain ⟨a, fd, ps, h1, F, h2⟩ := h; exact ⟨a, fd, ps, h1, F.mono hk, h2⟩
  | none => trivial
def TbOk (Pr : Program) (wo : World) (mg : Str → Option Value) (base : Heap) (G : Gd) (k : Nat) (tb : Tb) : Prop := ∀ x, FnFact Pr wo mg base G k x (tbT tb x)
theorem TbOk.cons {tb : Tb} {x : Str} {fk : FK} {j : Nat} (h : TbOk Pr wo mg base G j tb) (hk : j ≤ k) (f : FnFact Pr wo mg base G k x fk) : TbOk Pr wo mg base G k ((x, fk) :: tb) := fun y => by
  unfold tbT
  rw [List.lookup_cons]
  by_cases hy : (y == x) = true
  · rw [hy]
    have : y = x := by simpa using hy
    subst this
    exact f
  · have hy : (y == x) = false := by simpa using hy
    rw [hy]
    exact (h y).mono hk
structure GtOk (wo : World) (G : Gd) (mg : Str → Option Value) (gt : Gt) : Prop where
  bl : ∀ x ∈ gt.bl, mg x = none
  cls : ∀ x c, gt.cls x = some c → mg x = some (.ref (G.cA c))
  glo : ∀ x d, gt.glo x = some d → ∃ v u, mg x = some u ∧ RelV v u ∧ ∀ N H, Rep G.K N H d v
  gd : ∀ x kvs, gt.gd x = some kvs → ∃ a : Addr, mg x = some (.ref a) ∧ ∀ z y, kvs.lookup z = some y → ∀ (N : Addr → Prop) (H : Hp), ∃ v, KDct G.K wo a z v ∧ Rep G.K N H y v
variable {gt : Gt} {tb : Tb}
theorem psNo {X : Cx} {W : WX} {G : Gd} {sts : List Stmt} : PSs X sts (tS G W mNo) := ⟨fun _ _ _ _ _ _ ⟨_, _, _, _, _, h⟩ => h.elim⟩
theorem cold_ok (h0 : G.hx = none) (KC : ClsOk G) (GO : GtOk wo G mg gt) (IA : IniAll Pr wo mg base G) (k2 : 2 ≤ k) {q : DC} (h : q.ok = true) (T : TbOk Pr wo mg base G k tb) {f : Addr} (cdv : Value) (A : Around) (outer : List PySem.Env) (s : Shared) (H : Hp) (E : XK) (hr : Room k (A.deeper (envOfC q.d.qual q.d.scope s.heap.objs.size f cdv))) :
    PSs (cxOf (L2N.CX Pr wo) Pr wo G.K mg base q.N q.d.qual q.d.scope f cdv A outer s H E) q.d.body (tS G (WO E) (q.m gt false tb)) := by
  have S := DC.scope h
  unfold DC.m
  cases hm : q.ms gt false tb with
  | none => exact psNo
  | some m =>
    refine cs_ok KC (cf_ok KC 120) 200 (Γ := q.inf gt false tb) (k := k) ⟨⟨rfl, S.nd, S.kind, rfl, rfl, h0, fun _ => ⟨rfl, rfl, hr, takes_def⟩, fun z => (nomatch z), HxOk.no h0, L2H.roomH_of hr, fun x i hx => ⟨?_, .inl rfl⟩, GO.bl, T, GO.cls, GO.glo, GO.gd, IA, k2⟩, fun _ => L2.passes_of rfl, rfl, rfl⟩ hm
    unfold Inf.st at hx
    split at hx
    · rename_i e; exact .inl e
    · rename_i e; exact .inr e
    · cases hx
theorem hot_ok (h0 : G.hx = none) (KC : ClsOk G) (GO : GtOk wo G mg gt) (IA : IniAll Pr wo mg base G) (k2 : 2 ≤ k) {q : DC} (h : q.ok = true) (T : TbOk Pr wo mg base G k tb) {f : Addr} (cdv : Value) (A : Around) (outer : List PySem.Env) (s : Shared) (H : Hp) (p : Addr × Obj) (c : EC) (d : Option Addr) (hr : L2H.RoomH k (A.deeper (envOfC q.d.qual q.d.scope s.heap.objs.size f cdv)))
    (hx : HotX (L2H.cxH (L2N.CX Pr wo) Pr wo G.K mg base q.N q.d.qual q.d.scope f cdv A outer s H NoE p) p.1 (.ref (G.cA c)) d) :
    PSs (L2H.cxH (L2N.CX Pr wo) Pr wo G.K mg base q.N q.d.qual q.d.scope f cdv A outer s H NoE p) q.d.body (tS (G.with p.1 c d) WF (q.m gt true tb)) := by
  have S := DC.scope h
  unfold DC.m
  cases hm : q.ms gt true tb with
  | none => exact psNo
  | some m =>
    refine cs_ok KC (cf_ok KC 120) 200 (Γ := q.inf gt true tb) (k := k) ⟨⟨rfl, S.nd, S.kind, rfl, rfl, h0, fun z => (nomatch z), fun _ => ⟨p.1, c, d, rfl, hx⟩, hxOk rfl KC hx, hr, fun x i hx => ⟨?_, .inl rfl⟩, GO.bl, T, GO.cls, GO.glo, GO.gd, IA, k2⟩, fun z => (nomatch z), rfl, rfl⟩ hm
    unfold Inf.st at hx
    split at hx
    · rename_i e; exact .inl e
    · rename_i e; exact .inr e
    · cases hx
theorem fact_rec (h0 : G.hx = none) (KC : ClsOk G) (GO : GtOk wo G mg gt) (IA : IniAll Pr wo mg base G) (k2 : 2 ≤ k) {q : DC} (h : q.ok = true) (T : TbOk Pr wo mg base G k tb) {f : Addr} {fd : FuncData} (A : At G.K mg q f fd) : ∀ n, FnFact Pr wo mg base G (k + n + 1) q.d.at_.1 (.pure q.ps.length (recP q gt tb n))
  | 0 => ⟨f, fd, q.ps, rfl, def_P (m := mNo) A.F (DC.scope h) fun _ _ _ _ _ _ _ => psNo, A.g, A.F.kp, A.binds h⟩
  | n + 1 => by
    have ih := fact_rec h0 KC GO IA k2 h T A n
    have T' : TbOk Pr wo mg base G (k + n + 1) ((q.d.at_.1, .pure q.ps.length (recP q gt tb n)) :: tb) := T.cons (by omega) ih
    exact ⟨f, fd, q.ps, rfl, def_P A.F (DC.scope h) fun cdv A' outer s H E hr => cold_ok h0 KC GO IA (by omega) h T' cdv A' outer s H E hr, A.g, A.F.kp, A.binds h⟩
theorem fact_ok (h0 : G.hx = none) (KC : ClsOk G) (GO : GtOk wo G mg gt) (IA : IniAll Pr wo mg base G) (k2 : 2 ≤ k) {q : DC} (h : q.ok = true) (T : TbOk Pr wo mg base G k tb) {f : Addr} {fd : FuncData} (A : At G.K mg q f fd) : FnFact Pr wo mg base G (k + q.lv) q.d.at_.1 (fkOf gt tb q) := by
  cases hk : q.kd with
  | pure =>
    unfold fkOf DC.lv; rw [hk]
    exact ⟨f, fd, q.ps, rfl, def_P A.F (DC.scope h) fun cdv A' outer s H E hr => cold_ok h0 KC GO IA k2 h T cdv A' outer s H E hr, A.g, A.F.kp, A.binds h⟩
  | eff =>
    unfold fkOf DC.lv; rw [hk]
    exact ⟨f, fd, q.ps, rfl, def_E A.F (DC.scope h) fun cdv A' outer s H E hr => cold_ok h0 KC GO IA k2 h T cdv A' outer s H E hr, A.g, A.F.kp, A.binds h⟩
  | hot =>
    unfold fkOf DC.lv; rw [hk]
    exact ⟨f, fd, q.ps, rfl, def_H A.F (DC.scope h) fun cdv A' outer s H p c d hr hx => hot_ok h0 KC GO IA k2 h T cdv A' outer s H p c d hr hx, A.g, A.F.kp, A.binds h⟩
  | rc n =>
    unfold fkOf DC.lv; rw [hk]
    exact fact_rec h0 KC GO IA k2 h T A n
theorem tab_ok (h0 : G.hx = none) (KC : ClsOk G) (GO : GtOk wo G mg gt) (IA : IniAll Pr wo mg base G) : ∀ (qs : List DC) {k : Nat} {tb : Tb}, 2 ≤ k → (∀ q ∈ qs, q.ok = true ∧ ∃ f fd, At G.K mg q f fd) → TbOk Pr wo mg base G k tb → TbOk Pr wo mg base G (k + lev qs) (tab gt tb qs)
  | [], k, tb, _, _, T => T
  | q :: qs, k, tb, k2, h, T => by
    obtain ⟨h1, f, fd, A⟩ := h q List.mem_cons_self
    have T' : TbOk Pr wo mg base G (k + q.lv) ((q.d.at_.1, fkOf gt tb q) :: tb) := T.cons (Nat.le_add_right _ _) (fact_ok h0 KC GO IA k2 h1 T A)
    have r := tab_ok h0 KC GO IA qs (Nat.le_trans k2 (Nat.le_add_right _ _)) (fun q hq => h q (List.mem_cons_of_mem _ hq)) T'
    unfold tab lev
    rw [← Nat.add_assoc]
    exact r
theorem TbOk.nil : TbOk Pr wo mg base G 2 [] := fun _ => trivial
/-- what is promised of the law's def, at the script -/
theorem law_sp {K : PySem.W.Frag} {G : Gd} (hK : G.K = K) {f : List Val → S → MP.R Val} {ns : List Int} {H : Hp} {a : Addr} (hl : ns.length ≤ 16777216) (hO : Only H) (hS : SqL K H a (ns.map V.int)) {s' : S} (h : f [.scr ns] [] = .ok (.d (.bl true)) s') : spE G 1 f [.ref a] H (fun v _ => v = .bl true) (fun _ _ _ => False) := by
  subst hK
  refine ⟨rfl, ⟨[], fun _ => False, fun _ => none⟩, [], [.scr ns], ⟨List.nodup_nil, rfl, fun n xs p h => by simp at h, fun p h => by simp at h, fun _ h => h.elim, fun p h => h.elim False.elim (fun z => absurd rfl z)⟩, fun _ z => z rfl, ⟨.ref a, [], rfl, ⟨a, rfl, ?_, hl⟩, rfl⟩, rfl, ?_⟩
  · rcases hS with (h | ⟨o, h⟩) | h
    · rcases hO a with z | ⟨o, xs, z⟩
      · rw [z] at h; cases h
      · rw [z] at h; cases h
    · exact .inl ⟨o, h⟩
    · exact .inr (.inr h)
  · rw [h]
    intro w' H' u x o r
    have r : Rep G.K w'.N H' (.bl true) u := r
    unfold Rep at r
    exact r
end
end MP
end

section
set_option Elab.async false
set_option linter.all false
set_option maxRecDepth 100000
set_option maxHeartbeats 4000000
/-! MP, part w: the head. -/
namespace MP
open PySem PySem.Spec PyProof.Rows L2
def allEC : List EC := [.JoinError, .BadLetters, .BadNumber, .BadKind, .BadRenaming, .BadTable, .BadChart, .BadPlace, .BadFilling, .BadLot, .BadPlan, .BadNamed, .BadRecord, .BadMove, .BadText, .TooMany, .Unlike, .NoChart, .NoPlan]
def EC.nm : EC → Str
  | .JoinError => "JoinError" | .BadLetters => "BadLetters" | .BadNumber => "BadNumber" | .BadKind => "BadKind" | .BadRenaming => "BadRenaming" | .BadTable => "BadTable" | .BadChart => "BadChart" | .BadPlace => "BadPlace" | .BadFilling => "BadFilling"
  | .BadLot => "BadLot" | .BadPlan => "BadPlan" | .BadNamed => "BadNamed" | .BadRecord => "BadRecord" | .BadMove => "BadMove" | .BadText => "BadText" | .TooMany => "TooMany" | .Unlike => "Unlike" | .NoChart => "NoChart" | .NoPlan => "NoPlan"
theorem mem_all (k : EC) : k ∈ allEC := by cases k <;> simp [allEC]
def ecOf (x : Str) : Option EC := allEC.find? fun k => decide (k.nm = x)
def gdOf (K : PySem.W.Frag) : Gd := ⟨K, fun k => He.ga K k.nm, none⟩
def allTy : List Ty := .valueError :: allEC.map .ec
def clsB (K : PySem.W.Frag) : Bool := allEC.all fun k => He.eqO (PySem.W.findIn K (.ref (He.ga K k.nm)) k.fld) (some none) &&
  He.eqO (PySem.W.findIn K (.ref (He.ga K k.nm)) "__getattribute__") (some (some (.builtin "BaseException.__getattribute__"))) && He.eqO (PySem.W.findIn K (.ref (He.ga K k.nm)) "__getattr__") (some none) &&
  decide (PySem.W.subIn K (.ref (He.ga K k.nm)) (.type "BaseException") = some true) && PySem.W.hasDictIn K (He.ga K k.nm) && He.eqO (PySem.W.findIn K (.ref (He.ga K k.nm)) "__class__") (some (some (.builtin "object.__class__"))) &&
  decide (PySem.W.mroIn K (He.ga K k.nm) (.type "object") = some true) && PySem.W.keepIn K (.ref (He.ga K k.nm)) && decide (PySem.W.typeIn K (.ref (He.ga K k.nm)) = some (.type "type")) &&
  (!decide (k.fld = Str.empty) || PySem.W.excIn K (He.ga K k.nm) He.veBase "ValueError.__new__") &&
  allTy.all fun t => decide (PySem.W.kitOne K (.ref (He.ga K k.nm)) (t.u fun k => He.ga K k.nm) = some (isEx k t)) && decide (PySem.W.exmOne K (.ref (He.ga K k.nm)) (t.u fun k => He.ga K k.nm) = some (isEx k t))
def objB (K : PySem.W.Frag) : Bool := He.eqO (PySem.W.specialIn K (.builtin "object.__class__") "__get__") (some (some (.builtin "getset_descriptor.__get__"))) && decide (PySem.W.takesIn K (.builtin "object.__class__") = some true)
theorem ty_mem {t : Ty} (h : t.data = false) : t ∈ allTy := by
  cases t with
  | ec k => exact List.mem_cons_of_mem _ (List.mem_map.mpr ⟨k, mem_all k, rfl⟩)
  | valueError => exact List.mem_cons_self
  | _ => cases h
theorem clsB_ok {K : PySem.W.Frag} (h : clsB K = true) (h2 : objB K = true) : ClsOk (gdOf K) := by
  have h := fun k => List.all_eq_true.mp h k (mem_all k)
  simp only [Bool.and_eq_true, decide_eq_true_eq, List.all_eq_true, Bool.or_eq_true, Bool.not_eq_true', decide_eq_false_iff_not] at h
  unfold objB at h2
  rw [Bool.and_eq_true, decide_eq_true_eq] at h2
  refine ⟨fun k => ?_, fun k t ht => ?_, fun k t ht => ?_, fun k => ?_, fun k => ?_, fun k => ?_, fun k hf => ?_, fun k => ?_⟩
  · obtain ⟨⟨⟨⟨⟨⟨⟨⟨⟨⟨a0, a1⟩, a2⟩, a3⟩, a4⟩, a5⟩, a6⟩, a7⟩, a8⟩, a9⟩, a10⟩ := h k
    exact ⟨He.eqO_ok a1, He.eqO_ok a2, a3, a4, He.eqO_ok a5, He.eqO_ok h2.1, h2.2, a6⟩
  · exact ((h k).2 t (ty_mem ht)).1
  · exact ((h k).2 t (ty_mem ht)).2
  · exact (h k).1.1.1.2
  · exact (h k).1.1.1.1.1.1.1.2
  · exact (h k).1.1.2
  · rcases (h k).1.2 with z | z
    · exact absurd hf z
    · exact z
  · obtain ⟨⟨⟨⟨⟨⟨⟨⟨⟨⟨a0, a1⟩, a2⟩, a3⟩, a4⟩, a5⟩, a6⟩, a7⟩, a8⟩, a9⟩, a10⟩ := h k
    exact He.eqO_ok a0
/-! ### data of the module -/
mutual
/-- a value of the module is this data -/
def repK (K : PySem.W.Frag) : D → Value → Bool
  | .non, u => He.relB .non u
  | .bl b, u => He.relB (.bl b) u
  | .int i, u => He.relB (.int i) u
  | .str z, u => He.relB (.str z) u
  | .tup xs, .ref a => (match K.lookup a with
    | some ⟨.type c, _, .seq its _, _⟩ => decide (c = "tuple") && (decide (its.size ≤ sizeLine) && repsK K xs its.toList)
    | _ => false)
  | _, _ => false
def repsK (K : PySem.W.Frag) : List D → List Value → Bool
  | [], [] => true
  | x :: xs, u :: us => repK K x u && repsK K xs us
  | _, _ => false
end
mutual
theorem repK_ok {K : PySem.W.Frag} : ∀ {d : D} {u : Value}, repK K d u = true → ∃ v, RelV v u ∧ ∀ N H, Rep K N H d v
  | .non, u, h => by unfold repK at h; exact ⟨_, He.relB_ok h, fun _ _ => rep_non⟩
  | .bl b, u, h => by unfold repK at h; exact ⟨_, He.relB_ok h, fun _ _ => rep_bl b⟩
  | .int i, u, h => by unfold repK at h; exact ⟨_, He.relB_ok h, fun _ _ => rep_int i⟩
  | .str z, u, h => by unfold repK at h; exact ⟨_, He.relB_ok h, fun _ _ => rep_str z⟩
  | .tup xs, u, h => by
    cases u with
    | ref a =>
      unfold repK at h
      split at h
      · rename_i c dd its n sl q
        simp only [Bool.and_eq_true, decide_eq_true_eq] at h
        obtain ⟨hc, hz, h⟩ := h
        obtain ⟨vs, h1, h2⟩ := repsK_ok h
        have hl : vs.length ≤ line := by
          have e1 := h1.length
          have e2 : its.toList.length = its.size := Array.length_toList
          rw [e1, e2, line_eq]; exact hz
        exact ⟨.ref a, rfl, fun N H => rep_tup (.inr ⟨_, its, n, q, congrArg Value.type hc, rfl, hz, h1⟩) hl (h2 N H)⟩
      · cases h
    | _ => unfold repK at h; cases h
  | .tuq _, u, h => by cases u <;> (unfold repK at h; cases h)
  | .lst _, u, h => by cases u <;> (unfold repK at h; cases h)
  | .dic _ _, u, h => by cases u <;> (unfold repK at h; cases h)
theorem repsK_ok {K : PySem.W.Frag} : ∀ {xs : List D} {us : List Value}, repsK K xs us = true → ∃ vs, Vals vs us ∧ ∀ N H, Reps K N H xs vs
  | [], [], _ => ⟨[], .nil, fun _ _ => .nil⟩
  | [], _ :: _, h => by unfold repsK at h; cases h
  | _ :: _, [], h => by unfold repsK at h; cases h
  | x :: xs, u :: us, h => by
    unfold repsK at h
    obtain ⟨h1, h2⟩ := Bool.and_eq_true_iff.mp h
    obtain ⟨v, r1, q1⟩ := repK_ok h1
    obtain ⟨vs, r2, q2⟩ := repsK_ok h2
    exact ⟨v :: vs, .cons r1 r2, fun N H => .cons (q1 N H) (q2 N H)⟩
end
/-- what the module's names hold: values; tables by texts -/
structure Gl where
  val : List (Str × D)
  dic : List (Str × List (Str × D)) := []
  file : Str := Str.empty
def valB (K : PySem.W.Frag) (q : Str × D) : Bool := match PySem.W.nsIn K mainGlobals q.1 with
  | some (some u) => repK K q.2 u
  | _ => false
def entB (K : PySem.W.Frag) (a : Addr) (kvs : List (Str × D)) : Bool := kvs.all fun q => match PySem.W.nsIn K a q.1 with
  | some (some u) => repK K q.2 u
  | _ => false
/-- the errors with a field -/
def iniAllB (K : PySem.W.Frag) (file : Str) : Bool := allEC.all fun k => decide (k.fld = Str.empty) || iniB K file (He.ga K k.nm) k.fld
/-- what the head tells: the classes, the data, the facts by names, the defs; the tables' keys -/
abbrev AlM : Type := (Bool × He.AlD) × List (Option (List (Option (Str × Int))))
def obsM (gl : Gl) (fa : List He.Fa) (fn : List He.DefD) (K : PySem.W.Frag) : AlM := ((clsB K && objB K && gl.val.all (valB K) && gl.dic.all (fun q => entB K (He.ga K q.1) q.2) && iniAllB K gl.file, He.obsD fa fn K), gl.dic.map fun q => He.dicW K (He.ga K q.1))
def valM (gl : Gl) (fn : List He.DefD) (w : World) : AlM := ((true, He.valD fn), gl.dic.map fun q => some (He.keysIn w.params (q.2.map (·.1))))
/-- what the head looks at: what the module's names reach in n steps; the run's settings -/
def asM (g : Addr → Option Obj) (n : Nat) : List Addr := cStatics :: He.asD g n
def hookM (n : Nat) (gl : Gl) (fa : List He.Fa) (fn : List He.DefD) : PySem.W.Hook where
  α := AlM
  obs := fun s => obsM gl fa fn (He.frG s.heap.get? (asM s.heap.get? n))
  val := fun w => valM gl fn w
  says := fun w h => ∃ K : PySem.W.Frag, K.In h ∧ obsM gl fa fn K = valM gl fn w
  of := fun _ _ e => ⟨_, He.frG_in, e⟩
  keeps := fun _ _ _ ⟨K, hK, c⟩ k => ⟨K, PySem.W.Frag.In.keeps hK k, c⟩
def obM (n : Nat) (gl : Gl) (fa : List He.Fa) (fn : List He.DefD) (s : PySem.W.SharedT) : AlM := obsM gl fa fn (He.frG (HandSHeadRun.getT s) (asM (HandSHeadRun.getT s) n))
theorem obM_eq {n : Nat} {gl : Gl} {fa : List He.Fa} {fn : List He.DefD} (s : PySem.W.SharedT) : obM n gl fa fn s = (hookM n gl fa fn).obs s.abs := by
  have e : HandSHeadRun.getT s = s.abs.heap.get? := funext (HandSHeadRun.getT_eq s)
  unfold obM
  rw [e] <;> rfl
/-- the shared facts, by the module's data and the built-ins' names -/
def gtOf (gl : Gl) (bl : List Str) : Gt := ⟨ecOf, fun x => gl.val.lookup x, fun x => gl.dic.lookup x, bl⟩
/-- the facts that are asked for: the classes', the tables', the defs' names; the built-ins that are free -/
def faOf (gl : Gl) (bl : List Str) (fn : List He.DefD) : List He.Fa := allEC.map (fun k => .glo k.nm) ++ gl.dic.map (fun q => .glo q.1) ++ fn.map (fun d => .glo d.at_.1) ++ bl.map .free
theorem gt_ok {gl : Gl} {bl : List Str} {fn : List He.DefD} {K : PySem.W.Frag} {wo : World} {h : Heap} {mg : Str → Option Value} (X : K.In h) (G : h.Ns mainGlobals mg) (c : obsM gl (faOf gl bl fn) fn K = valM gl fn wo) :
    ClsOk (gdOf K) ∧ GtOk wo (gdOf K) mg (gtOf gl bl) ∧ (∀ (P : Program) (base : Heap), P.main.file = gl.file → (P.main.scope.names.lookup ("super" : Str)).isSome = false → IniAll P wo mg base (gdOf K)) ∧ ∀ d ∈ fn, ∃ f fd, FunD K d.name d.qual d.params d.body d.scope (d.dvs K) (d.kws K) f fd ∧ (d.at_.2 = none → mg d.at_.1 = some (.ref f)) := by
  have c1 : (clsB K && objB K && gl.val.all (valB K) && gl.dic.all (fun q => entB K (He.ga K q.1) q.2) && iniAllB K gl.file) = true := congrArg (fun z : AlM => z.1.1) c
  have c2 : He.SaysD (faOf gl bl fn) fn K := congrArg (fun z : AlM => z.1.2) c
  have c3 : (gl.dic.map fun q => He.dicW K (He.ga K q.1)) = gl.dic.map fun q => some (He.keysIn wo.params (q.2.map (·.1))) := congrArg (fun z : AlM => z.2) c
  rw [Bool.and_eq_true, Bool.and_eq_true, Bool.and_eq_true, Bool.and_eq_true] at c1
  obtain ⟨c1, cI⟩ := c1
  have fact : ∀ f ∈ faOf gl bl fn, f.ok K = true := fun f hf => by
    obtain ⟨i, hi⟩ := List.mem_iff_getElem?.mp hf
    exact c2.fact i hi
  refine ⟨clsB_ok c1.1.1.1 c1.1.1.2, ⟨fun x hx => ?_, fun x k hk => ?_, fun x d hd => ?_, fun x kvs hd => ?_⟩, fun P base hf ht => ini_all (file := gl.file) (fun k hk => ?_) hf ht, fun d hd => ?_⟩
  · exact He.free_ok X G (fact (.free x) (List.mem_append_right _ (List.mem_map.mpr ⟨x, hx, rfl⟩)))
  · have hm := List.mem_of_find?_eq_some hk
    have hp := List.find?_some hk
    have e : k.nm = x := of_decide_eq_true hp
    subst e
    exact He.glo_ok X G (fact (.glo k.nm) (List.mem_append_left _ (List.mem_append_left _ (List.mem_append_left _ (List.mem_map.mpr ⟨k, hm, rfl⟩)))))
  · have hm := PySem.mem_of_lookup (show gl.val.lookup x = some d from hd)
    have hv := List.all_eq_true.mp c1.1.2 _ hm
    unfold valB at hv
    split at hv
    · rename_i u q
      obtain ⟨v, h1, h2⟩ := repK_ok hv
      exact ⟨v, u, PySem.W.mg_of X G q, h1, h2⟩
    · cases hv
  · have hm := PySem.mem_of_lookup (show gl.dic.lookup x = some kvs from hd)
    have hg := He.glo_ok X G (fact (.glo x) (List.mem_append_left _ (List.mem_append_left _ (List.mem_append_right _ (List.mem_map.mpr ⟨_, hm, rfl⟩)))))
    have he := List.all_eq_true.mp c1.2 _ hm
    have hw : He.dicW K (He.ga K x) = some (He.keysIn wo.params (kvs.map (·.1))) := by
      obtain ⟨i, hi⟩ := List.mem_iff_getElem?.mp hm
      have e := congrArg (fun l => l[i]?) c3
      simp only [List.getElem?_map, hi, Option.map_some] at e
      exact Option.some.inj e
    obtain ⟨es, n, D⟩ := He.dicW_ok hw
    refine ⟨He.ga K x, hg, fun z y hz N H => ?_⟩
    have hz := List.all_eq_true.mp he _ (PySem.mem_of_lookup hz)
    dsimp only at hz
    split at hz
    · rename_i u q
      obtain ⟨v, h1, h2⟩ := repK_ok hz
      exact ⟨v, ⟨es, n, u, D.at_, D.lit, q, h1⟩, h2 N H⟩
    · cases hz
  · have := List.all_eq_true.mp cI k (mem_all k)
    rw [Bool.or_eq_true] at this
    exact this.resolve_left fun z => hk (of_decide_eq_true z)
  · obtain ⟨i, hi⟩ := List.mem_iff_getElem?.mp hd
    obtain ⟨fd, F⟩ := c2.def_ i hi
    refine ⟨_, fd, F, fun ha => ?_⟩
    have hg := He.glo_ok X G (fact (.glo d.at_.1) (List.mem_append_left _ (List.mem_append_right _ (List.mem_map.mpr ⟨d, hd, rfl⟩))))
    have e : He.fAd K d.at_ = He.ga K d.at_.1 := by unfold He.fAd; rw [ha]
    rw [e]
    exact hg
/-- what the law answers, by its table -/
def lawM (tu : Gl) (bl : List Str) (qs : List DC) (ql : DC) : List Val → S → R Val := runE ql.N.length (ql.m (gtOf tu bl) false (tab (gtOf tu bl) [] qs))
/-- the law, by its table -/
theorem law_facts {P : Program} {w : World} {K : PySem.W.Frag} {h : Heap} {mg : Str → Option Value} {tu : Gl} {bl : List Str} {fn : List He.DefD} {qs : List DC} {ql : DC} {x : Str} (X : K.In h) (G : h.Ns mainGlobals mg) (c : obsM tu (faOf tu bl fn) fn K = valM tu fn w)
    (hq : ((ql :: qs).all fun q => q.ok && decide (q.d.at_.2 = none)) = true) (hm : ∀ q ∈ ql :: qs, q.d ∈ fn) (hqx : mg x = mg ql.d.at_.1) (hps : ql.ps = [("script" : Str)]) (hP : P.main.file = tu.file ∧ (P.main.scope.names.lookup ("super" : Str)).isSome = false) {fa : Addr} (hfa : mg x = some (.ref fa)) :
    ∃ fd : FuncData, (∀ (s : Shared) (v : Value), BindsTo s fd ⟨[v], []⟩ [(("script" : Str), v)]) ∧ ∀ base : Heap, FnOk P w K mg base (L2N.CX P w) (2 + lev qs + 1) fa fd [("script" : Str)] (spE (gdOf K) 1 (lawM tu bl qs ql)) := by
  obtain ⟨KC, GO, IA, df⟩ := gt_ok (wo := w) X G c
  have at_ : ∀ q ∈ ql :: qs, q.ok = true ∧ ∃ f fd, At (gdOf K).K mg q f fd := fun q h => by
    have h1 := List.all_eq_true.mp hq q h
    rw [Bool.and_eq_true, decide_eq_true_eq] at h1
    obtain ⟨f, fd, F, hg⟩ := df q.d (hm q h)
    obtain ⟨e1, e2, _⟩ := DC.plain h1.1
    unfold He.DefD.dvs He.DefD.kws at F
    rw [e1, e2] at F
    exact ⟨h1.1, f, fd, F, hg h1.2⟩
  obtain ⟨okq, f', fd', A'⟩ := at_ ql List.mem_cons_self
  have ef : f' = fa := by
    have e := A'.g
    rw [← hqx, hfa] at e
    cases e
    rfl
  subst ef
  refine ⟨fd', fun s v => ?_, fun base => ?_⟩
  · have := A'.bindsA okq s [v] (by rw [hps]; rfl)
    rw [hps] at this
    exact this
  · have T := tab_ok (Pr := P) (wo := w) (base := base) (G := gdOf K) rfl KC GO (IA P base hP.1 hP.2) qs (Nat.le_refl 2) (fun q h => at_ q (List.mem_cons_of_mem _ h)) TbOk.nil
    have F := def_E (Pr := P) (wo := w) (mg := mg) (base := base) A'.F (DC.scope okq) fun cdv A' outer s H E hr => cold_ok (f := f') rfl KC GO (IA P base hP.1 hP.2) (Nat.le_add_right 2 _) okq T cdv A' outer s H E hr
    rw [hps] at F
    exact F
/-- what an error leaves, whatever the world -/
def CXZ (P : Program) : CXT := fun outer H s E u s' => ∃ w, L2N.CX P w outer H s E u s'
theorem cxz {P : Program} {w : World} {K : PySem.W.Frag} {mg : Str → Option Value} {base : Heap} {k : Nat} {f : Addr} {fd : FuncData} {ps : List Str} {sp : Sp} (F : FnOk P w K mg base (L2N.CX P w) k f fd ps sp) : FnOk P w K mg base (CXZ P) k f fd ps sp :=
  ⟨F.len, fun A outer s H args us vs Q E hr he hb hv hs => codeAny_mono (F.run A outer s H args us vs Q E hr he hb hv hs) fun r s' hq => by
    cases r with
    | error e => exact ⟨w, hq⟩
    | ok fl => cases fl <;> exact hq⟩
theorem cxz_no {P : Program} : ∀ (H : Hp) (s : Shared) (e : Value) (s' : Shared), CXZ P [] H s (fun _ _ _ => False) e s' → False := fun _ _ _ _ ⟨_, _, _, _, _, _, _, _, _, _, _, _, _, z⟩ => z
end MP
end

section
set_option Elab.async false
set_option linter.all false
set_option maxRecDepth 100000
set_option maxHeartbeats 0
namespace MPL
open PySem PySem.Spec PyProof.Rows L2 MP
def top (i : Nat) : Stmt := PySem.Challenge.pw_slipsjoined_k24_one_answer_line_by_line.main.body.getD i (.Pass ⟨0, 0, 0, 0⟩)
def mkD (i : Nat) : He.DefD := match top i with
  | .FunctionDef n a b _ _ _ sc _ _ _ => ⟨(n, none), n, n, a, b, sc, [], []⟩
  | _ => ⟨("law", none), "law", "law", defArgs (top i), defBody (top i), defScope (top i), [], []⟩
def mkA (i : Nat) (x : Str) : He.DefD := { mkD i with at_ := (x, none) }
def q__law_store : DC := ⟨mkD 53, ["script", "wide", "cells", "seed", "k", "cell", "small"], ["script"], ⟨[179], [189], [(189, 2)], [], []⟩, .eff⟩
def q__law_mix : DC := ⟨mkD 54, ["seed", "turn", "one", "two", "three"], ["seed", "turn"], ⟨[], [], [], [], []⟩, .pure⟩
def q__law_take : DC := ⟨mkD 55, ["store", "many", "cells", "k", "cell", "got"], ["store", "many"], ⟨[], [], [], [], []⟩, .eff⟩
def q__law_pick : DC := ⟨mkD 56, ["store", "row"], ["store", "row"], ⟨[], [], [], [], []⟩, .eff⟩
def q__law_same : DC := ⟨mkD 61, ["actual", "expected", "k"], ["actual", "expected"], ⟨[], [], [], [], []⟩, .rc 8⟩
def q_is_whole : DC := ⟨mkD 22, ["value"], ["value"], ⟨[], [], [], [], []⟩, .pure⟩
def q_check_letters_aid_flat : DC := ⟨(mkA 26 "check_letters_aid_flat"), ["q"], ["q"], ⟨[], [], [], [], []⟩, .pure⟩
def q_grid_size : DC := ⟨mkD 25, ["q", "count", "size", "spare"], ["q", "count"], ⟨[], [], [], [], []⟩, .pure⟩
def q_check_limit : DC := ⟨mkD 28, ["q", "count"], ["q", "count"], ⟨[], [], [], [], []⟩, .pure⟩
def q_check_size : DC := ⟨mkD 29, ["q", "n"], ["q", "n"], ⟨[], [], [], [], []⟩, .pure⟩
def q_is_row : DC := ⟨mkD 23, ["value"], ["value"], ⟨[], [], [], [], []⟩, .pure⟩
def q_is_letter : DC := ⟨mkD 24, ["q", "value"], ["q", "value"], ⟨[], [], [], [], []⟩, .pure⟩
def q_letters_row : DC := ⟨mkD 30, ["q", "row", "count", "letter"], ["q", "row", "count"], ⟨[], [], [], [], []⟩, .pure⟩
def q_letters_at : DC := ⟨mkD 31, ["q", "count", "number", "letters", "spare"], ["q", "count", "number"], ⟨[91], [], [(95, 3)], [], []⟩, .pure⟩
def q_steps_of : DC := ⟨mkD 32, ["q", "n", "slip"], ["q", "n"], ⟨[], [], [], [], []⟩, .pure⟩
def q_lot_offsets : DC := ⟨mkD 33, ["q", "n", "slips", "steps", "offsets", "slip", "old", "letter"], ["q", "n", "slips"], ⟨[], [], [], [], []⟩, .pure⟩
def q_rest_of : DC := ⟨mkD 34, ["n", "lot", "slip"], ["n", "lot"], ⟨[], [], [], [], []⟩, .pure⟩
def q_line_fault : DC := ⟨mkD 35, ["q", "n", "flat", "steps", "letters", "slip", "start", "line", "letter"], ["q", "n", "flat"], ⟨[], [], [], [], []⟩, .pure⟩
def q_full_or_none : DC := ⟨mkD 36, ["q", "n", "flat", "row"], ["q", "n", "flat"], ⟨[], [], [], [], []⟩, .pure⟩
def q_is_full : DC := ⟨mkD 38, ["q", "n", "flat"], ["q", "n", "flat"], ⟨[], [], [], [], []⟩, .pure⟩
def q_full_fault : DC := ⟨mkD 39, ["q", "n", "flat", "row"], ["q", "n", "flat"], ⟨[], [], [], [], []⟩, .pure⟩
def q_whole : DC := ⟨mkD 42, ["value"], ["value"], ⟨[], [], [], [], []⟩, .pure⟩
def q_check_letter_count : DC := ⟨mkD 43, ["q"], ["q"], ⟨[], [], [], [], []⟩, .pure⟩
def q_check_letters_totals : DC := ⟨(mkA 46 "check_letters_totals"), ["q", "n", "filling", "letter"], ["q", "n", "filling"], ⟨[], [], [], [], []⟩, .pure⟩
def q_filling_number : DC := ⟨mkD 50, ["q", "filling", "number", "letter"], ["q", "filling"], ⟨[], [], [], [], []⟩, .pure⟩
def q_filling_count : DC := ⟨mkD 48, ["q", "n", "count", "spare"], ["q", "n"], ⟨[], [], [], [], []⟩, .pure⟩
def q_digits_of : DC := ⟨mkD 49, ["q", "n", "number", "digits", "rest", "spare"], ["q", "n", "number"], ⟨[154], [], [(159, 3)], [], []⟩, .pure⟩
def q_filling_at : DC := ⟨mkD 51, ["q", "n", "number"], ["q", "n", "number"], ⟨[], [], [], [], []⟩, .pure⟩
def q__law_error : DC := ⟨mkD 62, ["e", "told", "words", "k"], ["e"], ⟨[], [], [], [], []⟩, .hot⟩
def q__law_ask : DC := ⟨mkD 64, ["door", "q", "n", "value", "e"], ["door", "q", "n", "value"], ⟨[], [305, 300, 302, 304, 307, 309], [], [], []⟩, .pure⟩
def q__law_shuffle : DC := ⟨mkD 57, ["store", "many", "pool", "row", "k"], ["store", "many"], ⟨[221, 222], [], [(225, 2), (225, 3)], [], []⟩, .eff⟩
def q__law_rename : DC := ⟨mkD 60, ["q", "rows", "rho", "sigma", "tau", "fresh", "x", "y", "row"], ["q", "rows", "rho", "sigma", "tau"], ⟨[], [], [(248, 5)], [], [244, 247]⟩, .pure⟩
def q__law_some_table : DC := ⟨mkD 63, ["store", "q", "way", "k", "rows", "x", "rho", "row", "sign", "texts", "y"], ["store", "q"], ⟨[281], [], [(295, 4)], [], []⟩, .eff⟩
def q__law_one_answer : DC := ⟨mkD 65, ["store", "q", "n", "cells", "k", "table", "wide", "fresh", "x", "old"], ["store", "q", "n"], ⟨[315], [], [(319, 7)], [], []⟩, .eff⟩
def q__law_power : DC := ⟨mkD 58, ["q", "n", "value", "k"], ["q", "n"], ⟨[], [], [], [], []⟩, .pure⟩
def q__law_near_full : DC := ⟨mkD 66, ["store", "q", "n", "flat", "row", "way", "at", "spot", "one", "two", "step", "slice_letter", "k", "seed"], ["store", "q", "n", "flat"], ⟨[322, 327, 329, 330, 338, 340, 343, 345], [], [(346, 4)], [], []⟩, .eff⟩
def q__law_dress : DC := ⟨mkD 59, ["value", "way", "items", "k"], ["value", "way"], ⟨[234], [], [(240, 2)], [], []⟩, .rc 8⟩
def q__law_digits_of : DC := ⟨mkD 68, ["q", "n", "number", "row", "k"], ["q", "n", "number"], ⟨[357], [], [(361, 3)], [], []⟩, .pure⟩
def q__law_fault_due : DC := ⟨mkD 67, ["q", "n", "flat", "slip", "step", "start", "line_letters", "x"], ["q", "n", "flat"], ⟨[], [], [], [], []⟩, .pure⟩
def q__law_flat_right : DC := ⟨mkD 69, ["store", "q", "n", "flat", "way", "shown", "due"], ["store", "q", "n", "flat"], ⟨[], [], [], [], []⟩, .eff⟩
def q__law_refused : DC := ⟨mkD 70, ["store", "q", "n", "flat", "at", "odd", "bad", "one", "door", "letters", "least", "number", "asked"], ["store", "q", "n", "flat"], ⟨[], [], [], [], []⟩, .eff⟩
def q__law_numbers_right : DC := ⟨mkD 71, ["store", "q", "n", "many", "number", "odd", "asked", "row", "shown", "at", "letters"], ["store", "q", "n"], ⟨[], [], [], [], []⟩, .eff⟩
def q_law : DC := ⟨mkD 72, ["script", "store", "q", "most", "n", "flat", "k"], ["script"], ⟨[], [], [], [], []⟩, .eff⟩
def qs : List DC := [q__law_store, q__law_mix, q__law_take, q__law_pick, q__law_same, q_is_whole, q_check_letters_aid_flat, q_grid_size, q_check_limit, q_check_size, q_is_row, q_is_letter, q_letters_row, q_letters_at, q_steps_of, q_lot_offsets, q_rest_of, q_line_fault, q_full_or_none, q_is_full, q_full_fault, q_whole, q_check_letter_count, q_check_letters_totals, q_filling_number, q_filling_count, q_digits_of, q_filling_at, q__law_error, q__law_ask, q__law_shuffle, q__law_rename, q__law_some_table, q__law_one_answer, q__law_power, q__law_near_full, q__law_dress, q__law_digits_of, q__law_fault_due, q__law_flat_right, q__law_refused, q__law_numbers_right]
def fn : List He.DefD := [mkD 53, mkD 54, mkD 55, mkD 56, mkD 61, mkD 22, (mkA 26 "check_letters_aid_flat"), mkD 25, mkD 28, mkD 29, mkD 23, mkD 24, mkD 30, mkD 31, mkD 32, mkD 33, mkD 34, mkD 35, mkD 36, mkD 38, mkD 39, mkD 42, mkD 43, (mkA 46 "check_letters_totals"), mkD 50, mkD 48, mkD 49, mkD 51, mkD 62, mkD 64, mkD 57, mkD 60, mkD 63, mkD 65, mkD 58, mkD 66, mkD 59, mkD 68, mkD 67, mkD 69, mkD 70, mkD 71, mkD 72]
def bl : List Str := ["len", "int", "bool", "str", "tuple", "list", "sorted", "any", "max", "min", "range", "isinstance", "ValueError"]
def tu : Gl := ⟨[("MOST", .int 1024), ("MOST_LETTERS", .int 8), ("MOST_SLIPS", .int 8)], [], PySem.Challenge.pw_slipsjoined_k24_one_answer_line_by_line.main.file⟩
def lastI : Nat := 72
def m__law_store : MS := (mSeq (mAsg 1 (mBin .pow (mCon (.int 10)) (mCon (.int 60)))) (mSeq (mAsg 1 (mBin .mul (mBin .mul (mBin .mul (mVar 1) (mVar 1)) (mVar 1)) (mVar 1))) (mSeq (mAsgO 2 (mLst mNil)) (mSeq (mAsg 3 (mCon (.int 7))) (mSeq (mFor (.nm 4) (mRg1 (mMin2 (mCon (.int 63)) (mB1 .len (mVar 0)))) (mSeq (mAsg 5 (mB1 .int (mIx (mVar 0) (mVar 4)))) (mSeq (mAsg 6 (mBin .mod (mB1 .int (mVar 5)) (mCon (.int 2147483647)))) (mSeq (mIf (mCmp .ge (mVar 5) (mBin .pow (mCon (.int 10)) (mCon (.int 18)))) (mSeq (mApp 2 (mTup (mCons (mCon (.int 1)) (mCons (mBin .mod (mB1 .int (mVar 5)) (mVar 1)) mNil)))) mPass) (mSeq (mApp 2 (mTup (mCons (mCon (.int 0)) (mCons (mBin .mod (mB1 .int (mBin .add (mVar 6) (mBin .mul (mVar 4) (mCon (.int 104729))))) (mCon (.int 2147483647))) mNil)))) mPass)) (mSeq (mAsg 3 (mBin .mod (mB1 .int (mBin .add (mBin .add (mBin .mul (mVar 3) (mCon (.int 48271))) (mVar 6)) (mCon (.int 11)))) (mCon (.int 2147483629)))) mPass))))) (mSeq (mFrz 2) (mSeq (mRetL (mCons (mVar 2) (mCons (mCon (.int 0)) (mCons (mCon (.int 0)) (mCons (mCon (.int 0)) (mCons (mCon (.int 0)) (mCons (mCon (.int 0)) (mCons (mVar 3) mNil)))))))) mPass)))))))
def f__law_store : List Val → S → R Val := runE 7 m__law_store
abbrev fk__law_store : FK := .eff 1 f__law_store
theorem e__law_store : fkOf (gtOf tu bl) [] q__law_store = fk__law_store := by kernel_rfl
def tb__law_store : Tb := (q__law_store.d.at_.1, fk__law_store) :: []
def m__law_mix : MS := (mSeq (mAsg 2 (mBin .mod (mB1 .int (mBin .add (mBin .add (mBin .mul (mVar 0) (mCon (.int 48271))) (mBin .mul (mVar 1) (mCon (.int 69621)))) (mCon (.int 7919)))) (mCon (.int 2147483647)))) (mSeq (mAsg 3 (mBin .mod (mB1 .int (mBin .add (mBin .add (mBin .mul (mVar 2) (mBin .add (mVar 2) (mCon (.int 16807)))) (mBin .mul (mVar 1) (mCon (.int 40692)))) (mCon (.int 3)))) (mCon (.int 2147483629)))) (mSeq (mAsg 4 (mBin .mod (mB1 .int (mBin .add (mBin .mul (mVar 3) (mBin .add (mVar 3) (mCon (.int 48271)))) (mVar 2))) (mCon (.int 2147483563)))) (mSeq (mRet (mBin .add (mBin .mul (mVar 3) (mCon (.int 2147483563))) (mVar 4))) mPass))))
def f__law_mix : List D → P := runP 5 m__law_mix
abbrev fk__law_mix : FK := .pure 2 f__law_mix
theorem e__law_mix : fkOf (gtOf tu bl) tb__law_store q__law_mix = fk__law_mix := by kernel_rfl
def tb__law_mix : Tb := (q__law_mix.d.at_.1, fk__law_mix) :: tb__law_store
def m__law_take : MS := (mSeq (mIf (mCmp .lt (mVar 1) (mCon (.int 2))) (mSeq (mRet (mCon (.int 0))) mPass) mPass) (mSeq (mAsg 2 (mIx (mVar 0) (mCon (.int 0)))) (mSeq (mFor (.nm 3) (mRg1 (mBin .add (mB1 .len (mVar 2)) (mCon (.int 1)))) (mSeq (mIf (mCmp .gt (mIx (mVar 0) (mCon (.int 1))) (mCon (.int 0))) (mSeq (mAsg 5 (mBin .mod (mB1 .int (mIx (mVar 0) (mCon (.int 1)))) (mVar 1))) (mSeq (mSetR (mVar 0) (mCon (.int 1)) (mBin .fdiv (mB1 .int (mIx (mVar 0) (mCon (.int 1)))) (mVar 1))) (mSeq (mRet (mVar 5)) mPass))) mPass) (mSeq (mIf (mCmp .gt (mIx (mVar 0) (mCon (.int 2))) (mCon (.int 0))) (mSeq (mSetR (mVar 0) (mCon (.int 2)) (mBin .sub (mIx (mVar 0) (mCon (.int 2))) (mCon (.int 1)))) (mSeq (mRet (mBin .mod (mB1 .int (mCall fk__law_mix (mCons (mIx (mVar 0) (mCon (.int 3))) (mCons (mIx (mVar 0) (mCon (.int 2))) mNil)))) (mVar 1))) mPass)) mPass) (mSeq (mIf (mCmp .ge (mIx (mVar 0) (mCon (.int 4))) (mB1 .len (mVar 2))) (mSeq mBrk mPass) mPass) (mSeq (mAsg 4 (mIx (mVar 2) (mIx (mVar 0) (mCon (.int 4))))) (mSeq (mSetR (mVar 0) (mCon (.int 4)) (mBin .add (mIx (mVar 0) (mCon (.int 4))) (mCon (.int 1)))) (mSeq (mIf (mCmp .eq (mIx (mVar 4) (mCon (.int 0))) (mCon (.int 1))) (mSeq (mSetR (mVar 0) (mCon (.int 1)) (mIx (mVar 4) (mCon (.int 1)))) mPass) (mSeq (mSetR (mVar 0) (mCon (.int 2)) (mCon (.int 3))) (mSeq (mSetR (mVar 0) (mCon (.int 3)) (mIx (mVar 4) (mCon (.int 1)))) mPass))) mPass))))))) (mSeq (mSetR (mVar 0) (mCon (.int 5)) (mBin .add (mIx (mVar 0) (mCon (.int 5))) (mCon (.int 1)))) (mSeq (mRet (mBin .mod (mB1 .int (mCall fk__law_mix (mCons (mIx (mVar 0) (mCon (.int 6))) (mCons (mIx (mVar 0) (mCon (.int 5))) mNil)))) (mVar 1))) mPass)))))
def f__law_take : List Val → S → R Val := runE 6 m__law_take
abbrev fk__law_take : FK := .eff 2 f__law_take
theorem e__law_take : fkOf (gtOf tu bl) tb__law_mix q__law_take = fk__law_take := by kernel_rfl
def tb__law_take : Tb := (q__law_take.d.at_.1, fk__law_take) :: tb__law_mix
def m__law_pick : MS := (mSeq (mRet (mIx (mVar 1) (mCall fk__law_take (mCons (mVar 0) (mCons (mB1 .len (mVar 1)) mNil))))) mPass)
def f__law_pick : List Val → S → R Val := runE 2 m__law_pick
abbrev fk__law_pick : FK := .eff 2 f__law_pick
theorem e__law_pick : fkOf (gtOf tu bl) tb__law_take q__law_pick = fk__law_pick := by kernel_rfl
def tb__law_pick : Tb := (q__law_pick.d.at_.1, fk__law_pick) :: tb__law_take
def m__law_same (rec : List D → P) : MS := (mSeq (mIf (mOr (mTru (mBl (mIsI (mVar 1) .bool))) (mTru (mBl (mIsI (mVar 0) .bool)))) (mSeq (mRet (mAndV (mBl (mIsI (mVar 1) .bool)) (mAndV (mBl (mIsI (mVar 0) .bool)) (mBl (mCmp .eq (mVar 0) (mVar 1)))))) mPass) mPass) (mSeq (mIf (mIsN (mVar 1)) (mSeq (mRet (mBl (mIsN (mVar 0)))) mPass) mPass) (mSeq (mIf (mTru (mBl (mIsI (mVar 1) .int))) (mSeq (mRet (mAndV (mBl (mIsI (mVar 0) .int)) (mBl (mCmp .eq (mVar 0) (mVar 1))))) mPass) mPass) (mSeq (mIf (mTru (mBl (mIsI (mVar 1) .str))) (mSeq (mRet (mAndV (mBl (mIsI (mVar 0) .str)) (mBl (mCmp .eq (mVar 0) (mVar 1))))) mPass) mPass) (mSeq (mIf (mTru (mBl (mIsI (mVar 1) .tuple))) (mSeq (mIf (mNot (mTru (mBl (mIsI (mVar 0) .tuple)))) (mSeq (mRet (mCon (.bl false))) mPass) mPass) mPass) (mSeq (mIf (mNot (mTru (mBl (mIsI (mVar 0) .list)))) (mSeq (mRet (mCon (.bl false))) mPass) mPass) mPass)) (mSeq (mIf (mCmp .ne (mB1 .len (mVar 0)) (mB1 .len (mVar 1))) (mSeq (mRet (mCon (.bl false))) mPass) mPass) (mSeq (mFor (.nm 2) (mRg1 (mB1 .len (mVar 1))) (mSeq (mIf (mNot (mTru (mCall (.pure 2 rec) (mCons (mIx (mVar 0) (mVar 2)) (mCons (mIx (mVar 1) (mVar 2)) mNil))))) (mSeq (mRet (mCon (.bl false))) mPass) mPass) mPass)) (mSeq (mRet (mCon (.bl true))) mPass))))))))
def f__law_same : Nat → List D → P
  | 0 => fun _ => .stuck
  | j + 1 => runP 3 (m__law_same (f__law_same j))
abbrev fk__law_same : FK := .pure 2 (f__law_same 8)
theorem e__law_same_m (r : List D → P) : q__law_same.m (gtOf tu bl) false ((q__law_same.d.at_.1, .pure 2 r) :: tb__law_pick) = m__law_same r := by kernel_rfl
theorem e__law_same_r : ∀ j, recP q__law_same (gtOf tu bl) tb__law_pick j = f__law_same j
  | 0 => rfl
  | j + 1 => by
    show runP q__law_same.N.length (q__law_same.m (gtOf tu bl) false ((q__law_same.d.at_.1, .pure q__law_same.ps.length (recP q__law_same (gtOf tu bl) tb__law_pick j)) :: tb__law_pick)) = runP 3 (m__law_same (f__law_same j))
    rw [e__law_same_r j]
    exact congrArg (runP 3) (e__law_same_m (f__law_same j))
theorem e__law_same : fkOf (gtOf tu bl) tb__law_pick q__law_same = fk__law_same := by
  show FK.pure 2 (recP q__law_same (gtOf tu bl) tb__law_pick 8) = _
  rw [e__law_same_r]
def tb__law_same : Tb := (q__law_same.d.at_.1, fk__law_same) :: tb__law_pick
def m_is_whole : MS := (mSeq (mRet (mAndV (mBl (mIsI (mVar 0) .int)) (mBl (mNot (mTru (mBl (mIsI (mVar 0) .bool))))))) mPass)
def f_is_whole : List D → P := runP 1 m_is_whole
abbrev fk_is_whole : FK := .pure 1 f_is_whole
theorem e_is_whole : fkOf (gtOf tu bl) tb__law_same q_is_whole = fk_is_whole := by kernel_rfl
def tb_is_whole : Tb := (q_is_whole.d.at_.1, fk_is_whole) :: tb__law_same
def m_check_letters_aid_flat : MS := (mSeq (mIf (mOr (mNot (mTru (mCall fk_is_whole (mCons (mVar 0) mNil)))) (mNot (mChain .le .le (mCon (.int 1)) (mVar 0) (mCon (.int 8))))) (mSeq (mRaise .BadLetters) mPass) mPass) mPass)
def f_check_letters_aid_flat : List D → P := runP 1 m_check_letters_aid_flat
abbrev fk_check_letters_aid_flat : FK := .pure 1 f_check_letters_aid_flat
theorem e_check_letters_aid_flat : fkOf (gtOf tu bl) tb_is_whole q_check_letters_aid_flat = fk_check_letters_aid_flat := by kernel_rfl
def tb_check_letters_aid_flat : Tb := (q_check_letters_aid_flat.d.at_.1, fk_check_letters_aid_flat) :: tb_is_whole
def m_grid_size : MS := (mSeq (mAsg 2 (mCon (.int 1))) (mSeq (mFor (.nm 3) (mRg1 (mVar 1)) (mSeq (mAsg 2 (mBin .mul (mVar 2) (mVar 0))) mPass)) (mSeq (mRet (mVar 2)) mPass)))
def f_grid_size : List D → P := runP 4 m_grid_size
abbrev fk_grid_size : FK := .pure 2 f_grid_size
theorem e_grid_size : fkOf (gtOf tu bl) tb_check_letters_aid_flat q_grid_size = fk_grid_size := by kernel_rfl
def tb_grid_size : Tb := (q_grid_size.d.at_.1, fk_grid_size) :: tb_check_letters_aid_flat
def m_check_limit : MS := (mSeq (mIf (mCmp .gt (mCall fk_grid_size (mCons (mVar 0) (mCons (mVar 1) mNil))) (mCon (.int 1024))) (mSeq (mRaiseX .TooMany (mCon (.int 1024))) mPass) mPass) mPass)
def f_check_limit : List D → P := runP 2 m_check_limit
abbrev fk_check_limit : FK := .pure 2 f_check_limit
theorem e_check_limit : fkOf (gtOf tu bl) tb_grid_size q_check_limit = fk_check_limit := by kernel_rfl
def tb_check_limit : Tb := (q_check_limit.d.at_.1, fk_check_limit) :: tb_grid_size
def m_check_size : MS := (mSeq (mExpr (mCall fk_check_letters_aid_flat (mCons (mVar 0) mNil))) (mSeq (mIf (mOr (mNot (mTru (mCall fk_is_whole (mCons (mVar 1) mNil)))) (mNot (mChain .le .le (mCon (.int 1)) (mVar 1) (mCon (.int 8))))) (mSeq (mRaise .BadNumber) mPass) mPass) (mSeq (mExpr (mCall fk_check_limit (mCons (mVar 0) (mCons (mVar 1) mNil)))) mPass)))
def f_check_size : List D → P := runP 2 m_check_size
abbrev fk_check_size : FK := .pure 2 f_check_size
theorem e_check_size : fkOf (gtOf tu bl) tb_check_limit q_check_size = fk_check_size := by kernel_rfl
def tb_check_size : Tb := (q_check_size.d.at_.1, fk_check_size) :: tb_check_limit
def m_is_row : MS := (mSeq (mRet (mBl (mIsIs (mVar 0) [.list, .tuple]))) mPass)
def f_is_row : List D → P := runP 1 m_is_row
abbrev fk_is_row : FK := .pure 1 f_is_row
theorem e_is_row : fkOf (gtOf tu bl) tb_check_size q_is_row = fk_is_row := by kernel_rfl
def tb_is_row : Tb := (q_is_row.d.at_.1, fk_is_row) :: tb_check_size
def m_is_letter : MS := (mSeq (mRet (mAndV (mCall fk_is_whole (mCons (mVar 1) mNil)) (mBl (mChain .le .lt (mCon (.int 0)) (mVar 1) (mVar 0))))) mPass)
def f_is_letter : List D → P := runP 2 m_is_letter
abbrev fk_is_letter : FK := .pure 2 f_is_letter
theorem e_is_letter : fkOf (gtOf tu bl) tb_is_row q_is_letter = fk_is_letter := by kernel_rfl
def tb_is_letter : Tb := (q_is_letter.d.at_.1, fk_is_letter) :: tb_is_row
def m_letters_row : MS := (mSeq (mIf (mOr (mNot (mTru (mCall fk_is_row (mCons (mVar 1) mNil)))) (mCmp .ne (mB1 .len (mVar 1)) (mVar 2))) (mSeq (mRet (mCon .non)) mPass) mPass) (mSeq (mFor (.nm 3) (mItV (mVar 1)) (mSeq (mIf (mNot (mTru (mCall fk_is_letter (mCons (mVar 0) (mCons (mVar 3) mNil))))) (mSeq (mRet (mCon .non)) mPass) mPass) mPass)) (mSeq (mRet (mB1 .tuple (mVar 1))) mPass)))
def f_letters_row : List D → P := runP 4 m_letters_row
abbrev fk_letters_row : FK := .pure 3 f_letters_row
theorem e_letters_row : fkOf (gtOf tu bl) tb_is_letter q_letters_row = fk_letters_row := by kernel_rfl
def tb_letters_row : Tb := (q_letters_row.d.at_.1, fk_letters_row) :: tb_is_letter
def m_letters_at : MS := (mSeq (mAsgO 3 (mLst mNil)) (mSeq (mFor (.nm 4) (mRg1 (mVar 1)) (mSeq (mApp 3 (mBin .mod (mVar 2) (mVar 0))) (mSeq (mAsg 2 (mBin .fdiv (mVar 2) (mVar 0))) mPass))) (mSeq (mFrz 3) (mSeq (mRet (mB1 .tuple (mRev (mVar 3)))) mPass))))
def f_letters_at : List D → P := runP 5 m_letters_at
abbrev fk_letters_at : FK := .pure 3 f_letters_at
theorem e_letters_at : fkOf (gtOf tu bl) tb_letters_row q_letters_at = fk_letters_at := by kernel_rfl
def tb_letters_at : Tb := (q_letters_at.d.at_.1, fk_letters_at) :: tb_letters_row
def m_steps_of : MS := (mSeq (mRet (mLc [2] (.nm 2) (mRg1 (mVar 1)) mYes (mCall fk_grid_size (mCons (mVar 0) (mCons (mBin .sub (mBin .sub (mVar 1) (mCon (.int 1))) (mVar 2)) mNil))))) mPass)
def f_steps_of : List D → P := runP 3 m_steps_of
abbrev fk_steps_of : FK := .pure 2 f_steps_of
theorem e_steps_of : fkOf (gtOf tu bl) tb_letters_at q_steps_of = fk_steps_of := by kernel_rfl
def tb_steps_of : Tb := (q_steps_of.d.at_.1, fk_steps_of) :: tb_letters_at
def m_lot_offsets : MS := (mSeq (mAsg 3 (mCall fk_steps_of (mCons (mVar 0) (mCons (mVar 1) mNil)))) (mSeq (mAsg 4 (mLst (mCons (mCon (.int 0)) mNil))) (mSeq (mFor (.nm 5) (mItV (mVar 2)) (mSeq (mAsg 4 (mLc2 [6, 7] (.nm 6) (mItV (mVar 4)) mYes (mRg1 (mVar 0)) [7] (.nm 7) mYes (mBin .add (mVar 6) (mBin .mul (mVar 7) (mIx (mVar 3) (mVar 5)))))) mPass)) (mSeq (mRet (mVar 4)) mPass))))
def f_lot_offsets : List D → P := runP 8 m_lot_offsets
abbrev fk_lot_offsets : FK := .pure 3 f_lot_offsets
theorem e_lot_offsets : fkOf (gtOf tu bl) tb_steps_of q_lot_offsets = fk_lot_offsets := by kernel_rfl
def tb_lot_offsets : Tb := (q_lot_offsets.d.at_.1, fk_lot_offsets) :: tb_steps_of
def m_rest_of : MS := (mSeq (mRet (mB1 .tuple (mLc [2] (.nm 2) (mRg1 (mVar 0)) (mCmp .notin (mVar 2) (mVar 1)) (mVar 2)))) mPass)
def f_rest_of : List D → P := runP 3 m_rest_of
abbrev fk_rest_of : FK := .pure 2 f_rest_of
theorem e_rest_of : fkOf (gtOf tu bl) tb_lot_offsets q_rest_of = fk_rest_of := by kernel_rfl
def tb_rest_of : Tb := (q_rest_of.d.at_.1, fk_rest_of) :: tb_lot_offsets
def m_line_fault : MS := (mSeq (mAsg 3 (mCall fk_steps_of (mCons (mVar 0) (mCons (mVar 1) mNil)))) (mSeq (mAsg 4 (mLstI (mRg1 (mVar 0)))) (mSeq (mFor (.nm 5) (mRg1 (mVar 1)) (mSeq (mFor (.nm 6) (mItV (mCall fk_lot_offsets (mCons (mVar 0) (mCons (mVar 1) (mCons (mCall fk_rest_of (mCons (mVar 1) (mCons (mTup (mCons (mVar 5) mNil)) mNil))) mNil))))) (mSeq (mAsg 7 (mLc [8] (.nm 8) (mItV (mVar 4)) mYes (mIx (mVar 2) (mBin .add (mVar 6) (mBin .mul (mVar 8) (mIx (mVar 3) (mVar 5))))))) (mSeq (mIf (mCmp .ne (mB1 .sorted (mVar 7)) (mVar 4)) (mSeq (mRet (mTup (mCons (mVar 5) (mCons (mCall fk_letters_at (mCons (mVar 0) (mCons (mVar 1) (mCons (mVar 6) mNil)))) mNil)))) mPass) mPass) mPass))) mPass)) (mSeq (mRet (mCon .non)) mPass))))
def f_line_fault : List D → P := runP 9 m_line_fault
abbrev fk_line_fault : FK := .pure 3 f_line_fault
theorem e_line_fault : fkOf (gtOf tu bl) tb_rest_of q_line_fault = fk_line_fault := by kernel_rfl
def tb_line_fault : Tb := (q_line_fault.d.at_.1, fk_line_fault) :: tb_rest_of
def m_full_or_none : MS := (mSeq (mAsg 3 (mCall fk_letters_row (mCons (mVar 0) (mCons (mVar 2) (mCons (mCall fk_grid_size (mCons (mVar 0) (mCons (mVar 1) mNil))) mNil))))) (mSeq (mIf (mOr (mIsN (mVar 3)) (mNotN (mCall fk_line_fault (mCons (mVar 0) (mCons (mVar 1) (mCons (mVar 3) mNil)))))) (mSeq (mRet (mCon .non)) mPass) mPass) (mSeq (mRet (mVar 3)) mPass)))
def f_full_or_none : List D → P := runP 4 m_full_or_none
abbrev fk_full_or_none : FK := .pure 3 f_full_or_none
theorem e_full_or_none : fkOf (gtOf tu bl) tb_line_fault q_full_or_none = fk_full_or_none := by kernel_rfl
def tb_full_or_none : Tb := (q_full_or_none.d.at_.1, fk_full_or_none) :: tb_line_fault
def m_is_full : MS := (mSeq (mExpr (mCall fk_check_size (mCons (mVar 0) (mCons (mVar 1) mNil)))) (mSeq (mRet (mBl (mNotN (mCall fk_full_or_none (mCons (mVar 0) (mCons (mVar 1) (mCons (mVar 2) mNil))))))) mPass))
def f_is_full : List D → P := runP 3 m_is_full
abbrev fk_is_full : FK := .pure 3 f_is_full
theorem e_is_full : fkOf (gtOf tu bl) tb_full_or_none q_is_full = fk_is_full := by kernel_rfl
def tb_is_full : Tb := (q_is_full.d.at_.1, fk_is_full) :: tb_full_or_none
def m_full_fault : MS := (mSeq (mExpr (mCall fk_check_size (mCons (mVar 0) (mCons (mVar 1) mNil)))) (mSeq (mAsg 3 (mCall fk_letters_row (mCons (mVar 0) (mCons (mVar 2) (mCons (mCall fk_grid_size (mCons (mVar 0) (mCons (mVar 1) mNil))) mNil))))) (mSeq (mIf (mIsN (mVar 3)) (mSeq (mRaise .BadTable) mPass) mPass) (mSeq (mRet (mCall fk_line_fault (mCons (mVar 0) (mCons (mVar 1) (mCons (mVar 3) mNil))))) mPass))))
def f_full_fault : List D → P := runP 4 m_full_fault
abbrev fk_full_fault : FK := .pure 3 f_full_fault
theorem e_full_fault : fkOf (gtOf tu bl) tb_is_full q_full_fault = fk_full_fault := by kernel_rfl
def tb_full_fault : Tb := (q_full_fault.d.at_.1, fk_full_fault) :: tb_is_full
def m_whole : MS := (mSeq (mRet (mAndV (mBl (mIsI (mVar 0) .int)) (mBl (mNot (mTru (mBl (mIsI (mVar 0) .bool))))))) mPass)
def f_whole : List D → P := runP 1 m_whole
abbrev fk_whole : FK := .pure 1 f_whole
theorem e_whole : fkOf (gtOf tu bl) tb_full_fault q_whole = fk_whole := by kernel_rfl
def tb_whole : Tb := (q_whole.d.at_.1, fk_whole) :: tb_full_fault
def m_check_letter_count : MS := (mSeq (mIf (mOr (mNot (mTru (mCall fk_whole (mCons (mVar 0) mNil)))) (mOr (mCmp .lt (mVar 0) (mCon (.int 1))) (mCmp .gt (mVar 0) (mCon (.int 8))))) (mSeq (mRaise .BadLetters) mPass) mPass) (mSeq (mRet (mVar 0)) mPass))
def f_check_letter_count : List D → P := runP 1 m_check_letter_count
abbrev fk_check_letter_count : FK := .pure 1 f_check_letter_count
theorem e_check_letter_count : fkOf (gtOf tu bl) tb_whole q_check_letter_count = fk_check_letter_count := by kernel_rfl
def tb_check_letter_count : Tb := (q_check_letter_count.d.at_.1, fk_check_letter_count) :: tb_whole
def m_check_letters_totals : MS := (mSeq (mIf (mOr (mNot (mTru (mBl (mIsIs (mVar 2) [.list, .tuple])))) (mCmp .ne (mB1 .len (mVar 2)) (mVar 1))) (mSeq (mRaise .BadFilling) mPass) mPass) (mSeq (mFor (.nm 3) (mItV (mVar 2)) (mSeq (mIf (mOr (mNot (mTru (mCall fk_whole (mCons (mVar 3) mNil)))) (mOr (mCmp .lt (mVar 3) (mCon (.int 0))) (mCmp .ge (mVar 3) (mVar 0)))) (mSeq (mRaise .BadFilling) mPass) mPass) mPass)) (mSeq (mRet (mB1 .tuple (mVar 2))) mPass)))
def f_check_letters_totals : List D → P := runP 4 m_check_letters_totals
abbrev fk_check_letters_totals : FK := .pure 3 f_check_letters_totals
theorem e_check_letters_totals : fkOf (gtOf tu bl) tb_check_letter_count q_check_letters_totals = fk_check_letters_totals := by kernel_rfl
def tb_check_letters_totals : Tb := (q_check_letters_totals.d.at_.1, fk_check_letters_totals) :: tb_check_letter_count
def m_filling_number : MS := (mSeq (mExpr (mCall fk_check_letter_count (mCons (mVar 0) mNil))) (mSeq (mIf (mOr (mNot (mTru (mBl (mIsIs (mVar 1) [.list, .tuple])))) (mOr (mCmp .lt (mB1 .len (mVar 1)) (mCon (.int 1))) (mCmp .gt (mB1 .len (mVar 1)) (mCon (.int 8))))) (mSeq (mRaise .BadFilling) mPass) mPass) (mSeq (mAsg 2 (mCon (.int 0))) (mSeq (mFor (.nm 3) (mItV (mCall fk_check_letters_totals (mCons (mVar 0) (mCons (mB1 .len (mVar 1)) (mCons (mVar 1) mNil))))) (mSeq (mAsg 2 (mBin .add (mBin .mul (mVar 2) (mVar 0)) (mVar 3))) mPass)) (mSeq (mRet (mVar 2)) mPass)))))
def f_filling_number : List D → P := runP 4 m_filling_number
abbrev fk_filling_number : FK := .pure 2 f_filling_number
theorem e_filling_number : fkOf (gtOf tu bl) tb_check_letters_totals q_filling_number = fk_filling_number := by kernel_rfl
def tb_filling_number : Tb := (q_filling_number.d.at_.1, fk_filling_number) :: tb_check_letters_totals
def m_filling_count : MS := (mSeq (mAsg 2 (mCon (.int 1))) (mSeq (mFor (.nm 3) (mRg1 (mVar 1)) (mSeq (mAsg 2 (mBin .mul (mVar 2) (mVar 0))) mPass)) (mSeq (mRet (mVar 2)) mPass)))
def f_filling_count : List D → P := runP 4 m_filling_count
abbrev fk_filling_count : FK := .pure 2 f_filling_count
theorem e_filling_count : fkOf (gtOf tu bl) tb_filling_number q_filling_count = fk_filling_count := by kernel_rfl
def tb_filling_count : Tb := (q_filling_count.d.at_.1, fk_filling_count) :: tb_filling_number
def m_digits_of : MS := (mSeq (mAsgO 3 (mLst mNil)) (mSeq (mAsg 4 (mVar 2)) (mSeq (mFor (.nm 5) (mRg1 (mVar 1)) (mSeq (mApp 3 (mBin .mod (mVar 4) (mVar 0))) (mSeq (mAsg 4 (mBin .fdiv (mVar 4) (mVar 0))) mPass))) (mSeq (mFrz 3) (mSeq (mRet (mB1 .tuple (mRev (mVar 3)))) mPass)))))
def f_digits_of : List D → P := runP 6 m_digits_of
abbrev fk_digits_of : FK := .pure 3 f_digits_of
theorem e_digits_of : fkOf (gtOf tu bl) tb_filling_count q_digits_of = fk_digits_of := by kernel_rfl
def tb_digits_of : Tb := (q_digits_of.d.at_.1, fk_digits_of) :: tb_filling_count
def m_filling_at : MS := (mSeq (mExpr (mCall fk_check_letter_count (mCons (mVar 0) mNil))) (mSeq (mIf (mOr (mNot (mTru (mCall fk_whole (mCons (mVar 1) mNil)))) (mOr (mCmp .lt (mVar 1) (mCon (.int 1))) (mCmp .gt (mVar 1) (mCon (.int 8))))) (mSeq (mRaise .BadNumber) mPass) mPass) (mSeq (mIf (mOr (mNot (mTru (mCall fk_whole (mCons (mVar 2) mNil)))) (mOr (mCmp .lt (mVar 2) (mCon (.int 0))) (mCmp .ge (mVar 2) (mCall fk_filling_count (mCons (mVar 0) (mCons (mVar 1) mNil)))))) (mSeq (mRaise .BadNumber) mPass) mPass) (mSeq (mRet (mCall fk_digits_of (mCons (mVar 0) (mCons (mVar 1) (mCons (mVar 2) mNil))))) mPass))))
def f_filling_at : List D → P := runP 3 m_filling_at
abbrev fk_filling_at : FK := .pure 3 f_filling_at
theorem e_filling_at : fkOf (gtOf tu bl) tb_digits_of q_filling_at = fk_filling_at := by kernel_rfl
def tb_filling_at : Tb := (q_filling_at.d.at_.1, fk_filling_at) :: tb_digits_of
def m__law_error : MS := (mSeq (mAsg 1 (mLst (mCons (mBl (mIsI (mVar 0) (.ec .BadLetters))) (mCons (mBl (mIsI (mVar 0) (.ec .BadNumber))) (mCons (mBl (mIsI (mVar 0) (.ec .BadKind))) (mCons (mBl (mIsI (mVar 0) (.ec .BadRenaming))) mNil)))))) (mSeq (mAsg 1 (mBin .add (mVar 1) (mLst (mCons (mBl (mIsI (mVar 0) (.ec .BadTable))) (mCons (mBl (mIsI (mVar 0) (.ec .BadChart))) (mCons (mBl (mIsI (mVar 0) (.ec .BadPlace))) (mCons (mBl (mIsI (mVar 0) (.ec .BadFilling))) mNil))))))) (mSeq (mAsg 1 (mBin .add (mVar 1) (mLst (mCons (mBl (mIsI (mVar 0) (.ec .BadLot))) (mCons (mBl (mIsI (mVar 0) (.ec .BadPlan))) (mCons (mBl (mIsI (mVar 0) (.ec .BadNamed))) (mCons (mBl (mIsI (mVar 0) (.ec .BadRecord))) mNil))))))) (mSeq (mAsg 1 (mBin .add (mVar 1) (mLst (mCons (mBl (mIsI (mVar 0) (.ec .BadMove))) (mCons (mBl (mIsI (mVar 0) (.ec .BadText))) (mCons (mBl (mIsI (mVar 0) (.ec .TooMany))) (mCons (mBl (mIsI (mVar 0) (.ec .Unlike))) mNil))))))) (mSeq (mAsg 1 (mBin .add (mVar 1) (mLst (mCons (mBl (mIsI (mVar 0) (.ec .NoChart))) (mCons (mBl (mIsI (mVar 0) (.ec .NoPlan))) (mCons (mBl (mNot (mTru (mBl (mIsI (mVar 0) .valueError))))) mNil)))))) (mSeq (mAsg 2 (mCon (.str (Str.ofString "BadLetters BadNumber BadKind BadRenaming BadTable BadChart BadPlace BadFilling BadLot BadPlan")))) (mSeq (mAsg 2 (mBin .add (mVar 2) (mCon (.str (Str.ofString " BadNamed BadRecord BadMove BadText TooMany Unlike NoChart NoPlan other"))))) (mSeq (mRet (mJoin (mCon (.str (Str.ofString "+"))) (mLc [3] (.nm 3) (mRg1 (mCon (.int 19))) (mTru (mIx (mVar 1) (mVar 3))) (mIx (mSplit (mVar 2) (mCon (.str (Str.ofString " ")))) (mVar 3))))) mPass))))))))
abbrev fk__law_error : FK := .hot 1 (runE 4 m__law_error)
theorem e__law_error : fkOf (gtOf tu bl) tb_filling_at q__law_error = fk__law_error := by kernel_rfl
def tb__law_error : Tb := (q__law_error.d.at_.1, fk__law_error) :: tb_filling_at
def m__law_ask : MS := (mSeq (mTry (mSeq (mIf (mCmp .eq (mVar 0) (mCon (.int 0))) (mSeq (mRetL (mCons (mCon (.str (Str.ofString ""))) (mCons (mCall fk_is_full (mCons (mVar 1) (mCons (mVar 2) (mCons (mVar 3) mNil)))) mNil))) mPass) mPass) (mSeq (mIf (mCmp .eq (mVar 0) (mCon (.int 1))) (mSeq (mRetL (mCons (mCon (.str (Str.ofString ""))) (mCons (mCall fk_full_fault (mCons (mVar 1) (mCons (mVar 2) (mCons (mVar 3) mNil)))) mNil))) mPass) mPass) (mSeq (mIf (mCmp .eq (mVar 0) (mCon (.int 2))) (mSeq (mRetL (mCons (mCon (.str (Str.ofString ""))) (mCons (mCall fk_filling_number (mCons (mVar 1) (mCons (mVar 3) mNil))) mNil))) mPass) mPass) (mSeq (mRetL (mCons (mCon (.str (Str.ofString ""))) (mCons (mCall fk_filling_at (mCons (mVar 1) (mCons (mVar 2) (mCons (mVar 3) mNil)))) mNil))) mPass)))) [((.ec .TooMany), 4, (mSeq (mRetL (mCons (mHot fk__law_error (mCons (mVar 4) mNil)) (mCons (mFld (Str.ofString "limit") (mVar 4)) mNil))) mPass)), ((.ec .JoinError), 4, (mSeq (mRetL (mCons (mHot fk__law_error (mCons (mVar 4) mNil)) mNil)) mPass))]) mPass)
def f__law_ask : List D → P := runP 5 m__law_ask
abbrev fk__law_ask : FK := .pure 4 f__law_ask
theorem e__law_ask : fkOf (gtOf tu bl) tb__law_error q__law_ask = fk__law_ask := by kernel_rfl
def tb__law_ask : Tb := (q__law_ask.d.at_.1, fk__law_ask) :: tb__law_error
def m__law_shuffle : MS := (mSeq (mAsgO 2 (mLstI (mRg1 (mVar 1)))) (mSeq (mAsgO 3 (mLst mNil)) (mSeq (mFor (.nm 4) (mRg1 (mVar 1)) (mSeq (mPopP 3 2 (mCall fk__law_take (mCons (mVar 0) (mCons (mB1 .len (mVar 2)) mNil)))) mPass)) (mSeq (mFrz 2) (mSeq (mFrz 3) (mSeq (mRet (mB1 .tuple (mVar 3))) mPass))))))
def f__law_shuffle : List Val → S → R Val := runE 5 m__law_shuffle
abbrev fk__law_shuffle : FK := .eff 2 f__law_shuffle
theorem e__law_shuffle : fkOf (gtOf tu bl) tb__law_ask q__law_shuffle = fk__law_shuffle := by kernel_rfl
def tb__law_shuffle : Tb := (q__law_shuffle.d.at_.1, fk__law_shuffle) :: tb__law_ask
def m__law_rename : MS := (mSeq (mAsgO2 5 [6] (.nm 6) (mRg1 (mVar 0)) mYes (mBin .mul (mLst (mCons (mCon (.int 0)) mNil)) (mVar 0))) (mSeq (mFor (.nm 6) (mRg1 (mVar 0)) (mSeq (mFor (.nm 7) (mRg1 (mVar 0)) (mSeq (mSto2 5 (mIx (mVar 2) (mVar 6)) (mIx (mVar 3) (mVar 7)) (mIx (mVar 4) (mIx (mIx (mVar 1) (mVar 6)) (mVar 7)))) mPass)) mPass)) (mSeq (mFrz 5) (mSeq (mRet (mB1 .tuple (mLc [8] (.nm 8) (mItV (mVar 5)) mYes (mB1 .tuple (mVar 8))))) mPass))))
def f__law_rename : List D → P := runP 9 m__law_rename
abbrev fk__law_rename : FK := .pure 5 f__law_rename
theorem e__law_rename : fkOf (gtOf tu bl) tb__law_shuffle q__law_rename = fk__law_rename := by kernel_rfl
def tb__law_rename : Tb := (q__law_rename.d.at_.1, fk__law_rename) :: tb__law_shuffle
def m__law_some_table : MS := (mSeq (mAsg 2 (mCall fk__law_take (mCons (mVar 0) (mCons (mCon (.int 3)) mNil)))) (mSeq (mAsg 3 (mMax2 (mCon (.int 1)) (mBin .fdiv (mVar 1) (mCon (.int 2))))) (mSeq (mAsgO 4 (mLst mNil)) (mSeq (mFor (.nm 5) (mRg1 (mVar 1)) (mSeq (mAsg 7 (mLc [10] (.nm 10) (mRg1 (mVar 1)) mYes (mBin .mod (mB1 .int (mBin .add (mVar 5) (mVar 10))) (mVar 1)))) (mSeq (mIf (mAnd (mCmp .eq (mVar 2) (mCon (.int 1))) (mCmp .eq (mBin .mod (mB1 .int (mVar 1)) (mCon (.int 2))) (mCon (.int 0)))) (mSeq (mAsg 8 (mBin .sub (mCon (.int 1)) (mBin .mul (mCon (.int 2)) (mB1 .int (mBl (mCmp .ge (mVar 5) (mVar 3))))))) (mSeq (mAsg 7 (mLc [10] (.nm 10) (mRg1 (mVar 1)) mYes (mBin .add (mBin .mod (mB1 .int (mBin .add (mVar 5) (mBin .mul (mVar 8) (mVar 10)))) (mVar 3)) (mBin .mul (mVar 3) (mBin .mod (mB1 .int (mBin .add (mBin .fdiv (mVar 5) (mVar 3)) (mBin .fdiv (mVar 10) (mVar 3)))) (mCon (.int 2))))))) mPass)) mPass) (mSeq (mIf (mAnd (mCmp .eq (mVar 2) (mCon (.int 2))) (mAnd (mCmp .in_ (mVar 1) (mTup (mCons (mCon (.int 6)) (mCons (mCon (.int 8)) mNil)))) (mCmp .in_ (mVar 5) (mTup (mCons (mCon (.int 1)) (mCons (mCon (.int 3)) mNil)))))) (mSeq (mAsg 7 (mLc [10] (.nm 10) (mRg1 (mVar 1)) mYes (mBin .mod (mB1 .int (mBin .add (mBin .add (mVar 5) (mVar 10)) (mBin .mul (mBin .sub (mCon (.int 4)) (mBin .mul (mCon (.int 2)) (mVar 5))) (mBin .mod (mB1 .int (mVar 10)) (mCon (.int 2)))))) (mVar 1)))) mPass) mPass) (mSeq (mIf (mAnd (mCmp .eq (mVar 2) (mCon (.int 2))) (mCmp .eq (mVar 1) (mCon (.int 5)))) (mSeq (mAsg 7 (mLc [8] (.nm 8) (mItV (mIx (mTup (mCons (mCon (.str (Str.ofString "01234"))) (mCons (mCon (.str (Str.ofString "10342"))) (mCons (mCon (.str (Str.ofString "23401"))) (mCons (mCon (.str (Str.ofString "34120"))) (mCons (mCon (.str (Str.ofString "42013"))) mNil)))))) (mVar 5))) mYes (mB1 .int (mVar 8)))) mPass) mPass) (mSeq (mIf (mAnd (mCmp .eq (mVar 2) (mCon (.int 2))) (mCmp .eq (mVar 1) (mCon (.int 7)))) (mSeq (mAsg 9 (mTup (mCons (mCon (.str (Str.ofString "0214365"))) (mCons (mCon (.str (Str.ofString "2105634"))) (mCons (mCon (.str (Str.ofString "1026543"))) (mCons (mCon (.str (Str.ofString "4563012"))) (mCons (mCon (.str (Str.ofString "3650421"))) (mCons (mCon (.str (Str.ofString "6341250"))) (mCons (mCon (.str (Str.ofString "5432106"))) mNil))))))))) (mSeq (mAsg 7 (mLc [8] (.nm 8) (mItV (mIx (mVar 9) (mVar 5))) mYes (mB1 .int (mVar 8)))) mPass)) mPass) (mSeq (mApp 4 (mVar 7)) mPass))))))) (mSeq (mFrz 4) (mSeq (mAsg 6 (mCall fk__law_shuffle (mCons (mVar 0) (mCons (mVar 1) mNil)))) (mSeq (mRet (mCall fk__law_rename (mCons (mVar 1) (mCons (mVar 4) (mCons (mVar 6) (mCons (mCall fk__law_shuffle (mCons (mVar 0) (mCons (mVar 1) mNil))) (mCons (mCall fk__law_shuffle (mCons (mVar 0) (mCons (mVar 1) mNil))) mNil))))))) mPass)))))))
def f__law_some_table : List Val → S → R Val := runE 11 m__law_some_table
abbrev fk__law_some_table : FK := .eff 2 f__law_some_table
theorem e__law_some_table : fkOf (gtOf tu bl) tb__law_rename q__law_some_table = fk__law_some_table := by kernel_rfl
def tb__law_some_table : Tb := (q__law_some_table.d.at_.1, fk__law_some_table) :: tb__law_rename
def m__law_one_answer : MS := (mSeq (mAsg 3 (mB1 .list (mCall fk__law_shuffle (mCons (mVar 0) (mCons (mVar 1) mNil))))) (mSeq (mFor (.nm 4) (mRg1 (mBin .sub (mVar 2) (mCon (.int 1)))) (mSeq (mAsg 5 (mCall fk__law_some_table (mCons (mVar 0) (mCons (mVar 1) mNil)))) (mSeq (mAsg 6 (mCall fk__law_take (mCons (mVar 0) (mCons (mCon (.int 2)) mNil)))) (mSeq (mAsgO 7 (mLst mNil)) (mSeq (mFor (.nm 8) (mRg1 (mVar 1)) (mSeq (mFor (.nm 9) (mItV (mB1 .list (mVar 3))) (mSeq (mApp 7 (mIx (mTup (mCons (mIx (mIx (mVar 5) (mVar 8)) (mVar 9)) (mCons (mIx (mIx (mVar 5) (mVar 9)) (mVar 8)) mNil))) (mVar 6))) mPass)) mPass)) (mSeq (mFrz 7) (mSeq (mAsg 3 (mVar 7)) mPass))))))) (mSeq (mRet (mB1 .tuple (mVar 3))) mPass)))
def f__law_one_answer : List Val → S → R Val := runE 10 m__law_one_answer
abbrev fk__law_one_answer : FK := .eff 3 f__law_one_answer
theorem e__law_one_answer : fkOf (gtOf tu bl) tb__law_some_table q__law_one_answer = fk__law_one_answer := by kernel_rfl
def tb__law_one_answer : Tb := (q__law_one_answer.d.at_.1, fk__law_one_answer) :: tb__law_some_table
def m__law_power : MS := (mSeq (mAsg 2 (mCon (.int 1))) (mSeq (mFor (.nm 3) (mRg1 (mVar 1)) (mSeq (mAsg 2 (mBin .mul (mVar 2) (mVar 0))) mPass)) (mSeq (mRet (mVar 2)) mPass)))
def f__law_power : List D → P := runP 4 m__law_power
abbrev fk__law_power : FK := .pure 2 f__law_power
theorem e__law_power : fkOf (gtOf tu bl) tb__law_one_answer q__law_power = fk__law_power := by kernel_rfl
def tb__law_power : Tb := (q__law_power.d.at_.1, fk__law_power) :: tb__law_one_answer
def m__law_near_full : MS := (mSeq (mAsgO 4 (mB1 .list (mVar 3))) (mSeq (mAsg 5 (mCall fk__law_take (mCons (mVar 0) (mCons (mCon (.int 7)) mNil)))) (mSeq (mAsg 6 (mCall fk__law_take (mCons (mVar 0) (mCons (mB1 .len (mVar 4)) mNil)))) (mSeq (mAsg 7 (mCall fk__law_take (mCons (mVar 0) (mCons (mB1 .len (mVar 4)) mNil)))) (mSeq (mIf (mCmp .eq (mVar 5) (mCon (.int 0))) (mSeq (mSetO 4 (mVar 6) (mCall fk__law_take (mCons (mVar 0) (mCons (mVar 1) mNil)))) mPass) mPass) (mSeq (mIf (mCmp .eq (mVar 5) (mCon (.int 1))) (mSeq (mSetO 4 (mVar 6) (mIx (mVar 3) (mVar 7))) (mSeq (mSetO 4 (mVar 7) (mIx (mVar 3) (mVar 6))) mPass)) mPass) (mSeq (mIf (mCmp .eq (mVar 5) (mCon (.int 2))) (mSeq (mAsg 8 (mCall fk__law_take (mCons (mVar 0) (mCons (mVar 1) mNil)))) (mSeq (mAsg 9 (mCall fk__law_take (mCons (mVar 0) (mCons (mVar 1) mNil)))) (mSeq (mAsg 10 (mCall fk__law_power (mCons (mVar 1) (mCons (mCall fk__law_take (mCons (mVar 0) (mCons (mVar 2) mNil))) mNil)))) (mSeq (mAsg 11 (mBin .mod (mB1 .int (mBin .fdiv (mVar 6) (mVar 10))) (mVar 1))) (mSeq (mFor (.nm 12) (mRg1 (mB1 .len (mVar 4))) (mSeq (mIf (mAnd (mCmp .eq (mBin .mod (mB1 .int (mBin .fdiv (mVar 12) (mVar 10))) (mVar 1)) (mVar 11)) (mCmp .in_ (mIx (mVar 4) (mVar 12)) (mTup (mCons (mVar 8) (mCons (mVar 9) mNil))))) (mSeq (mSetO 4 (mVar 12) (mBin .sub (mBin .add (mVar 8) (mVar 9)) (mIx (mVar 4) (mVar 12)))) mPass) mPass) mPass)) mPass))))) mPass) (mSeq (mIf (mCmp .eq (mVar 5) (mCon (.int 3))) (mSeq (mAsgO 4 (mBin .mul (mLst (mCons (mCall fk__law_take (mCons (mVar 0) (mCons (mVar 1) mNil))) mNil)) (mB1 .len (mVar 4)))) mPass) mPass) (mSeq (mIf (mCmp .eq (mVar 5) (mCon (.int 4))) (mSeq (mAsg 13 (mCall fk__law_take (mCons (mVar 0) (mCons (mCon (.int 1000003)) mNil)))) (mSeq (mAsgO 4 (mLc [12] (.nm 12) (mRg1 (mB1 .len (mVar 4))) mYes (mBin .mod (mB1 .int (mCall fk__law_mix (mCons (mVar 13) (mCons (mVar 12) mNil)))) (mVar 1)))) mPass)) mPass) (mSeq (mIf (mCmp .eq (mVar 5) (mCon (.int 5))) (mSeq (mSetO 4 (mNeg (mCon (.int 1))) (mIx (mVar 4) (mCon (.int 0)))) mPass) mPass) (mSeq (mFrz 4) (mSeq (mRet (mB1 .tuple (mVar 4))) mPass))))))))))))
def f__law_near_full : List Val → S → R Val := runE 14 m__law_near_full
abbrev fk__law_near_full : FK := .eff 4 f__law_near_full
theorem e__law_near_full : fkOf (gtOf tu bl) tb__law_power q__law_near_full = fk__law_near_full := by kernel_rfl
def tb__law_near_full : Tb := (q__law_near_full.d.at_.1, fk__law_near_full) :: tb__law_power
def m__law_dress (rec : List D → P) : MS := (mSeq (mIf (mNot (mTru (mBl (mIsIs (mVar 0) [.tuple, .list])))) (mSeq (mRet (mVar 0)) mPass) mPass) (mSeq (mAsgO 2 (mLst mNil)) (mSeq (mFor (.nm 3) (mRg1 (mB1 .len (mVar 0))) (mSeq (mIf (mCmp .lt (mVar 1) (mCon (.int 2))) (mSeq (mApp 2 (mCall (.pure 2 rec) (mCons (mIx (mVar 0) (mVar 3)) (mCons (mVar 1) mNil)))) mPass) (mSeq (mApp 2 (mCall (.pure 2 rec) (mCons (mIx (mVar 0) (mVar 3)) (mCons (mBin .add (mCon (.int 2)) (mBin .mod (mB1 .int (mBin .add (mBin .mul (mVar 1) (mCon (.int 7))) (mBin .mul (mVar 3) (mCon (.int 5))))) (mCon (.int 61)))) mNil)))) mPass)) mPass)) (mSeq (mFrz 2) (mSeq (mIf (mCmp .eq (mBin .mod (mB1 .int (mVar 1)) (mCon (.int 2))) (mCon (.int 1))) (mSeq (mRet (mVar 2)) mPass) mPass) (mSeq (mRet (mB1 .tuple (mVar 2))) mPass))))))
def f__law_dress : Nat → List D → P
  | 0 => fun _ => .stuck
  | j + 1 => runP 4 (m__law_dress (f__law_dress j))
abbrev fk__law_dress : FK := .pure 2 (f__law_dress 8)
theorem e__law_dress_m (r : List D → P) : q__law_dress.m (gtOf tu bl) false ((q__law_dress.d.at_.1, .pure 2 r) :: tb__law_near_full) = m__law_dress r := by kernel_rfl
theorem e__law_dress_r : ∀ j, recP q__law_dress (gtOf tu bl) tb__law_near_full j = f__law_dress j
  | 0 => rfl
  | j + 1 => by
    show runP q__law_dress.N.length (q__law_dress.m (gtOf tu bl) false ((q__law_dress.d.at_.1, .pure q__law_dress.ps.length (recP q__law_dress (gtOf tu bl) tb__law_near_full j)) :: tb__law_near_full)) = runP 4 (m__law_dress (f__law_dress j))
    rw [e__law_dress_r j]
    exact congrArg (runP 4) (e__law_dress_m (f__law_dress j))
theorem e__law_dress : fkOf (gtOf tu bl) tb__law_near_full q__law_dress = fk__law_dress := by
  show FK.pure 2 (recP q__law_dress (gtOf tu bl) tb__law_near_full 8) = _
  rw [e__law_dress_r]
def tb__law_dress : Tb := (q__law_dress.d.at_.1, fk__law_dress) :: tb__law_near_full
def m__law_digits_of : MS := (mSeq (mAsgO 3 (mLst mNil)) (mSeq (mFor (.nm 4) (mRg1 (mVar 1)) (mSeq (mApp 3 (mBin .mod (mB1 .int (mVar 2)) (mVar 0))) (mSeq (mAsg 2 (mBin .fdiv (mVar 2) (mVar 0))) mPass))) (mSeq (mFrz 3) (mSeq (mRet (mB1 .tuple (mRev (mVar 3)))) mPass))))
def f__law_digits_of : List D → P := runP 5 m__law_digits_of
abbrev fk__law_digits_of : FK := .pure 3 f__law_digits_of
theorem e__law_digits_of : fkOf (gtOf tu bl) tb__law_dress q__law_digits_of = fk__law_digits_of := by kernel_rfl
def tb__law_digits_of : Tb := (q__law_digits_of.d.at_.1, fk__law_digits_of) :: tb__law_dress
def m__law_fault_due : MS := (mSeq (mFor (.nm 3) (mRg1 (mVar 1)) (mSeq (mAsg 4 (mCall fk__law_power (mCons (mVar 0) (mCons (mBin .sub (mBin .sub (mVar 1) (mCon (.int 1))) (mVar 3)) mNil)))) (mSeq (mFor (.nm 5) (mRg1 (mB1 .len (mVar 2))) (mSeq (mIf (mCmp .eq (mBin .mod (mB1 .int (mBin .fdiv (mVar 5) (mVar 4))) (mVar 0)) (mCon (.int 0))) (mSeq (mAsg 6 (mLc [7] (.nm 7) (mRg1 (mVar 0)) mYes (mIx (mVar 2) (mBin .add (mVar 5) (mBin .mul (mVar 7) (mVar 4)))))) (mSeq (mIf (mTru (mB1 .any (mLc [7] (.nm 7) (mRg1 (mVar 0)) mYes (mBl (mCmp .notin (mVar 7) (mVar 6)))))) (mSeq (mRet (mTup (mCons (mVar 3) (mCons (mCall fk__law_digits_of (mCons (mVar 0) (mCons (mVar 1) (mCons (mVar 5) mNil)))) mNil)))) mPass) mPass) mPass)) mPass) mPass)) mPass))) (mSeq (mRet (mCon .non)) mPass))
def f__law_fault_due : List D → P := runP 8 m__law_fault_due
abbrev fk__law_fault_due : FK := .pure 3 f__law_fault_due
theorem e__law_fault_due : fkOf (gtOf tu bl) tb__law_digits_of q__law_fault_due = fk__law_fault_due := by kernel_rfl
def tb__law_fault_due : Tb := (q__law_fault_due.d.at_.1, fk__law_fault_due) :: tb__law_digits_of
def m__law_flat_right : MS := (mSeq (mAsg 4 (mCall fk__law_take (mCons (mVar 0) (mCons (mCon (.int 2)) mNil)))) (mSeq (mAsg 5 (mCall fk__law_dress (mCons (mVar 3) (mCons (mVar 4) mNil)))) (mSeq (mAsg 6 (mCall fk__law_fault_due (mCons (mVar 1) (mCons (mVar 2) (mCons (mVar 3) mNil))))) (mSeq (mIf (mOr (mNot (mTru (mCall fk__law_same (mCons (mCall fk__law_ask (mCons (mCon (.int 1)) (mCons (mVar 1) (mCons (mVar 2) (mCons (mVar 5) mNil))))) (mCons (mLst (mCons (mCon (.str (Str.ofString ""))) (mCons (mVar 6) mNil))) mNil))))) (mNot (mTru (mCall fk__law_same (mCons (mVar 5) (mCons (mCall fk__law_dress (mCons (mVar 3) (mCons (mVar 4) mNil))) mNil)))))) (mSeq (mRet (mCon (.bl false))) mPass) mPass) (mSeq (mRet (mCall fk__law_same (mCons (mCall fk__law_ask (mCons (mCon (.int 0)) (mCons (mVar 1) (mCons (mVar 2) (mCons (mVar 5) mNil))))) (mCons (mLst (mCons (mCon (.str (Str.ofString ""))) (mCons (mBl (mIsN (mVar 6))) mNil))) mNil)))) mPass)))))
def f__law_flat_right : List Val → S → R Val := runE 7 m__law_flat_right
abbrev fk__law_flat_right : FK := .eff 4 f__law_flat_right
theorem e__law_flat_right : fkOf (gtOf tu bl) tb__law_fault_due q__law_flat_right = fk__law_flat_right := by kernel_rfl
def tb__law_flat_right : Tb := (q__law_flat_right.d.at_.1, fk__law_flat_right) :: tb__law_fault_due
def m__law_refused : MS := (mSeq (mAsg 4 (mCall fk__law_take (mCons (mVar 0) (mCons (mB1 .len (mVar 3)) mNil)))) (mSeq (mAsg 5 (mCall fk__law_pick (mCons (mVar 0) (mCons (mTup (mCons (mVar 1) (mCons (mNeg (mCon (.int 1))) (mCons (mCon (.bl true)) (mCons (mCon (.bl false)) (mCons (mCon (.str (Str.ofString "0"))) (mCons (mCon .non) (mCons (mTup (mCons (mCon (.int 0)) mNil)) (mCons (mBin .pow (mCon (.int 10)) (mCon (.int 59))) mNil))))))))) mNil)))) (mSeq (mAsg 6 (mLst (mCons (mBin .add (mBin .add (mSl (mVar 3) none (some (mVar 4))) (mTup (mCons (mVar 5) mNil))) (mSl (mVar 3) (some (mBin .add (mVar 4) (mCon (.int 1)))) none)) (mCons (mSl (mVar 3) (some (mCon (.int 1))) none) (mCons (mBin .add (mVar 3) (mTup (mCons (mCon (.int 0)) mNil))) (mCons (mCon .non) (mCons (mCon (.int 0)) (mCons (mBin .mul (mCon (.str (Str.ofString "0"))) (mB1 .len (mVar 3))) (mCons mDic0 (mCons (mLst (mCons (mVar 3) mNil)) (mCons (mTup mNil) mNil))))))))))) (mSeq (mFor (.nm 7) (mItV (mVar 6)) (mSeq (mIf (mNot (mTru (mCall fk__law_same (mCons (mLst (mCons (mCall fk__law_ask (mCons (mCon (.int 0)) (mCons (mVar 1) (mCons (mVar 2) (mCons (mVar 7) mNil))))) (mCons (mCall fk__law_ask (mCons (mCon (.int 1)) (mCons (mVar 1) (mCons (mVar 2) (mCons (mVar 7) mNil))))) mNil))) (mCons (mLst (mCons (mLst (mCons (mCon (.str (Str.ofString ""))) (mCons (mCon (.bl false)) mNil))) (mCons (mLst (mCons (mCon (.str (Str.ofString "BadTable"))) mNil)) mNil))) mNil))))) (mSeq (mRet (mCon (.bl false))) mPass) mPass) mPass)) (mSeq (mAsg 7 (mCall fk__law_pick (mCons (mVar 0) (mCons (mVar 6) mNil)))) (mSeq (mFor (.nm 8) (mItV (mTup (mCons (mCon (.int 0)) (mCons (mCon (.int 1)) mNil)))) (mSeq (mFor (.nm 5) (mItV (mTup (mCons (mCon (.int 0)) (mCons (mCon (.int 9)) (mCons (mNeg (mCon (.int 1))) (mCons (mCon (.bl true)) (mCons (mCon .non) (mCons (mCon (.str (Str.ofString "2"))) (mCons (mTup (mCons (mVar 1) mNil)) (mCons mDic0 (mCons (mBin .pow (mCon (.int 10)) (mCon (.int 59))) mNil))))))))))) (mSeq (mAsg 12 (mLst (mCons (mCall fk__law_ask (mCons (mVar 8) (mCons (mVar 5) (mCons (mCall fk__law_pick (mCons (mVar 0) (mCons (mTup (mCons (mVar 2) (mCons (mCon (.int 0)) mNil))) mNil))) (mCons (mVar 7) mNil))))) (mCons (mCall fk__law_ask (mCons (mVar 8) (mCons (mVar 1) (mCons (mVar 5) (mCons (mVar 7) mNil))))) mNil)))) (mSeq (mIf (mCmp .ne (mVar 12) (mLst (mCons (mLst (mCons (mCon (.str (Str.ofString "BadLetters"))) mNil)) (mCons (mLst (mCons (mCon (.str (Str.ofString "BadNumber"))) mNil)) mNil)))) (mSeq (mRet (mCon (.bl false))) mPass) mPass) mPass))) (mSeq (mAsg 9 (mBin .add (mCon (.int 3)) (mCall fk__law_take (mCons (mVar 0) (mCons (mCon (.int 6)) mNil))))) (mSeq (mAsg 10 (mIx (mTup (mCons (mCon (.int 6)) (mCons (mCon (.int 5)) (mCons (mCon (.int 4)) (mCons (mCon (.int 3)) (mCons (mCon (.int 3)) (mCons (mCon (.int 3)) mNil))))))) (mBin .sub (mVar 9) (mCon (.int 3))))) (mSeq (mFor (.nm 11) (mItV (mTup (mCons (mBin .add (mVar 10) (mCon (.int 1))) (mCons (mBin .add (mBin .add (mVar 10) (mCon (.int 1))) (mCall fk__law_take (mCons (mVar 0) (mCons (mBin .sub (mCon (.int 8)) (mVar 10)) mNil)))) mNil)))) (mSeq (mIf (mNot (mTru (mCall fk__law_same (mCons (mCall fk__law_ask (mCons (mVar 8) (mCons (mVar 9) (mCons (mVar 11) (mCons (mVar 7) mNil))))) (mCons (mLst (mCons (mCon (.str (Str.ofString "TooMany"))) (mCons (mCon (.int 1024)) mNil))) mNil))))) (mSeq (mRet (mCon (.bl false))) mPass) mPass) mPass)) mPass))))) (mSeq (mRet (mCon (.bl true))) mPass)))))))
def f__law_refused : List Val → S → R Val := runE 13 m__law_refused
abbrev fk__law_refused : FK := .eff 4 f__law_refused
theorem e__law_refused : fkOf (gtOf tu bl) tb__law_flat_right q__law_refused = fk__law_refused := by kernel_rfl
def tb__law_refused : Tb := (q__law_refused.d.at_.1, fk__law_refused) :: tb__law_flat_right
def m__law_numbers_right : MS := (mSeq (mAsg 3 (mCall fk__law_power (mCons (mVar 1) (mCons (mVar 2) mNil)))) (mSeq (mFor (.nm 4) (mItV (mTup (mCons (mCon (.int 0)) (mCons (mBin .sub (mVar 3) (mCon (.int 1))) (mCons (mCall fk__law_take (mCons (mVar 0) (mCons (mVar 3) mNil))) (mCons (mCall fk__law_take (mCons (mVar 0) (mCons (mVar 3) mNil))) mNil)))))) (mSeq (mAsg 7 (mCall fk__law_digits_of (mCons (mVar 1) (mCons (mVar 2) (mCons (mVar 4) mNil))))) (mSeq (mAsg 8 (mCall fk__law_pick (mCons (mVar 0) (mCons (mTup (mCons (mVar 7) (mCons (mB1 .list (mVar 7)) mNil))) mNil)))) (mSeq (mIf (mNot (mTru (mCall fk__law_same (mCons (mLst (mCons (mCall fk__law_ask (mCons (mCon (.int 3)) (mCons (mVar 1) (mCons (mVar 2) (mCons (mVar 4) mNil))))) (mCons (mCall fk__law_ask (mCons (mCon (.int 2)) (mCons (mVar 1) (mCons (mVar 2) (mCons (mVar 8) mNil))))) mNil))) (mCons (mLst (mCons (mLst (mCons (mCon (.str (Str.ofString ""))) (mCons (mVar 7) mNil))) (mCons (mLst (mCons (mCon (.str (Str.ofString ""))) (mCons (mVar 4) mNil))) mNil))) mNil))))) (mSeq (mRet (mCon (.bl false))) mPass) mPass) mPass)))) (mSeq (mFor (.nm 5) (mItV (mTup (mCons (mVar 3) (mCons (mNeg (mCon (.int 1))) (mCons (mCon (.bl true)) (mCons (mCon (.bl false)) (mCons (mCon .non) (mCons (mCon (.str (Str.ofString "0"))) (mCons (mTup (mCons (mCon (.int 0)) mNil)) (mCons mDic0 (mCons (mBin .pow (mCon (.int 10)) (mCon (.int 59))) (mCons (mNeg (mBin .pow (mCon (.int 10)) (mCon (.int 59)))) mNil)))))))))))) (mSeq (mAsg 9 (mCall fk__law_take (mCons (mVar 0) (mCons (mVar 2) mNil)))) (mSeq (mAsg 6 (mLst (mCons (mCall fk__law_ask (mCons (mCon (.int 3)) (mCons (mVar 1) (mCons (mVar 2) (mCons (mVar 5) mNil))))) (mCons (mCall fk__law_ask (mCons (mCon (.int 2)) (mCons (mVar 1) (mCons (mVar 2) (mCons (mBin .add (mBin .add (mSl (mVar 7) none (some (mVar 9))) (mTup (mCons (mVar 5) mNil))) (mSl (mVar 7) (some (mBin .add (mVar 9) (mCon (.int 1)))) none)) mNil))))) mNil)))) (mSeq (mIf (mCmp .ne (mVar 6) (mLst (mCons (mLst (mCons (mCon (.str (Str.ofString "BadNumber"))) mNil)) (mCons (mLst (mCons (mCon (.str (Str.ofString "BadFilling"))) mNil)) mNil)))) (mSeq (mRet (mCon (.bl false))) mPass) mPass) mPass)))) (mSeq (mFor (.nm 5) (mItV (mTup (mCons (mTup mNil) (mCons (mBin .mul (mTup (mCons (mCon (.int 0)) mNil)) (mCon (.int 9))) (mCons (mLst mNil) (mCons (mCon .non) (mCons (mCon (.int 0)) (mCons (mCon (.str (Str.ofString "0"))) (mCons mDic0 (mCons (mCon (.bl true)) mNil)))))))))) (mSeq (mAsg 10 (mCall fk__law_pick (mCons (mVar 0) (mCons (mTup (mCons (mCon (.int 0)) (mCons (mCon (.int 9)) (mCons (mCon (.bl true)) (mCons (mCon .non) mNil))))) mNil)))) (mSeq (mIf (mOr (mCmp .ne (mCall fk__law_ask (mCons (mCon (.int 2)) (mCons (mVar 1) (mCons (mVar 2) (mCons (mVar 5) mNil))))) (mLst (mCons (mCon (.str (Str.ofString "BadFilling"))) mNil))) (mCmp .ne (mCall fk__law_ask (mCons (mCon (.int 2)) (mCons (mVar 10) (mCons (mVar 2) (mCons (mVar 5) mNil))))) (mLst (mCons (mCon (.str (Str.ofString "BadLetters"))) mNil)))) (mSeq (mRet (mCon (.bl false))) mPass) mPass) mPass))) (mSeq (mAsg 6 (mLc [5] (.nm 5) (mItV (mTup (mCons (mCon (.int 0)) (mCons (mCon (.int 9)) (mCons (mNeg (mCon (.int 1))) (mCons (mCon (.bl true)) (mCons (mCon .non) (mCons (mCon (.str (Str.ofString "3"))) (mCons (mTup (mCons (mVar 2) mNil)) (mCons mDic0 mNil)))))))))) mYes (mCall fk__law_ask (mCons (mCon (.int 3)) (mCons (mVar 1) (mCons (mVar 5) (mCons (mCon (.int 0)) mNil))))))) (mSeq (mRet (mAndV (mBl (mCmp .eq (mVar 6) (mBin .mul (mLst (mCons (mLst (mCons (mCon (.str (Str.ofString "BadNumber"))) mNil)) mNil)) (mCon (.int 8))))) (mBl (mCmp .eq (mCall fk__law_ask (mCons (mCon (.int 3)) (mCons (mCon (.int 9)) (mCons (mCon (.int 0)) (mCons (mCon (.int 0)) mNil))))) (mLst (mCons (mCon (.str (Str.ofString "BadLetters"))) mNil)))))) mPass))))))
def f__law_numbers_right : List Val → S → R Val := runE 11 m__law_numbers_right
abbrev fk__law_numbers_right : FK := .eff 3 f__law_numbers_right
theorem e__law_numbers_right : fkOf (gtOf tu bl) tb__law_refused q__law_numbers_right = fk__law_numbers_right := by kernel_rfl
def tb__law_numbers_right : Tb := (q__law_numbers_right.d.at_.1, fk__law_numbers_right) :: tb__law_refused
def m_law : MS := (mSeq (mAsg 1 (mCall fk__law_store (mCons (mVar 0) mNil))) (mSeq (mAsg 2 (mCall fk__law_pick (mCons (mVar 1) (mCons (mTup (mCons (mCon (.int 4)) (mCons (mCon (.int 5)) (mCons (mCon (.int 2)) (mCons (mCon (.int 6)) (mCons (mCon (.int 1)) (mCons (mCon (.int 3)) (mCons (mCon (.int 4)) (mCons (mCon (.int 8)) (mCons (mCon (.int 7)) (mCons (mCon (.int 5)) mNil))))))))))) mNil)))) (mSeq (mAsg 3 (mIx (mTup (mCons (mCon (.int 8)) (mCons (mCon (.int 8)) (mCons (mCon (.int 6)) (mCons (mCon (.int 5)) (mCons (mCon (.int 4)) (mCons (mCon (.int 3)) (mCons (mCon (.int 3)) (mCons (mCon (.int 3)) mNil))))))))) (mBin .sub (mVar 2) (mCon (.int 1))))) (mSeq (mAsg 4 (mCall fk__law_pick (mCons (mVar 1) (mCons (mTup (mCons (mVar 3) (mCons (mCon (.int 2)) (mCons (mCon (.int 3)) (mCons (mBin .add (mCon (.int 1)) (mCall fk__law_take (mCons (mVar 1) (mCons (mVar 3) mNil)))) (mCons (mCon (.int 1)) (mCons (mCon (.int 3)) mNil))))))) mNil)))) (mSeq (mAsg 5 (mCall fk__law_one_answer (mCons (mVar 1) (mCons (mVar 2) (mCons (mVar 4) mNil))))) (mSeq (mIf (mNot (mTru (mCall fk__law_flat_right (mCons (mVar 1) (mCons (mVar 2) (mCons (mVar 4) (mCons (mVar 5) mNil))))))) (mSeq (mRet (mCon (.bl false))) mPass) mPass) (mSeq (mFor (.nm 6) (mRg1 (mCon (.int 3))) (mSeq (mIf (mNot (mTru (mCall fk__law_flat_right (mCons (mVar 1) (mCons (mVar 2) (mCons (mVar 4) (mCons (mCall fk__law_near_full (mCons (mVar 1) (mCons (mVar 2) (mCons (mVar 4) (mCons (mVar 5) mNil))))) mNil))))))) (mSeq (mRet (mCon (.bl false))) mPass) mPass) mPass)) (mSeq (mIf (mOr (mNot (mTru (mCall fk__law_refused (mCons (mVar 1) (mCons (mVar 2) (mCons (mVar 4) (mCons (mVar 5) mNil))))))) (mNot (mTru (mCall fk__law_numbers_right (mCons (mVar 1) (mCons (mVar 2) (mCons (mVar 4) mNil))))))) (mSeq (mRet (mCon (.bl false))) mPass) mPass) (mSeq (mIf (mNot (mTru (mCall fk__law_numbers_right (mCons (mVar 1) (mCons (mBin .add (mCon (.int 1)) (mCall fk__law_take (mCons (mVar 1) (mCons (mCon (.int 8)) mNil)))) (mCons (mCall fk__law_pick (mCons (mVar 1) (mCons (mTup (mCons (mCon (.int 8)) (mCons (mBin .add (mCon (.int 1)) (mCall fk__law_take (mCons (mVar 1) (mCons (mCon (.int 8)) mNil)))) mNil))) mNil))) mNil)))))) (mSeq (mRet (mCon (.bl false))) mPass) mPass) (mSeq (mRet (mAndV (mCall fk__law_same (mCons (mCall fk__law_ask (mCons (mCon (.int 0)) (mCons (mVar 2) (mCons (mVar 4) (mCons (mVar 5) mNil))))) (mCons (mLst (mCons (mCon (.str (Str.ofString ""))) (mCons (mCon (.bl true)) mNil))) mNil))) (mCall fk__law_same (mCons (mCall fk__law_ask (mCons (mCon (.int 1)) (mCons (mVar 2) (mCons (mVar 4) (mCons (mB1 .list (mVar 5)) mNil))))) (mCons (mLst (mCons (mCon (.str (Str.ofString ""))) (mCons (mCon .non) mNil))) mNil))))) mPass))))))))))
def f_law : List Val → S → R Val := runE 7 m_law
abbrev fk_law : FK := .eff 1 f_law
theorem tab_eq : tab (gtOf tu bl) [] qs = tb__law_numbers_right := by
  unfold qs
  rw [tab, e__law_store]
  change tab (gtOf tu bl) tb__law_store _ = _
  rw [tab, e__law_mix]
  change tab (gtOf tu bl) tb__law_mix _ = _
  rw [tab, e__law_take]
  change tab (gtOf tu bl) tb__law_take _ = _
  rw [tab, e__law_pick]
  change tab (gtOf tu bl) tb__law_pick _ = _
  rw [tab, e__law_same]
  change tab (gtOf tu bl) tb__law_same _ = _
  rw [tab, e_is_whole]
  change tab (gtOf tu bl) tb_is_whole _ = _
  rw [tab, e_check_letters_aid_flat]
  change tab (gtOf tu bl) tb_check_letters_aid_flat _ = _
  rw [tab, e_grid_size]
  change tab (gtOf tu bl) tb_grid_size _ = _
  rw [tab, e_check_limit]
  change tab (gtOf tu bl) tb_check_limit _ = _
  rw [tab, e_check_size]
  change tab (gtOf tu bl) tb_check_size _ = _
  rw [tab, e_is_row]
  change tab (gtOf tu bl) tb_is_row _ = _
  rw [tab, e_is_letter]
  change tab (gtOf tu bl) tb_is_letter _ = _
  rw [tab, e_letters_row]
  change tab (gtOf tu bl) tb_letters_row _ = _
  rw [tab, e_letters_at]
  change tab (gtOf tu bl) tb_letters_at _ = _
  rw [tab, e_steps_of]
  change tab (gtOf tu bl) tb_steps_of _ = _
  rw [tab, e_lot_offsets]
  change tab (gtOf tu bl) tb_lot_offsets _ = _
  rw [tab, e_rest_of]
  change tab (gtOf tu bl) tb_rest_of _ = _
  rw [tab, e_line_fault]
  change tab (gtOf tu bl) tb_line_fault _ = _
  rw [tab, e_full_or_none]
  change tab (gtOf tu bl) tb_full_or_none _ = _
  rw [tab, e_is_full]
  change tab (gtOf tu bl) tb_is_full _ = _
  rw [tab, e_full_fault]
  change tab (gtOf tu bl) tb_full_fault _ = _
  rw [tab, e_whole]
  change tab (gtOf tu bl) tb_whole _ = _
  rw [tab, e_check_letter_count]
  change tab (gtOf tu bl) tb_check_letter_count _ = _
  rw [tab, e_check_letters_totals]
  change tab (gtOf tu bl) tb_check_letters_totals _ = _
  rw [tab, e_filling_number]
  change tab (gtOf tu bl) tb_filling_number _ = _
  rw [tab, e_filling_count]
  change tab (gtOf tu bl) tb_filling_count _ = _
  rw [tab, e_digits_of]
  change tab (gtOf tu bl) tb_digits_of _ = _
  rw [tab, e_filling_at]
  change tab (gtOf tu bl) tb_filling_at _ = _
  rw [tab, e__law_error]
  change tab (gtOf tu bl) tb__law_error _ = _
  rw [tab, e__law_ask]
  change tab (gtOf tu bl) tb__law_ask _ = _
  rw [tab, e__law_shuffle]
  change tab (gtOf tu bl) tb__law_shuffle _ = _
  rw [tab, e__law_rename]
  change tab (gtOf tu bl) tb__law_rename _ = _
  rw [tab, e__law_some_table]
  change tab (gtOf tu bl) tb__law_some_table _ = _
  rw [tab, e__law_one_answer]
  change tab (gtOf tu bl) tb__law_one_answer _ = _
  rw [tab, e__law_power]
  change tab (gtOf tu bl) tb__law_power _ = _
  rw [tab, e__law_near_full]
  change tab (gtOf tu bl) tb__law_near_full _ = _
  rw [tab, e__law_dress]
  change tab (gtOf tu bl) tb__law_dress _ = _
  rw [tab, e__law_digits_of]
  change tab (gtOf tu bl) tb__law_digits_of _ = _
  rw [tab, e__law_fault_due]
  change tab (gtOf tu bl) tb__law_fault_due _ = _
  rw [tab, e__law_flat_right]
  change tab (gtOf tu bl) tb__law_flat_right _ = _
  rw [tab, e__law_refused]
  change tab (gtOf tu bl) tb__law_refused _ = _
  rw [tab, e__law_numbers_right]
  change tab (gtOf tu bl) tb__law_numbers_right _ = _
  rfl
theorem law_eq : lawM tu bl qs q_law = f_law := by
  unfold lawM
  rw [tab_eq]
  exact congrArg (runE 7) (by kernel_rfl : q_law.m (gtOf tu bl) false tb__law_numbers_right = m_law)
end MPL
end

section
set_option Elab.async false
set_option linter.all false
set_option maxRecDepth 100000
set_option maxHeartbeats 4000000
namespace MPL
open PySem MP
theorem small_mul {i j : Int} (h : -(2 ^ 64) < j ∧ j < 2 ^ 64) : mulOk i j = true := decide_eq_true (.inr (.inl h))
theorem small_mul' {i j : Int} (h : -(2 ^ 64) < i ∧ i < 2 ^ 64) : mulOk i j = true := decide_eq_true (.inl h)
theorem mix_ok (a b : Int) : ∃ r, f__law_mix [.int a, .int b] = .ok (.int r) := by
  unfold f__law_mix runP m__law_mix
  have h1 : ∀ i : Int, mulOk i 48271 = true := fun i => small_mul (by decide)
  have h2 : ∀ i : Int, mulOk i 69621 = true := fun i => small_mul (by decide)
  have h3 : ∀ i : Int, mulOk i 40692 = true := fun i => small_mul (by decide)
  have h4 : ∀ i : Int, mulOk i 2147483563 = true := fun i => small_mul (by decide)
  have h5 : ∀ i j : Int, mulOk (i % 2147483647) j = true := fun i j => small_mul' ⟨by have := Int.emod_nonneg i (b := 2147483647) (by decide); omega, by have := Int.emod_lt_of_pos i (b := 2147483647) (by decide); omega⟩
  have h6 : ∀ i j : Int, mulOk (i % 2147483629) j = true := fun i j => small_mul' ⟨by have := Int.emod_nonneg i (b := 2147483629) (by decide); omega, by have := Int.emod_lt_of_pos i (b := 2147483629) (by decide); omega⟩
  simp [mSeq, mAsg, mB1, mBin, mVar, mCon, mRet, mPass, R.go, R.bind, R.of, rd, opD, opI, b1V, b1, initE, h1, h2, h3, h4, h5, h6]

theorem oadd (i j : Int) : MP.opI .add i j = some (i + j) := rfl
theorem osub (i j : Int) : MP.opI .sub i j = some (i - j) := rfl
theorem omod {i j : Int} (h : 0 < j) : MP.opI .mod i j = some (i % j) := if_pos h
structure Bnd (n : Int) : Prop where
  lt : n < 2 ^ 2000
theorem ofd {i j : Int} (h : 0 < j) (hb : Bnd j) : MP.opI .fdiv i j = some (i / j) := if_pos ⟨h, hb.lt⟩
def takeB : MS := (mSeq (mIf (mCmp .gt (mIx (mVar 0) (mCon (.int 1))) (mCon (.int 0))) (mSeq (mAsg 5 (mBin .mod (mB1 .int (mIx (mVar 0) (mCon (.int 1)))) (mVar 1))) (mSeq (mSetR (mVar 0) (mCon (.int 1)) (mBin .fdiv (mB1 .int (mIx (mVar 0) (mCon (.int 1)))) (mVar 1))) (mSeq (mRet (mVar 5)) mPass))) mPass) (mSeq (mIf (mCmp .gt (mIx (mVar 0) (mCon (.int 2))) (mCon (.int 0))) (mSeq (mSetR (mVar 0) (mCon (.int 2)) (mBin .sub (mIx (mVar 0) (mCon (.int 2))) (mCon (.int 1)))) (mSeq (mRet (mBin .mod (mB1 .int (mCall fk__law_mix (mCons (mIx (mVar 0) (mCon (.int 3))) (mCons (mIx (mVar 0) (mCon (.int 2))) mNil)))) (mVar 1))) mPass)) mPass) (mSeq (mIf (mCmp .ge (mIx (mVar 0) (mCon (.int 4))) (mB1 .len (mVar 2))) (mSeq mBrk mPass) mPass) (mSeq (mAsg 4 (mIx (mVar 2) (mIx (mVar 0) (mCon (.int 4))))) (mSeq (mSetR (mVar 0) (mCon (.int 4)) (mBin .add (mIx (mVar 0) (mCon (.int 4))) (mCon (.int 1)))) (mSeq (mIf (mCmp .eq (mIx (mVar 4) (mCon (.int 0))) (mCon (.int 1))) (mSeq (mSetR (mVar 0) (mCon (.int 1)) (mIx (mVar 4) (mCon (.int 1)))) mPass) (mSeq (mSetR (mVar 0) (mCon (.int 2)) (mCon (.int 3))) (mSeq (mSetR (mVar 0) (mCon (.int 3)) (mIx (mVar 4) (mCon (.int 1)))) mPass))) mPass))))))
theorem take_eq : m__law_take = (mSeq (mIf (mCmp .lt (mVar 1) (mCon (.int 2))) (mSeq (mRet (mCon (.int 0))) mPass) mPass) (mSeq (mAsg 2 (mIx (mVar 0) (mCon (.int 0)))) (mSeq (mFor (.nm 3) (mRg1 (mBin .add (mB1 .len (mVar 2)) (mCon (.int 1)))) takeB) (mSeq (mSetR (mVar 0) (mCon (.int 5)) (mBin .add (mIx (mVar 0) (mCon (.int 5))) (mCon (.int 1)))) (mSeq (mRet (mBin .mod (mB1 .int (mCall fk__law_mix (mCons (mIx (mVar 0) (mCon (.int 6))) (mCons (mIx (mVar 0) (mCon (.int 5))) mNil)))) (mVar 1))) mPass))))) := rfl
/-- the store -/
structure Cells (cells : List D) : Prop where
  len : cells.length ≤ 63
  it : ∀ x ∈ cells, ∃ t v : Int, x = .tup [.int t, .int v]
def Sto (cells : List D) (s : S) : Prop := ∃ a b c i j d : Int, 0 ≤ i ∧ s = [[.lst cells, .int a, .int b, .int c, .int i, .int j, .int d]]
abbrev takeE (n : Int) (cells : List D) (x3 x4 x5 : Option Val) : MP.Env := [some (.ref 0), some (.d (.int n)), some (.d (.lst cells)), x3, x4, x5]
theorem take_turn {n : Int} (hn : 2 ≤ n) (hb : Bnd n) {cells : List D} (hc : Cells cells) {s : S} (hs : Sto cells s) (x3 x4 x5 : Option Val) :
    (∃ t s', takeB (takeE n cells x3 x4 x5) s = .ret (.d (.int t)) s' ∧ 0 ≤ t ∧ t < n ∧ Sto cells s') ∨ takeB (takeE n cells x3 x4 x5) s = .brk (takeE n cells x3 x4 x5) s ∨ ∃ y4 s', takeB (takeE n cells x3 x4 x5) s = .nxt (takeE n cells x3 y4 x5) s' ∧ Sto cells s' := by
  obtain ⟨a, b, c, i, j, d, hi, rfl⟩ := hs
  have hn0 : 0 < n := by omega
  unfold takeB
  by_cases ha : 0 < a
  · refine .inl ⟨a % n, [[.lst cells, .int (a / n), .int b, .int c, .int i, .int j, .int d]], ?_, Int.emod_nonneg _ (by omega), Int.emod_lt_of_pos _ hn0, _, _, _, _, _, _, hi, rfl⟩
    simp [mSeq, mIf, mAsg, mAsgO, mApp, mFrz, mRet, mRetL, mSetR, mFor, forGo, mPass, mBrk, mTru, mNot, mAnd, mOr, mBl, mB1, mBin, mNeg, mCmp, mIx, mVar, mCon, mTup, mLst, mCons, mNil, mCall, mMin2, mRg1, mRg2, mItV, R.go, R.goT, R.bind, R.of, rd, rds, datas, frefs, frees, opD, oadd, osub, cmpD, eqD, ixV, ixD, MP.atI, MP.ixN, b1V, b1, truV, truD, tgSet, P.to, items, ha, omod hn0, ofd hn0 hb]
  · by_cases hbb : 0 < b
    · obtain ⟨r, hr⟩ := mix_ok c (b - 1)
      refine .inl ⟨r % n, [[.lst cells, .int a, .int (b - 1), .int c, .int i, .int j, .int d]], ?_, Int.emod_nonneg _ (by omega), Int.emod_lt_of_pos _ hn0, _, _, _, _, _, _, hi, rfl⟩
      simp [mSeq, mIf, mAsg, mAsgO, mApp, mFrz, mRet, mRetL, mSetR, mFor, forGo, mPass, mBrk, mTru, mNot, mAnd, mOr, mBl, mB1, mBin, mNeg, mCmp, mIx, mVar, mCon, mTup, mLst, mCons, mNil, mCall, mMin2, mRg1, mRg2, mItV, R.go, R.goT, R.bind, R.of, rd, rds, datas, frefs, frees, opD, oadd, osub, cmpD, eqD, ixV, ixD, MP.atI, MP.ixN, b1V, b1, truV, truD, tgSet, P.to, items, ha, hbb, omod hn0, hr]
    · by_cases hl : (cells.length : Int) ≤ i
      · refine .inr (.inl ?_)
        simp [mSeq, mIf, mAsg, mAsgO, mApp, mFrz, mRet, mRetL, mSetR, mFor, forGo, mPass, mBrk, mTru, mNot, mAnd, mOr, mBl, mB1, mBin, mNeg, mCmp, mIx, mVar, mCon, mTup, mLst, mCons, mNil, mCall, mMin2, mRg1, mRg2, mItV, R.go, R.goT, R.bind, R.of, rd, rds, datas, frefs, frees, opD, oadd, osub, cmpD, eqD, ixV, ixD, MP.atI, MP.ixN, b1V, b1, truV, truD, tgSet, P.to, items, ha, hbb, hl]
      · have hlt : i.toNat < cells.length := by omega
        obtain ⟨t, v, hx⟩ := hc.it cells[i.toNat] (List.getElem_mem hlt)
        have hx' : cells[i.toNat]? = some (.tup [.int t, .int v]) := by rw [List.getElem?_eq_getElem hlt, hx]
        have hi2 : i < cells.length := by omega
        refine .inr (.inr ?_)
        by_cases ht : t = 1
        · refine ⟨some (.d (.tup [.int t, .int v])), [[.lst cells, .int v, .int b, .int c, .int (i + 1), .int j, .int d]], ?_, _, _, _, _, _, _, by omega, rfl⟩
          simp [mSeq, mIf, mAsg, mAsgO, mApp, mFrz, mRet, mRetL, mSetR, mFor, forGo, mPass, mBrk, mTru, mNot, mAnd, mOr, mBl, mB1, mBin, mNeg, mCmp, mIx, mVar, mCon, mTup, mLst, mCons, mNil, mCall, mMin2, mRg1, mRg2, mItV, R.go, R.goT, R.bind, R.of, rd, rds, datas, frefs, frees, opD, oadd, osub, cmpD, eqD, ixV, ixD, MP.atI, MP.ixN, b1V, b1, truV, truD, tgSet, P.to, items, ha, hbb, hl, hi, hi2, hx, ht]
        · refine ⟨some (.d (.tup [.int t, .int v])), [[.lst cells, .int a, .int 3, .int v, .int (i + 1), .int j, .int d]], ?_, _, _, _, _, _, _, by omega, rfl⟩
          simp [mSeq, mIf, mAsg, mAsgO, mApp, mFrz, mRet, mRetL, mSetR, mFor, forGo, mPass, mBrk, mTru, mNot, mAnd, mOr, mBl, mB1, mBin, mNeg, mCmp, mIx, mVar, mCon, mTup, mLst, mCons, mNil, mCall, mMin2, mRg1, mRg2, mItV, R.go, R.goT, R.bind, R.of, rd, rds, datas, frefs, frees, opD, oadd, osub, cmpD, eqD, ixV, ixD, MP.atI, MP.ixN, b1V, b1, truV, truD, tgSet, P.to, items, ha, hbb, hl, hi, hi2, hx, ht]

theorem rg0 (j : Int) (h : -1000 ≤ j ∧ j ≤ 1000) : rgOk 0 j = true := by
  unfold rgOk line
  apply decide_eq_true
  refine ⟨by decide, by decide, ?_, ?_, ?_⟩
  · have : -(2 ^ 62 : Int) ≤ -1000 := by decide
    omega
  · have : (1000 : Int) < 2 ^ 62 := by decide
    omega
  · show j - 0 ≤ ((16777216 : Nat) : Int)
    have : (1000 : Int) ≤ ((16777216 : Nat) : Int) := by decide
    omega
theorem take_loop {n : Int} (hn : 2 ≤ n) (hb : Bnd n) {cells : List D} (hc : Cells cells) (x5 : Option Val) : ∀ (m : Nat) (lo : Int) (x3 x4 : Option Val) {s : S}, Sto cells s →
    (∃ t s', forGo (.nm 3) takeB (rangeI lo m) (takeE n cells x3 x4 x5) s = .ret (.d (.int t)) s' ∧ 0 ≤ t ∧ t < n ∧ Sto cells s') ∨ ∃ y3 y4 s', forGo (.nm 3) takeB (rangeI lo m) (takeE n cells x3 x4 x5) s = .nxt (takeE n cells y3 y4 x5) s' ∧ Sto cells s'
  | 0, lo, x3, x4, s, hs => .inr ⟨x3, x4, s, rfl, hs⟩
  | m + 1, lo, x3, x4, s, hs => by
    have e : forGo (.nm 3) takeB (rangeI lo (m + 1)) (takeE n cells x3 x4 x5) s = (match takeB (takeE n cells (some (.d (.int lo))) x4 x5) s with
      | .nxt e s => forGo (.nm 3) takeB (rangeI (lo + 1) m) e s
      | .cnt e s => forGo (.nm 3) takeB (rangeI (lo + 1) m) e s
      | .brk e s => .nxt e s
      | r => r) := rfl
    rw [e]
    rcases take_turn hn hb hc hs (some (.d (.int lo))) x4 x5 with ⟨t, s', h1, h2⟩ | h1 | ⟨y4, s', h1, h2⟩
    · rw [h1]; exact .inl ⟨t, s', rfl, h2⟩
    · rw [h1]; exact .inr ⟨_, _, s, rfl, hs⟩
    · rw [h1]; exact take_loop hn hb hc x5 m (lo + 1) _ y4 h2
theorem toNat1 (n : Nat) : ((n : Int) + 1).toNat = n + 1 := rfl
theorem rg1_ok {m : ME} {e : MP.Env} {s s1 : S} {j : Int} (h : m e s = .ok (.d (.int j)) s1) (hr : rgOk 0 j = true) : mRg1 m e s = .ok (rangeI 0 j.toNat) s1 := by
  unfold mRg1
  rw [h]
  simp only [R.bind_ok]
  rw [if_pos hr]
theorem rg_len {cells : List D} (hc : Cells cells) (n : Int) (x3 x4 x5 : Option Val) (s : S) : mRg1 (mBin .add (mB1 .len (mVar 2)) (mCon (.int 1))) (takeE n cells x3 x4 x5) s = .ok (rangeI 0 (cells.length + 1)) s := by
  have hr : rgOk 0 (cells.length + 1 : Int) = true := rg0 _ (by have := hc.len; omega)
  have e : mBin .add (mB1 .len (mVar 2)) (mCon (.int 1)) (takeE n cells x3 x4 x5) s = .ok (.d (.int (cells.length + 1))) s := by simp [takeE, mSeq, mIf, mAsg, mAsgO, mApp, mFrz, mRet, mRetL, mSetR, mPass, mBrk, mTru, mNot, mAnd, mOr, mBl, mB1, mBin, mNeg, mCmp, mIx, mVar, mCon, mTup, mLst, mCons, mNil, mCall, mMin2, mRg1, mRg2, mItV, R.go, R.goT, R.bind, R.of, rd, rds, datas, frefs, frees, opD, oadd, osub, cmpD, eqD, ixV, ixD, MP.atI, MP.ixN, b1V, b1, truV, truD, tgSet, P.to, items]
  rw [rg1_ok e hr, toNat1]
theorem for_eq {tg : Tg} {it : MI} {b : MS} {e : MP.Env} {s s1 : S} {xs : List D} (h : it e s = .ok xs s1) : mFor tg it b e s = forGo tg b xs e s1 := by
  unfold mFor
  rw [h]
/-- on behind a loop -/
def fseq (r : F) (k : MS) : F := match r with
  | .nxt e s => k e s
  | q => q
theorem seq_for {tg : Tg} {it : MI} {b r : MS} {e : MP.Env} {s s1 : S} {xs : List D} (h : it e s = .ok xs s1) : mSeq (mFor tg it b) r e s = fseq (forGo tg b xs e s1) r := by
  unfold mSeq fseq
  rw [for_eq h]
  try (cases forGo tg b xs e s1 <;> rfl)
def takeR : MS := mSeq (mSetR (mVar 0) (mCon (.int 5)) (mBin .add (mIx (mVar 0) (mCon (.int 5))) (mCon (.int 1)))) (mSeq (mRet (mBin .mod (mB1 .int (mCall fk__law_mix (mCons (mIx (mVar 0) (mCon (.int 6))) (mCons (mIx (mVar 0) (mCon (.int 5))) mNil)))) (mVar 1))) mPass)
def takeF : MS := mSeq (mFor (.nm 3) (mRg1 (mBin .add (mB1 .len (mVar 2)) (mCon (.int 1)))) takeB) takeR
theorem take_eq2 : m__law_take = (mSeq (mIf (mCmp .lt (mVar 1) (mCon (.int 2))) (mSeq (mRet (mCon (.int 0))) mPass) mPass) (mSeq (mAsg 2 (mIx (mVar 0) (mCon (.int 0)))) takeF)) := rfl
theorem takeF_ok {n : Int} (hn : 2 ≤ n) (hb : Bnd n) {cells : List D} (hc : Cells cells) {s : S} (hs : Sto cells s) : ∃ t s', takeF (takeE n cells none none none) s = .ret (.d (.int t)) s' ∧ 0 ≤ t ∧ t < n ∧ Sto cells s' := by
  have hn0 : 0 < n := by omega
  have e1 : takeF (takeE n cells none none none) s = fseq (forGo (.nm 3) takeB (rangeI 0 (cells.length + 1)) (takeE n cells none none none) s) takeR := by
    unfold takeF
    rw [seq_for (rg_len hc n none none none s)]
  rw [e1]
  rcases take_loop hn hb hc none (cells.length + 1) 0 none none hs with ⟨t, s', h1, h2⟩ | ⟨y3, y4, s', h1, h2⟩
  · rw [h1]
    exact ⟨t, s', rfl, h2⟩
  · rw [h1]
    obtain ⟨a', b', c', i', j', d', hi', rfl⟩ := h2
    obtain ⟨r, hr'⟩ := mix_ok d' (j' + 1)
    refine ⟨r % n, [[.lst cells, .int a', .int b', .int c', .int i', .int (j' + 1), .int d']], ?_, Int.emod_nonneg _ (by omega), Int.emod_lt_of_pos _ hn0, _, _, _, _, _, _, hi', rfl⟩
    show takeR _ _ = _
    unfold takeR
    simp [mSeq, mIf, mAsg, mAsgO, mApp, mFrz, mRet, mRetL, mSetR, mPass, mBrk, mTru, mNot, mAnd, mOr, mBl, mB1, mBin, mNeg, mCmp, mIx, mVar, mCon, mTup, mLst, mCons, mNil, mCall, mMin2, mRg1, mRg2, mItV, R.go, R.goT, R.bind, R.of, rd, rds, datas, frefs, frees, opD, oadd, osub, cmpD, eqD, ixV, ixD, MP.atI, MP.ixN, b1V, b1, truV, truD, tgSet, P.to, items, hr', omod hn0]
theorem seq_nxt {a b : MS} {e e1 : MP.Env} {s s1 : S} (h : a e s = .nxt e1 s1) : mSeq a b e s = b e1 s1 := by
  unfold mSeq
  rw [h]
theorem runE_ret {n : Nat} {b : MS} {vs : List Val} {s s' : S} {v : Val} (h : b (initE n vs) s = .ret v s') : runE n b vs s = .ok v s' := by
  unfold runE
  rw [h]
theorem take_ok {n : Int} (hb : Bnd n) {cells : List D} (hc : Cells cells) {s : S} (hs : Sto cells s) : ∃ t s', f__law_take [.ref 0, .d (.int n)] s = .ok (.d (.int t)) s' ∧ 0 ≤ t ∧ (2 ≤ n → t < n) ∧ (n < 2 → t = 0) ∧ Sto cells s' := by
  have hs0 := hs
  obtain ⟨a, b, c, i, j, d, hi, rfl⟩ := hs
  unfold f__law_take
  rw [take_eq2]
  by_cases h2 : n < 2
  · refine ⟨0, _, runE_ret ?_, Int.le_refl _, fun z => absurd h2 (by omega), fun _ => rfl, hs0⟩
    simp [initE, mSeq, mIf, mAsg, mAsgO, mApp, mFrz, mRet, mRetL, mSetR, mPass, mBrk, mTru, mNot, mAnd, mOr, mBl, mB1, mBin, mNeg, mCmp, mIx, mVar, mCon, mTup, mLst, mCons, mNil, mCall, mMin2, mRg1, mRg2, mItV, R.go, R.goT, R.bind, R.of, rd, rds, datas, frefs, frees, opD, oadd, osub, cmpD, eqD, ixV, ixD, MP.atI, MP.ixN, b1V, b1, truV, truD, tgSet, P.to, items, h2]
  · obtain ⟨t, s', h1, h3, h4, h5⟩ := takeF_ok (by omega) hb hc hs0
    refine ⟨t, s', runE_ret ?_, h3, fun _ => h4, fun z => absurd z h2, h5⟩
    have e1 : mIf (mCmp .lt (mVar 1) (mCon (.int 2))) (mSeq (mRet (mCon (.int 0))) mPass) mPass (initE 6 [.ref 0, .d (.int n)]) [[.lst cells, .int a, .int b, .int c, .int i, .int j, .int d]] = .nxt [some (.ref 0), some (.d (.int n)), none, none, none, none] [[.lst cells, .int a, .int b, .int c, .int i, .int j, .int d]] := by
      simp [initE, mSeq, mIf, mAsg, mAsgO, mApp, mFrz, mRet, mRetL, mSetR, mPass, mBrk, mTru, mNot, mAnd, mOr, mBl, mB1, mBin, mNeg, mCmp, mIx, mVar, mCon, mTup, mLst, mCons, mNil, mCall, mMin2, mRg1, mRg2, mItV, R.go, R.goT, R.bind, R.of, rd, rds, datas, frefs, frees, opD, oadd, osub, cmpD, eqD, ixV, ixD, MP.atI, MP.ixN, b1V, b1, truV, truD, tgSet, P.to, items, h2]
    have e2 : mAsg 2 (mIx (mVar 0) (mCon (.int 0))) [some (.ref 0), some (.d (.int n)), none, none, none, none] [[.lst cells, .int a, .int b, .int c, .int i, .int j, .int d]] = .nxt (takeE n cells none none none) [[.lst cells, .int a, .int b, .int c, .int i, .int j, .int d]] := by
      simp [takeE, mSeq, mIf, mAsg, mAsgO, mApp, mFrz, mRet, mRetL, mSetR, mPass, mBrk, mTru, mNot, mAnd, mOr, mBl, mB1, mBin, mNeg, mCmp, mIx, mVar, mCon, mTup, mLst, mCons, mNil, mCall, mMin2, mRg1, mRg2, mItV, R.go, R.goT, R.bind, R.of, rd, rds, datas, frefs, frees, opD, oadd, osub, cmpD, eqD, ixV, ixD, MP.atI, MP.ixN, b1V, b1, truV, truD, tgSet, P.to, items]
    rw [seq_nxt e1, seq_nxt e2]
    exact h1
end MPL
end

section
set_option Elab.async false
set_option linter.all false
set_option maxRecDepth 100000
set_option maxHeartbeats 4000000
namespace MPL
open PySem MP
theorem bnd_len {n : Nat} (h : n ≤ 100000) : Bnd (n : Int) := ⟨by
  have h1 : (n : Int) ≤ 100000 := by omega
  have h2 : (100000 : Int) < 2 ^ 2000 := by decide +kernel
  exact Int.lt_of_le_of_lt h1 h2⟩
theorem at_ok {xs : List D} {t : Int} (h0 : 0 ≤ t) (h : t < xs.length) : ∃ x, x ∈ xs ∧ MP.atI xs t = some x := by
  have hl : t.toNat < xs.length := by omega
  refine ⟨xs[t.toNat], List.getElem_mem hl, ?_⟩
  unfold MP.atI MP.ixN
  rw [if_pos h0, if_pos h]
  show xs[t.toNat]? = _
  rw [List.getElem?_eq_getElem hl]
theorem pick_ok {xs : List D} (hx : xs ≠ []) (hl : xs.length ≤ 100000) {y : D} (hy : y = .lst xs ∨ y = .tup xs) {cells : List D} (hc : Cells cells) {s : S} (hs : Sto cells s) : ∃ x s', f__law_pick [.ref 0, .d y] s = .ok (.d x) s' ∧ x ∈ xs ∧ Sto cells s' := by
  obtain ⟨t, s', h1, h2, h3, h4, h5⟩ := take_ok (bnd_len hl) hc hs
  have hlen : 0 < xs.length := List.length_pos_iff.mpr hx
  have ht : t < xs.length := by
    by_cases h : 2 ≤ (xs.length : Int)
    · exact h3 h
    · rw [h4 (by omega)]; omega
  obtain ⟨x, hm, hat⟩ := at_ok h2 ht
  refine ⟨x, s', ?_, hm, h5⟩
  unfold f__law_pick
  refine runE_ret ?_
  unfold m__law_pick
  rcases hy with rfl | rfl
  · simp [initE, mSeq, mIf, mAsg, mAsgO, mApp, mFrz, mRet, mRetL, mSetR, mPass, mBrk, mTru, mNot, mAnd, mOr, mBl, mB1, mBin, mNeg, mCmp, mIx, mVar, mCon, mTup, mLst, mCons, mNil, mCall, mMin2, mRg1, mRg2, mItV, R.go, R.goT, R.bind, R.of, rd, rds, datas, frefs, frees, opD, oadd, osub, cmpD, eqD, ixV, ixD, b1V, b1, truV, truD, tgSet, P.to, items, h1, hat]
  · simp [initE, mSeq, mIf, mAsg, mAsgO, mApp, mFrz, mRet, mRetL, mSetR, mPass, mBrk, mTru, mNot, mAnd, mOr, mBl, mB1, mBin, mNeg, mCmp, mIx, mVar, mCon, mTup, mLst, mCons, mNil, mCall, mMin2, mRg1, mRg2, mItV, R.go, R.goT, R.bind, R.of, rd, rds, datas, frefs, frees, opD, oadd, osub, cmpD, eqD, ixV, ixD, b1V, b1, truV, truD, tgSet, P.to, items, h1, hat]
end MPL
end

section
set_option Elab.async false
set_option linter.all false
set_option maxRecDepth 100000
set_option maxHeartbeats 4000000
namespace MPL
open PySem MP
def storeB : MS := (mSeq (mAsg 5 (mB1 .int (mIx (mVar 0) (mVar 4)))) (mSeq (mAsg 6 (mBin .mod (mB1 .int (mVar 5)) (mCon (.int 2147483647)))) (mSeq (mIf (mCmp .ge (mVar 5) (mBin .pow (mCon (.int 10)) (mCon (.int 18)))) (mSeq (mApp 2 (mTup (mCons (mCon (.int 1)) (mCons (mBin .mod (mB1 .int (mVar 5)) (mVar 1)) mNil)))) mPass) (mSeq (mApp 2 (mTup (mCons (mCon (.int 0)) (mCons (mBin .mod (mB1 .int (mBin .add (mVar 6) (mBin .mul (mVar 4) (mCon (.int 104729))))) (mCon (.int 2147483647))) mNil)))) mPass)) (mSeq (mAsg 3 (mBin .mod (mB1 .int (mBin .add (mBin .add (mBin .mul (mVar 3) (mCon (.int 48271))) (mVar 6)) (mCon (.int 11)))) (mCon (.int 2147483629)))) mPass))))
theorem opw : MP.opI .pow 10 18 = some 1000000000000000000 := by decide +kernel
theorem om1 (i : Int) : MP.opI .mul i 104729 = some (i * 104729) := if_pos (small_mul (by decide))
theorem om2 (i : Int) : MP.opI .mul i 48271 = some (i * 48271) := if_pos (small_mul (by decide))
theorem two_line : (2 ≤ line) = True := eq_true (by decide)
theorem seven_line : (7 ≤ line) = True := eq_true (by decide)
abbrev stE (ns : List Int) (w : Int) (cells : List D) (sd : Int) (x4 x5 x6 : Option Val) : MP.Env := [some (.scr ns), some (.d (.int w)), some (.own cells), some (.d (.int sd)), x4, x5, x6]
theorem store_turn {ns : List Int} {w : Int} (hw : 0 < w) {cells : List D} (hl : cells.length < 63) (hi : ∀ x ∈ cells, ∃ t v : Int, x = .tup [.int t, .int v]) {lo : Int} (h0 : 0 ≤ lo) (h1 : lo < ns.length) (sd : Int) (x5 x6 : Option Val) (s : S) :
    ∃ c sd' y5 y6, storeB (stE ns w cells sd (some (.d (.int lo))) x5 x6) s = .nxt (stE ns w (cells ++ [c]) sd' (some (.d (.int lo))) y5 y6) s ∧ ∃ t v : Int, c = .tup [.int t, .int v] := by
  have hat : ∃ v, MP.atI ns lo = some v := by
    have hlt : lo.toNat < ns.length := by omega
    refine ⟨ns[lo.toNat], ?_⟩
    unfold MP.atI MP.ixN
    rw [if_pos h0, if_pos h1]
    show ns[lo.toNat]? = _
    rw [List.getElem?_eq_getElem hlt]
  obtain ⟨v, hv⟩ := hat
  have hline : cells.length < line := Nat.lt_trans hl (by decide)
  unfold storeB
  by_cases hb : 1000000000000000000 ≤ v
  · refine ⟨.tup [.int 1, .int (v % w)], (sd * 48271 + v % 2147483647 + 11) % 2147483629, some (.d (.int v)), some (.d (.int (v % 2147483647))), ?_, _, _, rfl⟩
    simp [mSeq, mIf, mAsg, mAsgO, mApp, mFrz, mRet, mRetL, mSetR, mPass, mBrk, mTru, mNot, mAnd, mOr, mBl, mB1, mBin, mNeg, mCmp, mIx, mVar, mCon, mTup, mLst, mCons, mNil, mCall, mMin2, mRg1, mRg2, mItV, R.go, R.goT, R.bind, R.of, rd, rds, datas, frefs, frees, opD, oadd, osub, cmpD, eqD, ixV, ixD, b1V, b1, truV, truD, tgSet, P.to, items, hv, opw, om1, om2, omod hw, omod (show (0 : Int) < 2147483647 by decide), omod (show (0 : Int) < 2147483629 by decide), hb, hline, two_line]
  · refine ⟨.tup [.int 0, .int ((v % 2147483647 + lo * 104729) % 2147483647)], (sd * 48271 + v % 2147483647 + 11) % 2147483629, some (.d (.int v)), some (.d (.int (v % 2147483647))), ?_, _, _, rfl⟩
    simp [mSeq, mIf, mAsg, mAsgO, mApp, mFrz, mRet, mRetL, mSetR, mPass, mBrk, mTru, mNot, mAnd, mOr, mBl, mB1, mBin, mNeg, mCmp, mIx, mVar, mCon, mTup, mLst, mCons, mNil, mCall, mMin2, mRg1, mRg2, mItV, R.go, R.goT, R.bind, R.of, rd, rds, datas, frefs, frees, opD, oadd, osub, cmpD, eqD, ixV, ixD, b1V, b1, truV, truD, tgSet, P.to, items, hv, opw, om1, om2, omod hw, omod (show (0 : Int) < 2147483647 by decide), omod (show (0 : Int) < 2147483629 by decide), hb, hline, two_line]
theorem store_loop {ns : List Int} {w : Int} (hw : 0 < w) : ∀ (m : Nat) {cells : List D} {lo : Int} (sd : Int) (x4 x5 x6 : Option Val) (s : S), cells.length + m ≤ 63 → (∀ x ∈ cells, ∃ t v : Int, x = .tup [.int t, .int v]) → 0 ≤ lo → lo + m ≤ ns.length →
    ∃ cells' sd' y4 y5 y6, forGo (.nm 4) storeB (rangeI lo m) (stE ns w cells sd x4 x5 x6) s = .nxt (stE ns w cells' sd' y4 y5 y6) s ∧ Cells cells'
  | 0, cells, lo, sd, x4, x5, x6, s, hl, hi, _, _ => ⟨cells, sd, x4, x5, x6, rfl, ⟨by omega, hi⟩⟩
  | m + 1, cells, lo, sd, x4, x5, x6, s, hl, hi, h0, h1 => by
    obtain ⟨c, sd', y5, y6, h2, h3⟩ := store_turn (ns := ns) hw (cells := cells) (by omega) hi h0 (by omega) sd x5 x6 s
    have e : forGo (.nm 4) storeB (rangeI lo (m + 1)) (stE ns w cells sd x4 x5 x6) s = (match storeB (stE ns w cells sd (some (.d (.int lo))) x5 x6) s with
      | .nxt e s => forGo (.nm 4) storeB (rangeI (lo + 1) m) e s
      | .cnt e s => forGo (.nm 4) storeB (rangeI (lo + 1) m) e s
      | .brk e s => .nxt e s
      | r => r) := rfl
    rw [e, h2]
    refine store_loop hw m sd' _ y5 y6 s (by rw [List.length_append, List.length_singleton]; omega) (fun x hx => ?_) (by omega) (by omega)
    rcases List.mem_append.mp hx with hx | hx
    · exact hi x hx
    · rw [List.mem_singleton.mp hx]; exact h3

def storeT : MS := mSeq (mFrz 2) (mSeq (mRetL (mCons (mVar 2) (mCons (mCon (.int 0)) (mCons (mCon (.int 0)) (mCons (mCon (.int 0)) (mCons (mCon (.int 0)) (mCons (mCon (.int 0)) (mCons (mVar 3) mNil)))))))) mPass)
theorem store_eq : m__law_store = mSeq (mAsg 1 (mBin .pow (mCon (.int 10)) (mCon (.int 60)))) (mSeq (mAsg 1 (mBin .mul (mBin .mul (mBin .mul (mVar 1) (mVar 1)) (mVar 1)) (mVar 1))) (mSeq (mAsgO 2 (mLst mNil)) (mSeq (mAsg 3 (mCon (.int 7))) (mSeq (mFor (.nm 4) (mRg1 (mMin2 (mCon (.int 63)) (mB1 .len (mVar 0)))) storeB) storeT)))) := rfl
theorem ow1 : MP.opI .pow 10 60 = some (10 ^ 60) := by decide +kernel
theorem ow2 : MP.opI .mul (10 ^ 60) (10 ^ 60) = some (10 ^ 120) := by decide +kernel
theorem ow3 : MP.opI .mul (10 ^ 120) (10 ^ 60) = some (10 ^ 180) := by decide +kernel
theorem ow4 : MP.opI .mul (10 ^ 180) (10 ^ 60) = some (10 ^ 240) := by decide +kernel
theorem bin_eq {o : Op} {a b : ME} {e : MP.Env} {s : S} {i j k : Int} (ha : a e s = .ok (.d (.int i)) s) (hb : b e s = .ok (.d (.int j)) s) (h : MP.opI o i j = some k) : mBin o a b e s = .ok (.d (.int k)) s := by
  unfold mBin
  rw [ha]
  simp only [R.bind_ok]
  rw [hb]
  simp only [R.bind_ok, rd_d]
  unfold opD
  simp only [h, Option.map_some, R.of_some]
theorem asg_int {i : Nat} {a : ME} {e : MP.Env} {s : S} {k : Int} (h : a e s = .ok (.d (.int k)) s) : mAsg i a e s = .nxt (e.set i (some (.d (.int k)))) s := by
  unfold mAsg
  rw [h]
  rfl
theorem store_ok (ns : List Int) : ∃ cells s, f__law_store [.scr ns] [] = .ok (.ref 0) s ∧ Cells cells ∧ Sto cells s := by
  obtain ⟨m, hm, h63, hle⟩ : ∃ m : Nat, (if (ns.length : Int) < 63 then (ns.length : Int) else 63) = (m : Int) ∧ m ≤ 63 ∧ m ≤ ns.length := by
    by_cases h : (ns.length : Int) < 63
    · exact ⟨ns.length, by rw [if_pos h], by omega, Nat.le_refl _⟩
    · exact ⟨63, by rw [if_neg h]; rfl, Nat.le_refl _, by omega⟩
  obtain ⟨cells, sd, y4, y5, y6, h1, hc⟩ := store_loop (ns := ns) (w := 10 ^ 240) (by decide) m (cells := []) (lo := 0) 7 none none none [] (by simpa using h63) (by simp) (by decide) (by omega)
  refine ⟨cells, [[.lst cells, .int 0, .int 0, .int 0, .int 0, .int 0, .int sd]], ?_, hc, _, _, _, _, _, _, Int.le_refl _, rfl⟩
  unfold f__law_store
  refine runE_ret ?_
  rw [store_eq]
  have e1 : mAsg 1 (mBin .pow (mCon (.int 10)) (mCon (.int 60))) (initE 7 [.scr ns]) [] = .nxt [some (.scr ns), some (.d (.int (10 ^ 60))), none, none, none, none, none] [] := asg_int (bin_eq rfl rfl ow1)
  have e2 : mAsg 1 (mBin .mul (mBin .mul (mBin .mul (mVar 1) (mVar 1)) (mVar 1)) (mVar 1)) [some (.scr ns), some (.d (.int (10 ^ 60))), none, none, none, none, none] [] = .nxt [some (.scr ns), some (.d (.int (10 ^ 240))), none, none, none, none, none] [] := asg_int (bin_eq (bin_eq (bin_eq rfl rfl ow2) rfl ow3) rfl ow4)
  have e3 : mAsgO 2 (mLst mNil) [some (.scr ns), some (.d (.int (10 ^ 240))), none, none, none, none, none] [] = .nxt [some (.scr ns), some (.d (.int (10 ^ 240))), some (.own []), none, none, none, none] [] := rfl
  have e4 : mAsg 3 (mCon (.int 7)) [some (.scr ns), some (.d (.int (10 ^ 240))), some (.own []), none, none, none, none] [] = .nxt (stE ns (10 ^ 240) [] 7 none none none) [] := rfl
  have e5 : mRg1 (mMin2 (mCon (.int 63)) (mB1 .len (mVar 0))) (stE ns (10 ^ 240) [] 7 none none none) [] = .ok (rangeI 0 m) [] := by
    have q : mMin2 (mCon (.int 63)) (mB1 .len (mVar 0)) (stE ns (10 ^ 240) [] 7 none none none) [] = .ok (.d (.int (m : Int))) [] := by
      rw [← hm]
      rfl
    rw [rg1_ok q (rg0 _ (by omega))]
    rfl
  rw [seq_nxt e1, seq_nxt e2, seq_nxt e3, seq_nxt e4, seq_for e5, h1]
  show storeT _ _ = _
  rfl
end MPL
end

section
set_option Elab.async false
set_option linter.all false
set_option maxRecDepth 100000
set_option maxHeartbeats 4000000
namespace MPL
open PySem MP
theorem runP_ret {n : Nat} {b : MS} {xs : List D} {s : S} {x : D} (h : b (initE n (xs.map .d)) [] = .ret (.d x) s) : runP n b xs = .ok x := by
  unfold runP
  rw [h]
  rfl
theorem runP_exn {n : Nat} {b : MS} {xs : List D} {s : S} {c : EC} {x : Option D} {e : MP.Env} (h : b (initE n (xs.map .d)) [] = .exn c x e s) : runP n b xs = .exn c x := by
  unfold runP
  rw [h]
theorem runP_nxt {n : Nat} {b : MS} {xs : List D} {s : S} {e : MP.Env} (h : b (initE n (xs.map .d)) [] = .nxt e s) : runP n b xs = .ok .non := by
  unfold runP
  rw [h]
/-! ### powers -/
def okI (p : P) (i : Int) : Bool := match p with
  | .ok (.int j) => decide (j = i)
  | _ => false
theorem okI_ok {p : P} {i : Int} (h : okI p i = true) : p = .ok (.int i) := by
  unfold okI at h
  split at h
  · rw [of_decide_eq_true h]
  · cases h
theorem pow_all : ((List.range 9).all fun q => (List.range 9).all fun n => okI (f_grid_size [.int (q : Nat), .int (n : Nat)]) ((q : Int) ^ n) && okI (f__law_power [.int (q : Nat), .int (n : Nat)]) ((q : Int) ^ n) && okI (f_filling_count [.int (q : Nat), .int (n : Nat)]) ((q : Int) ^ n)) = true := by decide +kernel
theorem pow_ok {q n : Nat} (hq : q ≤ 8) (hn : n ≤ 8) : f_grid_size [.int q, .int n] = .ok (.int ((q : Int) ^ n)) ∧ f__law_power [.int q, .int n] = .ok (.int ((q : Int) ^ n)) ∧ f_filling_count [.int q, .int n] = .ok (.int ((q : Int) ^ n)) := by
  have h := List.all_eq_true.mp (List.all_eq_true.mp pow_all q (List.mem_range.mpr (by omega))) n (List.mem_range.mpr (by omega))
  simp only [Bool.and_eq_true] at h
  exact ⟨okI_ok h.1.1, okI_ok h.1.2, okI_ok h.2⟩
/-! ### digits -/
/-- the digits, the least first -/
def dg (q : Int) : Nat → Int → List Int
  | 0, _ => []
  | k + 1, x => x % q :: dg q k (x / q)
theorem dg_len (q : Int) : ∀ (k : Nat) (x : Int), (dg q k x).length = k
  | 0, _ => rfl
  | k + 1, x => by unfold dg; rw [List.length_cons, dg_len q k]
theorem dg_lt {q : Int} (hq : 0 < q) : ∀ (k : Nat) (x : Int), ∀ y ∈ dg q k x, 0 ≤ y ∧ y < q
  | 0, x, y, h => by cases h
  | k + 1, x, y, h => by
    unfold dg at h
    rcases List.mem_cons.mp h with h | h
    · subst h; exact ⟨Int.emod_nonneg _ (by omega), Int.emod_lt_of_pos _ hq⟩
    · exact dg_lt hq k _ y h
def zs (l : List Int) : List D := l.map D.int
theorem zs_len (l : List Int) : (zs l).length = l.length := List.length_map ..
theorem zs_app (a b : List Int) : zs (a ++ b) = zs a ++ zs b := List.map_append ..
theorem zs_rev (a : List Int) : zs a.reverse = (zs a).reverse := by unfold zs; rw [List.map_reverse]
def atB : MS := (mSeq (mApp 3 (mBin .mod (mVar 2) (mVar 0))) (mSeq (mAsg 2 (mBin .fdiv (mVar 2) (mVar 0))) mPass))
def doB : MS := (mSeq (mApp 3 (mBin .mod (mVar 4) (mVar 0))) (mSeq (mAsg 4 (mBin .fdiv (mVar 4) (mVar 0))) mPass))
def ldB : MS := (mSeq (mApp 3 (mBin .mod (mB1 .int (mVar 2)) (mVar 0))) (mSeq (mAsg 2 (mBin .fdiv (mVar 2) (mVar 0))) mPass))
theorem at_turn {q x : Int} (hq : 0 < q) (hb : Bnd q) {acc : List D} (hl : acc.length < line) (x1 x4 : Option Val) (s : S) :
    atB [some (.d (.int q)), x1, some (.d (.int x)), some (.own acc), x4] s = .nxt [some (.d (.int q)), x1, some (.d (.int (x / q))), some (.own (acc ++ [.int (x % q)])), x4] s := by
  unfold atB
  simp [initE, mSeq, mIf, mAsg, mAsgO, mApp, mFrz, mRet, mRetL, mSetR, mPass, mBrk, mTru, mNot, mAnd, mOr, mBl, mB1, mBin, mNeg, mCmp, mIx, mVar, mCon, mTup, mLst, mCons, mNil, mCall, mMin2, mRg1, mRg2, mItV, R.go, R.goT, R.bind, R.of, rd, rds, datas, frefs, frees, opD, cmpD, eqD, ixV, ixD, b1V, b1, truV, truD, tgSet, P.to, items, itItems, omod hq, ofd hq hb, hl]
theorem ld_turn {q x : Int} (hq : 0 < q) (hb : Bnd q) {acc : List D} (hl : acc.length < line) (x1 x4 : Option Val) (s : S) :
    ldB [some (.d (.int q)), x1, some (.d (.int x)), some (.own acc), x4] s = .nxt [some (.d (.int q)), x1, some (.d (.int (x / q))), some (.own (acc ++ [.int (x % q)])), x4] s := by
  unfold ldB
  simp [initE, mSeq, mIf, mAsg, mAsgO, mApp, mFrz, mRet, mRetL, mSetR, mPass, mBrk, mTru, mNot, mAnd, mOr, mBl, mB1, mBin, mNeg, mCmp, mIx, mVar, mCon, mTup, mLst, mCons, mNil, mCall, mMin2, mRg1, mRg2, mItV, R.go, R.goT, R.bind, R.of, rd, rds, datas, frefs, frees, opD, cmpD, eqD, ixV, ixD, b1V, b1, truV, truD, tgSet, P.to, items, itItems, omod hq, ofd hq hb, hl]
theorem do_turn {q x : Int} (hq : 0 < q) (hb : Bnd q) {acc : List D} (hl : acc.length < line) (x1 x2 x5 : Option Val) (s : S) :
    doB [some (.d (.int q)), x1, x2, some (.own acc), some (.d (.int x)), x5] s = .nxt [some (.d (.int q)), x1, x2, some (.own (acc ++ [.int (x % q)])), some (.d (.int (x / q))), x5] s := by
  unfold doB
  simp [initE, mSeq, mIf, mAsg, mAsgO, mApp, mFrz, mRet, mRetL, mSetR, mPass, mBrk, mTru, mNot, mAnd, mOr, mBl, mB1, mBin, mNeg, mCmp, mIx, mVar, mCon, mTup, mLst, mCons, mNil, mCall, mMin2, mRg1, mRg2, mItV, R.go, R.goT, R.bind, R.of, rd, rds, datas, frefs, frees, opD, cmpD, eqD, ixV, ixD, b1V, b1, truV, truD, tgSet, P.to, items, itItems, omod hq, ofd hq hb, hl]
theorem at_loop {q : Int} (hq : 0 < q) (hb : Bnd q) (x1 : Option Val) (s : S) : ∀ (m : Nat) (lo x : Int) (acc : List D) (x4 : Option Val), acc.length + m ≤ 100 →
    ∃ x4' x', forGo (.nm 4) atB (rangeI lo m) [some (.d (.int q)), x1, some (.d (.int x)), some (.own acc), x4] s = .nxt [some (.d (.int q)), x1, x', some (.own (acc ++ zs (dg q m x))), x4'] s
  | 0, lo, x, acc, x4, _ => ⟨x4, some (.d (.int x)), by simp [rangeI, forGo, dg, zs]⟩
  | m + 1, lo, x, acc, x4, h => by
    have hl : acc.length < line := by have : (100 : Nat) < line := by decide
                                      omega
    obtain ⟨y4, y', e⟩ := at_loop hq hb x1 s m (lo + 1) (x / q) (acc ++ [.int (x % q)]) (some (.d (.int lo))) (by rw [List.length_append, List.length_singleton]; omega)
    refine ⟨y4, y', ?_⟩
    have e0 : forGo (.nm 4) atB (rangeI lo (m + 1)) [some (.d (.int q)), x1, some (.d (.int x)), some (.own acc), x4] s = (match atB [some (.d (.int q)), x1, some (.d (.int x)), some (.own acc), some (.d (.int lo))] s with
      | .nxt e s => forGo (.nm 4) atB (rangeI (lo + 1) m) e s
      | .cnt e s => forGo (.nm 4) atB (rangeI (lo + 1) m) e s
      | .brk e s => .nxt e s
      | r => r) := rfl
    rw [e0, at_turn hq hb hl]
    dsimp only
    rw [e, List.append_assoc]
    rfl
theorem ld_loop {q : Int} (hq : 0 < q) (hb : Bnd q) (x1 : Option Val) (s : S) : ∀ (m : Nat) (lo x : Int) (acc : List D) (x4 : Option Val), acc.length + m ≤ 100 →
    ∃ x4' x', forGo (.nm 4) ldB (rangeI lo m) [some (.d (.int q)), x1, some (.d (.int x)), some (.own acc), x4] s = .nxt [some (.d (.int q)), x1, x', some (.own (acc ++ zs (dg q m x))), x4'] s
  | 0, lo, x, acc, x4, _ => ⟨x4, some (.d (.int x)), by simp [rangeI, forGo, dg, zs]⟩
  | m + 1, lo, x, acc, x4, h => by
    have hl : acc.length < line := by have : (100 : Nat) < line := by decide
                                      omega
    obtain ⟨y4, y', e⟩ := ld_loop hq hb x1 s m (lo + 1) (x / q) (acc ++ [.int (x % q)]) (some (.d (.int lo))) (by rw [List.length_append, List.length_singleton]; omega)
    refine ⟨y4, y', ?_⟩
    have e0 : forGo (.nm 4) ldB (rangeI lo (m + 1)) [some (.d (.int q)), x1, some (.d (.int x)), some (.own acc), x4] s = (match ldB [some (.d (.int q)), x1, some (.d (.int x)), some (.own acc), some (.d (.int lo))] s with
      | .nxt e s => forGo (.nm 4) ldB (rangeI (lo + 1) m) e s
      | .cnt e s => forGo (.nm 4) ldB (rangeI (lo + 1) m) e s
      | .brk e s => .nxt e s
      | r => r) := rfl
    rw [e0, ld_turn hq hb hl]
    dsimp only
    rw [e, List.append_assoc]
    rfl
theorem do_loop {q : Int} (hq : 0 < q) (hb : Bnd q) (x1 x2 : Option Val) (s : S) : ∀ (m : Nat) (lo x : Int) (acc : List D) (x5 : Option Val), acc.length + m ≤ 100 →
    ∃ x5' x', forGo (.nm 5) doB (rangeI lo m) [some (.d (.int q)), x1, x2, some (.own acc), some (.d (.int x)), x5] s = .nxt [some (.d (.int q)), x1, x2, some (.own (acc ++ zs (dg q m x))), x', x5'] s
  | 0, lo, x, acc, x5, _ => ⟨x5, some (.d (.int x)), by simp [rangeI, forGo, dg, zs]⟩
  | m + 1, lo, x, acc, x5, h => by
    have hl : acc.length < line := by have : (100 : Nat) < line := by decide
                                      omega
    obtain ⟨y4, y', e⟩ := do_loop hq hb x1 x2 s m (lo + 1) (x / q) (acc ++ [.int (x % q)]) (some (.d (.int lo))) (by rw [List.length_append, List.length_singleton]; omega)
    refine ⟨y4, y', ?_⟩
    have e0 : forGo (.nm 5) doB (rangeI lo (m + 1)) [some (.d (.int q)), x1, x2, some (.own acc), some (.d (.int x)), x5] s = (match doB [some (.d (.int q)), x1, x2, some (.own acc), some (.d (.int x)), some (.d (.int lo))] s with
      | .nxt e s => forGo (.nm 5) doB (rangeI (lo + 1) m) e s
      | .cnt e s => forGo (.nm 5) doB (rangeI (lo + 1) m) e s
      | .brk e s => .nxt e s
      | r => r) := rfl
    rw [e0, do_turn hq hb hl]
    dsimp only
    rw [e, List.append_assoc]
    rfl
theorem bndq {q : Nat} (h : q ≤ 8) : Bnd (q : Int) := bnd_len (by omega)
/-- the filling with a number -/
def fil (q n : Nat) (x : Int) : List Int := (dg q n x).reverse
theorem fil_len (q n : Nat) (x : Int) : (fil q n x).length = n := by unfold fil; rw [List.length_reverse, dg_len]
theorem rgn {n : Nat} (h : n ≤ 8) : rgOk 0 (n : Int) = true := rg0 _ (by omega)
theorem letters_at_ok {q n : Nat} (hq : 1 ≤ q ∧ q ≤ 8) (hn : n ≤ 8) (x : Int) : f_letters_at [.int q, .int n, .int x] = .ok (.tup (zs (fil q n x))) := by
  obtain ⟨x4, x', e⟩ := at_loop (q := q) (by omega) (bndq hq.2) (some (.d (.int n))) [] n 0 x [] none (by simp; omega)
  unfold f_letters_at
  refine runP_ret (s := []) ?_
  have e0 : m_letters_at = mSeq (mAsgO 3 (mLst mNil)) (mSeq (mFor (.nm 4) (mRg1 (mVar 1)) atB) (mSeq (mFrz 3) (mSeq (mRet (mB1 .tuple (mRev (mVar 3)))) mPass))) := rfl
  have e1 : mAsgO 3 (mLst mNil) (initE 5 ([D.int q, .int n, .int x].map .d)) [] = .nxt [some (.d (.int q)), some (.d (.int n)), some (.d (.int x)), some (.own []), none] [] := rfl
  rw [e0, seq_nxt e1, seq_for (rg1_ok (j := n) rfl (rgn hn)), Int.toNat_natCast, e]
  simp [fseq, mSeq, mFrz, mRet, mB1, mRev, mVar, R.bind, R.go, R.of, rd, b1V, b1, items, revD, fil, zs_rev, mPass]
theorem digits_of_ok {q n : Nat} (hq : 1 ≤ q ∧ q ≤ 8) (hn : n ≤ 8) (x : Int) : f_digits_of [.int q, .int n, .int x] = .ok (.tup (zs (fil q n x))) := by
  obtain ⟨x4, x', e⟩ := do_loop (q := q) (by omega) (bndq hq.2) (some (.d (.int n))) (some (.d (.int x))) [] n 0 x [] none (by simp; omega)
  unfold f_digits_of
  refine runP_ret (s := []) ?_
  have e0 : m_digits_of = mSeq (mAsgO 3 (mLst mNil)) (mSeq (mAsg 4 (mVar 2)) (mSeq (mFor (.nm 5) (mRg1 (mVar 1)) doB) (mSeq (mFrz 3) (mSeq (mRet (mB1 .tuple (mRev (mVar 3)))) mPass)))) := rfl
  have e1 : mAsgO 3 (mLst mNil) (initE 6 ([D.int q, .int n, .int x].map .d)) [] = .nxt [some (.d (.int q)), some (.d (.int n)), some (.d (.int x)), some (.own []), none, none] [] := rfl
  have e2 : mAsg 4 (mVar 2) [some (.d (.int q)), some (.d (.int n)), some (.d (.int x)), some (.own []), none, none] [] = .nxt [some (.d (.int q)), some (.d (.int n)), some (.d (.int x)), some (.own []), some (.d (.int x)), none] [] := rfl
  rw [e0, seq_nxt e1, seq_nxt e2, seq_for (rg1_ok (j := n) rfl (rgn hn)), Int.toNat_natCast, e]
  simp [fseq, mSeq, mFrz, mRet, mB1, mRev, mVar, R.bind, R.go, R.of, rd, b1V, b1, items, revD, fil, zs_rev, mPass]
theorem law_digits_ok {q n : Nat} (hq : 1 ≤ q ∧ q ≤ 8) (hn : n ≤ 8) (x : Int) : f__law_digits_of [.int q, .int n, .int x] = .ok (.tup (zs (fil q n x))) := by
  obtain ⟨x4, x', e⟩ := ld_loop (q := q) (by omega) (bndq hq.2) (some (.d (.int n))) [] n 0 x [] none (by simp; omega)
  unfold f__law_digits_of
  refine runP_ret (s := []) ?_
  have e0 : m__law_digits_of = mSeq (mAsgO 3 (mLst mNil)) (mSeq (mFor (.nm 4) (mRg1 (mVar 1)) ldB) (mSeq (mFrz 3) (mSeq (mRet (mB1 .tuple (mRev (mVar 3)))) mPass))) := rfl
  have e1 : mAsgO 3 (mLst mNil) (initE 5 ([D.int q, .int n, .int x].map .d)) [] = .nxt [some (.d (.int q)), some (.d (.int n)), some (.d (.int x)), some (.own []), none] [] := rfl
  rw [e0, seq_nxt e1, seq_for (rg1_ok (j := n) rfl (rgn hn)), Int.toNat_natCast, e]
  simp [fseq, mSeq, mFrz, mRet, mB1, mRev, mVar, R.bind, R.go, R.of, rd, b1V, b1, items, revD, fil, zs_rev, mPass]
end MPL
end

section
set_option Elab.async false
set_option linter.all false
set_option maxRecDepth 100000
set_option maxHeartbeats 4000000
namespace MPL
open PySem MP
/-! ### steps, offsets: a closed look -/
def stp (q n s : Nat) : Nat := q ^ (n - 1 - s)
def starts (q n s : Nat) : List Nat := (List.range (q ^ n)).filter fun a => a / stp q n s % q == 0
def natD (l : List Nat) : List D := l.map fun (a : Nat) => D.int (a : Int)
def isInts : List D → List Nat → Bool
  | [], [] => true
  | .int i :: r, a :: l => decide (i = (a : Int)) && isInts r l
  | _, _ => false
theorem isInts_ok : ∀ {xs : List D} {l : List Nat}, isInts xs l = true → xs = natD l
  | [], [], _ => rfl
  | [], _ :: _, h => by cases h
  | .int i :: r, a :: l, h => by
    unfold isInts at h
    obtain ⟨h1, h2⟩ := Bool.and_eq_true_iff.mp h
    rw [of_decide_eq_true h1, isInts_ok h2]; rfl
  | .int i :: r, [], h => by cases h
  | .non :: _, l, h => by cases l <;> cases h
  | .bl _ :: _, l, h => by cases l <;> cases h
  | .str _ :: _, l, h => by cases l <;> cases h
  | .tup _ :: _, l, h => by cases l <;> cases h
  | .tuq _ :: _, l, h => by cases l <;> cases h
  | .lst _ :: _, l, h => by cases l <;> cases h
  | .dic _ _ :: _, l, h => by cases l <;> cases h
def okL (p : P) (l : List Nat) : Bool := match p with
  | .ok (.lst xs) => isInts xs l
  | _ => false
theorem okL_ok {p : P} {l : List Nat} (h : okL p l = true) : p = .ok (.lst (natD l)) := by
  unfold okL at h
  split at h
  · rw [isInts_ok h]
  · cases h
def okT (p : P) (l : List Nat) : Bool := match p with
  | .ok (.tup xs) => isInts xs l
  | _ => false
theorem okT_ok {p : P} {l : List Nat} (h : okT p l = true) : p = .ok (.tup (natD l)) := by
  unfold okT at h
  split at h
  · rw [isInts_ok h]
  · cases h
def restN (n s : Nat) : List Nat := (List.range n).filter fun a => a != s
def offN (q n : Nat) : List Nat → List Nat → List Nat
  | os, [] => os
  | os, s :: r => offN q n (os.flatMap fun o => (List.range q).map fun l => o + l * stp q n s) r
/-- the greatest n -/
def most (q : Nat) : Nat := [8, 8, 8, 6, 5, 4, 3, 3, 3].getD q 0
def natEq : List Nat → List Nat → Bool
  | [], [] => true
  | a :: l, b :: r => Nat.beq a b && natEq l r
  | _, _ => false
theorem natEq_ok : ∀ {a b : List Nat}, natEq a b = true → a = b
  | [], [], _ => rfl
  | [], _ :: _, h => by cases h
  | _ :: _, [], h => by cases h
  | x :: a, y :: b, h => by
    unfold natEq at h
    obtain ⟨h1, h2⟩ := Bool.and_eq_true_iff.mp h
    rw [Nat.eq_of_beq_eq_true h1, natEq_ok h2]
theorem sm_all : ((List.range 9).all fun q => (List.range 9).all fun n => okL (f_steps_of [.int (q : Nat), .int (n : Nat)]) ((List.range n).map (stp q n)) && (List.range n).all fun s => okT (f_rest_of [.int (n : Nat), .tup [.int (s : Nat)]]) (restN n s)) = true := by decide +kernel
theorem off_all : ((List.range 9).all fun q => (List.range 9).all fun n => !(decide (1 ≤ q) && decide (n ≤ most q)) || (List.range n).all fun s => natEq (offN q n [0] (restN n s)) (starts q n s)) = true := by decide +kernel
end MPL
end

section
set_option Elab.async false
set_option linter.all false
set_option maxRecDepth 100000
set_option maxHeartbeats 4000000
namespace MPL
open PySem MP
/-! ### comprehensions, loops -/
theorem natD_len (l : List Nat) : (natD l).length = l.length := List.length_map ..
theorem natD_app (a b : List Nat) : natD (a ++ b) = natD a ++ natD b := List.map_append ..
theorem rangeI_eq (lo : Nat) : ∀ m, rangeI (lo : Int) m = natD (List.range' lo m)
  | 0 => rfl
  | m + 1 => by
    show D.int lo :: rangeI ((lo : Int) + 1) m = _
    have e : ((lo : Int) + 1) = ((lo + 1 : Nat) : Int) := rfl
    rw [e, rangeI_eq (lo + 1) m]
    rfl
theorem rangeI0 (m : Nat) : rangeI 0 m = natD (List.range m) := by
  have := rangeI_eq 0 m
  rw [List.range_eq_range']
  exact this
theorem lc_map {e : MP.Env} {i : Nat} {m : ME} {s : S} {g : D → D} : ∀ (xs acc : List D), (∀ x ∈ xs, m (e.set i (some (.d x))) s = .ok (.d (g x)) s) → lcGo e (.nm i) mYes m xs acc s = .ok (acc ++ xs.map g) s
  | [], acc, _ => by simp [lcGo]
  | x :: xs, acc, h => by
    have h1 := h x List.mem_cons_self
    have h2 := lc_map xs (acc ++ [g x]) fun y hy => h y (List.mem_cons_of_mem _ hy)
    unfold lcGo
    show (match mYes (e.set i (some (.d x))) s with
      | .ok true s => (match m (e.set i (some (.d x))) s with
        | .ok (.d y) s => lcGo e (.nm i) mYes m xs (acc ++ [y]) s
        | _ => .stuck)
      | .ok false s => lcGo e (.nm i) mYes m xs acc s
      | _ => .stuck) = _
    show (match m (e.set i (some (.d x))) s with
        | .ok (.d y) s => lcGo e (.nm i) mYes m xs (acc ++ [y]) s
        | _ => .stuck) = _
    rw [h1]
    show lcGo e (.nm i) mYes m xs (acc ++ [g x]) s = _
    rw [h2, List.append_assoc]
    rfl
theorem mLc_map {own : List Nat} {e : MP.Env} {i : Nat} {it : MI} {m : ME} {s : S} {g : D → D} {xs : List D} (hi : it e s = .ok xs s) (h : ∀ x ∈ xs, m ((wipe e own).set i (some (.d x))) s = .ok (.d (g x)) s) : mLc own (.nm i) it mYes m e s = .ok (.d (.lst (xs.map g))) s := by
  unfold mLc
  rw [hi]
  simp only [R.bind_ok]
  rw [lc_map xs [] h]
  rfl
theorem lcI_map {e : MP.Env} {i : Nat} {m : ME} {s : S} {g : D → D} : ∀ (xs acc : List D), acc.length + xs.length ≤ line → (∀ x ∈ xs, m (e.set i (some (.d x))) s = .ok (.d (g x)) s) → lcGoI e (.nm i) mYes m xs acc s = .ok (acc ++ xs.map g) s
  | [], acc, _, _ => by simp [lcGoI]
  | x :: xs, acc, hl, h => by
    have h1 := h x List.mem_cons_self
    rw [List.length_cons] at hl
    have h2 := lcI_map xs (acc ++ [g x]) (by rw [List.length_append, List.length_singleton]; omega) fun y hy => h y (List.mem_cons_of_mem _ hy)
    unfold lcGoI
    show (match m (e.set i (some (.d x))) s with
        | .ok (.d y) s => if acc.length < line then lcGoI e (.nm i) mYes m xs (acc ++ [y]) s else .stuck
        | _ => .stuck) = _
    rw [h1]
    show (if acc.length < line then lcGoI e (.nm i) mYes m xs (acc ++ [g x]) s else .stuck) = _
    rw [if_pos (by omega), h2, List.append_assoc]
    rfl
theorem lc2_map {e : MP.Env} {i j : Nat} {it1 : MI} {m : ME} {s : S} {g : D → D → D} {ys : List D} : ∀ (xs acc : List D), acc.length + xs.length * ys.length ≤ line → (∀ x ∈ xs, it1 (e.set i (some (.d x))) s = .ok ys s) → (∀ x ∈ xs, ∀ y ∈ ys, m ((wipe (e.set i (some (.d x))) [j]).set j (some (.d y))) s = .ok (.d (g x y)) s) →
    lcGo2 e (.nm i) mYes it1 [j] (.nm j) mYes m xs acc s = .ok (acc ++ xs.flatMap fun x => ys.map (g x)) s
  | [], acc, _, _, _ => by simp [lcGo2]
  | x :: xs, acc, hl, h, hm => by
    rw [List.length_cons, Nat.succ_mul] at hl
    have h1 := h x List.mem_cons_self
    have h3 := lcI_map (e := wipe (e.set i (some (.d x))) [j]) (i := j) (m := m) (s := s) (g := g x) ys acc (by omega) (hm x List.mem_cons_self)
    have h2 := lc2_map xs (acc ++ ys.map (g x)) (by rw [List.length_append, List.length_map]; omega) (fun y hy => h y (List.mem_cons_of_mem _ hy)) fun y hy => hm y (List.mem_cons_of_mem _ hy)
    unfold lcGo2
    show (match it1 (e.set i (some (.d x))) s with
        | .ok ys s => (match lcGoI (wipe (e.set i (some (.d x))) [j]) (.nm j) mYes m ys acc s with
          | .ok acc s => lcGo2 e (.nm i) mYes it1 [j] (.nm j) mYes m xs acc s
          | _ => .stuck)
        | _ => .stuck) = _
    rw [h1]
    show (match lcGoI (wipe (e.set i (some (.d x))) [j]) (.nm j) mYes m ys acc s with
          | .ok acc s => lcGo2 e (.nm i) mYes it1 [j] (.nm j) mYes m xs acc s
          | _ => .stuck) = _
    rw [h3]
    show lcGo2 e (.nm i) mYes it1 [j] (.nm j) mYes m xs (acc ++ ys.map (g x)) s = _
    rw [h2, List.append_assoc]
    rfl
/-- a loop that looks for something -/
theorem for_find {i : Nat} {b : MS} {P : Nat → Bool} {ret : Nat → D} {Inv : MP.Env → Prop} {s : S} : ∀ (as : List Nat) (e : MP.Env), (∀ a ∈ as, ∀ e, Inv e → (P a = true → b (e.set i (some (.d (.int a)))) s = .ret (.d (ret a)) s) ∧ (P a = false → ∃ e', b (e.set i (some (.d (.int a)))) s = .nxt e' s ∧ Inv e')) → Inv e →
    (∀ a, as.find? P = some a → forGo (.nm i) b (natD as) e s = .ret (.d (ret a)) s) ∧ (as.find? P = none → ∃ e', forGo (.nm i) b (natD as) e s = .nxt e' s ∧ Inv e')
  | [], e, _, hi => ⟨fun a h => (by cases h), fun _ => ⟨e, rfl, hi⟩⟩
  | a :: as, e, h, hi => by
    have e0 : forGo (.nm i) b (natD (a :: as)) e s = (match b (e.set i (some (.d (.int a)))) s with
      | .nxt e s => forGo (.nm i) b (natD as) e s
      | .cnt e s => forGo (.nm i) b (natD as) e s
      | .brk e s => .nxt e s
      | r => r) := rfl
    obtain ⟨h1, h2⟩ := h a List.mem_cons_self e hi
    rw [e0, List.find?_cons]
    cases hp : P a with
    | true =>
      rw [h1 hp]
      exact ⟨fun a' ha => (by cases ha; rfl), fun ha => by cases ha⟩
    | false =>
      obtain ⟨e', h3, h4⟩ := h2 hp
      rw [h3]
      exact for_find as e' (fun a ha => h a (List.mem_cons_of_mem _ ha)) h4
theorem ix_lst {a b : ME} {e : MP.Env} {s : S} {xs : List D} {i : Int} {x : D} (ha : a e s = .ok (.d (.lst xs)) s) (hb : b e s = .ok (.d (.int i)) s) (h : MP.atI xs i = some x) : mIx a b e s = .ok (.d x) s := by
  unfold mIx
  rw [ha]
  simp only [R.bind_ok]
  rw [hb]
  simp only [R.bind_ok, ixV, rd_d, ixD, h, Option.map_some, R.of_some]
theorem ix_tup {a b : ME} {e : MP.Env} {s : S} {xs : List D} {i : Int} {x : D} (ha : a e s = .ok (.d (.tup xs)) s) (hb : b e s = .ok (.d (.int i)) s) (h : MP.atI xs i = some x) : mIx a b e s = .ok (.d x) s := by
  unfold mIx
  rw [ha]
  simp only [R.bind_ok]
  rw [hb]
  simp only [R.bind_ok, ixV, rd_d, ixD, h, Option.map_some, R.of_some]
theorem datas_map : ∀ xs : List D, datas (xs.map Val.d) = some xs
  | [] => rfl
  | x :: xs => by
    show (datas (xs.map Val.d)).map (x :: ·) = _
    rw [datas_map xs]; rfl
theorem call_ok {n : Nat} {f : List D → P} {l : ML} {e : MP.Env} {s : S} {xs : List D} {x : D} (hl : l e s = .ok (xs.map Val.d) s) (hn : xs.length = n) (h : f xs = .ok x) : mCall (.pure n f) l e s = .ok (.d x) s := by
  unfold mCall
  rw [hl]
  simp only [R.bind_ok]
  rw [if_pos (by rw [List.length_map]; exact hn), datas_map]
  simp only [h]
  rfl
theorem call_fresh {n : Nat} {f : List D → P} {l : ML} {e : MP.Env} {s : S} {xs ys : List D} (hl : l e s = .ok (xs.map Val.d) s) (hn : xs.length = n) (h : f xs = .fresh ys) : mCall (.pure n f) l e s = .ok (.d (.lst ys)) s := by
  unfold mCall
  rw [hl]
  simp only [R.bind_ok]
  rw [if_pos (by rw [List.length_map]; exact hn), datas_map]
  simp only [h]
  rfl
theorem call_exn {n : Nat} {f : List D → P} {l : ML} {e : MP.Env} {s : S} {xs : List D} {c : EC} {y : Option D} (hl : l e s = .ok (xs.map Val.d) s) (hn : xs.length = n) (h : f xs = .exn c y) : mCall (.pure n f) l e s = .exn c y s := by
  unfold mCall
  rw [hl]
  simp only [R.bind_ok]
  rw [if_pos (by rw [List.length_map]; exact hn), datas_map]
  simp only [h]
  rfl
theorem asg_ok {i : Nat} {a : ME} {e : MP.Env} {s s1 : S} {x : D} (h : a e s = .ok (.d x) s1) : mAsg i a e s = .nxt (e.set i (some (.d x))) s1 := by
  unfold mAsg
  rw [h]
  rfl
theorem ret_ok {a : ME} {e : MP.Env} {s s1 : S} {x : D} (h : a e s = .ok (.d x) s1) : mRet a e s = .ret (.d x) s1 := by
  unfold mRet
  rw [h]
  rfl
theorem seq_ret {a b : MS} {e : MP.Env} {s s1 : S} {v : Val} (h : a e s = .ret v s1) : mSeq a b e s = .ret v s1 := by
  unfold mSeq
  rw [h]
/-! ### offsets -/
theorem steps_ok {q n : Nat} (hq : q ≤ 8) (hn : n ≤ 8) : f_steps_of [.int q, .int n] = .ok (.lst (natD ((List.range n).map (stp q n)))) := by
  have h := List.all_eq_true.mp (List.all_eq_true.mp sm_all q (List.mem_range.mpr (by omega))) n (List.mem_range.mpr (by omega))
  exact okL_ok (Bool.and_eq_true_iff.mp h).1
theorem rest_ok {n s : Nat} (hn : n ≤ 8) (hs : s < n) : f_rest_of [.int n, .tup [.int s]] = .ok (.tup (natD (restN n s))) := by
  have h := List.all_eq_true.mp (List.all_eq_true.mp sm_all 0 (List.mem_range.mpr (by omega))) n (List.mem_range.mpr (by omega))
  exact okT_ok (List.all_eq_true.mp (Bool.and_eq_true_iff.mp h).2 s (List.mem_range.mpr hs))
/-- q letters and n slips that are asked -/
structure QN (q n : Nat) : Prop where
  q1 : 1 ≤ q
  q8 : q ≤ 8
  n1 : 1 ≤ n
  nm : n ≤ most q
theorem most_le : ∀ q, q ≤ 8 → most q ≤ 8 ∧ (1 ≤ q → q ^ most q ≤ 1024) := by decide
theorem QN.n8 {q n : Nat} (h : QN q n) : n ≤ 8 := Nat.le_trans h.nm (most_le q h.q8).1
theorem QN.le {q n : Nat} (h : QN q n) : q ^ n ≤ 1024 := Nat.le_trans (Nat.pow_le_pow_right h.q1 h.nm) ((most_le q h.q8).2 h.q1)
theorem QN.pos {q n : Nat} (h : QN q n) : 0 < q ^ n := Nat.pow_pos h.q1
theorem offN_eq {q n s : Nat} (h : QN q n) (hs : s < n) : offN q n [0] (restN n s) = starts q n s := by
  have h1 := List.all_eq_true.mp (List.all_eq_true.mp off_all q (List.mem_range.mpr (by have := h.q8; omega))) n (List.mem_range.mpr (by have := h.n8; omega))
  rw [decide_eq_true h.q1, decide_eq_true h.nm] at h1
  exact natEq_ok (List.all_eq_true.mp h1 s (List.mem_range.mpr hs))
def loB : MS := (mSeq (mAsg 4 (mLc2 [6, 7] (.nm 6) (mItV (mVar 4)) mYes (mRg1 (mVar 0)) [7] (.nm 7) mYes (mBin .add (mVar 6) (mBin .mul (mVar 7) (mIx (mVar 3) (mVar 5)))))) mPass)
theorem natD_at {l : List Nat} {k : Nat} (h : k < l.length) : MP.atI (natD l) (k : Int) = some (.int (l[k]'h : Nat)) := by
  unfold MP.atI MP.ixN
  rw [if_pos (by omega), natD_len, if_pos (by omega)]
  show (natD l)[((k : Int)).toNat]? = _
  rw [Int.toNat_natCast]
  unfold natD
  rw [List.getElem?_map, List.getElem?_eq_getElem h]
  rfl
theorem mul_small {a b : Nat} (h : b ≤ 100000) : mulOk (a : Int) (b : Int) = true := small_mul (by
  have : (100000 : Int) < 2 ^ 64 := by decide
  constructor <;> omega)
theorem om_nat {a b : Nat} (h : b ≤ 100000) : MP.opI .mul (a : Int) (b : Int) = some ((a * b : Nat) : Int) := by
  rw [show MP.opI .mul (a : Int) (b : Int) = (if mulOk a b then some ((a : Int) * b) else none) from rfl, if_pos (mul_small h)]
  simp
theorem stp_le {q n s : Nat} (h : QN q n) : stp q n s ≤ 1024 := Nat.le_trans (Nat.pow_le_pow_right h.q1 (by omega)) h.le
abbrev loE (q n : Nat) (x2 : Option Val) (os : List Nat) (x5 x6 x7 : Option Val) : MP.Env := [some (.d (.int q)), some (.d (.int n)), x2, some (.d (.lst (natD ((List.range n).map (stp q n))))), some (.d (.lst (natD os))), x5, x6, x7]
def loN (q n k : Nat) (os : List Nat) : List Nat := os.flatMap fun o => (List.range q).map fun l => o + l * stp q n k
def loG (st : Nat) (x y : D) : D := match x, y with
  | .int a, .int b => .int (a + b * (st : Nat))
  | _, _ => .non
theorem lo_go {q n k : Nat} (h : QN q n) (hk : k < n) {os : List Nat} (hl : os.length * q ≤ 100000) (x2 : Option Val) (s : S) :
    lcGo2 (loE q n x2 os (some (.d (.int k))) none none) (.nm 6) mYes (mRg1 (mVar 0)) [7] (.nm 7) mYes (mBin .add (mVar 6) (mBin .mul (mVar 7) (mIx (mVar 3) (mVar 5)))) (natD os) [] s =
      .ok ([] ++ (natD os).flatMap fun x => (natD (List.range q)).map (loG (stp q n k) x)) s := by
  have hat : MP.atI (natD ((List.range n).map (stp q n))) (k : Int) = some (.int (stp q n k : Nat)) := by
    rw [natD_at (by simpa using hk)]
    simp
  have hline : (100000 : Nat) ≤ line := by decide
  refine lc2_map (natD os) [] (by rw [natD_len, natD_len, List.length_range, List.length_nil, Nat.zero_add]; exact Nat.le_trans hl hline) (fun x hx => ?_) fun x hx y hy => ?_
  · rw [rg1_ok (j := q) rfl (rgn h.q8), Int.toNat_natCast, rangeI0]
  · obtain ⟨a, _, rfl⟩ := List.mem_map.mp hx
    obtain ⟨b, _, rfl⟩ := List.mem_map.mp hy
    have hm := om_nat (a := b) (b := stp q n k) (Nat.le_trans (stp_le h) (by decide))
    exact bin_eq (i := a) (j := (b * stp q n k : Nat)) rfl (bin_eq (i := b) (j := (stp q n k : Nat)) rfl (ix_lst rfl rfl hat) hm) (by rw [oadd]; simp)
theorem loN_eq (q n k : Nat) (os : List Nat) : ((natD os).flatMap fun x => (natD (List.range q)).map (loG (stp q n k) x)) = natD (loN q n k os) := by
  unfold natD loN
  rw [List.map_flatMap, List.flatMap_map]
  congr 1
  funext o
  rw [List.map_map, List.map_map]
  refine List.map_congr_left fun l _ => ?_
  simp [loG]
def loM : ME := (mLc2 [6, 7] (.nm 6) (mItV (mVar 4)) mYes (mRg1 (mVar 0)) [7] (.nm 7) mYes (mBin .add (mVar 6) (mBin .mul (mVar 7) (mIx (mVar 3) (mVar 5)))))
theorem lc2_eq {own own1 : List Nat} {tg tg1 : Tg} {it it1 : MI} {t t1 : MT} {m : ME} {e : MP.Env} {s : S} {xs ys : List D} (h : it e s = .ok xs s) (h2 : lcGo2 (wipe e own) tg t it1 own1 tg1 t1 m xs [] s = .ok ys s) : mLc2 own tg it t it1 own1 tg1 t1 m e s = .ok (.d (.lst ys)) s := by
  unfold mLc2
  rw [h]
  simp only [R.bind_ok]
  rw [h2]
  rfl
theorem lo_m {q n k : Nat} (h : QN q n) (hk : k < n) {os : List Nat} (hl : os.length * q ≤ 100000) (x2 x6 x7 : Option Val) (s : S) : loM (loE q n x2 os (some (.d (.int k))) x6 x7) s = .ok (.d (.lst (natD (loN q n k os)))) s := by
  rw [← loN_eq]
  have hw : wipe (loE q n x2 os (some (.d (.int k))) x6 x7) [6, 7] = loE q n x2 os (some (.d (.int k))) none none := rfl
  have hg := lo_go h hk hl x2 s
  rw [← hw, List.nil_append] at hg
  exact lc2_eq (it := mItV (mVar 4)) rfl hg
theorem lo_turn {q n k : Nat} (h : QN q n) (hk : k < n) {os : List Nat} (hl : os.length * q ≤ 100000) (x2 x6 x7 : Option Val) (s : S) :
    loB (loE q n x2 os (some (.d (.int k))) x6 x7) s = .nxt (loE q n x2 (loN q n k os) (some (.d (.int k))) x6 x7) s := by
  have e0 : loB = mSeq (mAsg 4 loM) mPass := rfl
  have e1 : mAsg 4 loM (loE q n x2 os (some (.d (.int k))) x6 x7) s = .nxt (loE q n x2 (loN q n k os) (some (.d (.int k))) x6 x7) s := by
    unfold mAsg
    rw [lo_m h hk hl]
    rfl
  rw [e0, seq_nxt e1]
  rfl
theorem lo_loop {q n : Nat} (h : QN q n) (x2 : Option Val) (s : S) : ∀ (ks os : List Nat) (x5 x6 x7 : Option Val), (∀ k ∈ ks, k < n) → os.length * q ^ ks.length ≤ 1024 →
    ∃ x5' x6' x7', forGo (.nm 5) loB (natD ks) [some (.d (.int q)), some (.d (.int n)), x2, some (.d (.lst (natD ((List.range n).map (stp q n))))), some (.d (.lst (natD os))), x5, x6, x7] s = .nxt [some (.d (.int q)), some (.d (.int n)), x2, some (.d (.lst (natD ((List.range n).map (stp q n))))), some (.d (.lst (natD (offN q n os ks)))), x5', x6', x7'] s
  | [], os, x5, x6, x7, _, _ => ⟨x5, x6, x7, rfl⟩
  | k :: ks, os, x5, x6, x7, hk, hl => by
    rw [List.length_cons, Nat.pow_succ] at hl
    have hl2 : os.length * q ≤ 1024 := by
      refine Nat.le_trans ?_ hl
      rw [Nat.mul_comm (q ^ ks.length) q, ← Nat.mul_assoc]
      exact Nat.le_mul_of_pos_right _ (Nat.pow_pos h.q1)
    have e0 : forGo (.nm 5) loB (natD (k :: ks)) [some (.d (.int q)), some (.d (.int n)), x2, some (.d (.lst (natD ((List.range n).map (stp q n))))), some (.d (.lst (natD os))), x5, x6, x7] s = (match loB [some (.d (.int q)), some (.d (.int n)), x2, some (.d (.lst (natD ((List.range n).map (stp q n))))), some (.d (.lst (natD os))), some (.d (.int k)), x6, x7] s with
      | .nxt e s => forGo (.nm 5) loB (natD ks) e s
      | .cnt e s => forGo (.nm 5) loB (natD ks) e s
      | .brk e s => .nxt e s
      | r => r) := rfl
    rw [e0, lo_turn h (hk k List.mem_cons_self) (by omega)]
    refine lo_loop h x2 s ks _ _ _ _ (fun k' hk' => hk k' (List.mem_cons_of_mem _ hk')) ?_
    unfold loN
    rw [List.length_flatMap]
    simp only [List.length_map, List.length_range]
    rw [List.map_const', List.sum_replicate_nat, Nat.mul_assoc, Nat.mul_comm q]
    exact hl
theorem rest_len {n s : Nat} (hs : s < n) : (restN n s).length + 1 = n := by
  have h1 : ∀ l : List Nat, (l.filter fun a => a != s).length + l.count s = l.length := fun l => by
    induction l with
    | nil => rfl
    | cons a l ih =>
      rw [List.filter_cons, List.count_cons, List.length_cons]
      by_cases ha : a = s
      · subst ha; simp; omega
      · have : (a != s) = true := by simpa using ha
        rw [if_pos this, List.length_cons]
        have : (a == s) = false := by simpa using ha
        rw [this]; simp; omega
  have h2 := h1 (List.range n)
  rw [List.length_range] at h2
  have h3 : (List.range n).count s = 1 := by
    have nd : (List.range n).Nodup := List.nodup_range
    rw [nd.count, if_pos (List.mem_range.mpr hs)]
  rw [h3] at h2
  exact h2
theorem offsets_ok {q n k : Nat} (h : QN q n) (hk : k < n) : f_lot_offsets [.int q, .int n, .tup (natD (restN n k))] = .ok (.lst (natD (starts q n k))) := by
  have hl := rest_len hk
  obtain ⟨x5, x6, x7, e⟩ := lo_loop h (some (.d (.tup (natD (restN n k))))) [] (restN n k) [0] none none none (fun a ha => List.mem_range.mp (List.mem_filter.mp ha).1) (by
    rw [List.length_singleton, Nat.one_mul]
    exact Nat.le_trans (Nat.pow_le_pow_right h.q1 (by omega)) h.le)
  rw [offN_eq h hk] at e
  unfold f_lot_offsets
  refine runP_ret (s := []) ?_
  have e0 : m_lot_offsets = mSeq (mAsg 3 (mCall fk_steps_of (mCons (mVar 0) (mCons (mVar 1) mNil)))) (mSeq (mAsg 4 (mLst (mCons (mCon (.int 0)) mNil))) (mSeq (mFor (.nm 5) (mItV (mVar 2)) loB) (mSeq (mRet (mVar 4)) mPass))) := rfl
  have e1 : mAsg 3 (mCall fk_steps_of (mCons (mVar 0) (mCons (mVar 1) mNil))) (initE 8 ([D.int q, .int n, .tup (natD (restN n k))].map .d)) [] = .nxt [some (.d (.int q)), some (.d (.int n)), some (.d (.tup (natD (restN n k)))), some (.d (.lst (natD ((List.range n).map (stp q n))))), none, none, none, none] [] := by
    exact asg_ok (call_ok (xs := [.int q, .int n]) rfl rfl (steps_ok h.q8 h.n8))
  have e2 : mAsg 4 (mLst (mCons (mCon (.int 0)) mNil)) [some (.d (.int q)), some (.d (.int n)), some (.d (.tup (natD (restN n k)))), some (.d (.lst (natD ((List.range n).map (stp q n))))), none, none, none, none] [] = .nxt [some (.d (.int q)), some (.d (.int n)), some (.d (.tup (natD (restN n k)))), some (.d (.lst (natD ((List.range n).map (stp q n))))), some (.d (.lst (natD [0]))), none, none, none] [] := rfl
  rw [e0, seq_nxt e1, seq_nxt e2, seq_for (s1 := []) (xs := natD (restN n k)) rfl, e]
  rfl
end MPL
end

section
set_option Elab.async false
set_option linter.all false
set_option maxRecDepth 100000
set_option maxHeartbeats 4000000
namespace MPL
open PySem MP
/-! ### lists of ints are compared -/
theorem eqvAll_zs : ∀ a b : List Int, PyData.eqvAll (D.pys (zs a)) (D.pys (zs b)) = decide (a = b)
  | [], [] => by simp [zs, D.pys, PyData.eqvAll]
  | [], y :: b => by simp [zs, D.pys, PyData.eqvAll]
  | x :: a, [] => by simp [zs, D.pys, PyData.eqvAll]
  | x :: a, y :: b => by
    have ih := eqvAll_zs a b
    show PyData.eqvAll (D.py (.int x) :: D.pys (zs a)) (D.py (.int y) :: D.pys (zs b)) = _
    rw [PyData.eqvAll, ih]
    show (PyData.eqv (.int x) (.int y) && _) = _
    rw [PyData.eqv]
    by_cases h : x = y
    · subst h; simp
    · simp [h]
theorem canAll_zs : ∀ a : List Int, PyData.canLayAll0 (D.pys (zs a)) = true
  | [] => by simp [zs, D.pys, PyData.canLayAll0]
  | x :: a => by
    show PyData.canLayAll0 (.int x :: D.pys (zs a)) = true
    rw [PyData.canLayAll0, canAll_zs a, PyData.canLay0]
    rfl
theorem depthAll_zs : ∀ a : List Int, PyData.depthAll (D.pys (zs a)) = 0
  | [] => by simp [zs, D.pys, PyData.depthAll]
  | x :: a => by
    show PyData.depthAll (.int x :: D.pys (zs a)) = 0
    rw [PyData.depthAll, depthAll_zs a, PyData.depth]
    rfl
theorem shaped_lst (a : List Int) : SeqAt.shaped (D.py (.lst (zs a))) = true := by
  unfold SeqAt.shaped
  show (PyData.canLay0 (.list (D.pys (zs a))) && decide (PyData.depth (.list (D.pys (zs a))) ≤ 64)) = true
  rw [PyData.canLay0, canAll_zs, PyData.depth, depthAll_zs]
  rfl
theorem shaped_tup (a : List Int) : SeqAt.shaped (D.py (.tup (zs a))) = true := by
  unfold SeqAt.shaped
  show (PyData.canLay0 (.tuple (D.pys (zs a))) && decide (PyData.depth (.tuple (D.pys (zs a))) ≤ 64)) = true
  rw [PyData.canLay0, canAll_zs, PyData.depth, depthAll_zs]
  rfl
theorem eq_lst (a b : List Int) : eqD (.lst (zs a)) (.lst (zs b)) = some (decide (a = b)) := by
  have e : eqD (.lst (zs a)) (.lst (zs b)) = if SeqAt.shaped (D.py (.lst (zs a))) && SeqAt.shaped (D.py (.lst (zs b))) then some (PyData.eqv (D.py (.lst (zs a))) (D.py (.lst (zs b)))) else none := rfl
  rw [e, shaped_lst, shaped_lst]
  show some (PyData.eqv (.list (D.pys (zs a))) (.list (D.pys (zs b)))) = _
  rw [PyData.eqv, eqvAll_zs]
theorem flat_zs : ∀ l : List Int, (zs l).all flat = true
  | [] => rfl
  | x :: l => by show (flat (.int x) && (zs l).all flat) = true; rw [flat_zs l]; rfl
theorem any_zs (x : Int) : ∀ l : List Int, ((zs l).any fun y => eqF y (.int x)) = decide (x ∈ l)
  | [] => by simp [zs]
  | y :: l => by
    show (eqF (.int y) (.int x) || (zs l).any fun y => eqF y (.int x)) = _
    rw [any_zs x l]
    show ((y == x) || decide (x ∈ l)) = _
    by_cases h : x = y
    · subst h; simp
    · have h' : (y == x) = false := by simpa using Ne.symm h
      simp [h', h]
theorem in_zs (x : Int) (l : List Int) : inD (.int x) (.lst (zs l)) = some (decide (x ∈ l)) := by
  show (if flat (.int x) && (zs l).all flat then some ((zs l).any fun y => eqF y (.int x)) else none) = _
  rw [flat_zs, any_zs]
  rfl
theorem in_zsT (x : Int) (l : List Int) : inD (.int x) (.tup (zs l)) = some (decide (x ∈ l)) := by
  show (if flat (.int x) && (zs l).all flat then some ((zs l).any fun y => eqF y (.int x)) else none) = _
  rw [flat_zs, any_zs]
  rfl
/-! ### lines -/
/-- a row of letters -/
structure Row (q n : Nat) (L : List Int) : Prop where
  len : L.length = q ^ n
  let_ : ∀ y ∈ L, 0 ≤ y ∧ y < q
def lineL (q : Nat) (L : List Int) (st a : Nat) : List Int := (List.range q).map fun x => L.getD (a + x * st) 0
def bad (q : Nat) (L : List Int) (st a : Nat) : Bool := (List.range q).any fun x => !decide ((x : Int) ∈ lineL q L st a)
def badAt (q n : Nat) (L : List Int) (s a : Nat) : Bool := (a / stp q n s % q == 0) && bad q L (stp q n s) a
def faultIn (q n : Nat) (L : List Int) (s : Nat) : Option Nat := (List.range (q ^ n)).find? (badAt q n L s)
def retD (q n : Nat) (s a : Nat) : D := .tup [.int (s : Int), .tup (zs (fil q n (a : Int)))]
def faultS (q n : Nat) (L : List Int) (s : Nat) : D := match faultIn q n L s with
  | some a => retD q n s a
  | none => .non
def faultD (q n : Nat) (L : List Int) : D := match (List.range n).find? fun s => (faultIn q n L s).isSome with
  | some s => faultS q n L s
  | none => .non
theorem stp_pos {q n s : Nat} (h : QN q n) : 0 < stp q n s := Nat.pow_pos h.q1
theorem stp_mul {q n s : Nat} (hs : s < n) : stp q n s * q * q ^ s = q ^ n := by
  unfold stp
  rw [← Nat.pow_succ, ← Nat.pow_add]
  congr 1
  omega
/-- a line stays in the row -/
theorem line_lt {q n s a x : Nat} (h : QN q n) (hs : s < n) (ha : a < q ^ n) (h0 : a / stp q n s % q = 0) (hx : x < q) : a + x * stp q n s < q ^ n := by
  have hp := stp_pos (s := s) h
  have h1 : a / stp q n s < q * q ^ s := by
    rw [Nat.div_lt_iff_lt_mul hp, Nat.mul_comm, ← Nat.mul_assoc, stp_mul hs]
    exact ha
  obtain ⟨k, hk⟩ : ∃ k, a / stp q n s = q * k := ⟨a / stp q n s / q, by rw [Nat.mul_div_cancel' (Nat.dvd_of_mod_eq_zero h0)]⟩
  rw [hk] at h1
  have h2 : k < q ^ s := Nat.lt_of_mul_lt_mul_left h1
  have h3 : a < stp q n s * (q * k + 1) := by
    have := Nat.lt_mul_div_succ a hp
    rw [hk] at this
    exact this
  have h4 : q * k + 1 + x ≤ q * q ^ s := by
    have : q * (k + 1) ≤ q * q ^ s := Nat.mul_le_mul_left q h2
    rw [Nat.mul_succ] at this
    omega
  calc a + x * stp q n s < stp q n s * (q * k + 1) + x * stp q n s := by omega
    _ = stp q n s * (q * k + 1 + x) := by rw [Nat.mul_add _ (q * k + 1), Nat.mul_comm x]
    _ ≤ stp q n s * (q * q ^ s) := Nat.mul_le_mul_left _ h4
    _ = q ^ n := by rw [← Nat.mul_assoc, stp_mul hs]
theorem zs_at {L : List Int} {k : Nat} (h : k < L.length) : MP.atI (zs L) (k : Int) = some (.int (L.getD k 0)) := by
  unfold MP.atI MP.ixN
  rw [if_pos (by omega), zs_len, if_pos (by omega)]
  show (zs L)[((k : Int)).toNat]? = _
  rw [Int.toNat_natCast]
  unfold zs
  rw [List.getElem?_map, List.getElem?_eq_getElem h, List.getD_eq_getElem?_getD, List.getElem?_eq_getElem h]
  rfl
def getG (L : List Int) (st a : Nat) (y : D) : D := match y with
  | .int b => .int (L.getD (a + b.toNat * st) 0)
  | _ => .non
theorem getG_map (q : Nat) (L : List Int) (st a : Nat) : (natD (List.range q)).map (getG L st a) = zs (lineL q L st a) := by
  unfold natD zs lineL
  rw [List.map_map, List.map_map]
  refine List.map_congr_left fun x _ => ?_
  simp [getG]
/-- a line's letters are read -/
theorem line_read {q n s a : Nat} {L : List Int} (h : QN q n) (r : Row q n L) (hs : s < n) (ha : a < q ^ n) (h0 : a / stp q n s % q = 0) {own : List Nat} {i : Nat} {it : MI} {m : ME} {e : MP.Env} {S1 : S} (hi : it e S1 = .ok (natD (List.range q)) S1)
    (hm : ∀ x : Nat, x < q → MP.atI (zs L) ((a + x * stp q n s : Nat) : Int) = some (.int (L.getD (a + x * stp q n s) 0)) → m ((wipe e own).set i (some (.d (.int (x : Int))))) S1 = .ok (.d (.int (L.getD (a + x * stp q n s) 0))) S1) :
    mLc own (.nm i) it mYes m e S1 = .ok (.d (.lst (zs (lineL q L (stp q n s) a)))) S1 := by
  rw [← getG_map]
  refine mLc_map hi fun y hy => ?_
  obtain ⟨x, hx, rfl⟩ := List.mem_map.mp hy
  have hx := List.mem_range.mp hx
  have hlt : a + x * stp q n s < L.length := by rw [r.len]; exact line_lt h hs ha h0 hx
  rw [hm x hx (zs_at hlt)]
  simp [getG]
theorem lineL_len (q : Nat) (L : List Int) (st a : Nat) : (lineL q L st a).length = q := by unfold lineL; simp
theorem perm_of_sub : ∀ {a b : List Int}, a.Nodup → (∀ z ∈ a, z ∈ b) → b.length ≤ a.length → a.Perm b
  | [], b, _, _, hl => by rw [List.eq_nil_of_length_eq_zero (Nat.le_zero.mp hl)]
  | x :: a, b, nd, hs, hl => by
    obtain ⟨n1, n2⟩ := List.nodup_cons.mp nd
    have hx : x ∈ b := hs x List.mem_cons_self
    have p := List.perm_cons_erase hx
    have hl2 := p.length_eq
    rw [List.length_cons] at hl hl2
    refine (List.Perm.cons x (perm_of_sub n2 (fun z hz => ?_) (by omega))).trans p.symm
    have hne : z ≠ x := fun e => n1 (e ▸ hz)
    exact (List.mem_erase_of_ne hne).mpr (hs z (List.mem_cons_of_mem _ hz))
/-- sorted(line) != letters, exactly if a letter is missing -/
theorem sorted_bad {q : Nat} {L : List Int} {st a : Nat} (hl : ∀ y ∈ lineL q L st a, 0 ≤ y ∧ y < q) : decide (sortI (lineL q L st a) = (List.range q).map fun (x : Nat) => (x : Int)) = !bad q L st a := by
  have key : (sortI (lineL q L st a) = (List.range q).map fun (x : Nat) => (x : Int)) ↔ bad q L st a = false := by
    unfold bad
    rw [List.any_eq_false]
    constructor
    · intro e x hx
      have h1 : (x : Int) ∈ sortI (lineL q L st a) := by rw [e]; exact List.mem_map.mpr ⟨x, hx, rfl⟩
      have h2 := (sortI_perm (lineL q L st a)).mem_iff.mp h1
      simp [h2]
    · intro hall
      have sub : ∀ z ∈ ((List.range q).map fun (x : Nat) => (x : Int)), z ∈ lineL q L st a := fun z hz => by
        obtain ⟨x, hx, rfl⟩ := List.mem_map.mp hz
        have := hall x hx
        simpa using this
      have nd : ((List.range q).map fun (x : Nat) => (x : Int)).Nodup := by
        rw [List.Nodup, List.pairwise_map]
        exact List.nodup_range.imp fun h e => h (by exact_mod_cast e)
      have pm := perm_of_sub nd sub (by rw [lineL_len]; simp)
      refine sorted_uniq ((sortI_perm _).trans pm.symm) (sortI_sorted _) ?_
      rw [List.pairwise_map]
      exact List.pairwise_lt_range.imp fun h => by omega
  cases hb : bad q L st a with
  | true =>
    rw [hb] at key
    exact decide_eq_false fun e => by simpa using key.mp e
  | false =>
    rw [hb] at key
    exact decide_eq_true (key.mpr rfl)
theorem line_letters {q n s a : Nat} {L : List Int} (h : QN q n) (r : Row q n L) (hs : s < n) (ha : a < q ^ n) (h0 : a / stp q n s % q = 0) : ∀ y ∈ lineL q L (stp q n s) a, 0 ≤ y ∧ y < q := fun y hy => by
  unfold lineL at hy
  obtain ⟨x, hx, rfl⟩ := List.mem_map.mp hy
  have hlt : a + x * stp q n s < L.length := by rw [r.len]; exact line_lt h hs ha h0 (List.mem_range.mp hx)
  rw [List.getD_eq_getElem?_getD, List.getElem?_eq_getElem hlt]
  exact r.let_ _ (List.getElem_mem hlt)
end MPL
end

section
set_option Elab.async false
set_option linter.all false
set_option maxRecDepth 100000
set_option maxHeartbeats 4000000
namespace MPL
open PySem MP
theorem cmp_ok {o : Cmp} {a b : ME} {e : MP.Env} {s : S} {x y : D} {r : Bool} (ha : a e s = .ok (.d x) s) (hb : b e s = .ok (.d y) s) (h : cmpD o x y = some r) : mCmp o a b e s = .ok r s := by
  unfold mCmp
  rw [ha]
  simp only [R.bind_ok]
  rw [hb]
  simp only [R.bind_ok, rd_d, h, R.of_some]
theorem b1_ok {o : B1} {a : ME} {e : MP.Env} {s : S} {x y : D} (ha : a e s = .ok (.d x) s) (h : b1 o x = some y) : mB1 o a e s = .ok (.d y) s := by
  unfold mB1
  rw [ha]
  simp only [R.bind_ok]
  have e1 : b1V o s (.d x) = (b1 o x).map .d := rfl
  rw [e1, h]
  rfl
theorem if_t {t : MT} {a b : MS} {e : MP.Env} {s s1 : S} (h : t e s = .ok true s1) : mIf t a b e s = a e s1 := by
  unfold mIf
  rw [h]
  rfl
theorem if_f {t : MT} {a b : MS} {e : MP.Env} {s s1 : S} (h : t e s = .ok false s1) : mIf t a b e s = b e s1 := by
  unfold mIf
  rw [h]
  rfl
theorem tru_bl {a : ME} {e : MP.Env} {s s1 : S} {b : Bool} (h : a e s = .ok (.d (.bl b)) s1) : mTru a e s = .ok b s1 := by
  unfold mTru
  rw [h]
  rfl
theorem bl_ok {t : MT} {e : MP.Env} {s s1 : S} {b : Bool} (h : t e s = .ok b s1) : mBl t e s = .ok (.d (.bl b)) s1 := by
  unfold mBl
  rw [h]
  rfl
theorem not_ok {t : MT} {e : MP.Env} {s s1 : S} {b : Bool} (h : t e s = .ok b s1) : mNot t e s = .ok (!b) s1 := by
  unfold mNot
  rw [h]
  rfl
theorem nil_d {e : MP.Env} {s : S} : mNil e s = .ok (([] : List D).map Val.d) s := rfl
theorem cons_d {a : ME} {l : ML} {e : MP.Env} {s s1 s2 : S} {x : D} {xs : List D} (ha : a e s = .ok (.d x) s1) (hl : l e s1 = .ok (xs.map Val.d) s2) : mCons a l e s = .ok ((x :: xs).map Val.d) s2 := by
  unfold mCons
  rw [ha]
  simp only [R.bind_ok]
  rw [hl]
  rfl
theorem tup_d {l : ML} {e : MP.Env} {s s1 : S} {xs : List D} (hl : l e s = .ok (xs.map Val.d) s1) (hz : xs.length ≤ line) : mTup l e s = .ok (.d (.tup xs)) s1 := by
  unfold mTup
  rw [hl]
  simp only [R.bind_ok]
  rw [datas_map]
  show (if xs.length ≤ line then R.ok (Val.d (.tup xs)) s1 else .stuck) = _
  rw [if_pos hz]
theorem lst_d {l : ML} {e : MP.Env} {s s1 : S} {xs : List D} (hl : l e s = .ok (xs.map Val.d) s1) (hz : xs.length ≤ line) : mLst l e s = .ok (.d (.lst xs)) s1 := by
  unfold mLst
  rw [hl]
  simp only [R.bind_ok]
  rw [datas_map]
  show (if xs.length ≤ line then R.ok (Val.d (.lst xs)) s1 else .stuck) = _
  rw [if_pos hz]
theorem le_line {k : Nat} (h : k ≤ 100000) : k ≤ line := Nat.le_trans h (by decide)
theorem intsD_zs : ∀ l : List Int, intsD (zs l) = some l
  | [] => rfl
  | x :: l => by show (intsD (zs l)).map (x :: ·) = _; rw [intsD_zs l]; rfl
theorem natD_zs (l : List Nat) : natD l = zs (l.map fun (a : Nat) => (a : Int)) := by unfold natD zs; rw [List.map_map]; rfl
theorem b1_sorted (l : List Int) : b1 .sorted (.lst (zs l)) = some (.lst (zs (sortI l))) := by
  show (match items (.lst (zs l)) with
    | some xs => (intsD xs).map fun ns => D.lst ((sortI ns).map .int)
    | none => none) = _
  show (intsD (zs l)).map _ = _
  rw [intsD_zs]
  rfl
theorem some_no {o : Option Nat} (h : o.isSome = false) : o = none := by
  cases o with
  | none => rfl
  | some a => cases h
theorem find_filter {p f : Nat → Bool} : ∀ l : List Nat, (l.filter p).find? f = l.find? fun a => p a && f a
  | [] => rfl
  | a :: l => by
    rw [List.filter_cons, List.find?_cons]
    cases hp : p a with
    | true =>
      rw [if_pos rfl, List.find?_cons, find_filter l, Bool.true_and]
    | false =>
      rw [if_neg Bool.false_ne_true, find_filter l, Bool.false_and]
theorem fault_starts (q n : Nat) (L : List Int) (s : Nat) : (starts q n s).find? (bad q L (stp q n s)) = faultIn q n L s := find_filter _
/-! ### the program -/
abbrev pE (q n : Nat) (L : List Int) (x5 x6 x7 : Option Val) : MP.Env := [some (.d (.int q)), some (.d (.int n)), some (.d (.tup (zs L))), some (.d (.lst (natD ((List.range n).map (stp q n))))), some (.d (.lst (natD (List.range q)))), x5, x6, x7, none]
def pLine : ME := (mLc [8] (.nm 8) (mItV (mVar 4)) mYes (mIx (mVar 2) (mBin .add (mVar 6) (mBin .mul (mVar 8) (mIx (mVar 3) (mVar 5))))))
def pRet : MS := (mSeq (mRet (mTup (mCons (mVar 5) (mCons (mCall fk_letters_at (mCons (mVar 0) (mCons (mVar 1) (mCons (mVar 6) mNil)))) mNil)))) mPass)
def pInn : MS := (mSeq (mAsg 7 pLine) (mSeq (mIf (mCmp .ne (mB1 .sorted (mVar 7)) (mVar 4)) pRet mPass) mPass))
def pIt : MI := (mItV (mCall fk_lot_offsets (mCons (mVar 0) (mCons (mVar 1) (mCons (mCall fk_rest_of (mCons (mVar 1) (mCons (mTup (mCons (mVar 5) mNil)) mNil))) mNil)))))
def pOut : MS := (mSeq (mFor (.nm 6) pIt pInn) mPass)
theorem p_eq : m_line_fault = (mSeq (mAsg 3 (mCall fk_steps_of (mCons (mVar 0) (mCons (mVar 1) mNil)))) (mSeq (mAsg 4 (mLstI (mRg1 (mVar 0)))) (mSeq (mFor (.nm 5) (mRg1 (mVar 1)) pOut) (mSeq (mRet (mCon .non)) mPass)))) := rfl
variable {q n : Nat} {L : List Int}
theorem steps_at (k : Nat) (hk : k < n) : MP.atI (natD ((List.range n).map (stp q n))) (k : Int) = some (.int (stp q n k : Nat)) := by
  rw [natD_at (by simpa using hk)]
  simp
theorem p_line (h : QN q n) (r : Row q n L) {k a : Nat} (hk : k < n) (ha : a < q ^ n) (h0 : a / stp q n k % q = 0) (x7 : Option Val) (s : S) :
    pLine (pE q n L (some (.d (.int k))) (some (.d (.int a))) x7) s = .ok (.d (.lst (zs (lineL q L (stp q n k) a)))) s := by
  unfold pLine
  refine line_read h r hk ha h0 rfl fun x hx hat => ?_
  have hm := om_nat (a := x) (b := stp q n k) (Nat.le_trans (stp_le h) (by decide))
  exact ix_tup rfl (bin_eq (i := a) (j := (x * stp q n k : Nat)) rfl (bin_eq (i := x) (j := (stp q n k : Nat)) rfl (ix_lst rfl rfl (steps_at k hk)) hm) (by rw [oadd, Int.natCast_add])) hat
theorem p_ret (h : QN q n) {k a : Nat} (x7 : Option Val) (s : S) : pRet (pE q n L (some (.d (.int k))) (some (.d (.int a))) x7) s = .ret (.d (retD q n k a)) s := by
  have hc : mCall fk_letters_at (mCons (mVar 0) (mCons (mVar 1) (mCons (mVar 6) mNil))) (pE q n L (some (.d (.int k))) (some (.d (.int a))) x7) s = .ok (.d (.tup (zs (fil q n a)))) s := call_ok (xs := [.int q, .int n, .int a]) rfl rfl (letters_at_ok ⟨h.q1, h.q8⟩ h.n8 a)
  exact seq_ret (ret_ok (s1 := s) (tup_d (xs := [.int k, .tup (zs (fil q n a))]) (cons_d rfl (cons_d hc nil_d)) (le_line (by simp))))
theorem p_inn (h : QN q n) (r : Row q n L) {k a : Nat} (hk : k < n) (ha : a < q ^ n) (h0 : a / stp q n k % q = 0) (x7 : Option Val) (s : S) :
    (bad q L (stp q n k) a = true → pInn (pE q n L (some (.d (.int k))) (some (.d (.int a))) x7) s = .ret (.d (retD q n k a)) s) ∧
    (bad q L (stp q n k) a = false → pInn (pE q n L (some (.d (.int k))) (some (.d (.int a))) x7) s = .nxt (pE q n L (some (.d (.int k))) (some (.d (.int a))) (some (.d (.lst (zs (lineL q L (stp q n k) a)))))) s) := by
  have e1 : mAsg 7 pLine (pE q n L (some (.d (.int k))) (some (.d (.int a))) x7) s = .nxt (pE q n L (some (.d (.int k))) (some (.d (.int a))) (some (.d (.lst (zs (lineL q L (stp q n k) a)))))) s := asg_ok (p_line h r hk ha h0 x7 s)
  have e2 : mCmp .ne (mB1 .sorted (mVar 7)) (mVar 4) (pE q n L (some (.d (.int k))) (some (.d (.int a))) (some (.d (.lst (zs (lineL q L (stp q n k) a)))))) s = .ok (bad q L (stp q n k) a) s := by
    refine cmp_ok (b1_ok rfl (b1_sorted _)) rfl ?_
    show (eqD _ _).map _ = _
    rw [natD_zs, eq_lst, sorted_bad (line_letters h r hk ha h0)]
    simp
  unfold pInn
  rw [seq_nxt e1]
  constructor
  · intro hb
    rw [hb] at e2
    exact seq_ret (by rw [if_t e2]; exact p_ret h _ s)
  · intro hb
    rw [hb] at e2
    have e3 : mIf (mCmp .ne (mB1 .sorted (mVar 7)) (mVar 4)) pRet mPass (pE q n L (some (.d (.int k))) (some (.d (.int a))) (some (.d (.lst (zs (lineL q L (stp q n k) a)))))) s = .nxt (pE q n L (some (.d (.int k))) (some (.d (.int a))) (some (.d (.lst (zs (lineL q L (stp q n k) a)))))) s := if_f e2
    rw [seq_nxt e3]
    rfl
theorem p_it (h : QN q n) {k : Nat} (hk : k < n) (x6 x7 : Option Val) (s : S) : pIt (pE q n L (some (.d (.int k))) x6 x7) s = .ok (natD (starts q n k)) s := by
  have e1 : mCall fk_rest_of (mCons (mVar 1) (mCons (mTup (mCons (mVar 5) mNil)) mNil)) (pE q n L (some (.d (.int k))) x6 x7) s = .ok (.d (.tup (natD (restN n k)))) s := call_ok (xs := [.int n, .tup [.int k]]) rfl rfl (rest_ok h.n8 hk)
  have e2 : (mCons (mVar 0) (mCons (mVar 1) (mCons (mCall fk_rest_of (mCons (mVar 1) (mCons (mTup (mCons (mVar 5) mNil)) mNil))) mNil))) (pE q n L (some (.d (.int k))) x6 x7) s = .ok ([D.int q, .int n, .tup (natD (restN n k))].map Val.d) s := by
    exact cons_d rfl (cons_d rfl (cons_d e1 nil_d))
  have e3 : mCall fk_lot_offsets (mCons (mVar 0) (mCons (mVar 1) (mCons (mCall fk_rest_of (mCons (mVar 1) (mCons (mTup (mCons (mVar 5) mNil)) mNil))) mNil))) (pE q n L (some (.d (.int k))) x6 x7) s = .ok (.d (.lst (natD (starts q n k)))) s := call_ok e2 rfl (offsets_ok h hk)
  unfold pIt mItV
  rw [e3]
  rfl
theorem p_out (h : QN q n) (r : Row q n L) {k : Nat} (hk : k < n) (x6 x7 : Option Val) (s : S) :
    ((faultIn q n L k).isSome = true → pOut (pE q n L (some (.d (.int k))) x6 x7) s = .ret (.d (faultS q n L k)) s) ∧
    ((faultIn q n L k).isSome = false → ∃ y6 y7, pOut (pE q n L (some (.d (.int k))) x6 x7) s = .nxt (pE q n L (some (.d (.int k))) y6 y7) s) := by
  obtain ⟨f1, f2⟩ := for_find (i := 6) (b := pInn) (P := bad q L (stp q n k)) (ret := retD q n k) (Inv := fun e => ∃ y6 y7, e = pE q n L (some (.d (.int k))) y6 y7) (s := s) (starts q n k) (pE q n L (some (.d (.int k))) x6 x7) (fun a ha e ⟨y6, y7, he⟩ => by
    subst he
    obtain ⟨ha1, ha2⟩ := List.mem_filter.mp ha
    have h0 : a / stp q n k % q = 0 := by simpa using ha2
    obtain ⟨g1, g2⟩ := p_inn h r hk (List.mem_range.mp ha1) h0 y7 s
    exact ⟨g1, fun hb => ⟨_, g2 hb, _, _, rfl⟩⟩) ⟨x6, x7, rfl⟩
  rw [fault_starts] at f1 f2
  have e0 : pOut (pE q n L (some (.d (.int k))) x6 x7) s = fseq (forGo (.nm 6) pInn (natD (starts q n k)) (pE q n L (some (.d (.int k))) x6 x7) s) mPass := by
    unfold pOut
    rw [seq_for (p_it h hk x6 x7 s)]
  rw [e0]
  constructor
  · intro hs
    obtain ⟨a, ha⟩ := Option.isSome_iff_exists.mp hs
    rw [f1 a ha]
    unfold faultS
    rw [ha]
    rfl
  · intro hs
    obtain ⟨e', h1, y6, y7, h2⟩ := f2 (some_no hs)
    rw [h1, h2]
    exact ⟨y6, y7, rfl⟩
theorem line_fault_ok (h : QN q n) (r : Row q n L) : f_line_fault [.int q, .int n, .tup (zs L)] = .ok (faultD q n L) := by
  obtain ⟨f1, f2⟩ := for_find (i := 5) (b := pOut) (P := fun k => (faultIn q n L k).isSome) (ret := faultS q n L) (Inv := fun e => ∃ y5 y6 y7, e = pE q n L y5 y6 y7) (s := []) (List.range n) (pE q n L none none none) (fun k hk e ⟨y5, y6, y7, he⟩ => by
    subst he
    obtain ⟨g1, g2⟩ := p_out h r (List.mem_range.mp hk) y6 y7 []
    refine ⟨g1, fun hb => ?_⟩
    obtain ⟨z6, z7, hz⟩ := g2 hb
    exact ⟨_, hz, _, _, _, rfl⟩) ⟨_, _, _, rfl⟩
  unfold f_line_fault
  refine runP_ret (s := []) ?_
  rw [p_eq]
  have e1 : mAsg 3 (mCall fk_steps_of (mCons (mVar 0) (mCons (mVar 1) mNil))) (initE 9 ([D.int q, .int n, .tup (zs L)].map .d)) [] = .nxt [some (.d (.int q)), some (.d (.int n)), some (.d (.tup (zs L))), some (.d (.lst (natD ((List.range n).map (stp q n))))), none, none, none, none, none] [] := asg_ok (call_ok (xs := [.int q, .int n]) rfl rfl (steps_ok h.q8 h.n8))
  have e2 : mAsg 4 (mLstI (mRg1 (mVar 0))) [some (.d (.int q)), some (.d (.int n)), some (.d (.tup (zs L))), some (.d (.lst (natD ((List.range n).map (stp q n))))), none, none, none, none, none] [] = .nxt (pE q n L none none none) [] := by
    refine asg_ok (x := .lst (natD (List.range q))) ?_
    unfold mLstI
    rw [rg1_ok (j := q) rfl (rgn h.q8), Int.toNat_natCast, rangeI0]
    rfl
  have e3 : mRg1 (mVar 1) (pE q n L none none none) [] = .ok (natD (List.range n)) [] := by rw [rg1_ok (j := n) rfl (rgn h.n8), Int.toNat_natCast, rangeI0]
  rw [seq_nxt e1, seq_nxt e2, seq_for e3]
  unfold faultD
  cases hf : (List.range n).find? fun k => (faultIn q n L k).isSome with
  | some k => rw [f1 k hf]; rfl
  | none =>
    obtain ⟨e', h1, y5, y6, y7, h2⟩ := f2 hf
    rw [h1, h2]
    rfl
/-! ### the law's own look -/
abbrev lE (q n : Nat) (L : List Int) (x3 x4 x5 x6 : Option Val) : MP.Env := [some (.d (.int q)), some (.d (.int n)), some (.d (.tup (zs L))), x3, x4, x5, x6, none]
def lLine : ME := (mLc [7] (.nm 7) (mRg1 (mVar 0)) mYes (mIx (mVar 2) (mBin .add (mVar 5) (mBin .mul (mVar 7) (mVar 4)))))
def lAny : ME := (mLc [7] (.nm 7) (mRg1 (mVar 0)) mYes (mBl (mCmp .notin (mVar 7) (mVar 6))))
def lRet : MS := (mSeq (mRet (mTup (mCons (mVar 3) (mCons (mCall fk__law_digits_of (mCons (mVar 0) (mCons (mVar 1) (mCons (mVar 5) mNil)))) mNil)))) mPass)
def lInn : MS := (mSeq (mIf (mCmp .eq (mBin .mod (mB1 .int (mBin .fdiv (mVar 5) (mVar 4))) (mVar 0)) (mCon (.int 0))) (mSeq (mAsg 6 lLine) (mSeq (mIf (mTru (mB1 .any lAny)) lRet mPass) mPass)) mPass) mPass)
def lOut : MS := (mSeq (mAsg 4 (mCall fk__law_power (mCons (mVar 0) (mCons (mBin .sub (mBin .sub (mVar 1) (mCon (.int 1))) (mVar 3)) mNil)))) (mSeq (mFor (.nm 5) (mRg1 (mB1 .len (mVar 2))) lInn) mPass))
theorem l_eq : m__law_fault_due = (mSeq (mFor (.nm 3) (mRg1 (mVar 1)) lOut) (mSeq (mRet (mCon .non)) mPass)) := rfl
theorem rgI {m : Nat} (h : m ≤ 1024) {it : ME} {e : MP.Env} {s : S} (hi : it e s = .ok (.d (.int m)) s) : mRg1 it e s = .ok (natD (List.range m)) s := by
  have hr : rgOk 0 (m : Int) = true := by
    unfold rgOk line
    refine decide_eq_true ⟨by decide, by decide, ?_, ?_, ?_⟩
    · have : -(2 ^ 62 : Int) ≤ 0 := by decide
      omega
    · have : (1024 : Int) < 2 ^ 62 := by decide
      omega
    · have : (1024 : Int) ≤ ((16777216 : Nat) : Int) := by decide
      omega
  rw [rg1_ok (j := m) hi hr, Int.toNat_natCast, rangeI0]
theorem l_line (h : QN q n) (r : Row q n L) {k a : Nat} (hk : k < n) (ha : a < q ^ n) (h0 : a / stp q n k % q = 0) (x3 x6 : Option Val) (s : S) :
    lLine (lE q n L x3 (some (.d (.int (stp q n k : Nat)))) (some (.d (.int a))) x6) s = .ok (.d (.lst (zs (lineL q L (stp q n k) a)))) s := by
  unfold lLine
  refine line_read h r hk ha h0 (rgI (m := q) (by have := h.q8; omega) rfl) fun x hx hat => ?_
  have hm := om_nat (a := x) (b := stp q n k) (Nat.le_trans (stp_le h) (by decide))
  exact ix_tup rfl (bin_eq (i := a) (j := (x * stp q n k : Nat)) rfl (bin_eq (i := x) (j := (stp q n k : Nat)) rfl rfl hm) (by rw [oadd, Int.natCast_add])) hat
theorem bools_map {α : Type} (f : α → Bool) : ∀ l : List α, bools (l.map fun x => D.bl (f x)) = some (l.map f)
  | [] => rfl
  | x :: l => by show (bools (l.map fun x => D.bl (f x))).map (f x :: ·) = _; rw [bools_map f l]; rfl
theorem l_any (h : QN q n) (M : List Int) (x3 x4 x5 : Option Val) (s : S) : mB1 .any lAny (lE q n L x3 x4 x5 (some (.d (.lst (zs M))))) s = .ok (.d (.bl ((List.range q).any fun x => !decide ((x : Int) ∈ M)))) s := by
  have e1 : lAny (lE q n L x3 x4 x5 (some (.d (.lst (zs M))))) s = .ok (.d (.lst ((natD (List.range q)).map fun y => match y with
      | .int i => .bl (!decide (i ∈ M))
      | _ => .non))) s := by
    unfold lAny
    refine mLc_map (rgI (m := q) (by have := h.q8; omega) rfl) fun y hy => ?_
    obtain ⟨x, hx, rfl⟩ := List.mem_map.mp hy
    refine bl_ok (cmp_ok (x := .int (x : Int)) (y := .lst (zs M)) rfl rfl ?_)
    show (inD _ _).map _ = _
    rw [in_zs]
    rfl
  refine b1_ok e1 ?_
  have e2 : ((natD (List.range q)).map fun y => match y with
      | .int i => D.bl (!decide (i ∈ M))
      | _ => .non) = (List.range q).map fun (x : Nat) => D.bl (!decide ((x : Int) ∈ M)) := by
    unfold natD
    rw [List.map_map]
    rfl
  rw [e2]
  show (bools _).map _ = _
  rw [bools_map (fun x : Nat => !decide ((x : Int) ∈ M))]
  simp [List.any_map]
theorem bnd_nat {m : Nat} (h : m ≤ 1024) : Bnd (m : Int) := bnd_len (by omega)
theorem l_inn (h : QN q n) (r : Row q n L) {k a : Nat} (hk : k < n) (ha : a < q ^ n) (x6 : Option Val) (s : S) :
    (badAt q n L k a = true → lInn (lE q n L (some (.d (.int k))) (some (.d (.int (stp q n k : Nat)))) (some (.d (.int a))) x6) s = .ret (.d (retD q n k a)) s) ∧
    (badAt q n L k a = false → ∃ y6, lInn (lE q n L (some (.d (.int k))) (some (.d (.int (stp q n k : Nat)))) (some (.d (.int a))) x6) s = .nxt (lE q n L (some (.d (.int k))) (some (.d (.int (stp q n k : Nat)))) (some (.d (.int a))) y6) s) := by
  have e1 : mCmp .eq (mBin .mod (mB1 .int (mBin .fdiv (mVar 5) (mVar 4))) (mVar 0)) (mCon (.int 0)) (lE q n L (some (.d (.int k))) (some (.d (.int (stp q n k : Nat)))) (some (.d (.int a))) x6) s = .ok (a / stp q n k % q == 0) s := by
    have hp : (0 : Int) < (stp q n k : Nat) := by have := stp_pos (s := k) h; omega
    have hb := bnd_nat (stp_le (s := k) h)
    refine cmp_ok (bin_eq (i := ((a / stp q n k : Nat) : Int)) (b1_ok (x := .int ((a / stp q n k : Nat) : Int)) (bin_eq (i := a) (j := (stp q n k : Nat)) rfl rfl (by rw [ofd hp hb]; simp)) rfl) rfl (omod (j := q) (by have := h.q1; omega))) rfl ?_
    show some (((a / stp q n k : Nat) : Int) % (q : Int) == 0) = _
    congr 1
    have : (((a / stp q n k : Nat) : Int) % (q : Int)) = ((a / stp q n k % q : Nat) : Int) := by simp
    rw [this]
    by_cases hz : a / stp q n k % q = 0
    · rw [hz]; rfl
    · have h1 : ((a / stp q n k % q : Nat) : Int) ≠ 0 := by omega
      rw [beq_eq_false_iff_ne.mpr h1, beq_eq_false_iff_ne.mpr hz]
  unfold badAt
  cases hz : (a / stp q n k % q == 0) with
  | false =>
    rw [hz] at e1
    refine ⟨fun z => by simp at z, fun _ => ⟨x6, ?_⟩⟩
    have e2 : mIf (mCmp .eq (mBin .mod (mB1 .int (mBin .fdiv (mVar 5) (mVar 4))) (mVar 0)) (mCon (.int 0))) (mSeq (mAsg 6 lLine) (mSeq (mIf (mTru (mB1 .any lAny)) lRet mPass) mPass)) mPass (lE q n L (some (.d (.int k))) (some (.d (.int (stp q n k : Nat)))) (some (.d (.int a))) x6) s = .nxt (lE q n L (some (.d (.int k))) (some (.d (.int (stp q n k : Nat)))) (some (.d (.int a))) x6) s := if_f e1
    unfold lInn
    rw [seq_nxt e2]
    rfl
  | true =>
    rw [hz] at e1
    have h0 : a / stp q n k % q = 0 := by simpa using hz
    have e2 : mAsg 6 lLine (lE q n L (some (.d (.int k))) (some (.d (.int (stp q n k : Nat)))) (some (.d (.int a))) x6) s = .nxt (lE q n L (some (.d (.int k))) (some (.d (.int (stp q n k : Nat)))) (some (.d (.int a))) (some (.d (.lst (zs (lineL q L (stp q n k) a)))))) s := asg_ok (l_line h r hk ha h0 _ x6 s)
    have e3 := l_any (L := L) h (lineL q L (stp q n k) a) (some (.d (.int k))) (some (.d (.int (stp q n k : Nat)))) (some (.d (.int a))) s
    have e4 : mTru (mB1 .any lAny) (lE q n L (some (.d (.int k))) (some (.d (.int (stp q n k : Nat)))) (some (.d (.int a))) (some (.d (.lst (zs (lineL q L (stp q n k) a)))))) s = .ok (bad q L (stp q n k) a) s := tru_bl e3
    rw [Bool.true_and]
    have hc : mCall fk__law_digits_of (mCons (mVar 0) (mCons (mVar 1) (mCons (mVar 5) mNil))) (lE q n L (some (.d (.int k))) (some (.d (.int (stp q n k : Nat)))) (some (.d (.int a))) (some (.d (.lst (zs (lineL q L (stp q n k) a)))))) s = .ok (.d (.tup (zs (fil q n a)))) s := call_ok (xs := [.int q, .int n, .int a]) rfl rfl (law_digits_ok ⟨h.q1, h.q8⟩ h.n8 a)
    have e5 : lRet (lE q n L (some (.d (.int k))) (some (.d (.int (stp q n k : Nat)))) (some (.d (.int a))) (some (.d (.lst (zs (lineL q L (stp q n k) a)))))) s = .ret (.d (retD q n k a)) s := seq_ret (ret_ok (s1 := s) (tup_d (xs := [.int k, .tup (zs (fil q n a))]) (cons_d rfl (cons_d hc nil_d)) (le_line (by simp))))
    constructor
    · intro hb
      rw [hb] at e4
      unfold lInn
      refine seq_ret ?_
      rw [if_t e1, seq_nxt e2]
      exact seq_ret (by rw [if_t e4]; exact e5)
    · intro hb
      rw [hb] at e4
      refine ⟨some (.d (.lst (zs (lineL q L (stp q n k) a)))), ?_⟩
      have e6 : mIf (mTru (mB1 .any lAny)) lRet mPass (lE q n L (some (.d (.int k))) (some (.d (.int (stp q n k : Nat)))) (some (.d (.int a))) (some (.d (.lst (zs (lineL q L (stp q n k) a)))))) s = .nxt (lE q n L (some (.d (.int k))) (some (.d (.int (stp q n k : Nat)))) (some (.d (.int a))) (some (.d (.lst (zs (lineL q L (stp q n k) a)))))) s := if_f e4
      have e7 : mIf (mCmp .eq (mBin .mod (mB1 .int (mBin .fdiv (mVar 5) (mVar 4))) (mVar 0)) (mCon (.int 0))) (mSeq (mAsg 6 lLine) (mSeq (mIf (mTru (mB1 .any lAny)) lRet mPass) mPass)) mPass (lE q n L (some (.d (.int k))) (some (.d (.int (stp q n k : Nat)))) (some (.d (.int a))) x6) s = .nxt (lE q n L (some (.d (.int k))) (some (.d (.int (stp q n k : Nat)))) (some (.d (.int a))) (some (.d (.lst (zs (lineL q L (stp q n k) a)))))) s := by
        rw [if_t e1, seq_nxt e2, seq_nxt e6]
        rfl
      unfold lInn
      rw [seq_nxt e7]
      rfl
theorem l_out (h : QN q n) (r : Row q n L) {k : Nat} (hk : k < n) (x4 x5 x6 : Option Val) (s : S) :
    ((faultIn q n L k).isSome = true → lOut (lE q n L (some (.d (.int k))) x4 x5 x6) s = .ret (.d (faultS q n L k)) s) ∧
    ((faultIn q n L k).isSome = false → ∃ y4 y5 y6, lOut (lE q n L (some (.d (.int k))) x4 x5 x6) s = .nxt (lE q n L (some (.d (.int k))) y4 y5 y6) s) := by
  have e1 : mAsg 4 (mCall fk__law_power (mCons (mVar 0) (mCons (mBin .sub (mBin .sub (mVar 1) (mCon (.int 1))) (mVar 3)) mNil))) (lE q n L (some (.d (.int k))) x4 x5 x6) s = .nxt (lE q n L (some (.d (.int k))) (some (.d (.int (stp q n k : Nat)))) x5 x6) s := by
    have hs : (n : Int) - 1 - (k : Int) = ((n - 1 - k : Nat) : Int) := by omega
    have hb : mBin .sub (mBin .sub (mVar 1) (mCon (.int 1))) (mVar 3) (lE q n L (some (.d (.int k))) x4 x5 x6) s = .ok (.d (.int ((n - 1 - k : Nat) : Int))) s := bin_eq (i := (n : Int) - 1) (j := k) (bin_eq (i := n) (j := 1) rfl rfl (osub _ _)) rfl (by rw [osub, hs])
    have hp := (pow_ok (q := q) (n := n - 1 - k) h.q8 (by have := h.n8; omega)).2.1
    have e := asg_ok (i := 4) (call_ok (n := 2) (f := f__law_power) (l := mCons (mVar 0) (mCons (mBin .sub (mBin .sub (mVar 1) (mCon (.int 1))) (mVar 3)) mNil)) (e := lE q n L (some (.d (.int k))) x4 x5 x6) (s := s) (xs := [.int q, .int ((n - 1 - k : Nat) : Int)]) (cons_d rfl (cons_d hb nil_d)) rfl hp)
    have hst : ((q : Int) ^ (n - 1 - k)) = ((stp q n k : Nat) : Int) := by unfold stp; simp
    rw [hst] at e
    exact e
  obtain ⟨f1, f2⟩ := for_find (i := 5) (b := lInn) (P := badAt q n L k) (ret := retD q n k) (Inv := fun e => ∃ y5 y6, e = lE q n L (some (.d (.int k))) (some (.d (.int (stp q n k : Nat)))) y5 y6) (s := s) (List.range (q ^ n)) (lE q n L (some (.d (.int k))) (some (.d (.int (stp q n k : Nat)))) x5 x6) (fun a ha e ⟨y5, y6, he⟩ => by
    subst he
    obtain ⟨g1, g2⟩ := l_inn h r hk (List.mem_range.mp ha) y6 s
    refine ⟨g1, fun hb => ?_⟩
    obtain ⟨z6, hz⟩ := g2 hb
    exact ⟨_, hz, _, _, rfl⟩) ⟨x5, x6, rfl⟩
  have e2 : mRg1 (mB1 .len (mVar 2)) (lE q n L (some (.d (.int k))) (some (.d (.int (stp q n k : Nat)))) x5 x6) s = .ok (natD (List.range (q ^ n))) s := by
    refine rgI h.le (b1_ok rfl ?_)
    show some (D.int ((zs L).length : Nat)) = _
    rw [zs_len, r.len]
  unfold lOut
  rw [seq_nxt e1, seq_for e2]
  constructor
  · intro hs
    obtain ⟨a, ha⟩ := Option.isSome_iff_exists.mp hs
    rw [f1 a ha]
    unfold faultS
    rw [ha]
    rfl
  · intro hs
    obtain ⟨e', h1, y5, y6, h2⟩ := f2 (some_no hs)
    rw [h1, h2]
    exact ⟨_, y5, y6, rfl⟩
theorem fault_due_ok (h : QN q n) (r : Row q n L) : f__law_fault_due [.int q, .int n, .tup (zs L)] = .ok (faultD q n L) := by
  obtain ⟨f1, f2⟩ := for_find (i := 3) (b := lOut) (P := fun k => (faultIn q n L k).isSome) (ret := faultS q n L) (Inv := fun e => ∃ y3 y4 y5 y6, e = lE q n L y3 y4 y5 y6) (s := []) (List.range n) (lE q n L none none none none) (fun k hk e ⟨y3, y4, y5, y6, he⟩ => by
    subst he
    obtain ⟨g1, g2⟩ := l_out h r (List.mem_range.mp hk) y4 y5 y6 []
    refine ⟨g1, fun hb => ?_⟩
    obtain ⟨z4, z5, z6, hz⟩ := g2 hb
    exact ⟨_, hz, _, _, _, _, rfl⟩) ⟨_, _, _, _, rfl⟩
  unfold f__law_fault_due
  refine runP_ret (s := []) ?_
  rw [l_eq]
  have e3 : mRg1 (mVar 1) (initE 8 ([D.int q, .int n, .tup (zs L)].map .d)) [] = .ok (natD (List.range n)) [] := rgI (by have := h.n8; omega) rfl
  rw [seq_for e3]
  have e4 : initE 8 ([D.int q, .int n, .tup (zs L)].map .d) = lE q n L none none none none := rfl
  rw [e4]
  unfold faultD
  cases hf : (List.range n).find? fun k => (faultIn q n L k).isSome with
  | some k => rw [f1 k hf]; rfl
  | none =>
    obtain ⟨e', h1, y3, y4, y5, y6, h2⟩ := f2 hf
    rw [h1, h2]
    rfl
end MPL
end

section
set_option Elab.async false
set_option linter.all false
set_option maxRecDepth 100000
set_option maxHeartbeats 4000000
namespace MPL
open PySem MP
/-! ### _law_same at the same -/
def gd : Nat → D → Bool
  | 0, _ => false
  | _ + 1, .non => true
  | _ + 1, .bl _ => true
  | _ + 1, .int _ => true
  | _ + 1, .str _ => true
  | j + 1, .tup xs => decide (xs.length ≤ 1024) && xs.all (gd j)
  | j + 1, .lst xs => decide (xs.length ≤ 1024) && xs.all (gd j)
  | _ + 1, _ => false
theorem for_all {i : Nat} {b : MS} {Inv : MP.Env → Prop} {s : S} (as : List Nat) (e : MP.Env) (h : ∀ a ∈ as, ∀ e, Inv e → ∃ e', b (e.set i (some (.d (.int a)))) s = .nxt e' s ∧ Inv e') (hi : Inv e) : ∃ e', forGo (.nm i) b (natD as) e s = .nxt e' s ∧ Inv e' := by
  obtain ⟨_, f⟩ := for_find (P := fun _ => false) (ret := fun _ => .non) as e (fun a ha e hi => ⟨fun z => (by cases z), fun _ => h a ha e hi⟩) hi
  exact f (by simp)
theorem same_non (r : List D → P) : runP 3 (m__law_same r) [.non, .non] = .ok (.bl true) := by
  unfold m__law_same; simp [initE, mSeq, mIf, mAsg, mAsgO, mApp, mFrz, mRet, mRetL, mSetR, mPass, mBrk, mTru, mNot, mAnd, mOr, mBl, mB1, mBin, mNeg, mCmp, mIx, mVar, mCon, mTup, mLst, mCons, mNil, mCall, mMin2, mRg1, mRg2, mItV, R.go, R.goT, R.bind, R.of, rd, rds, datas, frefs, frees, opD, cmpD, eqD, ixV, ixD, b1V, b1, truV, truD, tgSet, P.to, items, itItems, runP, mIsI, isV, isTy, Ty.data, mAndV, mIsN]
theorem same_bl (r : List D → P) (b : Bool) : runP 3 (m__law_same r) [.bl b, .bl b] = .ok (.bl true) := by
  unfold m__law_same; simp [initE, mSeq, mIf, mAsg, mAsgO, mApp, mFrz, mRet, mRetL, mSetR, mPass, mBrk, mTru, mNot, mAnd, mOr, mBl, mB1, mBin, mNeg, mCmp, mIx, mVar, mCon, mTup, mLst, mCons, mNil, mCall, mMin2, mRg1, mRg2, mItV, R.go, R.goT, R.bind, R.of, rd, rds, datas, frefs, frees, opD, cmpD, eqD, ixV, ixD, b1V, b1, truV, truD, tgSet, P.to, items, itItems, runP, mIsI, isV, isTy, Ty.data, mAndV, mIsN]
theorem same_int (r : List D → P) (i : Int) : runP 3 (m__law_same r) [.int i, .int i] = .ok (.bl true) := by
  unfold m__law_same; simp [initE, mSeq, mIf, mAsg, mAsgO, mApp, mFrz, mRet, mRetL, mSetR, mPass, mBrk, mTru, mNot, mAnd, mOr, mBl, mB1, mBin, mNeg, mCmp, mIx, mVar, mCon, mTup, mLst, mCons, mNil, mCall, mMin2, mRg1, mRg2, mItV, R.go, R.goT, R.bind, R.of, rd, rds, datas, frefs, frees, opD, cmpD, eqD, ixV, ixD, b1V, b1, truV, truD, tgSet, P.to, items, itItems, runP, mIsI, isV, isTy, Ty.data, mAndV, mIsN]
theorem same_str (r : List D → P) (i : Str) : runP 3 (m__law_same r) [.str i, .str i] = .ok (.bl true) := by
  unfold m__law_same; simp [initE, mSeq, mIf, mAsg, mAsgO, mApp, mFrz, mRet, mRetL, mSetR, mPass, mBrk, mTru, mNot, mAnd, mOr, mBl, mB1, mBin, mNeg, mCmp, mIx, mVar, mCon, mTup, mLst, mCons, mNil, mCall, mMin2, mRg1, mRg2, mItV, R.go, R.goT, R.bind, R.of, rd, rds, datas, frefs, frees, opD, cmpD, eqD, ixV, ixD, b1V, b1, truV, truD, tgSet, P.to, items, itItems, runP, mIsI, isV, isTy, Ty.data, mAndV, mIsN]
def smB (r : List D → P) : MS := (mSeq (mIf (mNot (mTru (mCall (.pure 2 r) (mCons (mIx (mVar 0) (mVar 2)) (mCons (mIx (mVar 1) (mVar 2)) mNil))))) (mSeq (mRet (mCon (.bl false))) mPass) mPass) mPass)
def smT (r : List D → P) : MS := (mSeq (mIf (mCmp .ne (mB1 .len (mVar 0)) (mB1 .len (mVar 1))) (mSeq (mRet (mCon (.bl false))) mPass) mPass) (mSeq (mFor (.nm 2) (mRg1 (mB1 .len (mVar 1))) (smB r)) (mSeq (mRet (mCon (.bl true))) mPass)))
theorem same_head (r : List D → P) (xs : List D) : m__law_same r (initE 3 ([D.tup xs, .tup xs].map .d)) [] = smT r [some (.d (.tup xs)), some (.d (.tup xs)), none] [] := rfl
theorem same_headL (r : List D → P) (xs : List D) : m__law_same r (initE 3 ([D.lst xs, .lst xs].map .d)) [] = smT r [some (.d (.lst xs)), some (.d (.lst xs)), none] [] := rfl
theorem atI_get {xs : List D} {a : Nat} (h : a < xs.length) : MP.atI xs (a : Int) = some xs[a] := by
  unfold MP.atI MP.ixN
  rw [if_pos (by omega), if_pos (by omega)]
  show xs[((a : Int)).toNat]? = _
  rw [Int.toNat_natCast, List.getElem?_eq_getElem h]
theorem len_ok {a : ME} {e : MP.Env} {s : S} {y : D} {xs : List D} (ha : a e s = .ok (.d y) s) (hy : y = .lst xs ∨ y = .tup xs) : mB1 .len a e s = .ok (.d (.int (xs.length : Nat))) s := by
  refine b1_ok ha ?_
  rcases hy with rfl | rfl <;> rfl
theorem ix_any {a b : ME} {e : MP.Env} {s : S} {y : D} {xs : List D} {i : Int} {x : D} (ha : a e s = .ok (.d y) s) (hy : y = .lst xs ∨ y = .tup xs) (hb : b e s = .ok (.d (.int i)) s) (h : MP.atI xs i = some x) : mIx a b e s = .ok (.d x) s := by
  rcases hy with rfl | rfl
  · exact ix_lst ha hb h
  · exact ix_tup ha hb h
theorem same_items {r : List D → P} {xs : List D} (hl : xs.length ≤ 1024) (hr : ∀ x ∈ xs, r [x, x] = .ok (.bl true)) {y : D} (hy : y = .lst xs ∨ y = .tup xs) : smT r [some (.d y), some (.d y), none] [] = .ret (.d (.bl true)) [] := by
  have e1 : mCmp .ne (mB1 .len (mVar 0)) (mB1 .len (mVar 1)) [some (.d y), some (.d y), none] [] = .ok false [] := cmp_ok (len_ok rfl hy) (len_ok rfl hy) (by
    show some (!((xs.length : Int) == (xs.length : Int))) = _
    simp)
  have e2 : mIf (mCmp .ne (mB1 .len (mVar 0)) (mB1 .len (mVar 1))) (mSeq (mRet (mCon (.bl false))) mPass) mPass [some (.d y), some (.d y), none] [] = .nxt [some (.d y), some (.d y), none] [] := if_f e1
  have e3 : mRg1 (mB1 .len (mVar 1)) [some (.d y), some (.d y), none] [] = .ok (natD (List.range xs.length)) [] := rgI hl (len_ok rfl hy)
  obtain ⟨e', f1, x2, f2⟩ := for_all (i := 2) (b := smB r) (Inv := fun e => ∃ x2, e = [some (.d y), some (.d y), x2]) (s := []) (List.range xs.length) [some (.d y), some (.d y), none] (fun a ha e ⟨x2, he⟩ => by
    subst he
    have hlt := List.mem_range.mp ha
    have hat := atI_get hlt
    have c : mCall (.pure 2 r) (mCons (mIx (mVar 0) (mVar 2)) (mCons (mIx (mVar 1) (mVar 2)) mNil)) [some (.d y), some (.d y), some (.d (.int a))] [] = .ok (.d (.bl true)) [] :=
      call_ok (xs := [xs[a], xs[a]]) (cons_d (ix_any rfl hy rfl hat) (cons_d (ix_any rfl hy rfl hat) nil_d)) rfl (hr _ (List.getElem_mem hlt))
    have c2 : mIf (mNot (mTru (mCall (.pure 2 r) (mCons (mIx (mVar 0) (mVar 2)) (mCons (mIx (mVar 1) (mVar 2)) mNil))))) (mSeq (mRet (mCon (.bl false))) mPass) mPass [some (.d y), some (.d y), some (.d (.int a))] [] = .nxt [some (.d y), some (.d y), some (.d (.int a))] [] := if_f (not_ok (tru_bl c))
    refine ⟨[some (.d y), some (.d y), some (.d (.int a))], ?_, _, rfl⟩
    unfold smB
    show (mSeq _ mPass) [some (.d y), some (.d y), some (.d (.int a))] [] = _
    rw [seq_nxt c2]
    rfl) ⟨none, rfl⟩
  unfold smT
  rw [seq_nxt e2, seq_for e3, f1, f2]
  rfl
theorem same_refl : ∀ (j : Nat) (x : D), gd j x = true → f__law_same j [x, x] = .ok (.bl true)
  | 0, x, h => by cases h
  | j + 1, x, h => by
    show runP 3 (m__law_same (f__law_same j)) [x, x] = _
    cases x with
    | non => exact same_non _
    | bl b => exact same_bl _ b
    | int i => exact same_int _ i
    | str z => exact same_str _ z
    | tup xs =>
      obtain ⟨h1, h2⟩ := Bool.and_eq_true_iff.mp (show (decide (xs.length ≤ 1024) && xs.all (gd j)) = true from h)
      exact runP_ret (s := []) ((same_head _ xs).trans (same_items (of_decide_eq_true h1) (fun y hy => same_refl j y (List.all_eq_true.mp h2 y hy)) (.inr rfl)))
    | lst xs =>
      obtain ⟨h1, h2⟩ := Bool.and_eq_true_iff.mp (show (decide (xs.length ≤ 1024) && xs.all (gd j)) = true from h)
      exact runP_ret (s := []) ((same_headL _ xs).trans (same_items (of_decide_eq_true h1) (fun y hy => same_refl j y (List.all_eq_true.mp h2 y hy)) (.inl rfl)))
    | tuq _ => cases h
    | dic _ _ => cases h
theorem gd_zs (j : Nat) : ∀ l : List Int, (zs l).all (gd (j + 1)) = true
  | [] => rfl
  | x :: l => by show (gd (j + 1) (.int x) && (zs l).all (gd (j + 1))) = true; rw [gd_zs j l]; rfl
theorem gd_tup (j : Nat) {l : List Int} (h : l.length ≤ 1024) : gd (j + 2) (.tup (zs l)) = true := by
  show (decide ((zs l).length ≤ 1024) && (zs l).all (gd (j + 1))) = true
  rw [gd_zs, zs_len, decide_eq_true h]; rfl
theorem gd_lst (j : Nat) {l : List Int} (h : l.length ≤ 1024) : gd (j + 2) (.lst (zs l)) = true := by
  show (decide ((zs l).length ≤ 1024) && (zs l).all (gd (j + 1))) = true
  rw [gd_zs, zs_len, decide_eq_true h]; rfl
/-! ### the doors -/
def askB : MS := (mSeq (mIf (mCmp .eq (mVar 0) (mCon (.int 0))) (mSeq (mRetL (mCons (mCon (.str (Str.ofString ""))) (mCons (mCall fk_is_full (mCons (mVar 1) (mCons (mVar 2) (mCons (mVar 3) mNil)))) mNil))) mPass) mPass) (mSeq (mIf (mCmp .eq (mVar 0) (mCon (.int 1))) (mSeq (mRetL (mCons (mCon (.str (Str.ofString ""))) (mCons (mCall fk_full_fault (mCons (mVar 1) (mCons (mVar 2) (mCons (mVar 3) mNil)))) mNil))) mPass) mPass) (mSeq (mIf (mCmp .eq (mVar 0) (mCon (.int 2))) (mSeq (mRetL (mCons (mCon (.str (Str.ofString ""))) (mCons (mCall fk_filling_number (mCons (mVar 1) (mCons (mVar 3) mNil))) mNil))) mPass) mPass) (mSeq (mRetL (mCons (mCon (.str (Str.ofString ""))) (mCons (mCall fk_filling_at (mCons (mVar 1) (mCons (mVar 2) (mCons (mVar 3) mNil)))) mNil))) mPass))))
def askH : List (Ty × Nat × MS) := [((.ec .TooMany), 4, (mSeq (mRetL (mCons (mHot fk__law_error (mCons (mVar 4) mNil)) (mCons (mFld (Str.ofString "limit") (mVar 4)) mNil))) mPass)), ((.ec .JoinError), 4, (mSeq (mRetL (mCons (mHot fk__law_error (mCons (mVar 4) mNil)) mNil)) mPass))]
theorem ask_eq : m__law_ask = mSeq (mTry askB askH) mPass := rfl
abbrev aE (d q n y : D) : MP.Env := [some (.d d), some (.d q), some (.d n), some (.d y), none]
theorem retL_ok {l : ML} {e : MP.Env} {xs : List D} (h : l e [] = .ok (xs.map Val.d) []) (hz : xs.length ≤ line) : mRetL l e [] = .ret (.ref 0) [xs] := by
  have hf : ∀ xs : List D, frees (xs.map Val.d) = some xs := fun xs => by
    induction xs with
    | nil => rfl
    | cons x xs ih => show (frees (xs.map Val.d)).map (x :: ·) = _; rw [ih]; rfl
  unfold mRetL
  rw [h]
  dsimp only
  rw [hf]
  dsimp only
  rw [if_pos hz]
  rfl
theorem retL_exn {a : ME} {e : MP.Env} {x : D} {c : EC} {z : Option D} (h : a e [] = .exn c z []) : mRetL (mCons (mCon x) (mCons a mNil)) e [] = .exn c z e [] := by
  have : mCons (mCon x) (mCons a mNil) e [] = .exn c z [] := by
    unfold mCons
    show ((a e []).bind _).bind _ = _
    rw [h]
    rfl
  unfold mRetL
  rw [this]
theorem seq_exn {a b : MS} {e e1 : MP.Env} {s s1 : S} {c : EC} {z : Option D} (h : a e s = .exn c z e1 s1) : mSeq a b e s = .exn c z e1 s1 := by
  unfold mSeq
  rw [h]
theorem ask_ret {d q n y : D} {xs : List D} (h : askB (aE d q n y) [] = .ret (.ref 0) [xs]) : f__law_ask [d, q, n, y] = .fresh xs := by
  have e : m__law_ask (initE 5 ([d, q, n, y].map .d)) [] = .ret (.ref 0) [xs] := by
    rw [ask_eq]
    refine seq_ret ?_
    show mTry askB askH (aE d q n y) [] = _
    unfold mTry
    rw [h]
  unfold f__law_ask runP
  rw [e]
  rfl
theorem ask_exn {d q n y : D} {xs : List D} {c : EC} {z : Option D} (h : askB (aE d q n y) [] = .exn c z (aE d q n y) []) (hh : hdGo c z (aE d q n y) [] askH = .ret (.ref 0) [xs]) : f__law_ask [d, q, n, y] = .fresh xs := by
  have e : m__law_ask (initE 5 ([d, q, n, y].map .d)) [] = .ret (.ref 0) [xs] := by
    rw [ask_eq]
    refine seq_ret ?_
    show mTry askB askH (aE d q n y) [] = _
    unfold mTry
    rw [h]
    exact hh
  unfold f__law_ask runP
  rw [e]
  rfl
variable {d q n y : D}
theorem hd_letters : hdGo .BadLetters none (aE d q n y) [] askH = .ret (.ref 0) [[.str (Str.ofString "BadLetters")]] := by kernel_rfl
theorem hd_number : hdGo .BadNumber none (aE d q n y) [] askH = .ret (.ref 0) [[.str (Str.ofString "BadNumber")]] := by kernel_rfl
theorem hd_table : hdGo .BadTable none (aE d q n y) [] askH = .ret (.ref 0) [[.str (Str.ofString "BadTable")]] := by kernel_rfl
theorem hd_filling : hdGo .BadFilling none (aE d q n y) [] askH = .ret (.ref 0) [[.str (Str.ofString "BadFilling")]] := by kernel_rfl
theorem hd_many : hdGo .TooMany (some (.int 1024)) (aE d q n y) [] askH = .ret (.ref 0) [[.str (Str.ofString "TooMany"), .int 1024]] := by kernel_rfl
theorem two_ok {x y : D} : [x, y].length ≤ line := le_line (by simp)
theorem ask0_ok {x : D} (h : f_is_full [q, n, y] = .ok x) : f__law_ask [.int 0, q, n, y] = .fresh [.str (Str.ofString ""), x] := by
  refine ask_ret ?_
  have c : mCall fk_is_full (mCons (mVar 1) (mCons (mVar 2) (mCons (mVar 3) mNil))) (aE (.int 0) q n y) [] = .ok (.d x) [] := call_ok (xs := [q, n, y]) rfl rfl h
  unfold askB
  refine seq_ret ?_
  rw [if_t (s1 := []) rfl]
  exact seq_ret (retL_ok (xs := [.str (Str.ofString ""), x]) (cons_d rfl (cons_d c nil_d)) two_ok)
theorem ask0_exn {c : EC} {z : Option D} (h : f_is_full [q, n, y] = .exn c z) : askB (aE (.int 0) q n y) [] = .exn c z (aE (.int 0) q n y) [] := by
  have c : mCall fk_is_full (mCons (mVar 1) (mCons (mVar 2) (mCons (mVar 3) mNil))) (aE (.int 0) q n y) [] = .exn c z [] := call_exn (xs := [q, n, y]) rfl rfl h
  unfold askB
  refine seq_exn ?_
  rw [if_t (s1 := []) rfl]
  exact seq_exn (retL_exn c)
theorem nope {t : MT} {a b : MS} {e : MP.Env} {r : F} (h : t e [] = .ok false []) (hb : b e [] = r) : mSeq (mIf t a mPass) b e [] = r := by
  have e1 : mIf t a mPass e [] = .nxt e [] := if_f h
  rw [seq_nxt e1, hb]
theorem ask1_ok {x : D} (h : f_full_fault [q, n, y] = .ok x) : f__law_ask [.int 1, q, n, y] = .fresh [.str (Str.ofString ""), x] := by
  refine ask_ret ?_
  have c : mCall fk_full_fault (mCons (mVar 1) (mCons (mVar 2) (mCons (mVar 3) mNil))) (aE (.int 1) q n y) [] = .ok (.d x) [] := call_ok (xs := [q, n, y]) rfl rfl h
  unfold askB
  refine nope rfl (seq_ret ?_)
  rw [if_t (s1 := []) rfl]
  exact seq_ret (retL_ok (xs := [.str (Str.ofString ""), x]) (cons_d rfl (cons_d c nil_d)) two_ok)
theorem ask1_exn {c : EC} {z : Option D} (h : f_full_fault [q, n, y] = .exn c z) : askB (aE (.int 1) q n y) [] = .exn c z (aE (.int 1) q n y) [] := by
  have c : mCall fk_full_fault (mCons (mVar 1) (mCons (mVar 2) (mCons (mVar 3) mNil))) (aE (.int 1) q n y) [] = .exn c z [] := call_exn (xs := [q, n, y]) rfl rfl h
  unfold askB
  refine nope rfl (seq_exn ?_)
  rw [if_t (s1 := []) rfl]
  exact seq_exn (retL_exn c)
theorem ask2_ok {x : D} (h : f_filling_number [q, y] = .ok x) : f__law_ask [.int 2, q, n, y] = .fresh [.str (Str.ofString ""), x] := by
  refine ask_ret ?_
  have c : mCall fk_filling_number (mCons (mVar 1) (mCons (mVar 3) mNil)) (aE (.int 2) q n y) [] = .ok (.d x) [] := call_ok (xs := [q, y]) rfl rfl h
  unfold askB
  refine nope rfl (nope rfl (seq_ret ?_))
  rw [if_t (s1 := []) rfl]
  exact seq_ret (retL_ok (xs := [.str (Str.ofString ""), x]) (cons_d rfl (cons_d c nil_d)) two_ok)
theorem ask2_exn {c : EC} {z : Option D} (h : f_filling_number [q, y] = .exn c z) : askB (aE (.int 2) q n y) [] = .exn c z (aE (.int 2) q n y) [] := by
  have c : mCall fk_filling_number (mCons (mVar 1) (mCons (mVar 3) mNil)) (aE (.int 2) q n y) [] = .exn c z [] := call_exn (xs := [q, y]) rfl rfl h
  unfold askB
  refine nope rfl (nope rfl (seq_exn ?_))
  rw [if_t (s1 := []) rfl]
  exact seq_exn (retL_exn c)
theorem ask3_ok {x : D} (h : f_filling_at [q, n, y] = .ok x) : f__law_ask [.int 3, q, n, y] = .fresh [.str (Str.ofString ""), x] := by
  refine ask_ret ?_
  have c : mCall fk_filling_at (mCons (mVar 1) (mCons (mVar 2) (mCons (mVar 3) mNil))) (aE (.int 3) q n y) [] = .ok (.d x) [] := call_ok (xs := [q, n, y]) rfl rfl h
  unfold askB
  refine nope rfl (nope rfl (nope rfl ?_))
  exact seq_ret (retL_ok (xs := [.str (Str.ofString ""), x]) (cons_d rfl (cons_d c nil_d)) two_ok)
theorem ask3_exn {c : EC} {z : Option D} (h : f_filling_at [q, n, y] = .exn c z) : askB (aE (.int 3) q n y) [] = .exn c z (aE (.int 3) q n y) [] := by
  have c : mCall fk_filling_at (mCons (mVar 1) (mCons (mVar 2) (mCons (mVar 3) mNil))) (aE (.int 3) q n y) [] = .exn c z [] := call_exn (xs := [q, n, y]) rfl rfl h
  unfold askB
  refine nope rfl (nope rfl (nope rfl ?_))
  exact seq_exn (retL_exn c)
end MPL
end

section
set_option Elab.async false
set_option linter.all false
set_option maxRecDepth 100000
set_option maxHeartbeats 4000000
namespace MPL
open PySem MP
theorem for_allD {i : Nat} {b : MS} {Inv : MP.Env → Prop} {s : S} : ∀ (xs : List D) (e : MP.Env), (∀ x ∈ xs, ∀ e, Inv e → ∃ e', b (e.set i (some (.d x))) s = .nxt e' s ∧ Inv e') → Inv e → ∃ e', forGo (.nm i) b xs e s = .nxt e' s ∧ Inv e'
  | [], e, _, hi => ⟨e, rfl, hi⟩
  | x :: xs, e, h, hi => by
    obtain ⟨e', h1, h2⟩ := h x List.mem_cons_self e hi
    have e0 : forGo (.nm i) b (x :: xs) e s = (match b (e.set i (some (.d x))) s with
      | .nxt e s => forGo (.nm i) b xs e s
      | .cnt e s => forGo (.nm i) b xs e s
      | .brk e s => .nxt e s
      | r => r) := rfl
    rw [e0, h1]
    exact for_allD xs e' (fun y hy => h y (List.mem_cons_of_mem _ hy)) h2
theorem forGo_app {i : Nat} {b : MS} : ∀ (xs ys : List D) (e e' : MP.Env) (s s' : S), forGo (.nm i) b xs e s = .nxt e' s' → (∀ x ∈ xs, ∀ e s e' s', b e s ≠ .brk e' s') → forGo (.nm i) b (xs ++ ys) e s = forGo (.nm i) b ys e' s'
  | [], ys, e, e', s, s', h, _ => by cases h; rfl
  | x :: xs, ys, e, e', s, s', h, hb => by
    have e0 : ∀ zs, forGo (.nm i) b (x :: zs) e s = (match b (e.set i (some (.d x))) s with
      | .nxt e s => forGo (.nm i) b zs e s
      | .cnt e s => forGo (.nm i) b zs e s
      | .brk e s => .nxt e s
      | r => r) := fun _ => rfl
    rw [List.cons_append, e0]
    rw [e0] at h
    cases q : b (e.set i (some (.d x))) s with
    | nxt e1 s1 => rw [q] at h; exact forGo_app xs ys _ _ _ _ h fun y hy => hb y (List.mem_cons_of_mem _ hy)
    | cnt e1 s1 => rw [q] at h; exact forGo_app xs ys _ _ _ _ h fun y hy => hb y (List.mem_cons_of_mem _ hy)
    | brk e1 s1 => exact absurd q (hb x List.mem_cons_self _ _ _ _)
    | ret v s1 => rw [q] at h; cases h
    | exn c z e1 s1 => rw [q] at h; cases h
    | stuck => rw [q] at h; cases h
theorem or_f {t u : MT} {e : MP.Env} {s s1 : S} {r : R Bool} (h : t e s = .ok false s1) (hu : u e s1 = r) : mOr t u e s = r := by
  unfold mOr
  rw [h]
  exact hu
theorem or_t {t u : MT} {e : MP.Env} {s s1 : S} (h : t e s = .ok true s1) : mOr t u e s = .ok true s1 := by
  unfold mOr
  rw [h]
  rfl
theorem and_t {t u : MT} {e : MP.Env} {s s1 : S} {r : R Bool} (h : t e s = .ok true s1) (hu : u e s1 = r) : mAnd t u e s = r := by
  unfold mAnd
  rw [h]
  exact hu
theorem and_f {t u : MT} {e : MP.Env} {s s1 : S} (h : t e s = .ok false s1) : mAnd t u e s = .ok false s1 := by
  unfold mAnd
  rw [h]
  rfl
/-! ### rows of letters -/
theorem is_letter_ok {q : Nat} {v : Int} : f_is_letter [.int q, .int v] = .ok (.bl (decide (0 ≤ v) && decide (v < q))) := by
  have c : mCall fk_is_whole (mCons (mVar 1) mNil) [some (.d (.int q)), some (.d (.int v))] [] = .ok (.d (.bl true)) [] := call_ok (xs := [.int v]) rfl rfl rfl
  have e : mBl (mChain .le .lt (mCon (.int 0)) (mVar 1) (mVar 0)) [some (.d (.int q)), some (.d (.int v))] [] = .ok (.d (.bl (decide (0 ≤ v) && decide (v < q)))) [] := by
    refine bl_ok ?_
    show (if decide (0 ≤ v) then _ else _) = _
    cases decide (0 ≤ v) <;> rfl
  unfold f_is_letter
  refine runP_ret (s := []) (seq_ret (ret_ok (s1 := []) ?_))
  show mAndV _ _ [some (.d (.int q)), some (.d (.int v))] [] = _
  unfold mAndV
  rw [c]
  exact e
def noLet : D → Bool
  | .int _ => false
  | _ => true
theorem is_letter_no {q : D} {x : D} (h : noLet x = true) : f_is_letter [q, x] = .ok (.bl false) := by
  cases x with
  | int i => cases h
  | _ => kernel_rfl
def lrB : MS := (mSeq (mIf (mNot (mTru (mCall fk_is_letter (mCons (mVar 0) (mCons (mVar 3) mNil))))) (mSeq (mRet (mCon .non)) mPass) mPass) mPass)
theorem lr_eq : m_letters_row = (mSeq (mIf (mOr (mNot (mTru (mCall fk_is_row (mCons (mVar 1) mNil)))) (mCmp .ne (mB1 .len (mVar 1)) (mVar 2))) (mSeq (mRet (mCon .non)) mPass) mPass) (mSeq (mFor (.nm 3) (mItV (mVar 1)) lrB) (mSeq (mRet (mB1 .tuple (mVar 1))) mPass))) := rfl
abbrev lrE (q y N : D) (x3 : Option Val) : MP.Env := [some (.d q), some (.d y), some (.d N), x3]
theorem lr_good {q y N x : D} {x3 : Option Val} (h : f_is_letter [q, x] = .ok (.bl true)) : lrB (lrE q y N (some (.d x))) [] = .nxt (lrE q y N (some (.d x))) [] := by
  have c : mCall fk_is_letter (mCons (mVar 0) (mCons (mVar 3) mNil)) (lrE q y N (some (.d x))) [] = .ok (.d (.bl true)) [] := call_ok (xs := [q, x]) rfl rfl h
  have e : mIf (mNot (mTru (mCall fk_is_letter (mCons (mVar 0) (mCons (mVar 3) mNil))))) (mSeq (mRet (mCon .non)) mPass) mPass (lrE q y N (some (.d x))) [] = .nxt (lrE q y N (some (.d x))) [] := if_f (not_ok (tru_bl c))
  unfold lrB
  rw [seq_nxt e]
  rfl
theorem lr_bad {q y N x : D} (h : f_is_letter [q, x] = .ok (.bl false)) : lrB (lrE q y N (some (.d x))) [] = .ret (.d .non) [] := by
  have c : mCall fk_is_letter (mCons (mVar 0) (mCons (mVar 3) mNil)) (lrE q y N (some (.d x))) [] = .ok (.d (.bl false)) [] := call_ok (xs := [q, x]) rfl rfl h
  unfold lrB
  refine seq_ret ?_
  rw [if_t (not_ok (tru_bl c))]
  rfl
theorem row_is {y : D} {xs : List D} (hy : y = .lst xs ∨ y = .tup xs) : f_is_row [y] = .ok (.bl true) := by
  rcases hy with rfl | rfl <;> rfl
theorem lr_head {q y : D} {xs : List D} {N : Nat} (hy : y = .lst xs ∨ y = .tup xs) : mOr (mNot (mTru (mCall fk_is_row (mCons (mVar 1) mNil)))) (mCmp .ne (mB1 .len (mVar 1)) (mVar 2)) (lrE q y (.int N) none) [] = .ok (!decide (xs.length = N)) [] := by
  have c : mCall fk_is_row (mCons (mVar 1) mNil) (lrE q y (.int N) none) [] = .ok (.d (.bl true)) [] := call_ok (xs := [y]) rfl rfl (row_is hy)
  have c2 : mCmp .ne (mB1 .len (mVar 1)) (mVar 2) (lrE q y (.int N) none) [] = .ok (!decide (xs.length = N)) [] := cmp_ok (len_ok rfl hy) rfl (by
    show some (!((xs.length : Int) == (N : Int))) = _
    congr 2
    by_cases h : xs.length = N
    · rw [h]; simp
    · have : ((xs.length : Int) == (N : Int)) = false := beq_eq_false_iff_ne.mpr (by omega)
      rw [this, decide_eq_false h])
  unfold mOr
  rw [not_ok (tru_bl c)]
  exact c2
theorem it_any {a : ME} {e : MP.Env} {s : S} {y : D} {xs : List D} (ha : a e s = .ok (.d y) s) (hy : y = .lst xs ∨ y = .tup xs) : mItV a e s = .ok xs s := by
  unfold mItV
  rw [ha]
  rcases hy with rfl | rfl <;> rfl
theorem letters_row_ok {q : Nat} {L : List Int} {N : Nat} (hl : L.length = N) (hr : ∀ v ∈ L, 0 ≤ v ∧ v < q) {y : D} (hy : y = .lst (zs L) ∨ y = .tup (zs L)) : f_letters_row [.int q, y, .int N] = .ok (.tup (zs L)) := by
  have h1 := lr_head (q := .int q) (N := N) hy
  rw [zs_len, hl, decide_eq_true rfl] at h1
  have e1 : mIf (mOr (mNot (mTru (mCall fk_is_row (mCons (mVar 1) mNil)))) (mCmp .ne (mB1 .len (mVar 1)) (mVar 2))) (mSeq (mRet (mCon .non)) mPass) mPass (initE 4 ([D.int q, y, .int N].map .d)) [] = .nxt (lrE (.int q) y (.int N) none) [] := if_f h1
  obtain ⟨e', f1, x3, f2⟩ := for_allD (i := 3) (b := lrB) (Inv := fun e => ∃ x3, e = lrE (.int q) y (.int N) x3) (s := []) (zs L) (lrE (.int q) y (.int N) none) (fun x hx e ⟨x3, he⟩ => by
    subst he
    obtain ⟨v, hv, rfl⟩ := List.mem_map.mp hx
    obtain ⟨v1, v2⟩ := hr v hv
    have hlet : f_is_letter [.int q, .int v] = .ok (.bl true) := by rw [is_letter_ok, decide_eq_true v1, decide_eq_true v2]; rfl
    exact ⟨_, lr_good (x3 := x3) hlet, _, rfl⟩) ⟨none, rfl⟩
  have e2 : mB1 .tuple (mVar 1) (lrE (.int q) y (.int N) x3) [] = .ok (.d (.tup (zs L))) [] := b1_ok rfl (by rcases hy with rfl | rfl <;> rfl)
  unfold f_letters_row
  refine runP_ret (s := []) ?_
  rw [lr_eq, seq_nxt e1, seq_for (it_any (a := mVar 1) rfl hy), f1, f2]
  exact seq_ret (ret_ok e2)
theorem letters_row_len {q y : D} {xs : List D} {N : Nat} (hy : y = .lst xs ∨ y = .tup xs) (hl : xs.length ≠ N) : f_letters_row [q, y, .int N] = .ok .non := by
  have h1 := lr_head (q := q) (N := N) hy
  rw [decide_eq_false hl] at h1
  unfold f_letters_row
  refine runP_ret (s := []) ?_
  rw [lr_eq]
  refine seq_ret ?_
  show mIf _ _ _ (lrE q y (.int N) none) [] = _
  rw [if_t h1]
  rfl
def noRow : D → Bool
  | .lst _ => false
  | .tup _ => false
  | .tuq _ => false
  | _ => true
theorem letters_row_no {q y N : D} (hy : noRow y = true) : f_letters_row [q, y, N] = .ok .non := by
  cases y with
  | lst _ => cases hy
  | tup _ => cases hy
  | tuq _ => cases hy
  | _ => kernel_rfl
theorem letters_row_bent {q : Nat} {pre : List Int} {x : D} {post : List D} {N : Nat} (hl : pre.length + 1 + post.length = N) (hr : ∀ v ∈ pre, 0 ≤ v ∧ v < q) (hx : f_is_letter [.int q, x] = .ok (.bl false)) {y : D} (hy : y = .lst (zs pre ++ x :: post) ∨ y = .tup (zs pre ++ x :: post)) :
    f_letters_row [.int q, y, .int N] = .ok .non := by
  have h1 := lr_head (q := .int q) (N := N) hy
  rw [List.length_append, zs_len, List.length_cons, decide_eq_true (by omega : pre.length + (post.length + 1) = N)] at h1
  have e1 : mIf (mOr (mNot (mTru (mCall fk_is_row (mCons (mVar 1) mNil)))) (mCmp .ne (mB1 .len (mVar 1)) (mVar 2))) (mSeq (mRet (mCon .non)) mPass) mPass (initE 4 ([D.int q, y, .int N].map .d)) [] = .nxt (lrE (.int q) y (.int N) none) [] := if_f h1
  have key : ∀ (pre : List Int) (x3 : Option Val), (∀ v ∈ pre, 0 ≤ v ∧ v < q) → forGo (.nm 3) lrB (zs pre ++ x :: post) (lrE (.int q) y (.int N) x3) [] = .ret (.d .non) [] := fun pre => by
    induction pre with
    | nil =>
      intro x3 _
      show (match lrB (lrE (.int q) y (.int N) (some (.d x))) [] with
        | .nxt e s => forGo (.nm 3) lrB post e s
        | .cnt e s => forGo (.nm 3) lrB post e s
        | .brk e s => .nxt e s
        | r => r) = _
      rw [lr_bad hx]
    | cons v pre ih =>
      intro x3 hr
      obtain ⟨v1, v2⟩ := hr v List.mem_cons_self
      have hlet : f_is_letter [.int q, .int v] = .ok (.bl true) := by rw [is_letter_ok, decide_eq_true v1, decide_eq_true v2]; rfl
      show (match lrB (lrE (.int q) y (.int N) (some (.d (.int v)))) [] with
        | .nxt e s => forGo (.nm 3) lrB (zs pre ++ x :: post) e s
        | .cnt e s => forGo (.nm 3) lrB (zs pre ++ x :: post) e s
        | .brk e s => .nxt e s
        | r => r) = _
      rw [lr_good (x3 := x3) hlet]
      exact ih _ fun w hw => hr w (List.mem_cons_of_mem _ hw)
  unfold f_letters_row
  refine runP_ret (s := []) ?_
  rw [lr_eq, seq_nxt e1, seq_for (it_any (a := mVar 1) rfl hy), key pre none hr]
  rfl
/-! ### sizes -/
def okNon (p : P) : Bool := match p with
  | .ok .non => true
  | _ => false
theorem okNon_ok {p : P} (h : okNon p = true) : p = .ok .non := by
  unfold okNon at h
  split at h
  · rfl
  · cases h
def okExn (c : EC) (z : Option Int) (p : P) : Bool := match p, z with
  | .exn k none, none => decide (k = c)
  | .exn k (some (.int i)), some j => decide (k = c) && decide (i = j)
  | _, _ => false
theorem okExn_ok {c : EC} {z : Option Int} {p : P} (h : okExn c z p = true) : p = .exn c (z.map .int) := by
  unfold okExn at h
  split at h
  · rw [of_decide_eq_true h]; rfl
  · obtain ⟨h1, h2⟩ := Bool.and_eq_true_iff.mp h
    rw [of_decide_eq_true h1, of_decide_eq_true h2]; rfl
  · cases h
theorem size_all : ((List.range 9).all fun q => (List.range 9).all fun n => !(decide (1 ≤ q) && decide (1 ≤ n) && decide (n ≤ most q)) || okNon (f_check_size [.int (q : Nat), .int (n : Nat)])) = true := by decide +kernel
theorem size_ok {q n : Nat} (h : QN q n) : f_check_size [.int q, .int n] = .ok .non := by
  have h1 := List.all_eq_true.mp (List.all_eq_true.mp size_all q (List.mem_range.mpr (by have := h.q8; omega))) n (List.mem_range.mpr (by have := h.n8; omega))
  rw [decide_eq_true h.q1, decide_eq_true h.n1, decide_eq_true h.nm] at h1
  exact okNon_ok h1
def isN : D → Bool
  | .non => true
  | _ => false
variable {q n : Nat} {L : List Int} {y : D}
theorem expr_ok {a : ME} {e : MP.Env} {s : S} {v : Val} (h : a e s = .ok v s) : mExpr a e s = .nxt e s := by
  unfold mExpr
  rw [h]
  rfl
theorem isN_ok {a : ME} {e : MP.Env} {s : S} {x : D} (h : a e s = .ok (.d x) s) : mIsN a e s = .ok (isN x) s := by
  unfold mIsN
  rw [h]
  cases x <;> rfl
theorem notN_ok {a : ME} {e : MP.Env} {s : S} {x : D} (h : a e s = .ok (.d x) s) : mNotN a e s = .ok (!isN x) s := by
  unfold mNotN
  rw [h]
  cases x <;> rfl
theorem grid_call {e : MP.Env} (h : QN q n) (e0 : mVar 0 e [] = .ok (.d (.int q)) []) (e1 : mVar 1 e [] = .ok (.d (.int n)) []) : mCall fk_grid_size (mCons (mVar 0) (mCons (mVar 1) mNil)) e [] = .ok (.d (.int ((q ^ n : Nat) : Int))) [] := by
  have hp := (pow_ok (q := q) (n := n) h.q8 h.n8).1
  have hst : ((q : Int) ^ n) = ((q ^ n : Nat) : Int) := by simp
  rw [hst] at hp
  exact call_ok (xs := [.int q, .int n]) (cons_d e0 (cons_d e1 nil_d)) rfl hp
/-- what letters_row says of a value -/
inductive LR (q n : Nat) (y : D) : Option (List Int) → Prop
  | yes {L : List Int} (h : f_letters_row [.int q, y, .int ((q ^ n : Nat) : Int)] = .ok (.tup (zs L))) (r : Row q n L) : LR q n y (some L)
  | no (h : f_letters_row [.int q, y, .int ((q ^ n : Nat) : Int)] = .ok .non) : LR q n y none
theorem LR.row (r : Row q n L) (hy : y = .lst (zs L) ∨ y = .tup (zs L)) : LR q n y (some L) := .yes (letters_row_ok r.len r.let_ hy) r
theorem full_or_none_ok (h : QN q n) {o : Option (List Int)} (lr : LR q n y o) : f_full_or_none [.int q, .int n, y] = .ok (match o with
    | some L => if isN (faultD q n L) then .tup (zs L) else .non
    | none => .non) := by
  have g := grid_call (e := initE 4 ([D.int q, .int n, y].map .d)) h rfl rfl
  have e0 : m_full_or_none = (mSeq (mAsg 3 (mCall fk_letters_row (mCons (mVar 0) (mCons (mVar 2) (mCons (mCall fk_grid_size (mCons (mVar 0) (mCons (mVar 1) mNil))) mNil))))) (mSeq (mIf (mOr (mIsN (mVar 3)) (mNotN (mCall fk_line_fault (mCons (mVar 0) (mCons (mVar 1) (mCons (mVar 3) mNil)))))) (mSeq (mRet (mCon .non)) mPass) mPass) (mSeq (mRet (mVar 3)) mPass))) := rfl
  unfold f_full_or_none
  refine runP_ret (s := []) ?_
  rw [e0]
  cases lr with
  | no hn =>
    have e1 : mAsg 3 (mCall fk_letters_row (mCons (mVar 0) (mCons (mVar 2) (mCons (mCall fk_grid_size (mCons (mVar 0) (mCons (mVar 1) mNil))) mNil)))) (initE 4 ([D.int q, .int n, y].map .d)) [] = .nxt [some (.d (.int q)), some (.d (.int n)), some (.d y), some (.d .non)] [] := asg_ok (call_ok (xs := [.int q, y, .int ((q ^ n : Nat) : Int)]) (cons_d rfl (cons_d rfl (cons_d g nil_d))) rfl hn)
    rw [seq_nxt e1]
    rfl
  | @yes L hn r =>
    have e1 : mAsg 3 (mCall fk_letters_row (mCons (mVar 0) (mCons (mVar 2) (mCons (mCall fk_grid_size (mCons (mVar 0) (mCons (mVar 1) mNil))) mNil)))) (initE 4 ([D.int q, .int n, y].map .d)) [] = .nxt [some (.d (.int q)), some (.d (.int n)), some (.d y), some (.d (.tup (zs L)))] [] := asg_ok (call_ok (xs := [.int q, y, .int ((q ^ n : Nat) : Int)]) (cons_d rfl (cons_d rfl (cons_d g nil_d))) rfl hn)
    have c : mCall fk_line_fault (mCons (mVar 0) (mCons (mVar 1) (mCons (mVar 3) mNil))) [some (.d (.int q)), some (.d (.int n)), some (.d y), some (.d (.tup (zs L)))] [] = .ok (.d (faultD q n L)) [] := call_ok (xs := [.int q, .int n, .tup (zs L)]) rfl rfl (line_fault_ok h r)
    have e2 : mOr (mIsN (mVar 3)) (mNotN (mCall fk_line_fault (mCons (mVar 0) (mCons (mVar 1) (mCons (mVar 3) mNil))))) [some (.d (.int q)), some (.d (.int n)), some (.d y), some (.d (.tup (zs L)))] [] = .ok (!isN (faultD q n L)) [] := by
      have k : mIsN (mVar 3) [some (.d (.int q)), some (.d (.int n)), some (.d y), some (.d (.tup (zs L)))] [] = .ok false [] := rfl
      exact or_f k (notN_ok c)
    rw [seq_nxt e1]
    cases hf : isN (faultD q n L) with
    | true =>
      rw [hf] at e2
      have e3 : mIf (mOr (mIsN (mVar 3)) (mNotN (mCall fk_line_fault (mCons (mVar 0) (mCons (mVar 1) (mCons (mVar 3) mNil)))))) (mSeq (mRet (mCon .non)) mPass) mPass [some (.d (.int q)), some (.d (.int n)), some (.d y), some (.d (.tup (zs L)))] [] = .nxt [some (.d (.int q)), some (.d (.int n)), some (.d y), some (.d (.tup (zs L)))] [] := if_f e2
      rw [seq_nxt e3]
      dsimp only
      rw [hf]
      rfl
    | false =>
      rw [hf] at e2
      refine seq_ret ?_
      rw [if_t e2]
      dsimp only
      rw [hf]
      rfl
theorem size_call (h : QN q n) {e : MP.Env} (e0 : mVar 0 e [] = .ok (.d (.int q)) []) (e1 : mVar 1 e [] = .ok (.d (.int n)) []) : mExpr (mCall fk_check_size (mCons (mVar 0) (mCons (mVar 1) mNil))) e [] = .nxt e [] :=
  expr_ok (call_ok (xs := [.int q, .int n]) (cons_d e0 (cons_d e1 nil_d)) rfl (size_ok h))
theorem is_full_ok (h : QN q n) {o : Option (List Int)} (lr : LR q n y o) : f_is_full [.int q, .int n, y] = .ok (.bl (match o with
    | some L => isN (faultD q n L)
    | none => false)) := by
  have e0 : m_is_full = (mSeq (mExpr (mCall fk_check_size (mCons (mVar 0) (mCons (mVar 1) mNil)))) (mSeq (mRet (mBl (mNotN (mCall fk_full_or_none (mCons (mVar 0) (mCons (mVar 1) (mCons (mVar 2) mNil))))))) mPass)) := rfl
  have c := size_call (e := initE 3 ([D.int q, .int n, y].map .d)) h rfl rfl
  have c2 : mCall fk_full_or_none (mCons (mVar 0) (mCons (mVar 1) (mCons (mVar 2) mNil))) (initE 3 ([D.int q, .int n, y].map .d)) [] = .ok (.d _) [] := call_ok (xs := [.int q, .int n, y]) rfl rfl (full_or_none_ok h lr)
  unfold f_is_full
  refine runP_ret (s := []) ?_
  rw [e0, seq_nxt c]
  refine seq_ret (ret_ok (bl_ok ?_))
  rw [notN_ok c2]
  cases lr with
  | no _ => rfl
  | @yes L _ _ =>
    dsimp only
    cases hf : isN (faultD q n L) <;> rfl
theorem full_fault_ok (h : QN q n) {o : Option (List Int)} (lr : LR q n y o) : f_full_fault [.int q, .int n, y] = (match o with
    | some L => .ok (faultD q n L)
    | none => .exn .BadTable none) := by
  have e0 : m_full_fault = (mSeq (mExpr (mCall fk_check_size (mCons (mVar 0) (mCons (mVar 1) mNil)))) (mSeq (mAsg 3 (mCall fk_letters_row (mCons (mVar 0) (mCons (mVar 2) (mCons (mCall fk_grid_size (mCons (mVar 0) (mCons (mVar 1) mNil))) mNil))))) (mSeq (mIf (mIsN (mVar 3)) (mSeq (mRaise .BadTable) mPass) mPass) (mSeq (mRet (mCall fk_line_fault (mCons (mVar 0) (mCons (mVar 1) (mCons (mVar 3) mNil))))) mPass)))) := rfl
  have c := size_call (e := initE 4 ([D.int q, .int n, y].map .d)) h rfl rfl
  have g := grid_call (e := initE 4 ([D.int q, .int n, y].map .d)) h rfl rfl
  unfold f_full_fault
  cases lr with
  | no hn =>
    have e1 : mAsg 3 (mCall fk_letters_row (mCons (mVar 0) (mCons (mVar 2) (mCons (mCall fk_grid_size (mCons (mVar 0) (mCons (mVar 1) mNil))) mNil)))) (initE 4 ([D.int q, .int n, y].map .d)) [] = .nxt [some (.d (.int q)), some (.d (.int n)), some (.d y), some (.d .non)] [] := asg_ok (call_ok (xs := [.int q, y, .int ((q ^ n : Nat) : Int)]) (cons_d rfl (cons_d rfl (cons_d g nil_d))) rfl hn)
    refine runP_exn (s := []) (e := [some (.d (.int q)), some (.d (.int n)), some (.d y), some (.d .non)]) ?_
    rw [e0, seq_nxt c, seq_nxt e1]
    rfl
  | @yes L hn r =>
    have e1 : mAsg 3 (mCall fk_letters_row (mCons (mVar 0) (mCons (mVar 2) (mCons (mCall fk_grid_size (mCons (mVar 0) (mCons (mVar 1) mNil))) mNil)))) (initE 4 ([D.int q, .int n, y].map .d)) [] = .nxt [some (.d (.int q)), some (.d (.int n)), some (.d y), some (.d (.tup (zs L)))] [] := asg_ok (call_ok (xs := [.int q, y, .int ((q ^ n : Nat) : Int)]) (cons_d rfl (cons_d rfl (cons_d g nil_d))) rfl hn)
    have c2 : mCall fk_line_fault (mCons (mVar 0) (mCons (mVar 1) (mCons (mVar 3) mNil))) [some (.d (.int q)), some (.d (.int n)), some (.d y), some (.d (.tup (zs L)))] [] = .ok (.d (faultD q n L)) [] := call_ok (xs := [.int q, .int n, .tup (zs L)]) rfl rfl (line_fault_ok h r)
    refine runP_ret (s := []) ?_
    have e3 : mIf (mIsN (mVar 3)) (mSeq (mRaise .BadTable) mPass) mPass [some (.d (.int q)), some (.d (.int n)), some (.d y), some (.d (.tup (zs L)))] [] = .nxt [some (.d (.int q)), some (.d (.int n)), some (.d y), some (.d (.tup (zs L)))] [] := if_f (isN_ok (x := .tup (zs L)) rfl)
    rw [e0, seq_nxt c, seq_nxt e1, seq_nxt e3]
    exact seq_ret (ret_ok c2)
theorem ask_full (h : QN q n) {o : Option (List Int)} (lr : LR q n y o) : f__law_ask [.int 0, .int q, .int n, y] = .fresh [.str (Str.ofString ""), .bl (match o with
    | some L => isN (faultD q n L)
    | none => false)] := ask0_ok (is_full_ok h lr)
theorem ask_fault (h : QN q n) {o : Option (List Int)} (lr : LR q n y o) : f__law_ask [.int 1, .int q, .int n, y] = .fresh (match o with
    | some L => [.str (Str.ofString ""), faultD q n L]
    | none => [.str (Str.ofString "BadTable")]) := by
  have f := full_fault_ok h lr
  cases lr with
  | no _ => exact ask_exn (ask1_exn f) hd_table
  | yes _ _ => exact ask1_ok f
end MPL
end

section
set_option Elab.async false
set_option linter.all false
set_option maxRecDepth 100000
set_option maxHeartbeats 4000000
namespace MPL
open PySem MP
theorem call_eff {n : Nat} {f : List Val → S → R Val} {l : ML} {e : MP.Env} {s s1 s2 : S} {vs : List Val} {v : Val} (hl : l e s = .ok vs s1) (hn : vs.length = n) (hf : frefs vs = some vs) (h : f vs s1 = .ok v s2) : mCall (.eff n f) l e s = .ok v s2 := by
  unfold mCall
  rw [hl]
  simp only [R.bind_ok]
  rw [if_pos hn, hf]
  exact h
/-- take of the store in slot i, with a number -/
theorem take_call {a b : ME} {e : MP.Env} {s s1 : S} {m : Int} (ha : a e s = .ok (.ref 0) s) (hb : b e s = .ok (.d (.int m)) s1) {t : Int} {s2 : S} (h : f__law_take [.ref 0, .d (.int m)] s1 = .ok (.d (.int t)) s2) : mCall fk__law_take (mCons a (mCons b mNil)) e s = .ok (.d (.int t)) s2 := by
  refine call_eff (vs := [.ref 0, .d (.int m)]) (s1 := s1) ?_ rfl rfl h
  unfold mCons
  rw [ha]
  simp only [R.bind_ok]
  rw [hb]
  rfl
theorem bnd_le {m : Int} (h : m ≤ 100000000) : Bnd m := ⟨Int.lt_of_le_of_lt h (by decide +kernel)⟩
/-! ### dress -/
theorem dress_leaf (r : List D → P) (v w : Int) : runP 4 (m__law_dress r) [.int v, .int w] = .ok (.int v) := by kernel_rfl
theorem dress_int (j : Nat) (v w : Int) : f__law_dress (j + 1) [.int v, .int w] = .ok (.int v) := dress_leaf _ v w
def drB (r : List D → P) : MS := (mSeq (mIf (mCmp .lt (mVar 1) (mCon (.int 2))) (mSeq (mApp 2 (mCall (.pure 2 r) (mCons (mIx (mVar 0) (mVar 3)) (mCons (mVar 1) mNil)))) mPass) (mSeq (mApp 2 (mCall (.pure 2 r) (mCons (mIx (mVar 0) (mVar 3)) (mCons (mBin .add (mCon (.int 2)) (mBin .mod (mB1 .int (mBin .add (mBin .mul (mVar 1) (mCon (.int 7))) (mBin .mul (mVar 3) (mCon (.int 5))))) (mCon (.int 61)))) mNil)))) mPass)) mPass)
def drT (r : List D → P) : MS := (mSeq (mAsgO 2 (mLst mNil)) (mSeq (mFor (.nm 3) (mRg1 (mB1 .len (mVar 0))) (drB r)) (mSeq (mFrz 2) (mSeq (mIf (mCmp .eq (mBin .mod (mB1 .int (mVar 1)) (mCon (.int 2))) (mCon (.int 1))) (mSeq (mRet (mVar 2)) mPass) mPass) (mSeq (mRet (mB1 .tuple (mVar 2))) mPass)))))
theorem app_ok {i : Nat} {a : ME} {e : MP.Env} {s s1 : S} {xs : List D} {x : D} (he : e[i]? = some (some (.own xs))) (ha : a e s = .ok (.d x) s1) (hl : xs.length < line) : mApp i a e s = .nxt (e.set i (some (.own (xs ++ [x])))) s1 := by
  unfold mApp
  rw [he]
  dsimp only
  rw [ha]
  show (if xs.length < line then F.nxt (e.set i (some (.own (xs ++ [x])))) s1 else .stuck) = _
  rw [if_pos hl]
theorem lt_line {k : Nat} (h : k ≤ 100000) : k < line := Nat.lt_of_le_of_lt h (by decide)
theorem take_snoc {L : List Int} {a : Nat} (h : a < L.length) : zs (L.take (a + 1)) = zs (L.take a) ++ [.int (L.getD a 0)] := by
  have e : L.take (a + 1) = L.take a ++ [L.getD a 0] := by
    rw [List.take_succ, List.getD_eq_getElem?_getD, List.getElem?_eq_getElem h]; rfl
  rw [e, zs_app]; rfl
theorem ix_zs {a b : ME} {e : MP.Env} {s : S} {L : List Int} {y : D} (hy : y = .lst (zs L) ∨ y = .tup (zs L)) (ha : a e s = .ok (.d y) s) {k : Nat} (hb : b e s = .ok (.d (.int k)) s) (h : k < L.length) : mIx a b e s = .ok (.d (.int (L.getD k 0))) s := ix_any ha hy hb (zs_at h)
theorem dr_loop {r : List D → P} (hr : ∀ v w : Int, r [.int v, .int w] = .ok (.int v)) {L : List Int} (hL : L.length ≤ 1024) {y : D} (hy : y = .lst (zs L) ∨ y = .tup (zs L)) {w : Int} (hw : w < 2) : ∀ (m lo : Nat) (x3 : Option Val), lo + m = L.length →
    ∃ x3', forGo (.nm 3) (drB r) (natD (List.range' lo m)) [some (.d y), some (.d (.int w)), some (.own (zs (L.take lo))), x3] [] = .nxt [some (.d y), some (.d (.int w)), some (.own (zs L)), x3'] []
  | 0, lo, x3, h => ⟨x3, by rw [show L.take lo = L from List.take_of_length_le (by omega)]; rfl⟩
  | m + 1, lo, x3, h => by
    have hlt : lo < L.length := by omega
    have c : mCall (.pure 2 r) (mCons (mIx (mVar 0) (mVar 3)) (mCons (mVar 1) mNil)) [some (.d y), some (.d (.int w)), some (.own (zs (L.take lo))), some (.d (.int lo))] [] = .ok (.d (.int (L.getD lo 0))) [] :=
      call_ok (xs := [.int (L.getD lo 0), .int w]) (cons_d (ix_zs hy rfl rfl hlt) (cons_d rfl nil_d)) rfl (hr _ _)
    have a1 : mApp 2 (mCall (.pure 2 r) (mCons (mIx (mVar 0) (mVar 3)) (mCons (mVar 1) mNil))) [some (.d y), some (.d (.int w)), some (.own (zs (L.take lo))), some (.d (.int lo))] [] = .nxt [some (.d y), some (.d (.int w)), some (.own (zs (L.take lo) ++ [.int (L.getD lo 0)])), some (.d (.int lo))] [] := app_ok rfl c (lt_line (by rw [zs_len, List.length_take]; omega))
    have t1 : mCmp .lt (mVar 1) (mCon (.int 2)) [some (.d y), some (.d (.int w)), some (.own (zs (L.take lo))), some (.d (.int lo))] [] = .ok true [] := cmp_ok rfl rfl (by show some (decide (w < 2)) = _; rw [decide_eq_true hw])
    have b1 : drB r [some (.d y), some (.d (.int w)), some (.own (zs (L.take lo))), some (.d (.int lo))] [] = .nxt [some (.d y), some (.d (.int w)), some (.own (zs (L.take (lo + 1)))), some (.d (.int lo))] [] := by
      have i1 : mIf (mCmp .lt (mVar 1) (mCon (.int 2))) (mSeq (mApp 2 (mCall (.pure 2 r) (mCons (mIx (mVar 0) (mVar 3)) (mCons (mVar 1) mNil)))) mPass) (mSeq (mApp 2 (mCall (.pure 2 r) (mCons (mIx (mVar 0) (mVar 3)) (mCons (mBin .add (mCon (.int 2)) (mBin .mod (mB1 .int (mBin .add (mBin .mul (mVar 1) (mCon (.int 7))) (mBin .mul (mVar 3) (mCon (.int 5))))) (mCon (.int 61)))) mNil)))) mPass) [some (.d y), some (.d (.int w)), some (.own (zs (L.take lo))), some (.d (.int lo))] [] = .nxt [some (.d y), some (.d (.int w)), some (.own (zs (L.take lo) ++ [.int (L.getD lo 0)])), some (.d (.int lo))] [] := by
        rw [if_t t1, seq_nxt a1]; rfl
      unfold drB
      rw [seq_nxt i1, take_snoc hlt]
      rfl
    obtain ⟨x3', e⟩ := dr_loop hr hL hy hw m (lo + 1) (some (.d (.int lo))) (by omega)
    refine ⟨x3', ?_⟩
    show (match drB r [some (.d y), some (.d (.int w)), some (.own (zs (L.take lo))), some (.d (.int lo))] [] with
      | .nxt e s => forGo (.nm 3) (drB r) (natD (List.range' (lo + 1) m)) e s
      | .cnt e s => forGo (.nm 3) (drB r) (natD (List.range' (lo + 1) m)) e s
      | .brk e s => .nxt e s
      | r => r) = _
    rw [b1]
    exact e
theorem dress_eq (r : List D → P) : m__law_dress r = mSeq (mIf (mNot (mTru (mBl (mIsIs (mVar 0) [.tuple, .list])))) (mSeq (mRet (mVar 0)) mPass) mPass) (drT r) := rfl
theorem dress_head (r : List D → P) (xs : List D) (w : Int) : m__law_dress r (initE 4 ([D.tup xs, .int w].map .d)) [] = drT r [some (.d (.tup xs)), some (.d (.int w)), none, none] [] := by
  have t1 : mNot (mTru (mBl (mIsIs (mVar 0) [.tuple, .list]))) [some (.d (.tup xs)), some (.d (.int w)), none, none] [] = .ok false [] := by kernel_rfl
  have e1 : mIf (mNot (mTru (mBl (mIsIs (mVar 0) [.tuple, .list])))) (mSeq (mRet (mVar 0)) mPass) mPass [some (.d (.tup xs)), some (.d (.int w)), none, none] [] = .nxt [some (.d (.tup xs)), some (.d (.int w)), none, none] [] := if_f t1
  rw [dress_eq]
  show mSeq _ _ [some (.d (.tup xs)), some (.d (.int w)), none, none] [] = _
  rw [seq_nxt e1]
theorem dress_ok {L : List Int} (hL : L.length ≤ 1024) (w : Int) (hw : w = 0 ∨ w = 1) (j : Nat) : f__law_dress (j + 2) [.tup (zs L), .int w] = .ok (if w = 1 then .lst (zs L) else .tup (zs L)) := by
  show runP 4 (m__law_dress (f__law_dress (j + 1))) [.tup (zs L), .int w] = _
  refine runP_ret (s := []) ?_
  rw [dress_head]
  have e1 : mAsgO 2 (mLst mNil) [some (.d (.tup (zs L))), some (.d (.int w)), none, none] [] = .nxt [some (.d (.tup (zs L))), some (.d (.int w)), some (.own (zs (L.take 0))), none] [] := rfl
  have e2 : mRg1 (mB1 .len (mVar 0)) [some (.d (.tup (zs L))), some (.d (.int w)), some (.own (zs (L.take 0))), none] [] = .ok (natD (List.range' 0 L.length)) [] := by
    have := rgI (m := L.length) hL (it := mB1 .len (mVar 0)) (e := [some (.d (.tup (zs L))), some (.d (.int w)), some (.own (zs (L.take 0))), none]) (s := []) (by
      have := len_ok (a := mVar 0) (e := [some (.d (.tup (zs L))), some (.d (.int w)), some (.own (zs (L.take 0))), none]) (s := []) (y := .tup (zs L)) (xs := zs L) rfl (.inr rfl)
      rwa [zs_len] at this)
    rw [this, List.range_eq_range']
  obtain ⟨x3', e3⟩ := dr_loop (r := f__law_dress (j + 1)) (fun v w => dress_int j v w) hL (.inr rfl) (w := w) (by omega) L.length 0 none (by omega)
  unfold drT
  rw [seq_nxt e1, seq_for e2, e3]
  rcases hw with rfl | rfl <;> rfl
/-! ### a row is judged right -/
variable {q n : Nat} {L : List Int}
abbrev frE (q n : Nat) (L : List Int) (x4 x5 x6 : Option Val) : MP.Env := [some (.ref 0), some (.d (.int q)), some (.d (.int n)), some (.d (.tup (zs L))), x4, x5, x6]
theorem gd_fault (q n : Nat) (L : List Int) (hn : n ≤ 8) : gd 7 (faultD q n L) = true := by
  have hr : ∀ s a, gd 7 (retD q n s a) = true := fun s a => by
    show (decide (([D.int s, .tup (zs (fil q n a))] : List D).length ≤ 1024) && [D.int s, .tup (zs (fil q n a))].all (gd 6)) = true
    show (true && (gd 6 (.int s) && (gd 6 (.tup (zs (fil q n a))) && true))) = true
    rw [gd_tup 4 (by rw [fil_len]; omega)]
    rfl
  unfold faultD faultS
  split
  · split
    · exact hr _ _
    · rfl
  · rfl
theorem gd_pair {x : D} (h : gd 7 x = true) : gd 8 (.lst [.str (Str.ofString ""), x]) = true := by
  show (decide (([D.str (Str.ofString ""), x] : List D).length ≤ 1024) && (gd 7 (.str (Str.ofString "")) && (gd 7 x && true))) = true
  rw [h]
  rfl
theorem flat_right_ok (h : QN q n) (r : Row q n L) {cells : List D} (hc : Cells cells) {s : S} (hs : Sto cells s) : ∃ s', f__law_flat_right [.ref 0, .d (.int q), .d (.int n), .d (.tup (zs L))] s = .ok (.d (.bl true)) s' ∧ Sto cells s' := by
  obtain ⟨w, s', t1, t2, t3, t4, t5⟩ := take_ok (n := 2) (bnd_le (by decide)) hc hs
  have hw : w = 0 ∨ w = 1 := by have := t3 (by decide); omega
  have hl : L.length ≤ 1024 := by rw [r.len]; exact h.le
  refine ⟨s', ?_, t5⟩
  unfold f__law_flat_right
  refine runE_ret ?_
  have e0 : m__law_flat_right = (mSeq (mAsg 4 (mCall fk__law_take (mCons (mVar 0) (mCons (mCon (.int 2)) mNil)))) (mSeq (mAsg 5 (mCall fk__law_dress (mCons (mVar 3) (mCons (mVar 4) mNil)))) (mSeq (mAsg 6 (mCall fk__law_fault_due (mCons (mVar 1) (mCons (mVar 2) (mCons (mVar 3) mNil))))) (mSeq (mIf (mOr (mNot (mTru (mCall fk__law_same (mCons (mCall fk__law_ask (mCons (mCon (.int 1)) (mCons (mVar 1) (mCons (mVar 2) (mCons (mVar 5) mNil))))) (mCons (mLst (mCons (mCon (.str (Str.ofString ""))) (mCons (mVar 6) mNil))) mNil))))) (mNot (mTru (mCall fk__law_same (mCons (mVar 5) (mCons (mCall fk__law_dress (mCons (mVar 3) (mCons (mVar 4) mNil))) mNil)))))) (mSeq (mRet (mCon (.bl false))) mPass) mPass) (mSeq (mRet (mCall fk__law_same (mCons (mCall fk__law_ask (mCons (mCon (.int 0)) (mCons (mVar 1) (mCons (mVar 2) (mCons (mVar 5) mNil))))) (mCons (mLst (mCons (mCon (.str (Str.ofString ""))) (mCons (mBl (mIsN (mVar 6))) mNil))) mNil)))) mPass))))) := rfl
  generalize hy : (if w = 1 then D.lst (zs L) else .tup (zs L)) = y
  have hyy : y = .lst (zs L) ∨ y = .tup (zs L) := by
    subst hy
    split
    · exact .inl rfl
    · exact .inr rfl
  have hd : f__law_dress 8 [.tup (zs L), .int w] = .ok y := by rw [← hy]; exact dress_ok hl w hw 6
  have hgy : gd 8 y = true := by
    rcases hyy with rfl | rfl
    · exact gd_lst 6 hl
    · exact gd_tup 6 hl
  have lr : LR q n y (some L) := .row r hyy
  have e1 : mAsg 4 (mCall fk__law_take (mCons (mVar 0) (mCons (mCon (.int 2)) mNil))) (initE 7 [.ref 0, .d (.int q), .d (.int n), .d (.tup (zs L))]) s = .nxt (frE q n L (some (.d (.int w))) none none) s' := asg_ok (take_call rfl rfl t1)
  have e2 : mAsg 5 (mCall fk__law_dress (mCons (mVar 3) (mCons (mVar 4) mNil))) (frE q n L (some (.d (.int w))) none none) s' = .nxt (frE q n L (some (.d (.int w))) (some (.d y)) none) s' := asg_ok (call_ok (xs := [.tup (zs L), .int w]) rfl rfl hd)
  have e3 : mAsg 6 (mCall fk__law_fault_due (mCons (mVar 1) (mCons (mVar 2) (mCons (mVar 3) mNil)))) (frE q n L (some (.d (.int w))) (some (.d y)) none) s' = .nxt (frE q n L (some (.d (.int w))) (some (.d y)) (some (.d (faultD q n L)))) s' := asg_ok (call_ok (xs := [.int q, .int n, .tup (zs L)]) rfl rfl (fault_due_ok h r))
  generalize hf : faultD q n L = fd at e3
  have hgf : gd 7 fd = true := by rw [← hf]; exact gd_fault q n L h.n8
  have a1 : f__law_ask [.int 1, .int q, .int n, y] = .fresh [.str (Str.ofString ""), fd] := by rw [← hf]; exact ask_fault h lr
  have a0 : f__law_ask [.int 0, .int q, .int n, y] = .fresh [.str (Str.ofString ""), .bl (isN fd)] := by rw [← hf]; exact ask_full h lr
  have c1 : mCall fk__law_ask (mCons (mCon (.int 1)) (mCons (mVar 1) (mCons (mVar 2) (mCons (mVar 5) mNil)))) (frE q n L (some (.d (.int w))) (some (.d y)) (some (.d fd))) s' = .ok (.d (.lst [.str (Str.ofString ""), fd])) s' := call_fresh (xs := [.int 1, .int q, .int n, y]) rfl rfl a1
  have c0 : mCall fk__law_ask (mCons (mCon (.int 0)) (mCons (mVar 1) (mCons (mVar 2) (mCons (mVar 5) mNil)))) (frE q n L (some (.d (.int w))) (some (.d y)) (some (.d fd))) s' = .ok (.d (.lst [.str (Str.ofString ""), .bl (isN fd)])) s' := call_fresh (xs := [.int 0, .int q, .int n, y]) rfl rfl a0
  have d1 : mCall fk__law_same (mCons (mCall fk__law_ask (mCons (mCon (.int 1)) (mCons (mVar 1) (mCons (mVar 2) (mCons (mVar 5) mNil))))) (mCons (mLst (mCons (mCon (.str (Str.ofString ""))) (mCons (mVar 6) mNil))) mNil)) (frE q n L (some (.d (.int w))) (some (.d y)) (some (.d fd))) s' = .ok (.d (.bl true)) s' :=
    call_ok (xs := [.lst [.str (Str.ofString ""), fd], .lst [.str (Str.ofString ""), fd]]) (cons_d c1 (cons_d (lst_d (xs := [.str (Str.ofString ""), fd]) (cons_d rfl (cons_d rfl nil_d)) two_ok) nil_d)) rfl (same_refl 8 _ (gd_pair hgf))
  have g2 : mCall fk__law_dress (mCons (mVar 3) (mCons (mVar 4) mNil)) (frE q n L (some (.d (.int w))) (some (.d y)) (some (.d fd))) s' = .ok (.d y) s' := call_ok (xs := [.tup (zs L), .int w]) rfl rfl hd
  have d2 : mCall fk__law_same (mCons (mVar 5) (mCons (mCall fk__law_dress (mCons (mVar 3) (mCons (mVar 4) mNil))) mNil)) (frE q n L (some (.d (.int w))) (some (.d y)) (some (.d fd))) s' = .ok (.d (.bl true)) s' := call_ok (xs := [y, y]) (cons_d rfl (cons_d g2 nil_d)) rfl (same_refl 8 _ hgy)
  have d3 : mCall fk__law_same (mCons (mCall fk__law_ask (mCons (mCon (.int 0)) (mCons (mVar 1) (mCons (mVar 2) (mCons (mVar 5) mNil))))) (mCons (mLst (mCons (mCon (.str (Str.ofString ""))) (mCons (mBl (mIsN (mVar 6))) mNil))) mNil)) (frE q n L (some (.d (.int w))) (some (.d y)) (some (.d fd))) s' = .ok (.d (.bl true)) s' :=
    call_ok (xs := [.lst [.str (Str.ofString ""), .bl (isN fd)], .lst [.str (Str.ofString ""), .bl (isN fd)]]) (cons_d c0 (cons_d (lst_d (xs := [.str (Str.ofString ""), .bl (isN fd)]) (cons_d rfl (cons_d (bl_ok (isN_ok (x := fd) rfl)) nil_d)) two_ok) nil_d)) rfl (same_refl 8 _ (gd_pair rfl))
  have i1 : mIf (mOr (mNot (mTru (mCall fk__law_same (mCons (mCall fk__law_ask (mCons (mCon (.int 1)) (mCons (mVar 1) (mCons (mVar 2) (mCons (mVar 5) mNil))))) (mCons (mLst (mCons (mCon (.str (Str.ofString ""))) (mCons (mVar 6) mNil))) mNil))))) (mNot (mTru (mCall fk__law_same (mCons (mVar 5) (mCons (mCall fk__law_dress (mCons (mVar 3) (mCons (mVar 4) mNil))) mNil)))))) (mSeq (mRet (mCon (.bl false))) mPass) mPass (frE q n L (some (.d (.int w))) (some (.d y)) (some (.d fd))) s' = .nxt (frE q n L (some (.d (.int w))) (some (.d y)) (some (.d fd))) s' := if_f (or_f (not_ok (tru_bl d1)) (not_ok (tru_bl d2)))
  rw [e0, seq_nxt e1, seq_nxt e2, seq_nxt e3, seq_nxt i1]
  exact seq_ret (ret_ok d3)
end MPL
end

section
set_option Elab.async false
set_option linter.all false
set_option maxRecDepth 100000
set_option maxHeartbeats 4000000
namespace MPL
open PySem MP
/-- a loop by its index -/
theorem for_ix' {i : Nat} {b : MS} {Inv : Nat → MP.Env → S → Prop} : ∀ (m lo : Nat) (e : MP.Env) (s : S), (∀ k, lo ≤ k → k < lo + m → ∀ e s, Inv k e s → ∃ e' s', b (e.set i (some (.d (.int (k : Nat))))) s = .nxt e' s' ∧ Inv (k + 1) e' s') → Inv lo e s →
    ∃ e' s', forGo (.nm i) b (natD (List.range' lo m)) e s = .nxt e' s' ∧ Inv (lo + m) e' s'
  | 0, lo, e, s, _, h => ⟨e, s, rfl, h⟩
  | m + 1, lo, e, s, h, h0 => by
    obtain ⟨e1, s1, h1, h2⟩ := h lo (Nat.le_refl _) (by omega) e s h0
    obtain ⟨e2, s2, h3, h4⟩ := for_ix' m (lo + 1) e1 s1 (fun k hk1 hk2 => h k (by omega) (by omega)) h2
    refine ⟨e2, s2, ?_, by rw [show lo + (m + 1) = lo + 1 + m by omega]; exact h4⟩
    show (match b (e.set i (some (.d (.int (lo : Nat))))) s with
      | .nxt e s => forGo (.nm i) b (natD (List.range' (lo + 1) m)) e s
      | .cnt e s => forGo (.nm i) b (natD (List.range' (lo + 1) m)) e s
      | .brk e s => .nxt e s
      | r => r) = _
    rw [h1]
    exact h3
theorem for_ix {i : Nat} {b : MS} {Inv : Nat → MP.Env → S → Prop} {N : Nat} {e : MP.Env} {s : S} (h : ∀ k, k < N → ∀ e s, Inv k e s → ∃ e' s', b (e.set i (some (.d (.int (k : Nat))))) s = .nxt e' s' ∧ Inv (k + 1) e' s') (h0 : Inv 0 e s) :
    ∃ e' s', forGo (.nm i) b (natD (List.range N)) e s = .nxt e' s' ∧ Inv N e' s' := by
  obtain ⟨e', s', h1, h2⟩ := for_ix' (i := i) (b := b) (Inv := Inv) N 0 e s (fun k _ hk => h k (by omega)) h0
  rw [List.range_eq_range']
  rw [Nat.zero_add] at h2
  exact ⟨e', s', h1, h2⟩
/-! ### shuffles -/
def PermQ (q : Nat) (p : List Nat) : Prop := p.Perm (List.range q)
theorem erase_map {α β : Type} (f : α → β) : ∀ (l : List α) (t : Nat), (l.map f).eraseIdx t = (l.eraseIdx t).map f
  | [], _ => rfl
  | _ :: _, 0 => rfl
  | a :: l, t + 1 => by
    show f a :: (l.map f).eraseIdx t = _
    rw [erase_map f l t]
    rfl
theorem popN_nat {l : List Nat} {t : Nat} (h : t < l.length) : popN (natD l) (t : Int) = some (.int (l[t] : Nat), natD (l.eraseIdx t)) := by
  unfold popN MP.ixN
  rw [if_pos (by omega), natD_len, if_pos (by omega)]
  dsimp only
  rw [Int.toNat_natCast]
  unfold natD
  rw [List.getElem?_map, List.getElem?_eq_getElem h]
  dsimp only [Option.map_some]
  rw [erase_map]
theorem mPop_ok {j : Nat} {a : ME} {f : D → MS} {e : MP.Env} {s s1 : S} {xs ys : List D} {y : D} {k : Int} {r : F} (hj : e[j]? = some (some (.own xs))) (ha : a e s = .ok (.d (.int k)) s1) (hk : -(2 ^ 62) < k ∧ k < 2 ^ 62) (hp : popN xs k = some (y, ys)) (hf : f y (e.set j (some (.own ys))) s1 = r) : mPop j a f e s = r := by
  unfold mPop
  rw [hj]
  dsimp only
  rw [ha]
  simp only [R.go_ok]
  rw [if_pos hk, hp]
  exact hf
theorem small_nat {t : Nat} (h : t ≤ 1024) : -(2 ^ 62) < (t : Int) ∧ (t : Int) < 2 ^ 62 := by
  have h1 : (1024 : Int) < 2 ^ 62 := by decide
  have h2 : -(2 ^ 62 : Int) < 0 := by decide
  constructor
  · exact Int.lt_of_lt_of_le h2 (Int.natCast_nonneg t)
  · exact Int.lt_of_le_of_lt (by omega) h1
theorem popP_ok {r j : Nat} {a : ME} {e : MP.Env} {s s1 : S} {xs ys zz : List D} {y : D} {k : Int} (hr : e[r]? = some (some (.own xs))) (hj : e[j]? = some (some (.own zz))) (hrj : j ≠ r) (ha : a e s = .ok (.d (.int k)) s1) (hk : -(2 ^ 62) < k ∧ k < 2 ^ 62) (hp : popN zz k = some (y, ys)) (hx : xs.length < line) :
    mPopP r j a e s = .nxt ((e.set j (some (.own ys))).set r (some (.own (xs ++ [y])))) s1 := by
  have hr2 : (e.set j (some (.own ys)))[r]? = some (some (.own xs)) := by rw [List.getElem?_set_ne hrj]; exact hr
  unfold mPopP
  rw [hr]
  refine mPop_ok hj ha hk hp ?_
  rw [hr2]
  exact if_pos hx
theorem erase_perm : ∀ {l : List Nat} {t : Nat} (h : t < l.length), (l[t] :: l.eraseIdx t).Perm l
  | [], t, h => by cases h
  | a :: l, 0, _ => .refl _
  | a :: l, t + 1, h => by
    have h' : t < l.length := by simpa using h
    show (l[t] :: a :: l.eraseIdx t).Perm (a :: l)
    exact (List.Perm.swap a l[t] _).trans (List.Perm.cons a (erase_perm h'))
theorem take_nat {n : Nat} (hn : n ≤ 100000000) (h1 : 1 ≤ n) {cells : List D} (hc : Cells cells) {s : S} (hs : Sto cells s) : ∃ (t : Nat) (s' : S), f__law_take [.ref 0, .d (.int n)] s = .ok (.d (.int t)) s' ∧ t < n ∧ Sto cells s' := by
  obtain ⟨t, s', h2, h3, h4, h5, h6⟩ := take_ok (n := n) (bnd_le (by omega)) hc hs
  obtain ⟨k, rfl⟩ := Int.eq_ofNat_of_zero_le h3
  refine ⟨k, s', h2, ?_, h6⟩
  by_cases h : 2 ≤ (n : Int)
  · have := h4 h; omega
  · have := h5 (by omega); omega
def shB : MS := (mSeq (mPopP 3 2 (mCall fk__law_take (mCons (mVar 0) (mCons (mB1 .len (mVar 2)) mNil)))) mPass)
theorem sh_eq : m__law_shuffle = (mSeq (mAsgO 2 (mLstI (mRg1 (mVar 1)))) (mSeq (mAsgO 3 (mLst mNil)) (mSeq (mFor (.nm 4) (mRg1 (mVar 1)) shB) (mSeq (mFrz 2) (mSeq (mFrz 3) (mSeq (mRet (mB1 .tuple (mVar 3))) mPass)))))) := rfl
theorem shuffle_ok {q : Nat} (hq : q ≤ 8) {cells : List D} (hc : Cells cells) {s : S} (hs : Sto cells s) : ∃ p s', f__law_shuffle [.ref 0, .d (.int q)] s = .ok (.d (.tup (natD p))) s' ∧ PermQ q p ∧ Sto cells s' := by
  obtain ⟨e', s', h1, l, p, x4, he, hs', hlen, hp⟩ := for_ix (i := 4) (b := shB) (N := q) (e := [some (.ref 0), some (.d (.int q)), some (.own (natD (List.range q))), some (.own (natD [])), none]) (s := s)
    (Inv := fun k e s => ∃ (l p : List Nat) (x4 : Option Val), e = [some (.ref 0), some (.d (.int q)), some (.own (natD l)), some (.own (natD p)), x4] ∧ Sto cells s ∧ l.length + k = q ∧ (p ++ l).Perm (List.range q))
    (fun k hk e s ⟨l, p, x4, he, hs, hlen, hp⟩ => by
      subst he
      obtain ⟨t, s1, t1, t2, t3⟩ := take_nat (n := l.length) (by omega) (by omega) hc hs
      have hpl : p.length + l.length = q := by have := hp.length_eq; rw [List.length_append, List.length_range] at this; exact this
      have c : mCall fk__law_take (mCons (mVar 0) (mCons (mB1 .len (mVar 2)) mNil)) [some (.ref 0), some (.d (.int q)), some (.own (natD l)), some (.own (natD p)), some (.d (.int k))] s = .ok (.d (.int (t : Nat))) s1 :=
        take_call (m := l.length) rfl (by show R.ok (Val.d (.int ((natD l).length : Nat))) s = _; rw [natD_len]) t1
      have h2 := popP_ok (r := 3) (j := 2) (e := [some (.ref 0), some (.d (.int q)), some (.own (natD l)), some (.own (natD p)), some (.d (.int k))]) (xs := natD p) rfl rfl (by decide) c (small_nat (by omega)) (popN_nat t2) (lt_line (by rw [natD_len]; omega))
      refine ⟨_, s1, by show shB [some (.ref 0), some (.d (.int q)), some (.own (natD l)), some (.own (natD p)), some (.d (.int k))] s = _; unfold shB; rw [seq_nxt h2]; rfl, l.eraseIdx t, p ++ [l[t]], some (.d (.int k)), by rw [natD_app]; rfl, t3, ?_, ?_⟩
      · rw [List.length_eraseIdx_of_lt t2]; omega
      · refine List.Perm.trans ?_ hp
        rw [List.append_assoc]
        exact List.Perm.append_left p (erase_perm t2))
    ⟨List.range q, [], none, rfl, hs, by simp, by simp⟩
  have hl0 : l = [] := List.eq_nil_of_length_eq_zero (by omega)
  subst hl0
  rw [List.append_nil] at hp
  refine ⟨p, s', ?_, hp, hs'⟩
  unfold f__law_shuffle
  refine runE_ret ?_
  have e1 : mAsgO 2 (mLstI (mRg1 (mVar 1))) (initE 5 [.ref 0, .d (.int q)]) s = .nxt [some (.ref 0), some (.d (.int q)), some (.own (natD (List.range q))), none, none] s := by
    have hr : mRg1 (mVar 1) (initE 5 [.ref 0, .d (.int q)]) s = .ok (natD (List.range q)) s := rgI (by omega) rfl
    unfold mAsgO mLstI
    rw [hr]
    rfl
  have e2 : mAsgO 3 (mLst mNil) [some (.ref 0), some (.d (.int q)), some (.own (natD (List.range q))), none, none] s = .nxt [some (.ref 0), some (.d (.int q)), some (.own (natD (List.range q))), some (.own (natD [])), none] s := rfl
  have e3 : mRg1 (mVar 1) [some (.ref 0), some (.d (.int q)), some (.own (natD (List.range q))), some (.own (natD [])), none] s = .ok (natD (List.range q)) s := rgI (by omega) rfl
  rw [sh_eq, seq_nxt e1, seq_nxt e2, seq_for e3, h1, he]
  rfl
end MPL
end

section
set_option Elab.async false
set_option linter.all false
set_option maxRecDepth 100000
set_option maxHeartbeats 4000000
namespace MPL
open PySem MP
/-! ### squares -/
def gq (M : List (List Nat)) (a b : Nat) : Nat := (M.getD a []).getD b 0
def put (M : List (List Nat)) (a b c : Nat) : List (List Nat) := M.set a ((M.getD a []).set b c)
structure Dim (q : Nat) (M : List (List Nat)) : Prop where
  len : M.length = q
  row : ∀ a, a < q → (M.getD a []).length = q
theorem Dim.put {q : Nat} {M : List (List Nat)} (h : Dim q M) (a b c : Nat) : Dim q (put M a b c) := by
  refine ⟨by unfold MPL.put; rw [List.length_set]; exact h.len, fun x hx => ?_⟩
  unfold MPL.put
  rw [List.getD_eq_getElem?_getD, List.getElem?_set]
  split
  · rename_i e
    subst e
    rw [if_pos (by rw [h.len]; exact hx)]
    show ((M.getD a []).set b c).length = q
    rw [List.length_set]
    exact h.row a hx
  · rw [← List.getD_eq_getElem?_getD]
    exact h.row x hx
theorem put_row {q : Nat} {M : List (List Nat)} (h : Dim q M) {a b c x : Nat} (ha : a < q) : (put M a b c).getD x [] = if a = x then (M.getD a []).set b c else M.getD x [] := by
  unfold MPL.put
  rw [List.getD_eq_getElem?_getD, List.getElem?_set]
  by_cases e : a = x
  · subst e
    rw [if_pos rfl, if_pos (by rw [h.len]; exact ha), if_pos rfl]
    rfl
  · rw [if_neg e, if_neg e, ← List.getD_eq_getElem?_getD]
theorem gq_put {q : Nat} {M : List (List Nat)} (h : Dim q M) {a b c x y : Nat} (ha : a < q) (hb : b < q) : gq (put M a b c) x y = if a = x ∧ b = y then c else gq M x y := by
  unfold gq
  rw [put_row h ha]
  by_cases e : a = x
  · subst e
    rw [if_pos rfl, List.getD_eq_getElem?_getD, List.getElem?_set]
    by_cases e2 : b = y
    · subst e2
      rw [if_pos rfl, if_pos (by rw [h.row a ha]; exact hb), if_pos ⟨rfl, rfl⟩]
      rfl
    · rw [if_neg e2, if_neg (fun z => e2 z.2), ← List.getD_eq_getElem?_getD]
  · rw [if_neg e, if_neg (fun z => e z.1)]
theorem bin_d {o : Op} {a b : ME} {e : MP.Env} {s s1 s2 : S} {x y z : D} (ha : a e s = .ok (.d x) s1) (hb : b e s1 = .ok (.d y) s2) (h : opD o x y = some z) : mBin o a b e s = .ok (.d z) s2 := by
  unfold mBin
  rw [ha]
  simp only [R.bind_ok]
  rw [hb]
  simp only [R.bind_ok, rd_d, h, Option.map_some, R.of_some]
theorem rep_zero {q : Nat} (hq : q ≤ 8) : opD .mul (.lst [.int 0]) (.int (q : Int)) = some (.lst (natD (List.replicate q 0))) := by
  have key : ((List.range 9).all fun q => match opD .mul (.lst [.int 0]) (.int ((q : Nat) : Int)) with
    | some (.lst xs) => isInts xs (List.replicate q 0)
    | _ => false) = true := by decide +kernel
  have h := List.all_eq_true.mp key q (List.mem_range.mpr (by omega))
  split at h
  · rename_i xs e
    rw [e, isInts_ok h]
  · cases h
/-- each letter once in each line -/
structure Lat (q : Nat) (M : List (List Nat)) : Prop extends Dim q M where
  lt : ∀ a b, a < q → b < q → gq M a b < q
  inr : ∀ a b b', a < q → b < q → b' < q → gq M a b = gq M a b' → b = b'
  inc : ∀ a a' b, a < q → a' < q → b < q → gq M a b = gq M a' b → a = a'
def pg (p : List Nat) (i : Nat) : Nat := p.getD i 0
theorem PermQ.len {q : Nat} {p : List Nat} (h : PermQ q p) : p.length = q := by have := List.Perm.length_eq h; rwa [List.length_range] at this
theorem PermQ.lt {q : Nat} {p : List Nat} (h : PermQ q p) {i : Nat} (hi : i < q) : pg p i < q := by
  have hl : i < p.length := by rw [h.len]; exact hi
  unfold pg
  rw [List.getD_eq_getElem?_getD, List.getElem?_eq_getElem hl]
  exact List.mem_range.mp (List.Perm.mem_iff h |>.mp (List.getElem_mem hl))
theorem PermQ.inj {q : Nat} {p : List Nat} (h : PermQ q p) {i j : Nat} (hi : i < q) (hj : j < q) (e : pg p i = pg p j) : i = j := by
  have nd : p.Nodup := (List.Perm.nodup_iff h).mpr List.nodup_range
  have hl : i < p.length := by rw [h.len]; exact hi
  have hl2 : j < p.length := by rw [h.len]; exact hj
  unfold pg at e
  rw [List.getD_eq_getElem?_getD, List.getElem?_eq_getElem hl, List.getD_eq_getElem?_getD, List.getElem?_eq_getElem hl2] at e
  exact (List.getElem_inj nd).mp e
theorem PermQ.sur {q : Nat} {p : List Nat} (h : PermQ q p) {a : Nat} (ha : a < q) : ∃ i, i < q ∧ pg p i = a := by
  have hm : a ∈ p := List.Perm.mem_iff h |>.mpr (List.mem_range.mpr ha)
  obtain ⟨i, hi, e⟩ := List.getElem_of_mem hm
  refine ⟨i, by rw [← h.len]; exact hi, ?_⟩
  unfold pg
  rw [List.getD_eq_getElem?_getD, List.getElem?_eq_getElem hi]
  exact e
/-- a square renamed three ways is one -/
theorem Lat.renamed {q : Nat} {R T : List (List Nat)} {rho sigma tau : List Nat} (h : Lat q R) (h1 : PermQ q rho) (h2 : PermQ q sigma) (h3 : PermQ q tau) (d : Dim q T) (e : ∀ x y, x < q → y < q → gq T (pg rho x) (pg sigma y) = pg tau (gq R x y)) : Lat q T := by
  refine ⟨d, fun a b ha hb => ?_, fun a b b' ha hb hb' he => ?_, fun a a' b ha ha' hb he => ?_⟩
  · obtain ⟨x, hx, rfl⟩ := h1.sur ha
    obtain ⟨y, hy, rfl⟩ := h2.sur hb
    rw [e x y hx hy]
    exact h3.lt (h.lt x y hx hy)
  · obtain ⟨x, hx, rfl⟩ := h1.sur ha
    obtain ⟨y, hy, rfl⟩ := h2.sur hb
    obtain ⟨y', hy', rfl⟩ := h2.sur hb'
    rw [e x y hx hy, e x y' hx hy'] at he
    have := h.inr x y y' hx hy hy' (h3.inj (h.lt x y hx hy) (h.lt x y' hx hy') he)
    rw [this]
  · obtain ⟨x, hx, rfl⟩ := h1.sur ha
    obtain ⟨x', hx', rfl⟩ := h1.sur ha'
    obtain ⟨y, hy, rfl⟩ := h2.sur hb
    rw [e x y hx hy, e x' y hx' hy] at he
    have := h.inc x x' y hx hx' hy (h3.inj (h.lt x y hx hy) (h.lt x' y hx' hy) he)
    rw [this]
theorem fseq_nxt {e : MP.Env} {s : S} {k : MS} : fseq (.nxt e s) k = k e s := rfl
/-! ### _law_rename -/
def rowsD (M : List (List Nat)) : List (List D) := M.map natD
theorem natD_set (l : List Nat) (b c : Nat) : natD (l.set b c) = (natD l).set b (.int (c : Nat)) := by unfold natD; rw [List.map_set]
theorem ixN_nat {n k : Nat} (h : k < n) : MP.ixN n (k : Int) = some k := by
  unfold MP.ixN
  rw [if_pos (by omega), if_pos (by omega), Int.toNat_natCast]
theorem sto2_ok {i : Nat} {ja jb a : ME} {e : MP.Env} {s : S} {q : Nat} {M : List (List Nat)} (d : Dim q M) {x y c : Nat} (hx : x < q) (hy : y < q) (ha : a e s = .ok (.d (.int (c : Nat))) s) (he : e[i]? = some (some (.own2 (rowsD M)))) (hja : ja e s = .ok (.d (.int (x : Nat))) s) (hjb : jb e s = .ok (.d (.int (y : Nat))) s) :
    mSto2 i ja jb a e s = .nxt (e.set i (some (.own2 (rowsD (put M x y c))))) s := by
  have hxl : x < M.length := by rw [d.len]; exact hx
  have h1 : (rowsD M).length = M.length := by unfold rowsD; rw [List.length_map]
  have h2 : (rowsD M)[x]? = some (natD (M.getD x [])) := by
    unfold rowsD
    rw [List.getElem?_map, List.getElem?_eq_getElem hxl, List.getD_eq_getElem?_getD, List.getElem?_eq_getElem hxl]
    rfl
  have h3 : (natD (M.getD x [])).length = q := by rw [natD_len, d.row x hx]
  unfold mSto2
  rw [ha]
  simp only [R.go_ok]
  rw [he]
  dsimp only
  rw [hja]
  simp only [R.go_ok]
  rw [h1, ixN_nat hxl]
  dsimp only
  rw [hjb]
  simp only [R.go_ok]
  rw [h2]
  dsimp only
  rw [h3, ixN_nat hy]
  dsimp only
  rw [← natD_set]
  have h4 : (rowsD M).set x (natD ((M.getD x []).set y c)) = rowsD (put M x y c) := by unfold rowsD put; rw [List.map_set]
  rw [h4]
theorem lcL_map {e : MP.Env} {i : Nat} {m : ME} {s : S} {g : D → List D} : ∀ (xs : List D) (acc : List (List D)), (∀ x ∈ xs, m (e.set i (some (.d x))) s = .ok (.d (.lst (g x))) s) → lcGoL e (.nm i) mYes m xs acc s = .ok (acc ++ xs.map g) s
  | [], acc, _ => by simp [lcGoL]
  | x :: xs, acc, h => by
    have h1 := h x List.mem_cons_self
    have h2 := lcL_map xs (acc ++ [g x]) fun y hy => h y (List.mem_cons_of_mem _ hy)
    unfold lcGoL
    show (match m (e.set i (some (.d x))) s with
        | .ok (.d (.lst y)) s => lcGoL e (.nm i) mYes m xs (acc ++ [y]) s
        | _ => .stuck) = _
    rw [h1]
    show lcGoL e (.nm i) mYes m xs (acc ++ [g x]) s = _
    rw [h2, List.append_assoc]
    rfl
theorem asg2_ok {i j : Nat} {own : List Nat} {it : MI} {m : ME} {e : MP.Env} {s : S} {xs : List D} {g : D → List D} (hi : it e s = .ok xs s) (h : ∀ x ∈ xs, m ((wipe e own).set j (some (.d x))) s = .ok (.d (.lst (g x))) s) : mAsgO2 i own (.nm j) it mYes m e s = .nxt (e.set i (some (.own2 (xs.map g)))) s := by
  unfold mAsgO2
  rw [hi]
  dsimp only
  rw [lcL_map xs [] h]
  rfl
def lstsD (M : List (List Nat)) : D := .lst (M.map fun r => .lst (natD r))
def tabD (M : List (List Nat)) : D := .tup (M.map fun r => .tup (natD r))
abbrev rnE (q : Nat) (R : List (List Nat)) (rho sigma tau : List Nat) (x5 x6 x7 : Option Val) : MP.Env := [some (.d (.int q)), some (.d (lstsD R)), some (.d (.tup (natD rho))), some (.d (.tup (natD sigma))), some (.d (.tup (natD tau))), x5, x6, x7, none]
def rnS : MS := (mSeq (mSto2 5 (mIx (mVar 2) (mVar 6)) (mIx (mVar 3) (mVar 7)) (mIx (mVar 4) (mIx (mIx (mVar 1) (mVar 6)) (mVar 7)))) mPass)
def rnI : MS := (mSeq (mFor (.nm 7) (mRg1 (mVar 0)) rnS) mPass)
theorem rn_eq : m__law_rename = mSeq (mAsgO2 5 [6] (.nm 6) (mRg1 (mVar 0)) mYes (mBin .mul (mLst (mCons (mCon (.int 0)) mNil)) (mVar 0))) (mSeq (mFor (.nm 6) (mRg1 (mVar 0)) rnI) (mSeq (mFrz 5) (mSeq (mRet (mB1 .tuple (mLc [8] (.nm 8) (mItV (mVar 5)) mYes (mB1 .tuple (mVar 8))))) mPass))) := rfl
theorem natD_get {p : List Nat} {k : Nat} (h : k < p.length) : MP.atI (natD p) (k : Int) = some (.int (pg p k : Nat)) := by
  rw [natD_at h]
  unfold pg
  rw [List.getD_eq_getElem?_getD, List.getElem?_eq_getElem h]
  rfl
section
variable {q : Nat} {R : List (List Nat)} {rho sigma tau : List Nat}
theorem rn_turn (hR : Lat q R) (h1 : PermQ q rho) (h2 : PermQ q sigma) (h3 : PermQ q tau) {M : List (List Nat)} (d : Dim q M) {x y : Nat} (hx : x < q) (hy : y < q) (s : S) :
    rnS (rnE q R rho sigma tau (some (.own2 (rowsD M))) (some (.d (.int x))) (some (.d (.int y)))) s = .nxt (rnE q R rho sigma tau (some (.own2 (rowsD (put M (pg rho x) (pg sigma y) (pg tau (gq R x y)))))) (some (.d (.int x))) (some (.d (.int y)))) s := by
  have hxl : x < R.length := by rw [hR.len]; exact hx
  have a1 : MP.atI (R.map fun r => D.lst (natD r)) (x : Int) = some (.lst (natD (R.getD x []))) := by
    rw [atI_get (by rw [List.length_map]; exact hxl), List.getElem_map, List.getD_eq_getElem?_getD, List.getElem?_eq_getElem hxl]
    rfl
  have hrow : y < (R.getD x []).length := by rw [hR.row x hx]; exact hy
  have a2 : MP.atI (natD (R.getD x [])) (y : Int) = some (.int (gq R x y : Nat)) := natD_get hrow
  have a3 : MP.atI (natD tau) ((gq R x y : Nat) : Int) = some (.int (pg tau (gq R x y) : Nat)) := natD_get (by rw [h3.len]; exact hR.lt x y hx hy)
  have st := sto2_ok (i := 5) (ja := mIx (mVar 2) (mVar 6)) (jb := mIx (mVar 3) (mVar 7)) (a := mIx (mVar 4) (mIx (mIx (mVar 1) (mVar 6)) (mVar 7))) (e := rnE q R rho sigma tau (some (.own2 (rowsD M))) (some (.d (.int x))) (some (.d (.int y)))) (s := s) d (x := pg rho x) (y := pg sigma y) (c := pg tau (gq R x y)) (h1.lt hx) (h2.lt hy)
    (ix_tup rfl (ix_lst (ix_lst rfl rfl a1) rfl a2) a3) rfl (ix_tup rfl rfl (natD_get (by rw [h1.len]; exact hx))) (ix_tup rfl rfl (natD_get (by rw [h2.len]; exact hy)))
  unfold rnS
  rw [seq_nxt st]
  rfl
theorem rename_ok (hq : q ≤ 8) (hR : Lat q R) (h1 : PermQ q rho) (h2 : PermQ q sigma) (h3 : PermQ q tau) : ∃ T, Lat q T ∧ f__law_rename [.int q, lstsD R, .tup (natD rho), .tup (natD sigma), .tup (natD tau)] = .ok (tabD T) := by
  let Dn : List (List Nat) → Nat → Nat → Prop := fun M x y => ∀ x' y', (x' < x ∨ (x' = x ∧ y' < y)) → x' < q → y' < q → gq M (pg rho x') (pg sigma y') = pg tau (gq R x' y')
  obtain ⟨e', s', f1, M, x6, x7, he, hs, d, hd⟩ := for_ix (i := 6) (b := rnI) (N := q) (e := rnE q R rho sigma tau (some (.own2 (rowsD (List.replicate q (List.replicate q 0))))) none none) (s := [])
    (Inv := fun k e s => ∃ (M : List (List Nat)) (x6 x7 : Option Val), e = rnE q R rho sigma tau (some (.own2 (rowsD M))) x6 x7 ∧ s = [] ∧ Dim q M ∧ Dn M k 0)
    (fun x hx e s ⟨M, x6, x7, he, hs, d, hd⟩ => by
      subst he hs
      obtain ⟨e2, s2, g1, M2, x7', he2, hs2, d2, hd2⟩ := for_ix (i := 7) (b := rnS) (N := q) (e := rnE q R rho sigma tau (some (.own2 (rowsD M))) (some (.d (.int x))) x7) (s := [])
        (Inv := fun k e s => ∃ (M : List (List Nat)) (x7 : Option Val), e = rnE q R rho sigma tau (some (.own2 (rowsD M))) (some (.d (.int x))) x7 ∧ s = [] ∧ Dim q M ∧ Dn M x k)
        (fun y hy e s ⟨M, x7, he, hs, d, hd⟩ => by
          subst he hs
          refine ⟨_, [], rn_turn hR h1 h2 h3 d hx hy [], put M (pg rho x) (pg sigma y) (pg tau (gq R x y)), _, rfl, rfl, d.put _ _ _, fun x' y' hlt hx' hy' => ?_⟩
          rw [gq_put d (h1.lt hx) (h2.lt hy)]
          by_cases hc : pg rho x = pg rho x' ∧ pg sigma y = pg sigma y'
          · rw [if_pos hc]
            have e1 := h1.inj hx hx' hc.1
            have e2 := h2.inj hy hy' hc.2
            subst e1 e2
            rfl
          · rw [if_neg hc]
            refine hd x' y' ?_ hx' hy'
            rcases hlt with h | ⟨h, h'⟩
            · exact .inl h
            · refine .inr ⟨h, ?_⟩
              have : y' ≠ y := fun z => hc ⟨by rw [h], by rw [z]⟩
              omega) ⟨M, x7, rfl, rfl, d, fun x' y' hlt hx' hy' => hd x' y' (by omega) hx' hy'⟩
      have e3 : mRg1 (mVar 0) (rnE q R rho sigma tau (some (.own2 (rowsD M))) (some (.d (.int x))) x7) [] = .ok (natD (List.range q)) [] := rgI (by omega) rfl
      refine ⟨e2, [], ?_, M2, some (.d (.int x)), x7', he2, rfl, d2, fun x' y' hlt hx' hy' => hd2 x' y' (by omega) hx' hy'⟩
      show rnI (rnE q R rho sigma tau (some (.own2 (rowsD M))) (some (.d (.int x))) x7) [] = _
      unfold rnI
      rw [seq_for e3, g1, hs2]
      rfl)
    ⟨List.replicate q (List.replicate q 0), none, none, rfl, rfl, ⟨List.length_replicate, fun a ha => by
      rw [List.getD_eq_getElem?_getD, List.getElem?_replicate, if_pos ha]
      exact List.length_replicate⟩, fun x' y' hlt => by omega⟩
  refine ⟨M, hR.renamed h1 h2 h3 d fun x y hx hy => hd x y (.inl hx) hx hy, ?_⟩
  unfold f__law_rename
  refine runP_ret (s := []) ?_
  have z1 : mAsgO2 5 [6] (.nm 6) (mRg1 (mVar 0)) mYes (mBin .mul (mLst (mCons (mCon (.int 0)) mNil)) (mVar 0)) (initE 9 ([D.int q, lstsD R, .tup (natD rho), .tup (natD sigma), .tup (natD tau)].map .d)) [] = .nxt (rnE q R rho sigma tau (some (.own2 (rowsD (List.replicate q (List.replicate q 0))))) none none) [] := by
    have hr : mRg1 (mVar 0) (initE 9 ([D.int q, lstsD R, .tup (natD rho), .tup (natD sigma), .tup (natD tau)].map .d)) [] = .ok (natD (List.range q)) [] := rgI (by omega) rfl
    have := asg2_ok (i := 5) (j := 6) (own := [6]) (it := mRg1 (mVar 0)) (m := mBin .mul (mLst (mCons (mCon (.int 0)) mNil)) (mVar 0)) (g := fun _ => natD (List.replicate q 0)) hr (fun x _ => by
      exact bin_d (x := .lst [.int 0]) (y := .int q) (s1 := []) rfl rfl (rep_zero hq))
    rw [this]
    have e1 : (natD (List.range q)).map (fun _ => natD (List.replicate q 0)) = rowsD (List.replicate q (List.replicate q 0)) := by
      unfold rowsD
      rw [List.map_const', natD_len, List.length_range, List.map_replicate]
    rw [e1]
    rfl
  have z2 : mRg1 (mVar 0) (rnE q R rho sigma tau (some (.own2 (rowsD (List.replicate q (List.replicate q 0))))) none none) [] = .ok (natD (List.range q)) [] := rgI (by omega) rfl
  rw [rn_eq, seq_nxt z1, seq_for z2, f1, he, hs]
  have z3 : mFrz 5 (rnE q R rho sigma tau (some (.own2 (rowsD M))) x6 x7) [] = .nxt (rnE q R rho sigma tau (some (.d (lstsD M))) x6 x7) [] := by
    show F.nxt _ _ = _
    have : (rowsD M).map D.lst = M.map fun r => D.lst (natD r) := by unfold rowsD; rw [List.map_map]; rfl
    show F.nxt (rnE q R rho sigma tau (some (.d (.lst ((rowsD M).map D.lst)))) x6 x7) [] = _
    rw [this]
    rfl
  have z4 : mLc [8] (.nm 8) (mItV (mVar 5)) mYes (mB1 .tuple (mVar 8)) (rnE q R rho sigma tau (some (.d (lstsD M))) x6 x7) [] = .ok (.d (.lst ((M.map fun r => D.lst (natD r)).map fun y => match y with
      | .lst xs => .tup xs
      | _ => .non))) [] := mLc_map rfl fun x hx => by
    obtain ⟨r, _, rfl⟩ := List.mem_map.mp hx
    rfl
  rw [fseq_nxt, seq_nxt z3]
  refine seq_ret (ret_ok (b1_ok z4 ?_))
  show some (D.tup _) = _
  unfold tabD
  rw [List.map_map]
  rfl
end
end MPL
end

section
set_option Elab.async false
set_option linter.all false
set_option maxRecDepth 100000
set_option maxHeartbeats 4000000
namespace MPL
open PySem MP
theorem seq_assoc (a b c : MS) : mSeq a (mSeq b c) = mSeq (mSeq a b) c := by
  funext e s
  unfold mSeq
  cases a e s <;> rfl
/-! ### a table -/
def stR : MS := (mSeq (mAsg 7 (mLc [10] (.nm 10) (mRg1 (mVar 1)) mYes (mBin .mod (mB1 .int (mBin .add (mVar 5) (mVar 10))) (mVar 1)))) (mSeq (mIf (mAnd (mCmp .eq (mVar 2) (mCon (.int 1))) (mCmp .eq (mBin .mod (mB1 .int (mVar 1)) (mCon (.int 2))) (mCon (.int 0)))) (mSeq (mAsg 8 (mBin .sub (mCon (.int 1)) (mBin .mul (mCon (.int 2)) (mB1 .int (mBl (mCmp .ge (mVar 5) (mVar 3))))))) (mSeq (mAsg 7 (mLc [10] (.nm 10) (mRg1 (mVar 1)) mYes (mBin .add (mBin .mod (mB1 .int (mBin .add (mVar 5) (mBin .mul (mVar 8) (mVar 10)))) (mVar 3)) (mBin .mul (mVar 3) (mBin .mod (mB1 .int (mBin .add (mBin .fdiv (mVar 5) (mVar 3)) (mBin .fdiv (mVar 10) (mVar 3)))) (mCon (.int 2))))))) mPass)) mPass) (mSeq (mIf (mAnd (mCmp .eq (mVar 2) (mCon (.int 2))) (mAnd (mCmp .in_ (mVar 1) (mTup (mCons (mCon (.int 6)) (mCons (mCon (.int 8)) mNil)))) (mCmp .in_ (mVar 5) (mTup (mCons (mCon (.int 1)) (mCons (mCon (.int 3)) mNil)))))) (mSeq (mAsg 7 (mLc [10] (.nm 10) (mRg1 (mVar 1)) mYes (mBin .mod (mB1 .int (mBin .add (mBin .add (mVar 5) (mVar 10)) (mBin .mul (mBin .sub (mCon (.int 4)) (mBin .mul (mCon (.int 2)) (mVar 5))) (mBin .mod (mB1 .int (mVar 10)) (mCon (.int 2)))))) (mVar 1)))) mPass) mPass) (mSeq (mIf (mAnd (mCmp .eq (mVar 2) (mCon (.int 2))) (mCmp .eq (mVar 1) (mCon (.int 5)))) (mSeq (mAsg 7 (mLc [8] (.nm 8) (mItV (mIx (mTup (mCons (mCon (.str (Str.ofString "01234"))) (mCons (mCon (.str (Str.ofString "10342"))) (mCons (mCon (.str (Str.ofString "23401"))) (mCons (mCon (.str (Str.ofString "34120"))) (mCons (mCon (.str (Str.ofString "42013"))) mNil)))))) (mVar 5))) mYes (mB1 .int (mVar 8)))) mPass) mPass) (mIf (mAnd (mCmp .eq (mVar 2) (mCon (.int 2))) (mCmp .eq (mVar 1) (mCon (.int 7)))) (mSeq (mAsg 9 (mTup (mCons (mCon (.str (Str.ofString "0214365"))) (mCons (mCon (.str (Str.ofString "2105634"))) (mCons (mCon (.str (Str.ofString "1026543"))) (mCons (mCon (.str (Str.ofString "4563012"))) (mCons (mCon (.str (Str.ofString "3650421"))) (mCons (mCon (.str (Str.ofString "6341250"))) (mCons (mCon (.str (Str.ofString "5432106"))) mNil))))))))) (mSeq (mAsg 7 (mLc [8] (.nm 8) (mItV (mIx (mVar 9) (mVar 5))) mYes (mB1 .int (mVar 8)))) mPass)) mPass)))))
def stA : MS := (mSeq (mApp 4 (mVar 7)) mPass)
def txs : D := .tup (["0214365", "2105634", "1026543", "4563012", "3650421", "6341250", "5432106"].map fun x => .str (Str.ofString x))
abbrev rtE (q w k : Nat) (acc : List D) (x5 x7 x8 x9 : Option Val) : MP.Env := [some (.ref 0), some (.d (.int q)), some (.d (.int w)), some (.d (.int k)), some (.own acc), x5, none, x7, x8, x9, none]
def rowsN : Nat → Nat → List (List Nat)
  | 1, 0 => [[0]]
  | 1, 1 => [[0]]
  | 1, 2 => [[0]]
  | 2, 0 => [[0, 1], [1, 0]]
  | 2, 1 => [[0, 1], [1, 0]]
  | 2, 2 => [[0, 1], [1, 0]]
  | 3, 0 => [[0, 1, 2], [1, 2, 0], [2, 0, 1]]
  | 3, 1 => [[0, 1, 2], [1, 2, 0], [2, 0, 1]]
  | 3, 2 => [[0, 1, 2], [1, 2, 0], [2, 0, 1]]
  | 4, 0 => [[0, 1, 2, 3], [1, 2, 3, 0], [2, 3, 0, 1], [3, 0, 1, 2]]
  | 4, 1 => [[0, 1, 2, 3], [1, 0, 3, 2], [2, 3, 0, 1], [3, 2, 1, 0]]
  | 4, 2 => [[0, 1, 2, 3], [1, 2, 3, 0], [2, 3, 0, 1], [3, 0, 1, 2]]
  | 5, 0 => [[0, 1, 2, 3, 4], [1, 2, 3, 4, 0], [2, 3, 4, 0, 1], [3, 4, 0, 1, 2], [4, 0, 1, 2, 3]]
  | 5, 1 => [[0, 1, 2, 3, 4], [1, 2, 3, 4, 0], [2, 3, 4, 0, 1], [3, 4, 0, 1, 2], [4, 0, 1, 2, 3]]
  | 5, 2 => [[0, 1, 2, 3, 4], [1, 0, 3, 4, 2], [2, 3, 4, 0, 1], [3, 4, 1, 2, 0], [4, 2, 0, 1, 3]]
  | 6, 0 => [[0, 1, 2, 3, 4, 5], [1, 2, 3, 4, 5, 0], [2, 3, 4, 5, 0, 1], [3, 4, 5, 0, 1, 2], [4, 5, 0, 1, 2, 3], [5, 0, 1, 2, 3, 4]]
  | 6, 1 => [[0, 1, 2, 3, 4, 5], [1, 2, 0, 4, 5, 3], [2, 0, 1, 5, 3, 4], [3, 5, 4, 0, 2, 1], [4, 3, 5, 1, 0, 2], [5, 4, 3, 2, 1, 0]]
  | 6, 2 => [[0, 1, 2, 3, 4, 5], [1, 4, 3, 0, 5, 2], [2, 3, 4, 5, 0, 1], [3, 2, 5, 4, 1, 0], [4, 5, 0, 1, 2, 3], [5, 0, 1, 2, 3, 4]]
  | 7, 0 => [[0, 1, 2, 3, 4, 5, 6], [1, 2, 3, 4, 5, 6, 0], [2, 3, 4, 5, 6, 0, 1], [3, 4, 5, 6, 0, 1, 2], [4, 5, 6, 0, 1, 2, 3], [5, 6, 0, 1, 2, 3, 4], [6, 0, 1, 2, 3, 4, 5]]
  | 7, 1 => [[0, 1, 2, 3, 4, 5, 6], [1, 2, 3, 4, 5, 6, 0], [2, 3, 4, 5, 6, 0, 1], [3, 4, 5, 6, 0, 1, 2], [4, 5, 6, 0, 1, 2, 3], [5, 6, 0, 1, 2, 3, 4], [6, 0, 1, 2, 3, 4, 5]]
  | 7, 2 => [[0, 2, 1, 4, 3, 6, 5], [2, 1, 0, 5, 6, 3, 4], [1, 0, 2, 6, 5, 4, 3], [4, 5, 6, 3, 0, 1, 2], [3, 6, 5, 0, 4, 2, 1], [6, 3, 4, 1, 2, 5, 0], [5, 4, 3, 2, 1, 0, 6]]
  | 8, 0 => [[0, 1, 2, 3, 4, 5, 6, 7], [1, 2, 3, 4, 5, 6, 7, 0], [2, 3, 4, 5, 6, 7, 0, 1], [3, 4, 5, 6, 7, 0, 1, 2], [4, 5, 6, 7, 0, 1, 2, 3], [5, 6, 7, 0, 1, 2, 3, 4], [6, 7, 0, 1, 2, 3, 4, 5], [7, 0, 1, 2, 3, 4, 5, 6]]
  | 8, 1 => [[0, 1, 2, 3, 4, 5, 6, 7], [1, 2, 3, 0, 5, 6, 7, 4], [2, 3, 0, 1, 6, 7, 4, 5], [3, 0, 1, 2, 7, 4, 5, 6], [4, 7, 6, 5, 0, 3, 2, 1], [5, 4, 7, 6, 1, 0, 3, 2], [6, 5, 4, 7, 2, 1, 0, 3], [7, 6, 5, 4, 3, 2, 1, 0]]
  | 8, 2 => [[0, 1, 2, 3, 4, 5, 6, 7], [1, 4, 3, 6, 5, 0, 7, 2], [2, 3, 4, 5, 6, 7, 0, 1], [3, 2, 5, 4, 7, 6, 1, 0], [4, 5, 6, 7, 0, 1, 2, 3], [5, 6, 7, 0, 1, 2, 3, 4], [6, 7, 0, 1, 2, 3, 4, 5], [7, 0, 1, 2, 3, 4, 5, 6]]
  | _, _ => []
theorem sb_1_0 : ∀ (x : Nat) (hx : x < 1) (acc : List D) (x7 x8 x9 : Option Val) (s : S), ∃ y8 y9, stR (rtE 1 0 1 acc (some (.d (.int x))) x7 x8 x9) s = .nxt (rtE 1 0 1 acc (some (.d (.int x))) (some (.d (.lst (natD ((rowsN 1 0).getD x []))))) y8 y9) s
  | 0, _ => fun acc x7 x8 x9 s => ⟨x8, x9, by kernel_rfl⟩
  | n + 1, h => by omega
theorem sb_1_1 : ∀ (x : Nat) (hx : x < 1) (acc : List D) (x7 x8 x9 : Option Val) (s : S), ∃ y8 y9, stR (rtE 1 1 1 acc (some (.d (.int x))) x7 x8 x9) s = .nxt (rtE 1 1 1 acc (some (.d (.int x))) (some (.d (.lst (natD ((rowsN 1 1).getD x []))))) y8 y9) s
  | 0, _ => fun acc x7 x8 x9 s => ⟨x8, x9, by kernel_rfl⟩
  | n + 1, h => by omega
theorem sb_1_2 : ∀ (x : Nat) (hx : x < 1) (acc : List D) (x7 x8 x9 : Option Val) (s : S), ∃ y8 y9, stR (rtE 1 2 1 acc (some (.d (.int x))) x7 x8 x9) s = .nxt (rtE 1 2 1 acc (some (.d (.int x))) (some (.d (.lst (natD ((rowsN 1 2).getD x []))))) y8 y9) s
  | 0, _ => fun acc x7 x8 x9 s => ⟨x8, x9, by kernel_rfl⟩
  | n + 1, h => by omega
theorem sb_2_0 : ∀ (x : Nat) (hx : x < 2) (acc : List D) (x7 x8 x9 : Option Val) (s : S), ∃ y8 y9, stR (rtE 2 0 1 acc (some (.d (.int x))) x7 x8 x9) s = .nxt (rtE 2 0 1 acc (some (.d (.int x))) (some (.d (.lst (natD ((rowsN 2 0).getD x []))))) y8 y9) s
  | 0, _ => fun acc x7 x8 x9 s => ⟨x8, x9, by kernel_rfl⟩
  | 1, _ => fun acc x7 x8 x9 s => ⟨x8, x9, by kernel_rfl⟩
  | n + 2, h => by omega
theorem sb_2_1 : ∀ (x : Nat) (hx : x < 2) (acc : List D) (x7 x8 x9 : Option Val) (s : S), ∃ y8 y9, stR (rtE 2 1 1 acc (some (.d (.int x))) x7 x8 x9) s = .nxt (rtE 2 1 1 acc (some (.d (.int x))) (some (.d (.lst (natD ((rowsN 2 1).getD x []))))) y8 y9) s
  | 0, _ => fun acc x7 x8 x9 s => ⟨some (.d (.int (1))), x9, by kernel_rfl⟩
  | 1, _ => fun acc x7 x8 x9 s => ⟨some (.d (.int (-1))), x9, by kernel_rfl⟩
  | n + 2, h => by omega
theorem sb_2_2 : ∀ (x : Nat) (hx : x < 2) (acc : List D) (x7 x8 x9 : Option Val) (s : S), ∃ y8 y9, stR (rtE 2 2 1 acc (some (.d (.int x))) x7 x8 x9) s = .nxt (rtE 2 2 1 acc (some (.d (.int x))) (some (.d (.lst (natD ((rowsN 2 2).getD x []))))) y8 y9) s
  | 0, _ => fun acc x7 x8 x9 s => ⟨x8, x9, by kernel_rfl⟩
  | 1, _ => fun acc x7 x8 x9 s => ⟨x8, x9, by kernel_rfl⟩
  | n + 2, h => by omega
theorem sb_3_0 : ∀ (x : Nat) (hx : x < 3) (acc : List D) (x7 x8 x9 : Option Val) (s : S), ∃ y8 y9, stR (rtE 3 0 1 acc (some (.d (.int x))) x7 x8 x9) s = .nxt (rtE 3 0 1 acc (some (.d (.int x))) (some (.d (.lst (natD ((rowsN 3 0).getD x []))))) y8 y9) s
  | 0, _ => fun acc x7 x8 x9 s => ⟨x8, x9, by kernel_rfl⟩
  | 1, _ => fun acc x7 x8 x9 s => ⟨x8, x9, by kernel_rfl⟩
  | 2, _ => fun acc x7 x8 x9 s => ⟨x8, x9, by kernel_rfl⟩
  | n + 3, h => by omega
theorem sb_3_1 : ∀ (x : Nat) (hx : x < 3) (acc : List D) (x7 x8 x9 : Option Val) (s : S), ∃ y8 y9, stR (rtE 3 1 1 acc (some (.d (.int x))) x7 x8 x9) s = .nxt (rtE 3 1 1 acc (some (.d (.int x))) (some (.d (.lst (natD ((rowsN 3 1).getD x []))))) y8 y9) s
  | 0, _ => fun acc x7 x8 x9 s => ⟨x8, x9, by kernel_rfl⟩
  | 1, _ => fun acc x7 x8 x9 s => ⟨x8, x9, by kernel_rfl⟩
  | 2, _ => fun acc x7 x8 x9 s => ⟨x8, x9, by kernel_rfl⟩
  | n + 3, h => by omega
theorem sb_3_2 : ∀ (x : Nat) (hx : x < 3) (acc : List D) (x7 x8 x9 : Option Val) (s : S), ∃ y8 y9, stR (rtE 3 2 1 acc (some (.d (.int x))) x7 x8 x9) s = .nxt (rtE 3 2 1 acc (some (.d (.int x))) (some (.d (.lst (natD ((rowsN 3 2).getD x []))))) y8 y9) s
  | 0, _ => fun acc x7 x8 x9 s => ⟨x8, x9, by kernel_rfl⟩
  | 1, _ => fun acc x7 x8 x9 s => ⟨x8, x9, by kernel_rfl⟩
  | 2, _ => fun acc x7 x8 x9 s => ⟨x8, x9, by kernel_rfl⟩
  | n + 3, h => by omega
theorem sb_4_0 : ∀ (x : Nat) (hx : x < 4) (acc : List D) (x7 x8 x9 : Option Val) (s : S), ∃ y8 y9, stR (rtE 4 0 2 acc (some (.d (.int x))) x7 x8 x9) s = .nxt (rtE 4 0 2 acc (some (.d (.int x))) (some (.d (.lst (natD ((rowsN 4 0).getD x []))))) y8 y9) s
  | 0, _ => fun acc x7 x8 x9 s => ⟨x8, x9, by kernel_rfl⟩
  | 1, _ => fun acc x7 x8 x9 s => ⟨x8, x9, by kernel_rfl⟩
  | 2, _ => fun acc x7 x8 x9 s => ⟨x8, x9, by kernel_rfl⟩
  | 3, _ => fun acc x7 x8 x9 s => ⟨x8, x9, by kernel_rfl⟩
  | n + 4, h => by omega
theorem sb_4_1 : ∀ (x : Nat) (hx : x < 4) (acc : List D) (x7 x8 x9 : Option Val) (s : S), ∃ y8 y9, stR (rtE 4 1 2 acc (some (.d (.int x))) x7 x8 x9) s = .nxt (rtE 4 1 2 acc (some (.d (.int x))) (some (.d (.lst (natD ((rowsN 4 1).getD x []))))) y8 y9) s
  | 0, _ => fun acc x7 x8 x9 s => ⟨some (.d (.int (1))), x9, by kernel_rfl⟩
  | 1, _ => fun acc x7 x8 x9 s => ⟨some (.d (.int (1))), x9, by kernel_rfl⟩
  | 2, _ => fun acc x7 x8 x9 s => ⟨some (.d (.int (-1))), x9, by kernel_rfl⟩
  | 3, _ => fun acc x7 x8 x9 s => ⟨some (.d (.int (-1))), x9, by kernel_rfl⟩
  | n + 4, h => by omega
theorem sb_4_2 : ∀ (x : Nat) (hx : x < 4) (acc : List D) (x7 x8 x9 : Option Val) (s : S), ∃ y8 y9, stR (rtE 4 2 2 acc (some (.d (.int x))) x7 x8 x9) s = .nxt (rtE 4 2 2 acc (some (.d (.int x))) (some (.d (.lst (natD ((rowsN 4 2).getD x []))))) y8 y9) s
  | 0, _ => fun acc x7 x8 x9 s => ⟨x8, x9, by kernel_rfl⟩
  | 1, _ => fun acc x7 x8 x9 s => ⟨x8, x9, by kernel_rfl⟩
  | 2, _ => fun acc x7 x8 x9 s => ⟨x8, x9, by kernel_rfl⟩
  | 3, _ => fun acc x7 x8 x9 s => ⟨x8, x9, by kernel_rfl⟩
  | n + 4, h => by omega
theorem sb_5_0 : ∀ (x : Nat) (hx : x < 5) (acc : List D) (x7 x8 x9 : Option Val) (s : S), ∃ y8 y9, stR (rtE 5 0 2 acc (some (.d (.int x))) x7 x8 x9) s = .nxt (rtE 5 0 2 acc (some (.d (.int x))) (some (.d (.lst (natD ((rowsN 5 0).getD x []))))) y8 y9) s
  | 0, _ => fun acc x7 x8 x9 s => ⟨x8, x9, by kernel_rfl⟩
  | 1, _ => fun acc x7 x8 x9 s => ⟨x8, x9, by kernel_rfl⟩
  | 2, _ => fun acc x7 x8 x9 s => ⟨x8, x9, by kernel_rfl⟩
  | 3, _ => fun acc x7 x8 x9 s => ⟨x8, x9, by kernel_rfl⟩
  | 4, _ => fun acc x7 x8 x9 s => ⟨x8, x9, by kernel_rfl⟩
  | n + 5, h => by omega
theorem sb_5_1 : ∀ (x : Nat) (hx : x < 5) (acc : List D) (x7 x8 x9 : Option Val) (s : S), ∃ y8 y9, stR (rtE 5 1 2 acc (some (.d (.int x))) x7 x8 x9) s = .nxt (rtE 5 1 2 acc (some (.d (.int x))) (some (.d (.lst (natD ((rowsN 5 1).getD x []))))) y8 y9) s
  | 0, _ => fun acc x7 x8 x9 s => ⟨x8, x9, by kernel_rfl⟩
  | 1, _ => fun acc x7 x8 x9 s => ⟨x8, x9, by kernel_rfl⟩
  | 2, _ => fun acc x7 x8 x9 s => ⟨x8, x9, by kernel_rfl⟩
  | 3, _ => fun acc x7 x8 x9 s => ⟨x8, x9, by kernel_rfl⟩
  | 4, _ => fun acc x7 x8 x9 s => ⟨x8, x9, by kernel_rfl⟩
  | n + 5, h => by omega
theorem sb_5_2 : ∀ (x : Nat) (hx : x < 5) (acc : List D) (x7 x8 x9 : Option Val) (s : S), ∃ y8 y9, stR (rtE 5 2 2 acc (some (.d (.int x))) x7 x8 x9) s = .nxt (rtE 5 2 2 acc (some (.d (.int x))) (some (.d (.lst (natD ((rowsN 5 2).getD x []))))) y8 y9) s
  | 0, _ => fun acc x7 x8 x9 s => ⟨x8, x9, by kernel_rfl⟩
  | 1, _ => fun acc x7 x8 x9 s => ⟨x8, x9, by kernel_rfl⟩
  | 2, _ => fun acc x7 x8 x9 s => ⟨x8, x9, by kernel_rfl⟩
  | 3, _ => fun acc x7 x8 x9 s => ⟨x8, x9, by kernel_rfl⟩
  | 4, _ => fun acc x7 x8 x9 s => ⟨x8, x9, by kernel_rfl⟩
  | n + 5, h => by omega
theorem sb_6_0 : ∀ (x : Nat) (hx : x < 6) (acc : List D) (x7 x8 x9 : Option Val) (s : S), ∃ y8 y9, stR (rtE 6 0 3 acc (some (.d (.int x))) x7 x8 x9) s = .nxt (rtE 6 0 3 acc (some (.d (.int x))) (some (.d (.lst (natD ((rowsN 6 0).getD x []))))) y8 y9) s
  | 0, _ => fun acc x7 x8 x9 s => ⟨x8, x9, by kernel_rfl⟩
  | 1, _ => fun acc x7 x8 x9 s => ⟨x8, x9, by kernel_rfl⟩
  | 2, _ => fun acc x7 x8 x9 s => ⟨x8, x9, by kernel_rfl⟩
  | 3, _ => fun acc x7 x8 x9 s => ⟨x8, x9, by kernel_rfl⟩
  | 4, _ => fun acc x7 x8 x9 s => ⟨x8, x9, by kernel_rfl⟩
  | 5, _ => fun acc x7 x8 x9 s => ⟨x8, x9, by kernel_rfl⟩
  | n + 6, h => by omega
theorem sb_6_1 : ∀ (x : Nat) (hx : x < 6) (acc : List D) (x7 x8 x9 : Option Val) (s : S), ∃ y8 y9, stR (rtE 6 1 3 acc (some (.d (.int x))) x7 x8 x9) s = .nxt (rtE 6 1 3 acc (some (.d (.int x))) (some (.d (.lst (natD ((rowsN 6 1).getD x []))))) y8 y9) s
  | 0, _ => fun acc x7 x8 x9 s => ⟨some (.d (.int (1))), x9, by kernel_rfl⟩
  | 1, _ => fun acc x7 x8 x9 s => ⟨some (.d (.int (1))), x9, by kernel_rfl⟩
  | 2, _ => fun acc x7 x8 x9 s => ⟨some (.d (.int (1))), x9, by kernel_rfl⟩
  | 3, _ => fun acc x7 x8 x9 s => ⟨some (.d (.int (-1))), x9, by kernel_rfl⟩
  | 4, _ => fun acc x7 x8 x9 s => ⟨some (.d (.int (-1))), x9, by kernel_rfl⟩
  | 5, _ => fun acc x7 x8 x9 s => ⟨some (.d (.int (-1))), x9, by kernel_rfl⟩
  | n + 6, h => by omega
theorem sb_6_2 : ∀ (x : Nat) (hx : x < 6) (acc : List D) (x7 x8 x9 : Option Val) (s : S), ∃ y8 y9, stR (rtE 6 2 3 acc (some (.d (.int x))) x7 x8 x9) s = .nxt (rtE 6 2 3 acc (some (.d (.int x))) (some (.d (.lst (natD ((rowsN 6 2).getD x []))))) y8 y9) s
  | 0, _ => fun acc x7 x8 x9 s => ⟨x8, x9, by kernel_rfl⟩
  | 1, _ => fun acc x7 x8 x9 s => ⟨x8, x9, by kernel_rfl⟩
  | 2, _ => fun acc x7 x8 x9 s => ⟨x8, x9, by kernel_rfl⟩
  | 3, _ => fun acc x7 x8 x9 s => ⟨x8, x9, by kernel_rfl⟩
  | 4, _ => fun acc x7 x8 x9 s => ⟨x8, x9, by kernel_rfl⟩
  | 5, _ => fun acc x7 x8 x9 s => ⟨x8, x9, by kernel_rfl⟩
  | n + 6, h => by omega
theorem sb_7_0 : ∀ (x : Nat) (hx : x < 7) (acc : List D) (x7 x8 x9 : Option Val) (s : S), ∃ y8 y9, stR (rtE 7 0 3 acc (some (.d (.int x))) x7 x8 x9) s = .nxt (rtE 7 0 3 acc (some (.d (.int x))) (some (.d (.lst (natD ((rowsN 7 0).getD x []))))) y8 y9) s
  | 0, _ => fun acc x7 x8 x9 s => ⟨x8, x9, by kernel_rfl⟩
  | 1, _ => fun acc x7 x8 x9 s => ⟨x8, x9, by kernel_rfl⟩
  | 2, _ => fun acc x7 x8 x9 s => ⟨x8, x9, by kernel_rfl⟩
  | 3, _ => fun acc x7 x8 x9 s => ⟨x8, x9, by kernel_rfl⟩
  | 4, _ => fun acc x7 x8 x9 s => ⟨x8, x9, by kernel_rfl⟩
  | 5, _ => fun acc x7 x8 x9 s => ⟨x8, x9, by kernel_rfl⟩
  | 6, _ => fun acc x7 x8 x9 s => ⟨x8, x9, by kernel_rfl⟩
  | n + 7, h => by omega
theorem sb_7_1 : ∀ (x : Nat) (hx : x < 7) (acc : List D) (x7 x8 x9 : Option Val) (s : S), ∃ y8 y9, stR (rtE 7 1 3 acc (some (.d (.int x))) x7 x8 x9) s = .nxt (rtE 7 1 3 acc (some (.d (.int x))) (some (.d (.lst (natD ((rowsN 7 1).getD x []))))) y8 y9) s
  | 0, _ => fun acc x7 x8 x9 s => ⟨x8, x9, by kernel_rfl⟩
  | 1, _ => fun acc x7 x8 x9 s => ⟨x8, x9, by kernel_rfl⟩
  | 2, _ => fun acc x7 x8 x9 s => ⟨x8, x9, by kernel_rfl⟩
  | 3, _ => fun acc x7 x8 x9 s => ⟨x8, x9, by kernel_rfl⟩
  | 4, _ => fun acc x7 x8 x9 s => ⟨x8, x9, by kernel_rfl⟩
  | 5, _ => fun acc x7 x8 x9 s => ⟨x8, x9, by kernel_rfl⟩
  | 6, _ => fun acc x7 x8 x9 s => ⟨x8, x9, by kernel_rfl⟩
  | n + 7, h => by omega
theorem sb_7_2 : ∀ (x : Nat) (hx : x < 7) (acc : List D) (x7 x8 x9 : Option Val) (s : S), ∃ y8 y9, stR (rtE 7 2 3 acc (some (.d (.int x))) x7 x8 x9) s = .nxt (rtE 7 2 3 acc (some (.d (.int x))) (some (.d (.lst (natD ((rowsN 7 2).getD x []))))) y8 y9) s
  | 0, _ => fun acc x7 x8 x9 s => ⟨x8, some (.d txs), by kernel_rfl⟩
  | 1, _ => fun acc x7 x8 x9 s => ⟨x8, some (.d txs), by kernel_rfl⟩
  | 2, _ => fun acc x7 x8 x9 s => ⟨x8, some (.d txs), by kernel_rfl⟩
  | 3, _ => fun acc x7 x8 x9 s => ⟨x8, some (.d txs), by kernel_rfl⟩
  | 4, _ => fun acc x7 x8 x9 s => ⟨x8, some (.d txs), by kernel_rfl⟩
  | 5, _ => fun acc x7 x8 x9 s => ⟨x8, some (.d txs), by kernel_rfl⟩
  | 6, _ => fun acc x7 x8 x9 s => ⟨x8, some (.d txs), by kernel_rfl⟩
  | n + 7, h => by omega
theorem sb_8_0 : ∀ (x : Nat) (hx : x < 8) (acc : List D) (x7 x8 x9 : Option Val) (s : S), ∃ y8 y9, stR (rtE 8 0 4 acc (some (.d (.int x))) x7 x8 x9) s = .nxt (rtE 8 0 4 acc (some (.d (.int x))) (some (.d (.lst (natD ((rowsN 8 0).getD x []))))) y8 y9) s
  | 0, _ => fun acc x7 x8 x9 s => ⟨x8, x9, by kernel_rfl⟩
  | 1, _ => fun acc x7 x8 x9 s => ⟨x8, x9, by kernel_rfl⟩
  | 2, _ => fun acc x7 x8 x9 s => ⟨x8, x9, by kernel_rfl⟩
  | 3, _ => fun acc x7 x8 x9 s => ⟨x8, x9, by kernel_rfl⟩
  | 4, _ => fun acc x7 x8 x9 s => ⟨x8, x9, by kernel_rfl⟩
  | 5, _ => fun acc x7 x8 x9 s => ⟨x8, x9, by kernel_rfl⟩
  | 6, _ => fun acc x7 x8 x9 s => ⟨x8, x9, by kernel_rfl⟩
  | 7, _ => fun acc x7 x8 x9 s => ⟨x8, x9, by kernel_rfl⟩
  | n + 8, h => by omega
theorem sb_8_1 : ∀ (x : Nat) (hx : x < 8) (acc : List D) (x7 x8 x9 : Option Val) (s : S), ∃ y8 y9, stR (rtE 8 1 4 acc (some (.d (.int x))) x7 x8 x9) s = .nxt (rtE 8 1 4 acc (some (.d (.int x))) (some (.d (.lst (natD ((rowsN 8 1).getD x []))))) y8 y9) s
  | 0, _ => fun acc x7 x8 x9 s => ⟨some (.d (.int (1))), x9, by kernel_rfl⟩
  | 1, _ => fun acc x7 x8 x9 s => ⟨some (.d (.int (1))), x9, by kernel_rfl⟩
  | 2, _ => fun acc x7 x8 x9 s => ⟨some (.d (.int (1))), x9, by kernel_rfl⟩
  | 3, _ => fun acc x7 x8 x9 s => ⟨some (.d (.int (1))), x9, by kernel_rfl⟩
  | 4, _ => fun acc x7 x8 x9 s => ⟨some (.d (.int (-1))), x9, by kernel_rfl⟩
  | 5, _ => fun acc x7 x8 x9 s => ⟨some (.d (.int (-1))), x9, by kernel_rfl⟩
  | 6, _ => fun acc x7 x8 x9 s => ⟨some (.d (.int (-1))), x9, by kernel_rfl⟩
  | 7, _ => fun acc x7 x8 x9 s => ⟨some (.d (.int (-1))), x9, by kernel_rfl⟩
  | n + 8, h => by omega
theorem sb_8_2 : ∀ (x : Nat) (hx : x < 8) (acc : List D) (x7 x8 x9 : Option Val) (s : S), ∃ y8 y9, stR (rtE 8 2 4 acc (some (.d (.int x))) x7 x8 x9) s = .nxt (rtE 8 2 4 acc (some (.d (.int x))) (some (.d (.lst (natD ((rowsN 8 2).getD x []))))) y8 y9) s
  | 0, _ => fun acc x7 x8 x9 s => ⟨x8, x9, by kernel_rfl⟩
  | 1, _ => fun acc x7 x8 x9 s => ⟨x8, x9, by kernel_rfl⟩
  | 2, _ => fun acc x7 x8 x9 s => ⟨x8, x9, by kernel_rfl⟩
  | 3, _ => fun acc x7 x8 x9 s => ⟨x8, x9, by kernel_rfl⟩
  | 4, _ => fun acc x7 x8 x9 s => ⟨x8, x9, by kernel_rfl⟩
  | 5, _ => fun acc x7 x8 x9 s => ⟨x8, x9, by kernel_rfl⟩
  | 6, _ => fun acc x7 x8 x9 s => ⟨x8, x9, by kernel_rfl⟩
  | 7, _ => fun acc x7 x8 x9 s => ⟨x8, x9, by kernel_rfl⟩
  | n + 8, h => by omega
def latB (q : Nat) (M : List (List Nat)) : Bool := Nat.beq M.length q && (List.range q).all fun a => Nat.beq (M.getD a []).length q && (List.range q).all fun b => Nat.blt (gq M a b) q && (List.range q).all fun c => (Nat.beq b c || !Nat.beq (gq M a b) (gq M a c)) && (Nat.beq b c || !Nat.beq (gq M b a) (gq M c a))
theorem latB_ok {q : Nat} {M : List (List Nat)} (h : latB q M = true) : Lat q M := by
  unfold latB at h
  obtain ⟨h0, h1⟩ := Bool.and_eq_true_iff.mp h
  have ha := fun a (ha : a < q) => Bool.and_eq_true_iff.mp (List.all_eq_true.mp h1 a (List.mem_range.mpr ha))
  have hb := fun a b (z : a < q) (hb : b < q) => Bool.and_eq_true_iff.mp (List.all_eq_true.mp (ha a z).2 b (List.mem_range.mpr hb))
  have hc := fun a b c (z : a < q) (z2 : b < q) (hc : c < q) => Bool.and_eq_true_iff.mp (List.all_eq_true.mp (hb a b z z2).2 c (List.mem_range.mpr hc))
  refine ⟨⟨Nat.eq_of_beq_eq_true h0, fun a z => Nat.eq_of_beq_eq_true (ha a z).1⟩, fun a b z z2 => Nat.blt_eq.mp (hb a b z z2).1, fun a b b' z z2 z3 he => ?_, fun a a' b z z2 z3 he => ?_⟩
  · have := (hc a b b' z z2 z3).1
    rw [he, Nat.beq_refl, Bool.not_true, Bool.or_false] at this
    exact Nat.eq_of_beq_eq_true this
  · have := (hc b a a' z3 z z2).2
    rw [he, Nat.beq_refl, Bool.not_true, Bool.or_false] at this
    exact Nat.eq_of_beq_eq_true this
theorem lat_all : ((List.range 9).all fun q => (List.range 3).all fun w => Nat.beq q 0 || latB q (rowsN q w)) = true := by decide +kernel
theorem rowsN_lat {q w : Nat} (h1 : 1 ≤ q) (h8 : q ≤ 8) (hw : w < 3) : Lat q (rowsN q w) := by
  have h := List.all_eq_true.mp (List.all_eq_true.mp lat_all q (List.mem_range.mpr (by omega))) w (List.mem_range.mpr hw)
  have h0 : Nat.beq q 0 = false := by
    cases q with
    | zero => omega
    | succ n => rfl
  rw [h0, Bool.false_or] at h
  exact latB_ok h
def kk (q : Nat) : Nat := max 1 (q / 2)
theorem sb_all {q w : Nat} (h1 : 1 ≤ q) (h8 : q ≤ 8) (hw : w < 3) : ∀ (x : Nat) (hx : x < q) (acc : List D) (x7 x8 x9 : Option Val) (s : S), ∃ y8 y9, stR (rtE q w (kk q) acc (some (.d (.int x))) x7 x8 x9) s = .nxt (rtE q w (kk q) acc (some (.d (.int x))) (some (.d (.lst (natD ((rowsN q w).getD x []))))) y8 y9) s :=
  match q, w, h1, h8, hw with
  | 1, 0, _, _, _ => sb_1_0
  | 1, 1, _, _, _ => sb_1_1
  | 1, 2, _, _, _ => sb_1_2
  | 2, 0, _, _, _ => sb_2_0
  | 2, 1, _, _, _ => sb_2_1
  | 2, 2, _, _, _ => sb_2_2
  | 3, 0, _, _, _ => sb_3_0
  | 3, 1, _, _, _ => sb_3_1
  | 3, 2, _, _, _ => sb_3_2
  | 4, 0, _, _, _ => sb_4_0
  | 4, 1, _, _, _ => sb_4_1
  | 4, 2, _, _, _ => sb_4_2
  | 5, 0, _, _, _ => sb_5_0
  | 5, 1, _, _, _ => sb_5_1
  | 5, 2, _, _, _ => sb_5_2
  | 6, 0, _, _, _ => sb_6_0
  | 6, 1, _, _, _ => sb_6_1
  | 6, 2, _, _, _ => sb_6_2
  | 7, 0, _, _, _ => sb_7_0
  | 7, 1, _, _, _ => sb_7_1
  | 7, 2, _, _, _ => sb_7_2
  | 8, 0, _, _, _ => sb_8_0
  | 8, 1, _, _, _ => sb_8_1
  | 8, 2, _, _, _ => sb_8_2
def accD (M : List (List Nat)) (k : Nat) : List D := (M.take k).map fun r => .lst (natD r)
theorem accD_snoc {M : List (List Nat)} {k : Nat} (h : k < M.length) : accD M k ++ [.lst (natD (M.getD k []))] = accD M (k + 1) := by
  unfold accD
  rw [List.take_succ, List.getElem?_eq_getElem h, List.getD_eq_getElem?_getD, List.getElem?_eq_getElem h, List.map_append]
  rfl
def stB : MS := mSeq stR stA
theorem st_eq : m__law_some_table = (mSeq (mAsg 2 (mCall fk__law_take (mCons (mVar 0) (mCons (mCon (.int 3)) mNil)))) (mSeq (mAsg 3 (mMax2 (mCon (.int 1)) (mBin .fdiv (mVar 1) (mCon (.int 2))))) (mSeq (mAsgO 4 (mLst mNil)) (mSeq (mFor (.nm 5) (mRg1 (mVar 1)) stB) (mSeq (mFrz 4) (mSeq (mAsg 6 (mCall fk__law_shuffle (mCons (mVar 0) (mCons (mVar 1) mNil)))) (mSeq (mRet (mCall fk__law_rename (mCons (mVar 1) (mCons (mVar 4) (mCons (mVar 6) (mCons (mCall fk__law_shuffle (mCons (mVar 0) (mCons (mVar 1) mNil))) (mCons (mCall fk__law_shuffle (mCons (mVar 0) (mCons (mVar 1) mNil))) mNil))))))) mPass))))))) := by
  unfold stB stR stA
  simp only [← seq_assoc]
  rfl
theorem call_ok2 {n : Nat} {f : List D → P} {l : ML} {e : MP.Env} {s s1 : S} {xs : List D} {x : D} (hl : l e s = .ok (xs.map Val.d) s1) (hn : xs.length = n) (h : f xs = .ok x) : mCall (.pure n f) l e s = .ok (.d x) s1 := by
  unfold mCall
  rw [hl]
  simp only [R.bind_ok]
  rw [if_pos (by rw [List.length_map]; exact hn), datas_map]
  simp only [h]
  rfl
theorem shuffle_call {a b : ME} {e : MP.Env} {s s1 : S} {q : Nat} {x : D} (ha : a e s = .ok (.ref 0) s) (hb : b e s = .ok (.d (.int q)) s) (h : f__law_shuffle [.ref 0, .d (.int q)] s = .ok (.d x) s1) : mCall fk__law_shuffle (mCons a (mCons b mNil)) e s = .ok (.d x) s1 := by
  refine call_eff (vs := [.ref 0, .d (.int q)]) (s1 := s) ?_ rfl rfl h
  unfold mCons
  rw [ha]
  simp only [R.bind_ok]
  rw [hb]
  rfl
theorem bnd2 : Bnd (2 : Int) := bnd_nat (m := 2) (by decide)
theorem kk_ok {q : Nat} (e : MP.Env) (s : S) (he : e[1]? = some (some (.d (.int q)))) : mMax2 (mCon (.int 1)) (mBin .fdiv (mVar 1) (mCon (.int 2))) e s = .ok (.d (.int (kk q))) s := by
  have hv : mVar 1 e s = .ok (.d (.int q)) s := by
    unfold mVar
    rw [he]
  have hd : mBin .fdiv (mVar 1) (mCon (.int 2)) e s = .ok (.d (.int ((q : Int) / 2))) s := bin_eq (i := q) (j := 2) hv rfl (ofd (by decide) bnd2)
  unfold mMax2
  show ((mBin .fdiv (mVar 1) (mCon (.int 2)) e s).bind _) = _
  rw [hd]
  show R.ok (Val.d (.int (if (q : Int) / 2 > 1 then (q : Int) / 2 else 1))) s = _
  have : (if (q : Int) / 2 > 1 then (q : Int) / 2 else 1) = ((kk q : Nat) : Int) := by
    unfold kk
    split <;> omega
  rw [this]
/-- a table of letters is drawn -/
theorem some_table_ok {q : Nat} (h1 : 1 ≤ q) (h8 : q ≤ 8) {cells : List D} (hc : Cells cells) {s : S} (hs : Sto cells s) : ∃ T s', f__law_some_table [.ref 0, .d (.int q)] s = .ok (.d (tabD T)) s' ∧ Lat q T ∧ Sto cells s' := by
  obtain ⟨w, s1, t1, t2, t3⟩ := take_nat (n := 3) (by decide) (by decide) hc hs
  have hR := rowsN_lat h1 h8 t2
  obtain ⟨e2, s2, f1, x5, x7, x8, x9, he, hs2⟩ := for_ix (i := 5) (b := stB) (N := q) (e := rtE q w (kk q) [] none none none none) (s := s1)
    (Inv := fun k e s => ∃ x5 x7 x8 x9, e = rtE q w (kk q) (accD (rowsN q w) k) x5 x7 x8 x9 ∧ s = s1)
    (fun x hx e s ⟨x5, x7, x8, x9, he, hs⟩ => by
      subst he hs
      obtain ⟨y8, y9, h⟩ := sb_all h1 h8 t2 x hx (accD (rowsN q w) x) x7 x8 x9 s
      have ha : mApp 4 (mVar 7) (rtE q w (kk q) (accD (rowsN q w) x) (some (.d (.int x))) (some (.d (.lst (natD ((rowsN q w).getD x []))))) y8 y9) s = .nxt (rtE q w (kk q) (accD (rowsN q w) x ++ [.lst (natD ((rowsN q w).getD x []))]) (some (.d (.int x))) (some (.d (.lst (natD ((rowsN q w).getD x []))))) y8 y9) s := app_ok rfl rfl (lt_line (by unfold accD; rw [List.length_map, List.length_take]; omega))
      rw [accD_snoc (by rw [hR.len]; exact hx)] at ha
      refine ⟨rtE q w (kk q) (accD (rowsN q w) (x + 1)) (some (.d (.int x))) (some (.d (.lst (natD ((rowsN q w).getD x []))))) y8 y9, s, ?_, some (.d (.int x)), some (.d (.lst (natD ((rowsN q w).getD x [])))), y8, y9, rfl, rfl⟩
      show stB (rtE q w (kk q) (accD (rowsN q w) x) (some (.d (.int x))) x7 x8 x9) s = _
      unfold stB
      rw [seq_nxt h]
      unfold stA
      rw [seq_nxt ha]
      rfl)
    ⟨none, none, none, none, rfl, rfl⟩
  subst he
  rw [hs2] at f1
  have hacc : accD (rowsN q w) q = (rowsN q w).map fun r => .lst (natD r) := by
    unfold accD
    rw [List.take_of_length_le (by rw [hR.len]; exact Nat.le_refl _)]
  rw [hacc] at f1
  obtain ⟨rho, s3, u1, u2, u3⟩ := shuffle_ok h8 hc t3
  obtain ⟨sigma, s4, v1, v2, v3⟩ := shuffle_ok h8 hc u3
  obtain ⟨tau, s5, w1, w2, w3⟩ := shuffle_ok h8 hc v3
  obtain ⟨T, lat, ren⟩ := rename_ok h8 hR u2 v2 w2
  refine ⟨T, s5, ?_, lat, w3⟩
  unfold f__law_some_table
  refine runE_ret ?_
  have e1 : mAsg 2 (mCall fk__law_take (mCons (mVar 0) (mCons (mCon (.int 3)) mNil))) (initE 11 [.ref 0, .d (.int q)]) s = .nxt [some (.ref 0), some (.d (.int q)), some (.d (.int w)), none, none, none, none, none, none, none, none] s1 := asg_ok (take_call rfl rfl t1)
  have e2 : mAsg 3 (mMax2 (mCon (.int 1)) (mBin .fdiv (mVar 1) (mCon (.int 2)))) [some (.ref 0), some (.d (.int q)), some (.d (.int w)), none, none, none, none, none, none, none, none] s1 = .nxt [some (.ref 0), some (.d (.int q)), some (.d (.int w)), some (.d (.int (kk q))), none, none, none, none, none, none, none] s1 := asg_ok (kk_ok _ _ rfl)
  have e3 : mAsgO 4 (mLst mNil) [some (.ref 0), some (.d (.int q)), some (.d (.int w)), some (.d (.int (kk q))), none, none, none, none, none, none, none] s1 = .nxt (rtE q w (kk q) [] none none none none) s1 := rfl
  have e4 : mRg1 (mVar 1) (rtE q w (kk q) [] none none none none) s1 = .ok (natD (List.range q)) s1 := rgI (by omega) rfl
  rw [st_eq, seq_nxt e1, seq_nxt e2, seq_nxt e3, seq_for e4, f1, fseq_nxt]
  have e5 : mFrz 4 (rtE q w (kk q) ((rowsN q w).map fun r => .lst (natD r)) x5 x7 x8 x9) s1 = .nxt [some (.ref 0), some (.d (.int q)), some (.d (.int w)), some (.d (.int (kk q))), some (.d (lstsD (rowsN q w))), x5, none, x7, x8, x9, none] s1 := rfl
  have e6 : mAsg 6 (mCall fk__law_shuffle (mCons (mVar 0) (mCons (mVar 1) mNil))) [some (.ref 0), some (.d (.int q)), some (.d (.int w)), some (.d (.int (kk q))), some (.d (lstsD (rowsN q w))), x5, none, x7, x8, x9, none] s1 = .nxt [some (.ref 0), some (.d (.int q)), some (.d (.int w)), some (.d (.int (kk q))), some (.d (lstsD (rowsN q w))), x5, some (.d (.tup (natD rho))), x7, x8, x9, none] s3 := asg_ok (shuffle_call rfl rfl u1)
  rw [seq_nxt e5, seq_nxt e6]
  exact seq_ret (ret_ok (call_ok2 (xs := [.int q, lstsD (rowsN q w), .tup (natD rho), .tup (natD sigma), .tup (natD tau)]) (cons_d rfl (cons_d rfl (cons_d rfl (cons_d (shuffle_call rfl rfl v1) (cons_d (shuffle_call rfl rfl w1) nil_d))))) rfl ren))
end MPL
end

section
set_option Elab.async false
set_option linter.all false
set_option maxRecDepth 100000
set_option maxHeartbeats 4000000
namespace MPL
open PySem MP
/-! ### full tables in plain numbers -/
structure Full (q m : Nat) (c : List Nat) : Prop where
  len : c.length = q ^ m
  lt : ∀ i, i < q ^ m → pg c i < q
  inj : ∀ s a x y, s < m → a < q ^ m → a / q ^ s % q = 0 → x < q → y < q → pg c (a + x * q ^ s) = pg c (a + y * q ^ s) → x = y
def joinN (q : Nat) (g : Nat → Nat → Nat) (c : List Nat) (k : Nat) : List Nat := (List.range k).flatMap fun x => c.map (g x)
theorem joinN_len (q : Nat) (g : Nat → Nat → Nat) (c : List Nat) (k : Nat) : (joinN q g c k).length = k * c.length := by
  unfold joinN
  rw [List.length_flatMap]
  simp only [List.length_map]
  rw [List.map_const', List.sum_replicate_nat, List.length_range]
theorem joinN_succ (q : Nat) (g : Nat → Nat → Nat) (c : List Nat) (k : Nat) : joinN q g c (k + 1) = joinN q g c k ++ c.map (g k) := by
  unfold joinN
  rw [List.range_succ, List.flatMap_append]
  simp
theorem joinN_at (q : Nat) (g : Nat → Nat → Nat) (c : List Nat) : ∀ (k x j : Nat), x < k → j < c.length → pg (joinN q g c k) (x * c.length + j) = g x (pg c j)
  | 0, x, j, h, _ => by omega
  | k + 1, x, j, h, hj => by
    have hl := joinN_len q g c k
    rw [joinN_succ]
    unfold pg
    rw [List.getD_eq_getElem?_getD]
    by_cases hx : x < k
    · have : x * c.length + j < (joinN q g c k).length := by
        rw [hl]
        have : (x + 1) * c.length ≤ k * c.length := Nat.mul_le_mul_right _ hx
        rw [Nat.succ_mul] at this
        omega
      rw [List.getElem?_append_left this, ← List.getD_eq_getElem?_getD]
      exact joinN_at q g c k x j hx hj
    · have hk : x = k := by omega
      subst hk
      rw [List.getElem?_append_right (by rw [hl]; omega), hl, Nat.add_sub_cancel_left, List.getElem?_map, List.getElem?_eq_getElem hj, List.getD_eq_getElem?_getD, List.getElem?_eq_getElem hj]
      rfl
theorem Full.one {q : Nat} {p : List Nat} (h : PermQ q p) : Full q 1 p := by
  refine ⟨by rw [h.len, Nat.pow_one], fun i hi => h.lt (by rwa [Nat.pow_one] at hi), fun s a x y hs ha h0 hx hy e => ?_⟩
  have : s = 0 := by omega
  subst this
  rw [Nat.pow_zero, Nat.div_one] at h0
  rw [Nat.pow_one] at ha
  rw [Nat.mod_eq_of_lt ha] at h0
  subst h0
  rw [Nat.pow_zero, Nat.zero_add, Nat.zero_add, Nat.mul_one, Nat.mul_one] at e
  exact h.inj hx hy e
/-- a place in a line stays in the table -/
theorem in_lt {q m s j x : Nat} (hq : 1 ≤ q) (hs : s < m) (hj : j < q ^ m) (h0 : j / q ^ s % q = 0) (hx : x < q) : j + x * q ^ s < q ^ m := by
  have hp : 0 < q ^ s := Nat.pow_pos hq
  have e : q ^ m = q ^ s * (q * q ^ (m - s - 1)) := by
    rw [← Nat.mul_assoc, ← Nat.pow_succ, ← Nat.pow_add]
    congr 1
    omega
  have h1 : j / q ^ s < q * q ^ (m - s - 1) := by
    rw [Nat.div_lt_iff_lt_mul hp, Nat.mul_comm, ← e]
    exact hj
  obtain ⟨k, hk⟩ : ∃ k, j / q ^ s = q * k := ⟨j / q ^ s / q, by rw [Nat.mul_div_cancel' (Nat.dvd_of_mod_eq_zero h0)]⟩
  rw [hk] at h1
  have h2 : k < q ^ (m - s - 1) := Nat.lt_of_mul_lt_mul_left h1
  have h3 : j < q ^ s * (q * k + 1) := by
    have := Nat.lt_mul_div_succ j hp
    rw [hk] at this
    exact this
  have h4 : q * k + 1 + x ≤ q * q ^ (m - s - 1) := by
    have : q * (k + 1) ≤ q * q ^ (m - s - 1) := Nat.mul_le_mul_left q h2
    rw [Nat.mul_succ] at this
    omega
  calc j + x * q ^ s < q ^ s * (q * k + 1) + x * q ^ s := by omega
    _ = q ^ s * (q * k + 1 + x) := by rw [Nat.mul_add _ (q * k + 1), Nat.mul_comm x]
    _ ≤ q ^ s * (q * q ^ (m - s - 1)) := Nat.mul_le_mul_left _ h4
    _ = q ^ m := e.symm
theorem Full.join {q m : Nat} {c : List Nat} {g : Nat → Nat → Nat} (hq : 1 ≤ q) (h : Full q m c) (g1 : ∀ x o, x < q → o < q → g x o < q) (g2 : ∀ x o o', x < q → o < q → o' < q → g x o = g x o' → o = o') (g3 : ∀ x x' o, x < q → x' < q → o < q → g x o = g x' o → x = x') : Full q (m + 1) (joinN q g c q) := by
  have hp : 0 < q ^ m := Nat.pow_pos hq
  have at_ : ∀ x j, x < q → j < q ^ m → pg (joinN q g c q) (x * q ^ m + j) = g x (pg c j) := fun x j hx hj => by
    have := joinN_at q g c q x j hx (by rw [h.len]; exact hj)
    rwa [h.len] at this
  have sp : ∀ i, i < q ^ (m + 1) → ∃ x j, x < q ∧ j < q ^ m ∧ i = x * q ^ m + j := fun i hi => by
    refine ⟨i / q ^ m, i % q ^ m, ?_, Nat.mod_lt _ hp, ?_⟩
    · rw [Nat.div_lt_iff_lt_mul hp, Nat.mul_comm]
      rwa [Nat.pow_succ] at hi
    · rw [Nat.mul_comm]
      exact (Nat.div_add_mod i (q ^ m)).symm
  refine ⟨by rw [joinN_len, h.len, Nat.pow_succ, Nat.mul_comm], fun i hi => ?_, fun s a x y hs ha h0 hx hy e => ?_⟩
  · obtain ⟨x, j, hx, hj, rfl⟩ := sp i hi
    rw [at_ x j hx hj]
    exact g1 x _ hx (h.lt j hj)
  · obtain ⟨z, j, hz, hj, rfl⟩ := sp a ha
    by_cases hsm : s = m
    · subst hsm
      rw [Nat.mul_comm z, Nat.mul_add_div hp, Nat.div_eq_of_lt hj, Nat.add_zero, Nat.mod_eq_of_lt hz] at h0
      subst h0
      rw [Nat.zero_mul, Nat.zero_add, Nat.add_comm j, Nat.add_comm j, at_ x j hx hj, at_ y j hy hj] at e
      exact g3 x y _ hx hy (h.lt j hj) e
    · have hs' : s < m := by omega
      have hps : 0 < q ^ s := Nat.pow_pos hq
      have hj0 : j / q ^ s % q = 0 := by
        have e1 : z * q ^ m + j = j + q ^ s * (q * (z * q ^ (m - s - 1))) := by
          have e2 : q ^ m = q ^ s * (q * q ^ (m - s - 1)) := by
            rw [← Nat.mul_assoc, ← Nat.pow_succ, ← Nat.pow_add]
            congr 1
            omega
          rw [e2, Nat.add_comm]
          congr 1
          rw [Nat.mul_left_comm, Nat.mul_left_comm z]
        rw [e1, Nat.add_mul_div_left _ _ hps, Nat.add_mul_mod_self_left] at h0
        exact h0
      have l1 := in_lt hq hs' hj hj0 hx
      have l2 := in_lt hq hs' hj hj0 hy
      rw [Nat.add_assoc, Nat.add_assoc, at_ z _ hz l1, at_ z _ hz l2] at e
      exact h.inj s j x y hs' hj hj0 hx hy (g2 z _ _ hz (h.lt _ l1) (h.lt _ l2) e)
def castL (c : List Nat) : List Int := c.map fun (a : Nat) => (a : Int)
theorem castL_at {c : List Nat} {i : Nat} (h : i < c.length) : (castL c).getD i 0 = (pg c i : Nat) := by
  unfold castL pg
  rw [List.getD_eq_getElem?_getD, List.getElem?_map, List.getElem?_eq_getElem h, List.getD_eq_getElem?_getD, List.getElem?_eq_getElem h]
  rfl
theorem Full.row {q n : Nat} {c : List Nat} (h : Full q n c) : Row q n (castL c) := by
  refine ⟨by unfold castL; rw [List.length_map, h.len], fun y hy => ?_⟩
  obtain ⟨a, ha, rfl⟩ := List.mem_map.mp hy
  obtain ⟨i, hi, e⟩ := List.getElem_of_mem ha
  have := h.lt i (by rw [← h.len]; exact hi)
  unfold pg at this
  rw [List.getD_eq_getElem?_getD, List.getElem?_eq_getElem hi, Option.getD_some, e] at this
  omega
theorem Full.line {q n : Nat} {c : List Nat} (hq : QN q n) (h : Full q n c) {k a : Nat} (hk : k < n) (ha : a < q ^ n) (h0 : a / stp q n k % q = 0) : bad q (castL c) (stp q n k) a = false := by
  unfold bad
  rw [List.any_eq_false]
  intro x hx
  have hx := List.mem_range.mp hx
  have hlt : ∀ y, y < q → a + y * stp q n k < c.length := fun y hy => by rw [h.len]; exact line_lt hq hk ha h0 hy
  have nd : (lineL q (castL c) (stp q n k) a).Nodup := by
    unfold lineL
    rw [List.Nodup, List.pairwise_map]
    refine List.Pairwise.imp_of_mem (fun {i j} hi hj hne e => ?_) (List.nodup_range (n := q))
    have hi := List.mem_range.mp hi
    have hj := List.mem_range.mp hj
    rw [castL_at (hlt i hi), castL_at (hlt j hj)] at e
    have e' : pg c (a + i * stp q n k) = pg c (a + j * stp q n k) := by exact_mod_cast e
    exact hne (h.inj (n - 1 - k) a i j (by omega) ha h0 hi hj e')
  have sub : ∀ z ∈ lineL q (castL c) (stp q n k) a, z ∈ (List.range q).map fun (x : Nat) => (x : Int) := fun z hz => by
    obtain ⟨h1, h2⟩ := line_letters hq h.row hk ha h0 z hz
    obtain ⟨b, rfl⟩ := Int.eq_ofNat_of_zero_le h1
    exact List.mem_map.mpr ⟨b, List.mem_range.mpr (by omega), rfl⟩
  have pm := perm_of_sub nd sub (by rw [lineL_len]; simp)
  have : (x : Int) ∈ lineL q (castL c) (stp q n k) a := pm.mem_iff.mpr (List.mem_map.mpr ⟨x, List.mem_range.mpr hx, rfl⟩)
  simp [this]
theorem Full.fault {q n : Nat} {c : List Nat} (hq : QN q n) (h : Full q n c) : faultD q n (castL c) = .non := by
  have : ((List.range n).find? fun s => (faultIn q n (castL c) s).isSome) = none := by
    rw [List.find?_eq_none]
    intro s hs
    have hs := List.mem_range.mp hs
    have : faultIn q n (castL c) s = none := by
      unfold faultIn
      rw [List.find?_eq_none]
      intro a ha
      have ha := List.mem_range.mp ha
      unfold badAt
      by_cases h0 : a / stp q n s % q = 0
      · rw [h.line hq hs ha h0, Bool.and_false]
        exact Bool.false_ne_true
      · have : (a / stp q n s % q == 0) = false := beq_eq_false_iff_ne.mpr h0
        rw [this, Bool.false_and]
        exact Bool.false_ne_true
    rw [this]
    exact Bool.false_ne_true
  unfold faultD
  rw [this]
/-! ### the walk -/
def jg (T : List (List Nat)) (w x o : Nat) : Nat := if w = 0 then gq T x o else gq T o x
abbrev oaE (q n : Nat) (C : List Nat) (k : Nat) (T : List (List Nat)) (w : Nat) (acc : List D) (x8 x9 : Option Val) : MP.Env := [some (.ref 0), some (.d (.int q)), some (.d (.int n)), some (.d (.lst (natD C))), some (.d (.int k)), some (.d (tabD T)), some (.d (.int w)), some (.own acc), x8, x9]
def oaI : MS := (mSeq (mApp 7 (mIx (mTup (mCons (mIx (mIx (mVar 5) (mVar 8)) (mVar 9)) (mCons (mIx (mIx (mVar 5) (mVar 9)) (mVar 8)) mNil))) (mVar 6))) mPass)
def oaO : MS := (mSeq (mFor (.nm 9) (mItV (mB1 .list (mVar 3))) oaI) mPass)
def oaB : MS := (mSeq (mAsg 5 (mCall fk__law_some_table (mCons (mVar 0) (mCons (mVar 1) mNil)))) (mSeq (mAsg 6 (mCall fk__law_take (mCons (mVar 0) (mCons (mCon (.int 2)) mNil)))) (mSeq (mAsgO 7 (mLst mNil)) (mSeq (mFor (.nm 8) (mRg1 (mVar 1)) oaO) (mSeq (mFrz 7) (mSeq (mAsg 3 (mVar 7)) mPass))))))
theorem oa_eq : m__law_one_answer = (mSeq (mAsg 3 (mB1 .list (mCall fk__law_shuffle (mCons (mVar 0) (mCons (mVar 1) mNil))))) (mSeq (mFor (.nm 4) (mRg1 (mBin .sub (mVar 2) (mCon (.int 1)))) oaB) (mSeq (mRet (mB1 .tuple (mVar 3))) mPass))) := rfl
theorem tabD_at {q : Nat} {T : List (List Nat)} (hT : Lat q T) {x : Nat} (hx : x < q) : MP.atI (T.map fun r => D.tup (natD r)) (x : Int) = some (.tup (natD (T.getD x []))) := by
  have hxl : x < T.length := by rw [hT.len]; exact hx
  rw [atI_get (by rw [List.length_map]; exact hxl), List.getElem_map, List.getD_eq_getElem?_getD, List.getElem?_eq_getElem hxl]
  rfl
theorem tab_ix {q : Nat} {T : List (List Nat)} (hT : Lat q T) {x y : Nat} (hx : x < q) (hy : y < q) {a b c : ME} {e : MP.Env} {s : S} (ha : a e s = .ok (.d (tabD T)) s) (hb : b e s = .ok (.d (.int x)) s) (hc : c e s = .ok (.d (.int y)) s) : mIx (mIx a b) c e s = .ok (.d (.int (gq T x y : Nat))) s := by
  have hrow : y < (T.getD x []).length := by rw [hT.row x hx]; exact hy
  exact ix_tup (ix_tup ha hb (tabD_at hT hx)) hc (natD_get hrow)
theorem oa_turn {q n k w : Nat} {C : List Nat} {T : List (List Nat)} (hT : Lat q T) (hw : w < 2) {x o : Nat} (hx : x < q) (ho : o < q) {acc : List D} (hl : acc.length ≤ 100000) (s : S) :
    oaI (oaE q n C k T w acc (some (.d (.int x))) (some (.d (.int o)))) s = .nxt (oaE q n C k T w (acc ++ [.int (jg T w x o : Nat)]) (some (.d (.int x))) (some (.d (.int o)))) s := by
  have a1 := tab_ix hT hx ho (a := mVar 5) (b := mVar 8) (c := mVar 9) (e := oaE q n C k T w acc (some (.d (.int x))) (some (.d (.int o)))) (s := s) rfl rfl rfl
  have a2 := tab_ix hT ho hx (a := mVar 5) (b := mVar 9) (c := mVar 8) (e := oaE q n C k T w acc (some (.d (.int x))) (some (.d (.int o)))) (s := s) rfl rfl rfl
  have a3 := tup_d (xs := [.int (gq T x o : Nat), .int (gq T o x : Nat)]) (cons_d a1 (cons_d a2 nil_d)) two_ok
  have a4 : mIx (mTup (mCons (mIx (mIx (mVar 5) (mVar 8)) (mVar 9)) (mCons (mIx (mIx (mVar 5) (mVar 9)) (mVar 8)) mNil))) (mVar 6) (oaE q n C k T w acc (some (.d (.int x))) (some (.d (.int o)))) s = .ok (.d (.int (jg T w x o : Nat))) s := by
    refine ix_tup a3 rfl ?_
    rcases (by omega : w = 0 ∨ w = 1) with rfl | rfl <;> rfl
  have a5 := app_ok (i := 7) (e := oaE q n C k T w acc (some (.d (.int x))) (some (.d (.int o)))) (xs := acc) rfl a4 (lt_line hl)
  unfold oaI
  rw [seq_nxt a5]
  rfl
theorem oa_inn {q n k w : Nat} {C : List Nat} {T : List (List Nat)} (hT : Lat q T) (hw : w < 2) {x : Nat} (hx : x < q) (s : S) : ∀ (as : List Nat) (acc : List D) (x9 : Option Val), (∀ o ∈ as, o < q) → acc.length + as.length ≤ 100000 →
    ∃ x9', forGo (.nm 9) oaI (natD as) (oaE q n C k T w acc (some (.d (.int x))) x9) s = .nxt (oaE q n C k T w (acc ++ natD (as.map (jg T w x))) (some (.d (.int x))) x9') s
  | [], acc, x9, _, _ => ⟨x9, by rw [List.map_nil]; show _ = F.nxt (oaE q n C k T w (acc ++ []) _ _) s; rw [List.append_nil]; rfl⟩
  | o :: as, acc, x9, ho, hl => by
    rw [List.length_cons] at hl
    have t := oa_turn (n := n) (k := k) (C := C) hT hw hx (ho o List.mem_cons_self) (acc := acc) (by omega) s
    obtain ⟨x9', f⟩ := oa_inn (n := n) (k := k) (C := C) hT hw hx s as (acc ++ [.int (jg T w x o : Nat)]) (some (.d (.int o))) (fun p hp => ho p (List.mem_cons_of_mem _ hp)) (by rw [List.length_append, List.length_singleton]; omega)
    refine ⟨x9', ?_⟩
    show (match oaI (oaE q n C k T w acc (some (.d (.int x))) (some (.d (.int o)))) s with
      | .nxt e s => forGo (.nm 9) oaI (natD as) e s
      | .cnt e s => forGo (.nm 9) oaI (natD as) e s
      | .brk e s => .nxt e s
      | r => r) = _
    rw [t]
    show forGo (.nm 9) oaI (natD as) _ s = _
    rw [f, List.append_assoc]
    rfl
theorem Full.mem {q m : Nat} {c : List Nat} (h : Full q m c) : ∀ o ∈ c, o < q := fun o ho => by
  obtain ⟨i, hi, e⟩ := List.getElem_of_mem ho
  have := h.lt i (by rw [← h.len]; exact hi)
  unfold pg at this
  rw [List.getD_eq_getElem?_getD, List.getElem?_eq_getElem hi, Option.getD_some, e] at this
  exact this
theorem Full.joined {q m w : Nat} {C : List Nat} {T : List (List Nat)} (hq : 1 ≤ q) (h : Full q m C) (hT : Lat q T) : Full q (m + 1) (joinN q (jg T w) C q) := by
  by_cases hw : w = 0
  · refine h.join hq (fun x o hx ho => ?_) (fun x o o' hx ho ho' e => ?_) fun x x' o hx hx' ho e => ?_
    · unfold jg; rw [if_pos hw]; exact hT.lt x o hx ho
    · unfold jg at e; rw [if_pos hw, if_pos hw] at e; exact hT.inr x o o' hx ho ho' e
    · unfold jg at e; rw [if_pos hw, if_pos hw] at e; exact hT.inc x x' o hx hx' ho e
  · refine h.join hq (fun x o hx ho => ?_) (fun x o o' hx ho ho' e => ?_) fun x x' o hx hx' ho e => ?_
    · unfold jg; rw [if_neg hw]; exact hT.lt o x ho hx
    · unfold jg at e; rw [if_neg hw, if_neg hw] at e; exact hT.inc o o' x ho ho' hx e
    · unfold jg at e; rw [if_neg hw, if_neg hw] at e; exact hT.inr o x x' ho hx hx' e
theorem oa_body {q n k : Nat} (hq : QN q n) (hk : k + 1 < n) {C : List Nat} (h : Full q (k + 1) C) {x5 x6 x7 x8 x9 : Option Val} {cells : List D} (hc : Cells cells) {s : S} (hs : Sto cells s) :
    ∃ C' y5 y6 y7 y8 y9 s', oaB [some (.ref 0), some (.d (.int q)), some (.d (.int n)), some (.d (.lst (natD C))), some (.d (.int k)), x5, x6, x7, x8, x9] s = .nxt [some (.ref 0), some (.d (.int q)), some (.d (.int n)), some (.d (.lst (natD C'))), some (.d (.int k)), y5, y6, y7, y8, y9] s' ∧ Full q (k + 2) C' ∧ Sto cells s' := by
  obtain ⟨T, s1, t1, hT, t3⟩ := some_table_ok hq.q1 hq.q8 hc hs
  obtain ⟨w, s2, u1, hw, u3⟩ := take_nat (n := 2) (by decide) (by decide) hc t3
  have hle : q ^ (k + 2) ≤ 1024 := Nat.le_trans (Nat.pow_le_pow_right hq.q1 (by omega)) hq.le
  have hCl : q * C.length ≤ 1024 := by rw [h.len, Nat.mul_comm, ← Nat.pow_succ]; exact hle
  have e1 : mAsg 5 (mCall fk__law_some_table (mCons (mVar 0) (mCons (mVar 1) mNil))) [some (.ref 0), some (.d (.int q)), some (.d (.int n)), some (.d (.lst (natD C))), some (.d (.int k)), x5, x6, x7, x8, x9] s = .nxt [some (.ref 0), some (.d (.int q)), some (.d (.int n)), some (.d (.lst (natD C))), some (.d (.int k)), some (.d (tabD T)), x6, x7, x8, x9] s1 := asg_ok (call_eff (vs := [.ref 0, .d (.int q)]) (s1 := s) rfl rfl rfl t1)
  have e2 : mAsg 6 (mCall fk__law_take (mCons (mVar 0) (mCons (mCon (.int 2)) mNil))) [some (.ref 0), some (.d (.int q)), some (.d (.int n)), some (.d (.lst (natD C))), some (.d (.int k)), some (.d (tabD T)), x6, x7, x8, x9] s1 = .nxt [some (.ref 0), some (.d (.int q)), some (.d (.int n)), some (.d (.lst (natD C))), some (.d (.int k)), some (.d (tabD T)), some (.d (.int w)), x7, x8, x9] s2 := asg_ok (take_call rfl rfl u1)
  have e3 : mAsgO 7 (mLst mNil) [some (.ref 0), some (.d (.int q)), some (.d (.int n)), some (.d (.lst (natD C))), some (.d (.int k)), some (.d (tabD T)), some (.d (.int w)), x7, x8, x9] s2 = .nxt (oaE q n C k T w [] x8 x9) s2 := rfl
  have e4 : mRg1 (mVar 1) (oaE q n C k T w [] x8 x9) s2 = .ok (natD (List.range q)) s2 := rgI (by have := hq.q8; omega) rfl
  obtain ⟨e', s', f1, z8, z9, he, hs'⟩ := for_ix (i := 8) (b := oaO) (N := q) (e := oaE q n C k T w [] x8 x9) (s := s2)
    (Inv := fun m e s => ∃ z8 z9, e = oaE q n C k T w (natD (joinN q (jg T w) C m)) z8 z9 ∧ s = s2)
    (fun x hx e s ⟨z8, z9, he, hs⟩ => by
      subst he hs
      have hjl : (natD (joinN q (jg T w) C x)).length = x * C.length := by rw [natD_len, joinN_len]
      have hxl : x * C.length ≤ q * C.length := Nat.mul_le_mul_right _ (by omega)
      have hC1 : C.length ≤ q * C.length := Nat.le_mul_of_pos_left _ hq.q1
      obtain ⟨y9, g⟩ := oa_inn (n := n) (k := k) (C := C) hT hw hx s C (natD (joinN q (jg T w) C x)) z9 h.mem (by rw [hjl]; omega)
      rw [← natD_app, ← joinN_succ] at g
      have it : mItV (mB1 .list (mVar 3)) (oaE q n C k T w (natD (joinN q (jg T w) C x)) (some (.d (.int x))) z9) s = .ok (natD C) s := it_any (y := .lst (natD C)) (b1_ok rfl rfl) (.inl rfl)
      refine ⟨oaE q n C k T w (natD (joinN q (jg T w) C (x + 1))) (some (.d (.int x))) y9, s, ?_, some (.d (.int x)), y9, rfl, rfl⟩
      show oaO (oaE q n C k T w (natD (joinN q (jg T w) C x)) (some (.d (.int x))) z9) s = _
      unfold oaO
      rw [seq_for it, g]
      rfl)
    ⟨x8, x9, rfl, rfl⟩
  subst he
  rw [hs'] at f1
  refine ⟨joinN q (jg T w) C q, some (.d (tabD T)), some (.d (.int w)), some (.d (.lst (natD (joinN q (jg T w) C q)))), z8, z9, s2, ?_, h.joined hq.q1 hT, u3⟩
  unfold oaB
  rw [seq_nxt e1, seq_nxt e2, seq_nxt e3, seq_for e4, f1]
  rfl
/-- a full table with one answer is drawn -/
theorem one_answer_ok {q n : Nat} (hq : QN q n) {cells : List D} (hc : Cells cells) {s : S} (hs : Sto cells s) : ∃ C s', f__law_one_answer [.ref 0, .d (.int q), .d (.int n)] s = .ok (.d (.tup (natD C))) s' ∧ Full q n C ∧ Sto cells s' := by
  obtain ⟨p, s1, t1, hp, t3⟩ := shuffle_ok hq.q8 hc hs
  have e1 : mAsg 3 (mB1 .list (mCall fk__law_shuffle (mCons (mVar 0) (mCons (mVar 1) mNil)))) (initE 10 [.ref 0, .d (.int q), .d (.int n)]) s = .nxt [some (.ref 0), some (.d (.int q)), some (.d (.int n)), some (.d (.lst (natD p))), none, none, none, none, none, none] s1 := by
    have c : mCall fk__law_shuffle (mCons (mVar 0) (mCons (mVar 1) mNil)) (initE 10 [.ref 0, .d (.int q), .d (.int n)]) s = .ok (.d (.tup (natD p))) s1 := shuffle_call rfl rfl t1
    refine asg_ok (x := .lst (natD p)) ?_
    unfold mB1
    rw [c]
    rfl
  have hn : (n : Int) - 1 = ((n - 1 : Nat) : Int) := by have := hq.n1; omega
  have e2 : mRg1 (mBin .sub (mVar 2) (mCon (.int 1))) [some (.ref 0), some (.d (.int q)), some (.d (.int n)), some (.d (.lst (natD p))), none, none, none, none, none, none] s1 = .ok (natD (List.range (n - 1))) s1 := rgI (by have := hq.n8; omega) (bin_eq (i := n) (j := 1) rfl rfl (by rw [osub, hn]))
  obtain ⟨e', s', f1, C, x4, y5, y6, y7, y8, y9, he, hs', hF⟩ := for_ix (i := 4) (b := oaB) (N := n - 1) (e := [some (.ref 0), some (.d (.int q)), some (.d (.int n)), some (.d (.lst (natD p))), none, none, none, none, none, none]) (s := s1)
    (Inv := fun k e s => ∃ C x4 x5 x6 x7 x8 x9, e = [some (.ref 0), some (.d (.int q)), some (.d (.int n)), some (.d (.lst (natD C))), x4, x5, x6, x7, x8, x9] ∧ Sto cells s ∧ Full q (k + 1) C)
    (fun k hk e s ⟨C, x4, x5, x6, x7, x8, x9, he, hs, hF⟩ => by
      subst he
      obtain ⟨C', y5, y6, y7, y8, y9, s', g1, g2, g3⟩ := oa_body hq (by omega) hF (x5 := x5) (x6 := x6) (x7 := x7) (x8 := x8) (x9 := x9) hc hs
      exact ⟨_, s', g1, C', _, y5, y6, y7, y8, y9, rfl, g3, g2⟩)
    ⟨p, _, _, _, _, _, _, rfl, t3, Full.one hp⟩
  subst he
  rw [show n - 1 + 1 = n by have := hq.n1; omega] at hF
  refine ⟨C, s', ?_, hF, hs'⟩
  unfold f__law_one_answer
  refine runE_ret ?_
  rw [oa_eq, seq_nxt e1, seq_for e2, f1]
  rfl
end MPL
end

section
set_option Elab.async false
set_option linter.all false
set_option maxRecDepth 100000
set_option maxHeartbeats 4000000
namespace MPL
open PySem MP
/-! ### tables near a full one -/
structure RowN (q N : Nat) (W : List Nat) : Prop where
  len : W.length = N
  lt : ∀ o ∈ W, o < q
theorem RowN.set {q N : Nat} {W : List Nat} (h : RowN q N W) {k v : Nat} (hv : v < q) : RowN q N (W.set k v) :=
  ⟨by rw [List.length_set]; exact h.len, fun o ho => by
    rcases List.mem_or_eq_of_mem_set ho with h1 | h1
    · exact h.lt o h1
    · rw [h1]; exact hv⟩
theorem RowN.at_ {q N : Nat} {W : List Nat} (h : RowN q N W) {k : Nat} (hk : k < N) : pg W k < q := by
  have hl : k < W.length := by rw [h.len]; exact hk
  unfold pg
  rw [List.getD_eq_getElem?_getD, List.getElem?_eq_getElem hl]
  exact h.lt _ (List.getElem_mem hl)
theorem RowN.row {q n : Nat} {W : List Nat} (h : RowN q (q ^ n) W) : Row q n (castL W) := ⟨by unfold castL; rw [List.length_map, h.len], fun y hy => by
  obtain ⟨a, ha, rfl⟩ := List.mem_map.mp hy
  have := h.lt a ha
  omega⟩
theorem Full.rowN {q n : Nat} {c : List Nat} (h : Full q n c) : RowN q (q ^ n) c := ⟨h.len, h.mem⟩
theorem setO_ok {i : Nat} {j a : ME} {e : MP.Env} {s s1 : S} {W : List Nat} {k v : Nat} {K : Int} (ha : a e s = .ok (.d (.int (v : Nat))) s1) (he : e[i]? = some (some (.own (natD W)))) (hj : j e s1 = .ok (.d (.int K)) s1) (hk : MP.ixN W.length K = some k) :
    mSetO i j a e s = .nxt (e.set i (some (.own (natD (W.set k v))))) s1 := by
  unfold mSetO
  rw [ha]
  simp only [R.go_ok]
  rw [he]
  dsimp only
  rw [hj]
  simp only [R.go_ok]
  rw [natD_len, hk]
  dsimp only
  rw [natD_set]
theorem ix_snap {a b : ME} {e : MP.Env} {s : S} {xs : List D} {i : Int} {x : D} (ha : a e s = .ok (.snap xs) s) (hb : b e s = .ok (.d (.int i)) s) (h : MP.atI xs i = some x) : mIx a b e s = .ok (.d x) s := by
  unfold mIx
  rw [ha]
  simp only [R.bind_ok]
  rw [hb]
  show R.of ((ixD (.lst xs) (.int i)).map Val.d) s = _
  show R.of ((MP.atI xs i).map Val.d) s = _
  rw [h]
  rfl
theorem len_snap {a : ME} {e : MP.Env} {s : S} {xs : List D} (ha : a e s = .ok (.snap xs) s) : mB1 .len a e s = .ok (.d (.int (xs.length : Nat))) s := by
  unfold mB1
  rw [ha]
  rfl
structure X6 where
  x8 : Option Val
  x9 : Option Val
  x10 : Option Val
  x11 : Option Val
  x12 : Option Val
  x13 : Option Val
abbrev nfE (q n : Nat) (C : List Nat) (w a b : Nat) (W : List Nat) (X : X6) : MP.Env := [some (.ref 0), some (.d (.int q)), some (.d (.int n)), some (.d (.tup (natD C))), some (.own (natD W)), some (.d (.int w)), some (.d (.int a)), some (.d (.int b)), X.x8, X.x9, X.x10, X.x11, X.x12, X.x13]
def NF (q n N w a b : Nat) (C : List Nat) (cells : List D) (F : MS) : Prop := ∀ W X s, RowN q N W → Sto cells s → ∃ W' X' s', F (nfE q n C w a b W X) s = .nxt (nfE q n C w a b W' X') s' ∧ RowN q N W' ∧ Sto cells s'
theorem NF.seq {q n N w a b : Nat} {C : List Nat} {cells : List D} {F G : MS} (hF : NF q n N w a b C cells F) (hG : NF q n N w a b C cells G) : NF q n N w a b C cells (mSeq F G) := fun W X s hR hs => by
  obtain ⟨R1, X1, s1, h1, h2, h3⟩ := hF W X s hR hs
  obtain ⟨R2, X2, s2, g1, g2, g3⟩ := hG R1 X1 s1 h2 h3
  exact ⟨R2, X2, s2, by rw [seq_nxt h1, g1], g2, g3⟩
theorem NF.pass {q n N w a b : Nat} {C : List Nat} {cells : List D} : NF q n N w a b C cells mPass := fun W X s hR hs => ⟨W, X, s, rfl, hR, hs⟩
theorem NF.if_ {q n N w a b : Nat} {C : List Nat} {cells : List D} {A : MS} (i : Nat) (h : NF q n N w a b C cells A) : NF q n N w a b C cells (mIf (mCmp .eq (mVar 5) (mCon (.int (i : Nat)))) A mPass) := fun W X s hR hs => by
  have c : mCmp .eq (mVar 5) (mCon (.int (i : Nat))) (nfE q n C w a b W X) s = .ok ((w : Int) == (i : Int)) s := cmp_ok (x := .int w) (y := .int (i : Nat)) rfl rfl rfl
  cases hw : ((w : Int) == (i : Int)) with
  | true =>
    rw [hw] at c
    rw [if_t c]
    exact h W X s hR hs
  | false =>
    rw [hw] at c
    rw [if_f c]
    exact ⟨W, X, s, rfl, hR, hs⟩
section
variable {q n N w a b : Nat} {C : List Nat} {cells : List D}
theorem nf0 (hq : QN q n) (hc : Cells cells) (ha : a < N) : NF q n N w a b C cells (mSetO 4 (mVar 6) (mCall fk__law_take (mCons (mVar 0) (mCons (mVar 1) mNil)))) := fun W X s hR hs => by
  obtain ⟨t, s1, t1, t2, t3⟩ := take_nat (n := q) (by have := hq.q8; omega) hq.q1 hc hs
  exact ⟨W.set a t, X, s1, setO_ok (i := 4) (k := a) (take_call (a := mVar 0) (b := mVar 1) rfl rfl t1) rfl rfl (ixN_nat (by rw [hR.len]; exact ha)), hR.set t2, t3⟩
theorem nf1 (hC : RowN q N C) {i j : Nat} {x y : Nat} (hx : x < N) (hy : y < N) (hi : ∀ W X s, mVar i (nfE q n C w a b W X) s = .ok (.d (.int x)) s) (hj : ∀ W X s, mVar j (nfE q n C w a b W X) s = .ok (.d (.int y)) s) : NF q n N w a b C cells (mSetO 4 (mVar i) (mIx (mVar 3) (mVar j))) := fun W X s hR hs => by
  have r : mIx (mVar 3) (mVar j) (nfE q n C w a b W X) s = .ok (.d (.int (pg C y : Nat))) s := ix_tup rfl (hj W X s) (natD_get (by rw [hC.len]; exact hy))
  exact ⟨W.set x (pg C y), X, s, setO_ok (i := 4) (k := x) r rfl (hi W X s) (ixN_nat (by rw [hR.len]; exact hx)), hR.set (hC.at_ hy), hs⟩
theorem nf5 (h0 : 0 < N) : NF q n N w a b C cells (mSetO 4 (mNeg (mCon (.int 1))) (mIx (mVar 4) (mCon (.int 0)))) := fun W X s hR hs => by
  have r : mIx (mVar 4) (mCon (.int 0)) (nfE q n C w a b W X) s = .ok (.d (.int (pg W 0 : Nat))) s := by
    have := natD_get (p := W) (k := 0) (by rw [hR.len]; exact h0)
    exact ix_snap rfl rfl this
  have k : MP.ixN W.length (-1) = some (N - 1) := by
    unfold MP.ixN
    rw [if_neg (by decide), if_pos (by rw [hR.len]; omega), hR.len]
    congr 1
    omega
  exact ⟨W.set (N - 1) (pg W 0), X, s, setO_ok (i := 4) r rfl rfl k, hR.set (hR.at_ h0), hs⟩
theorem rep_ok {t N : Nat} (hN : N ≤ 1024) : opD .mul (.lst [.int t]) (.int (N : Int)) = some (.lst (natD (List.replicate N t))) := by
  have hl : N ≤ line := le_line (by omega)
  have h63 : (1024 : Int) < 2 ^ 63 := by decide
  have hneg : -(2 ^ 63 : Int) ≤ 0 := by decide
  have e : natD (List.replicate N t) = (List.replicate (N : Int).toNat [D.int (t : Nat)]).flatten := by
    rw [Int.toNat_natCast]
    unfold natD
    rw [List.map_replicate, List.flatten_replicate_singleton]
  rw [e]
  unfold opD
  dsimp only
  rw [if_pos ⟨rfl, Int.le_trans hneg (Int.natCast_nonneg N), Int.lt_of_le_of_lt (by omega) h63, by rw [List.length_singleton, Nat.one_mul, Int.toNat_natCast]; exact hl⟩]
theorem nf3 (hq : QN q n) (hN : N ≤ 1024) (hc : Cells cells) : NF q n N w a b C cells (mAsgO 4 (mBin .mul (mLst (mCons (mCall fk__law_take (mCons (mVar 0) (mCons (mVar 1) mNil))) mNil)) (mB1 .len (mVar 4)))) := fun W X s hR hs => by
  obtain ⟨t, s1, t1, t2, t3⟩ := take_nat (n := q) (by have := hq.q8; omega) hq.q1 hc hs
  have e1 : mLst (mCons (mCall fk__law_take (mCons (mVar 0) (mCons (mVar 1) mNil))) mNil) (nfE q n C w a b W X) s = .ok (.d (.lst [.int t])) s1 := lst_d (xs := [.int t]) (cons_d (take_call (a := mVar 0) (b := mVar 1) rfl rfl t1) nil_d) (le_line (by simp))
  have e2 : mB1 .len (mVar 4) (nfE q n C w a b W X) s1 = .ok (.d (.int N)) s1 := by
    have := len_snap (a := mVar 4) (e := nfE q n C w a b W X) (s := s1) (xs := natD W) rfl
    rwa [natD_len, hR.len] at this
  have e3 := bin_d e1 e2 (rep_ok (t := t) hN)
  refine ⟨List.replicate N t, X, s1, ?_, ⟨List.length_replicate, fun o ho => by rw [(List.mem_replicate.mp ho).2]; exact t2⟩, t3⟩
  unfold mAsgO
  rw [e3]
  rfl
def mixV (x y : Int) : Int := match f__law_mix [.int x, .int y] with
  | .ok (.int r) => r
  | _ => 0
theorem mixV_ok (x y : Int) : f__law_mix [.int x, .int y] = .ok (.int (mixV x y)) := by
  obtain ⟨r, h⟩ := mix_ok x y
  unfold mixV
  rw [h]
def mixG (q : Nat) (sd : Int) : D → D
  | .int y => .int (mixV sd y % q)
  | _ => .non
theorem mixG_map {q : Nat} (hq : 1 ≤ q) (sd : Int) (N : Nat) : ((natD (List.range N)).map (mixG q sd)) = natD ((List.range N).map fun y => (mixV sd (y : Nat) % q).toNat) := by
  unfold natD
  rw [List.map_map, List.map_map]
  refine List.map_congr_left fun y _ => ?_
  show D.int (mixV sd (y : Nat) % q) = D.int (((mixV sd (y : Nat) % q).toNat : Nat) : Int)
  rw [Int.toNat_of_nonneg (Int.emod_nonneg _ (by omega))]
theorem nf4 (hq : QN q n) (hN : N ≤ 1024) (hc : Cells cells) : NF q n N w a b C cells (mSeq (mAsg 13 (mCall fk__law_take (mCons (mVar 0) (mCons (mCon (.int 1000003)) mNil)))) (mSeq (mAsgO 4 (mLc [12] (.nm 12) (mRg1 (mB1 .len (mVar 4))) mYes (mBin .mod (mB1 .int (mCall fk__law_mix (mCons (mVar 13) (mCons (mVar 12) mNil)))) (mVar 1)))) mPass)) := fun W X s hR hs => by
  obtain ⟨sd, s1, t1, t2, t3⟩ := take_nat (n := 1000003) (by decide) (by decide) hc hs
  have e1 : mAsg 13 (mCall fk__law_take (mCons (mVar 0) (mCons (mCon (.int 1000003)) mNil))) (nfE q n C w a b W X) s = .nxt (nfE q n C w a b W { X with x13 := some (.d (.int sd)) }) s1 := asg_ok (take_call rfl rfl t1)
  have e2 : mB1 .len (mVar 4) (nfE q n C w a b W { X with x13 := some (.d (.int sd)) }) s1 = .ok (.d (.int N)) s1 := by
    have := len_snap (a := mVar 4) (e := nfE q n C w a b W { X with x13 := some (.d (.int sd)) }) (s := s1) (xs := natD W) rfl
    rwa [natD_len, hR.len] at this
  have e3 : mLc [12] (.nm 12) (mRg1 (mB1 .len (mVar 4))) mYes (mBin .mod (mB1 .int (mCall fk__law_mix (mCons (mVar 13) (mCons (mVar 12) mNil)))) (mVar 1)) (nfE q n C w a b W { X with x13 := some (.d (.int sd)) }) s1 = .ok (.d (.lst ((natD (List.range N)).map (mixG q sd)))) s1 := by
    refine mLc_map (rgI hN e2) fun y hy => ?_
    obtain ⟨k, _, rfl⟩ := List.mem_map.mp hy
    have c : mCall fk__law_mix (mCons (mVar 13) (mCons (mVar 12) mNil)) ((wipe (nfE q n C w a b W { X with x13 := some (.d (.int sd)) }) [12]).set 12 (some (.d (.int k)))) s1 = .ok (.d (.int (mixV sd (k : Nat)))) s1 := call_ok (xs := [.int sd, .int k]) rfl rfl (mixV_ok _ _)
    exact bin_eq (i := mixV sd (k : Nat)) (j := q) (b1_ok c rfl) rfl (omod (by have := hq.q1; omega))
  rw [mixG_map hq.q1] at e3
  refine ⟨(List.range N).map fun y => (mixV sd (y : Nat) % q).toNat, { X with x13 := some (.d (.int sd)) }, s1, ?_, ⟨by rw [List.length_map, List.length_range], fun o ho => ?_⟩, t3⟩
  · rw [seq_nxt e1]
    have e4 : mAsgO 4 (mLc [12] (.nm 12) (mRg1 (mB1 .len (mVar 4))) mYes (mBin .mod (mB1 .int (mCall fk__law_mix (mCons (mVar 13) (mCons (mVar 12) mNil)))) (mVar 1))) (nfE q n C w a b W { X with x13 := some (.d (.int sd)) }) s1 = .nxt (nfE q n C w a b ((List.range N).map fun y => (mixV sd (y : Nat) % q).toNat) { X with x13 := some (.d (.int sd)) }) s1 := by
      unfold mAsgO
      rw [e3]
      rfl
    rw [seq_nxt e4]
    rfl
  · obtain ⟨k, _, rfl⟩ := List.mem_map.mp ho
    have h1 := Int.emod_nonneg (mixV sd (k : Nat)) (b := (q : Int)) (by have := hq.q1; omega)
    have h2 := Int.emod_lt_of_pos (mixV sd (k : Nat)) (b := (q : Int)) (by have := hq.q1; omega)
    exact (Int.toNat_lt h1).mpr h2
def nfI : MS := (mSeq (mIf (mAnd (mCmp .eq (mBin .mod (mB1 .int (mBin .fdiv (mVar 12) (mVar 10))) (mVar 1)) (mVar 11)) (mCmp .in_ (mIx (mVar 4) (mVar 12)) (mTup (mCons (mVar 8) (mCons (mVar 9) mNil))))) (mSeq (mSetO 4 (mVar 12) (mBin .sub (mBin .add (mVar 8) (mVar 9)) (mIx (mVar 4) (mVar 12)))) mPass) mPass) mPass)
theorem nf_turn {st sl u v k : Nat} (hq : 1 ≤ q) (hst : 0 < st) (hst2 : st ≤ 1024) (hu : u < q) (hv : v < q) {W : List Nat} (hR : RowN q N W) (hk : k < N) (x13 : Option Val) (s : S) :
    ∃ W', nfI (nfE q n C w a b W ⟨some (.d (.int u)), some (.d (.int v)), some (.d (.int st)), some (.d (.int sl)), some (.d (.int k)), x13⟩) s = .nxt (nfE q n C w a b W' ⟨some (.d (.int u)), some (.d (.int v)), some (.d (.int st)), some (.d (.int sl)), some (.d (.int k)), x13⟩) s ∧ RowN q N W' := by
  generalize hE : nfE q n C w a b W ⟨some (.d (.int u)), some (.d (.int v)), some (.d (.int st)), some (.d (.int sl)), some (.d (.int k)), x13⟩ = E
  have hat := natD_get (p := W) (k := k) (by rw [hR.len]; exact hk)
  have c1 : mCmp .eq (mBin .mod (mB1 .int (mBin .fdiv (mVar 12) (mVar 10))) (mVar 1)) (mVar 11) E s = .ok ((k : Int) / (st : Int) % (q : Int) == (sl : Int)) s := by
    subst hE
    exact cmp_ok (bin_eq (i := (k : Int) / (st : Int)) (j := q) (b1_ok (x := .int ((k : Int) / (st : Int))) (bin_eq (i := k) (j := st) rfl rfl (ofd (by omega) (bnd_nat hst2))) rfl) rfl (omod (by omega))) (y := .int (sl : Nat)) rfl rfl
  have r : mIx (mVar 4) (mVar 12) E s = .ok (.d (.int (pg W k : Nat))) s := by
    subst hE
    exact ix_snap rfl rfl hat
  have c2 : mCmp .in_ (mIx (mVar 4) (mVar 12)) (mTup (mCons (mVar 8) (mCons (mVar 9) mNil))) E s = .ok (decide (((pg W k : Nat) : Int) ∈ [(u : Int), (v : Int)])) s := by
    refine cmp_ok r (y := .tup (zs [(u : Int), (v : Int)])) ?_ (by unfold cmpD inS; exact in_zsT _ _)
    subst hE
    exact tup_d (xs := [.int u, .int v]) (cons_d rfl (cons_d rfl nil_d)) two_ok
  have no : ∀ t : MT, t E s = .ok false s → ∃ W', mSeq (mIf t (mSeq (mSetO 4 (mVar 12) (mBin .sub (mBin .add (mVar 8) (mVar 9)) (mIx (mVar 4) (mVar 12)))) mPass) mPass) mPass E s = .nxt (nfE q n C w a b W' ⟨some (.d (.int u)), some (.d (.int v)), some (.d (.int st)), some (.d (.int sl)), some (.d (.int k)), x13⟩) s ∧ RowN q N W' := fun t ht => by
    refine ⟨W, ?_, hR⟩
    have := if_f (a := (mSeq (mSetO 4 (mVar 12) (mBin .sub (mBin .add (mVar 8) (mVar 9)) (mIx (mVar 4) (mVar 12)))) mPass)) (b := mPass) ht
    rw [seq_nxt (this.trans rfl), hE]
    rfl
  unfold nfI
  cases h1 : ((k : Int) / (st : Int) % (q : Int) == (sl : Int)) with
  | false =>
    rw [h1] at c1
    exact no _ (and_f c1)
  | true =>
    rw [h1] at c1
    cases h2 : decide (((pg W k : Nat) : Int) ∈ [(u : Int), (v : Int)]) with
    | false =>
      rw [h2] at c2
      exact no _ (and_t c1 c2)
    | true =>
      rw [h2] at c2
      have hm := of_decide_eq_true h2
      have hw : ∃ z : Nat, z < q ∧ (u : Int) + (v : Int) - ((pg W k : Nat) : Int) = (z : Int) := by
        rcases List.mem_cons.mp hm with h | h
        · exact ⟨v, hv, by omega⟩
        · have h := List.mem_singleton.mp h
          exact ⟨u, hu, by omega⟩
      obtain ⟨z, hz, ez⟩ := hw
      have e1 : mBin .sub (mBin .add (mVar 8) (mVar 9)) (mIx (mVar 4) (mVar 12)) E s = .ok (.d (.int (z : Nat))) s := by
        refine bin_eq (i := (u : Int) + v) (j := (pg W k : Nat)) ?_ r (by rw [osub, ez])
        subst hE
        exact bin_eq (i := u) (j := v) rfl rfl (oadd _ _)
      have e2 : mSetO 4 (mVar 12) (mBin .sub (mBin .add (mVar 8) (mVar 9)) (mIx (mVar 4) (mVar 12))) E s = .nxt (E.set 4 (some (.own (natD (W.set k z))))) s := by
        refine setO_ok (K := k) e1 ?_ ?_ (ixN_nat (by rw [hR.len]; exact hk))
        · subst hE; rfl
        · subst hE; rfl
      refine ⟨W.set k z, ?_, hR.set hz⟩
      have e3 : mIf (mAnd (mCmp .eq (mBin .mod (mB1 .int (mBin .fdiv (mVar 12) (mVar 10))) (mVar 1)) (mVar 11)) (mCmp .in_ (mIx (mVar 4) (mVar 12)) (mTup (mCons (mVar 8) (mCons (mVar 9) mNil))))) (mSeq (mSetO 4 (mVar 12) (mBin .sub (mBin .add (mVar 8) (mVar 9)) (mIx (mVar 4) (mVar 12)))) mPass) mPass E s = .nxt (E.set 4 (some (.own (natD (W.set k z))))) s := by
        rw [if_t (and_t c1 c2), seq_nxt e2]
        rfl
      rw [seq_nxt e3, ← hE]
      rfl
def nf2S : MS := (mSeq (mAsg 8 (mCall fk__law_take (mCons (mVar 0) (mCons (mVar 1) mNil)))) (mSeq (mAsg 9 (mCall fk__law_take (mCons (mVar 0) (mCons (mVar 1) mNil)))) (mSeq (mAsg 10 (mCall fk__law_power (mCons (mVar 1) (mCons (mCall fk__law_take (mCons (mVar 0) (mCons (mVar 2) mNil))) mNil)))) (mSeq (mAsg 11 (mBin .mod (mB1 .int (mBin .fdiv (mVar 6) (mVar 10))) (mVar 1))) (mSeq (mFor (.nm 12) (mRg1 (mB1 .len (mVar 4))) nfI) mPass)))))
theorem nf2 (hq : QN q n) (hN : N ≤ 1024) (hc : Cells cells) : NF q n N w a b C cells nf2S := fun W X s hR hs => by
  obtain ⟨u, s1, t1, t2, t3⟩ := take_nat (n := q) (by have := hq.q8; omega) hq.q1 hc hs
  obtain ⟨v, s2, u1, u2, u3⟩ := take_nat (n := q) (by have := hq.q8; omega) hq.q1 hc t3
  obtain ⟨p, s3, v1, v2, v3⟩ := take_nat (n := n) (by have := hq.n8; omega) hq.n1 hc u3
  have hst : 0 < q ^ p := Nat.pow_pos hq.q1
  have hst2 : q ^ p ≤ 1024 := Nat.le_trans (Nat.pow_le_pow_right hq.q1 (by omega)) hq.le
  have hp := (pow_ok (q := q) (n := p) hq.q8 (by have := hq.n8; omega)).2.1
  rw [show ((q : Int) ^ p) = ((q ^ p : Nat) : Int) by simp] at hp
  have e1 : mAsg 8 (mCall fk__law_take (mCons (mVar 0) (mCons (mVar 1) mNil))) (nfE q n C w a b W X) s = .nxt (nfE q n C w a b W { X with x8 := some (.d (.int u)) }) s1 := asg_ok (take_call rfl rfl t1)
  have e2 : mAsg 9 (mCall fk__law_take (mCons (mVar 0) (mCons (mVar 1) mNil))) (nfE q n C w a b W { X with x8 := some (.d (.int u)) }) s1 = .nxt (nfE q n C w a b W { X with x8 := some (.d (.int u)), x9 := some (.d (.int v)) }) s2 := asg_ok (take_call rfl rfl u1)
  have e3 : mAsg 10 (mCall fk__law_power (mCons (mVar 1) (mCons (mCall fk__law_take (mCons (mVar 0) (mCons (mVar 2) mNil))) mNil))) (nfE q n C w a b W { X with x8 := some (.d (.int u)), x9 := some (.d (.int v)) }) s2 = .nxt (nfE q n C w a b W { X with x8 := some (.d (.int u)), x9 := some (.d (.int v)), x10 := some (.d (.int (q ^ p : Nat))) }) s3 :=
    asg_ok (call_ok2 (xs := [.int q, .int p]) (cons_d rfl (cons_d (take_call (a := mVar 0) (b := mVar 2) rfl rfl v1) nil_d)) rfl hp)
  have e4 : mAsg 11 (mBin .mod (mB1 .int (mBin .fdiv (mVar 6) (mVar 10))) (mVar 1)) (nfE q n C w a b W { X with x8 := some (.d (.int u)), x9 := some (.d (.int v)), x10 := some (.d (.int (q ^ p : Nat))) }) s3 = .nxt (nfE q n C w a b W ⟨some (.d (.int u)), some (.d (.int v)), some (.d (.int (q ^ p : Nat))), some (.d (.int (a / q ^ p % q : Nat))), X.x12, X.x13⟩) s3 := by
    refine asg_ok (bin_eq (i := (a : Int) / ((q ^ p : Nat) : Int)) (j := q) (b1_ok (x := .int ((a : Int) / ((q ^ p : Nat) : Int))) (bin_eq (i := a) (j := (q ^ p : Nat)) rfl rfl (ofd (by omega) (bnd_nat hst2))) rfl) rfl ?_)
    rw [omod (by have := hq.q1; omega)]
    simp
  have e5 : mRg1 (mB1 .len (mVar 4)) (nfE q n C w a b W ⟨some (.d (.int u)), some (.d (.int v)), some (.d (.int (q ^ p : Nat))), some (.d (.int (a / q ^ p % q : Nat))), X.x12, X.x13⟩) s3 = .ok (natD (List.range N)) s3 := by
    refine rgI hN ?_
    have := len_snap (a := mVar 4) (e := nfE q n C w a b W ⟨some (.d (.int u)), some (.d (.int v)), some (.d (.int (q ^ p : Nat))), some (.d (.int (a / q ^ p % q : Nat))), X.x12, X.x13⟩) (s := s3) (xs := natD W) rfl
    rwa [natD_len, hR.len] at this
  obtain ⟨e', s', f1, W', y12, he, hs', hR'⟩ := for_ix (i := 12) (b := nfI) (N := N) (e := nfE q n C w a b W ⟨some (.d (.int u)), some (.d (.int v)), some (.d (.int (q ^ p : Nat))), some (.d (.int (a / q ^ p % q : Nat))), X.x12, X.x13⟩) (s := s3)
    (Inv := fun k e s => ∃ W' y12, e = nfE q n C w a b W' ⟨some (.d (.int u)), some (.d (.int v)), some (.d (.int (q ^ p : Nat))), some (.d (.int (a / q ^ p % q : Nat))), y12, X.x13⟩ ∧ s = s3 ∧ RowN q N W')
    (fun k hk e s ⟨W', y12, he, hs, hR'⟩ => by
      subst he hs
      obtain ⟨W2, g1, g2⟩ := nf_turn (n := n) (C := C) (w := w) (a := a) (b := b) (sl := a / q ^ p % q) hq.q1 hst hst2 t2 u2 hR' hk X.x13 s
      exact ⟨_, s, g1, W2, some (.d (.int k)), rfl, rfl, g2⟩)
    ⟨W, X.x12, rfl, rfl, hR⟩
  subst he
  rw [hs'] at f1
  refine ⟨W', ⟨some (.d (.int u)), some (.d (.int v)), some (.d (.int (q ^ p : Nat))), some (.d (.int (a / q ^ p % q : Nat))), y12, X.x13⟩, s3, ?_, hR', v3⟩
  unfold nf2S
  rw [seq_nxt e1, seq_nxt e2, seq_nxt e3, seq_nxt e4, seq_for e5, f1]
  rfl
theorem nf_eq : m__law_near_full = (mSeq (mAsgO 4 (mB1 .list (mVar 3))) (mSeq (mAsg 5 (mCall fk__law_take (mCons (mVar 0) (mCons (mCon (.int 7)) mNil)))) (mSeq (mAsg 6 (mCall fk__law_take (mCons (mVar 0) (mCons (mB1 .len (mVar 4)) mNil)))) (mSeq (mAsg 7 (mCall fk__law_take (mCons (mVar 0) (mCons (mB1 .len (mVar 4)) mNil)))) (mSeq (mSeq (mIf (mCmp .eq (mVar 5) (mCon (.int (0 : Nat)))) (mSeq (mSetO 4 (mVar 6) (mCall fk__law_take (mCons (mVar 0) (mCons (mVar 1) mNil)))) mPass) mPass) (mSeq (mIf (mCmp .eq (mVar 5) (mCon (.int (1 : Nat)))) (mSeq (mSetO 4 (mVar 6) (mIx (mVar 3) (mVar 7))) (mSeq (mSetO 4 (mVar 7) (mIx (mVar 3) (mVar 6))) mPass)) mPass) (mSeq (mIf (mCmp .eq (mVar 5) (mCon (.int (2 : Nat)))) nf2S mPass) (mSeq (mIf (mCmp .eq (mVar 5) (mCon (.int (3 : Nat)))) (mSeq (mAsgO 4 (mBin .mul (mLst (mCons (mCall fk__law_take (mCons (mVar 0) (mCons (mVar 1) mNil))) mNil)) (mB1 .len (mVar 4)))) mPass) mPass) (mSeq (mIf (mCmp .eq (mVar 5) (mCon (.int (4 : Nat)))) (mSeq (mAsg 13 (mCall fk__law_take (mCons (mVar 0) (mCons (mCon (.int 1000003)) mNil)))) (mSeq (mAsgO 4 (mLc [12] (.nm 12) (mRg1 (mB1 .len (mVar 4))) mYes (mBin .mod (mB1 .int (mCall fk__law_mix (mCons (mVar 13) (mCons (mVar 12) mNil)))) (mVar 1)))) mPass)) mPass) (mIf (mCmp .eq (mVar 5) (mCon (.int (5 : Nat)))) (mSeq (mSetO 4 (mNeg (mCon (.int 1))) (mIx (mVar 4) (mCon (.int 0)))) mPass) mPass)))))) (mSeq (mFrz 4) (mSeq (mRet (mB1 .tuple (mVar 4))) mPass))))))) := by
  simp only [← seq_assoc]
  rfl
end
/-- a table near a full one -/
theorem near_full_ok {q n : Nat} (hq : QN q n) {C : List Nat} (hC : RowN q (q ^ n) C) {cells : List D} (hc : Cells cells) {s : S} (hs : Sto cells s) : ∃ W s', f__law_near_full [.ref 0, .d (.int q), .d (.int n), .d (.tup (natD C))] s = .ok (.d (.tup (natD W))) s' ∧ RowN q (q ^ n) W ∧ Sto cells s' := by
  have hN : q ^ n ≤ 1024 := hq.le
  have h0 : 0 < q ^ n := hq.pos
  obtain ⟨w, s1, t1, t2, t3⟩ := take_nat (n := 7) (by decide) (by decide) hc hs
  obtain ⟨a, s2, u1, u2, u3⟩ := take_nat (n := q ^ n) (by omega) h0 hc t3
  obtain ⟨b, s3, v1, v2, v3⟩ := take_nat (n := q ^ n) (by omega) h0 hc u3
  have e1 : mAsgO 4 (mB1 .list (mVar 3)) (initE 14 [.ref 0, .d (.int q), .d (.int n), .d (.tup (natD C))]) s = .nxt [some (.ref 0), some (.d (.int q)), some (.d (.int n)), some (.d (.tup (natD C))), some (.own (natD C)), none, none, none, none, none, none, none, none, none] s := rfl
  have e2 : mAsg 5 (mCall fk__law_take (mCons (mVar 0) (mCons (mCon (.int 7)) mNil))) [some (.ref 0), some (.d (.int q)), some (.d (.int n)), some (.d (.tup (natD C))), some (.own (natD C)), none, none, none, none, none, none, none, none, none] s = .nxt [some (.ref 0), some (.d (.int q)), some (.d (.int n)), some (.d (.tup (natD C))), some (.own (natD C)), some (.d (.int w)), none, none, none, none, none, none, none, none] s1 := asg_ok (take_call rfl rfl t1)
  have l1 : mB1 .len (mVar 4) [some (.ref 0), some (.d (.int q)), some (.d (.int n)), some (.d (.tup (natD C))), some (.own (natD C)), some (.d (.int w)), none, none, none, none, none, none, none, none] s1 = .ok (.d (.int (q ^ n : Nat))) s1 := by
    have := len_snap (a := mVar 4) (e := [some (.ref 0), some (.d (.int q)), some (.d (.int n)), some (.d (.tup (natD C))), some (.own (natD C)), some (.d (.int w)), none, none, none, none, none, none, none, none]) (s := s1) (xs := natD C) rfl
    rwa [natD_len, hC.len] at this
  have e3 : mAsg 6 (mCall fk__law_take (mCons (mVar 0) (mCons (mB1 .len (mVar 4)) mNil))) [some (.ref 0), some (.d (.int q)), some (.d (.int n)), some (.d (.tup (natD C))), some (.own (natD C)), some (.d (.int w)), none, none, none, none, none, none, none, none] s1 = .nxt [some (.ref 0), some (.d (.int q)), some (.d (.int n)), some (.d (.tup (natD C))), some (.own (natD C)), some (.d (.int w)), some (.d (.int a)), none, none, none, none, none, none, none] s2 := asg_ok (take_call rfl l1 u1)
  have l2 : mB1 .len (mVar 4) [some (.ref 0), some (.d (.int q)), some (.d (.int n)), some (.d (.tup (natD C))), some (.own (natD C)), some (.d (.int w)), some (.d (.int a)), none, none, none, none, none, none, none] s2 = .ok (.d (.int (q ^ n : Nat))) s2 := by
    have := len_snap (a := mVar 4) (e := [some (.ref 0), some (.d (.int q)), some (.d (.int n)), some (.d (.tup (natD C))), some (.own (natD C)), some (.d (.int w)), some (.d (.int a)), none, none, none, none, none, none, none]) (s := s2) (xs := natD C) rfl
    rwa [natD_len, hC.len] at this
  have e4 : mAsg 7 (mCall fk__law_take (mCons (mVar 0) (mCons (mB1 .len (mVar 4)) mNil))) [some (.ref 0), some (.d (.int q)), some (.d (.int n)), some (.d (.tup (natD C))), some (.own (natD C)), some (.d (.int w)), some (.d (.int a)), none, none, none, none, none, none, none] s2 = .nxt (nfE q n C w a b C ⟨none, none, none, none, none, none⟩) s3 := asg_ok (take_call rfl l2 v1)
  have body := (NF.if_ (q := q) (n := n) (N := q ^ n) (w := w) (a := a) (b := b) (C := C) (cells := cells) 0 (NF.seq (nf0 hq hc u2) .pass)).seq
    ((NF.if_ 1 (NF.seq (nf1 hC (i := 6) (j := 7) u2 v2 (fun _ _ _ => rfl) (fun _ _ _ => rfl)) (NF.seq (nf1 hC (i := 7) (j := 6) v2 u2 (fun _ _ _ => rfl) (fun _ _ _ => rfl)) .pass))).seq
    ((NF.if_ 2 (nf2 hq hN hc)).seq
    ((NF.if_ 3 (NF.seq (nf3 hq hN hc) .pass)).seq
    ((NF.if_ 4 (nf4 hq hN hc)).seq
    (NF.if_ 5 (NF.seq (nf5 h0) .pass))))))
  obtain ⟨W, X, s4, g1, g2, g3⟩ := body C ⟨none, none, none, none, none, none⟩ s3 hC v3
  refine ⟨W, s4, ?_, g2, g3⟩
  unfold f__law_near_full
  refine runE_ret ?_
  rw [nf_eq, seq_nxt e1, seq_nxt e2, seq_nxt e3, seq_nxt e4, seq_nxt g1]
  rfl
end MPL
end

section
set_option Elab.async false
set_option linter.all false
set_option maxRecDepth 100000
set_option maxHeartbeats 4000000
namespace MPL
open PySem MP
/-! ### values that are no table -/
def oddL (q : Nat) : List D := [.int 0, .int 9, .int (-1), .bl true, .non, .str (Str.ofString "2"), .tup [.int q], .dic [] [], .int (10 ^ 59)]
theorem bad_letters {q : Nat} {o : D} (ho : o ∈ oddL q) (x : D) : f_check_size [o, x] = .exn .BadLetters none := by
  unfold oddL at ho
  simp only [List.mem_cons, List.not_mem_nil, or_false] at ho
  rcases ho with rfl | rfl | rfl | rfl | rfl | rfl | rfl | rfl | rfl <;> kernel_rfl
theorem bn_all : ((List.range 9).all fun q => Nat.beq q 0 || (oddL q).all fun o => okExn .BadNumber none (f_check_size [.int (q : Nat), o])) = true := by decide +kernel
theorem beq0 {q : Nat} (h : 1 ≤ q) : Nat.beq q 0 = false := by
  cases q with
  | zero => omega
  | succ n => rfl
theorem bad_number {q : Nat} (h1 : 1 ≤ q) (h8 : q ≤ 8) {o : D} (ho : o ∈ oddL q) : f_check_size [.int q, o] = .exn .BadNumber none := by
  have h := List.all_eq_true.mp bn_all q (List.mem_range.mpr (by omega))
  rw [beq0 h1, Bool.false_or] at h
  exact okExn_ok (List.all_eq_true.mp h o ho)
def leastN (i : Nat) : Nat := [6, 5, 4, 3, 3, 3].getD i 0
theorem tm_all : ((List.range 6).all fun i => (List.range 9).all fun m => Nat.ble m (leastN i) || okExn .TooMany (some 1024) (f_check_size [.int (i + 3 : Nat), .int (m : Nat)])) = true := by decide +kernel
theorem too_many {i m : Nat} (hi : i < 6) (hm : leastN i < m) (h8 : m ≤ 8) : f_check_size [.int (i + 3 : Nat), .int m] = .exn .TooMany (some (.int 1024)) := by
  have h := List.all_eq_true.mp (List.all_eq_true.mp tm_all i (List.mem_range.mpr hi)) m (List.mem_range.mpr (by omega))
  have h0 : Nat.ble m (leastN i) = false := by
    cases hb : Nat.ble m (leastN i) with
    | false => rfl
    | true => have := Nat.le_of_ble_eq_true hb; omega
  rw [h0, Bool.false_or] at h
  exact okExn_ok h
theorem expr_exn {a : ME} {e : MP.Env} {s s1 : S} {c : EC} {z : Option D} (h : a e s = .exn c z s1) : mExpr a e s = .exn c z e s1 := by
  unfold mExpr
  rw [h]
  rfl
theorem is_full_exn {q n y : D} {c : EC} {z : Option D} (h : f_check_size [q, n] = .exn c z) : f_is_full [q, n, y] = .exn c z := by
  have c : mCall fk_check_size (mCons (mVar 0) (mCons (mVar 1) mNil)) (initE 3 ([q, n, y].map .d)) [] = .exn c z [] := call_exn (xs := [q, n]) rfl rfl h
  unfold f_is_full
  refine runP_exn (s := []) (e := initE 3 ([q, n, y].map .d)) ?_
  exact seq_exn (expr_exn c)
theorem full_fault_exn {q n y : D} {c : EC} {z : Option D} (h : f_check_size [q, n] = .exn c z) : f_full_fault [q, n, y] = .exn c z := by
  have c : mCall fk_check_size (mCons (mVar 0) (mCons (mVar 1) mNil)) (initE 4 ([q, n, y].map .d)) [] = .exn c z [] := call_exn (xs := [q, n]) rfl rfl h
  unfold f_full_fault
  refine runP_exn (s := []) (e := initE 4 ([q, n, y].map .d)) ?_
  exact seq_exn (expr_exn c)
theorem ask_door {d : Nat} (hd : d = 0 ∨ d = 1) {q n y : D} {c : EC} {z : Option D} {xs : List D} (h : f_check_size [q, n] = .exn c z) (hh : ∀ d, hdGo c z (aE d q n y) [] askH = .ret (.ref 0) [xs]) : f__law_ask [.int d, q, n, y] = .fresh xs := by
  rcases hd with rfl | rfl
  · exact ask_exn (ask0_exn (is_full_exn h)) (hh _)
  · exact ask_exn (ask1_exn (full_fault_exn h)) (hh _)
/-! ### bad values -/
def outN (q : Nat) (x : D) : Prop := f_is_letter [.int q, x] = .ok (.bl false)
theorem out_ge {q : Nat} {v : Int} (h : (q : Int) ≤ v) : outN q (.int v) := by
  unfold outN
  rw [is_letter_ok, decide_eq_false (by omega : ¬ v < q), Bool.and_false]
theorem out_neg {q : Nat} {v : Int} (h : v < 0) : outN q (.int v) := by
  unfold outN
  rw [is_letter_ok, decide_eq_false (by omega : ¬ 0 ≤ v), Bool.false_and]
theorem out_no {q : Nat} {x : D} (h : noLet x = true) : outN q x := is_letter_no h
def odd1 (q : Nat) : List D := [.int q, .int (-1), .bl true, .bl false, .str (Str.ofString "0"), .non, .tup [.int 0], .int (10 ^ 59)]
theorem odd1_out {q : Nat} (h8 : q ≤ 8) {o : D} (ho : o ∈ odd1 q) : outN q o := by
  unfold odd1 at ho
  simp only [List.mem_cons, List.not_mem_nil, or_false] at ho
  rcases ho with rfl | rfl | rfl | rfl | rfl | rfl | rfl | rfl
  · exact out_ge (Int.le_refl _)
  · exact out_neg (by decide)
  · exact out_no rfl
  · exact out_no rfl
  · exact out_no rfl
  · exact out_no rfl
  · exact out_no rfl
  · refine out_ge (Int.le_trans (by omega : (q : Int) ≤ 8) (by decide))
def badL (q N : Nat) (C : List Nat) (a : Nat) (o : D) : List D := [.tup (natD (C.take a) ++ o :: natD (C.drop (a + 1))), .tup (natD (C.drop 1)), .tup (natD C ++ [.int 0]), .non, .int 0, .str (strRep (Str.ofString "0") N), .dic [] [], .lst [.tup (natD C)], .tup []]
theorem natD_cast (l : List Nat) : natD l = zs (castL l) := natD_zs l
theorem bad_lr {q n : Nat} (hq : QN q n) {C : List Nat} (hC : RowN q (q ^ n) C) {a : Nat} (ha : a < q ^ n) {o : D} (ho : outN q o) {y : D} (hy : y ∈ badL q (q ^ n) C a o) : LR q n y none := by
  have hpos := hq.pos
  unfold badL at hy
  simp only [List.mem_cons, List.not_mem_nil, or_false] at hy
  rcases hy with rfl | rfl | rfl | rfl | rfl | rfl | rfl | rfl | rfl
  · refine .no (letters_row_bent (pre := castL (C.take a)) (x := o) (post := natD (C.drop (a + 1))) ?_ (fun v hv => ?_) ho (.inr (by rw [natD_cast (C.take a)])))
    · rw [natD_len, List.length_drop, hC.len]
      unfold castL
      rw [List.length_map, List.length_take, hC.len]
      omega
    · obtain ⟨b, hb, rfl⟩ := List.mem_map.mp hv
      have := hC.lt b (List.mem_of_mem_take hb)
      omega
  · exact .no (letters_row_len (.inr rfl) (by rw [natD_len, List.length_drop, hC.len]; omega))
  · exact .no (letters_row_len (.inr rfl) (by rw [List.length_append, natD_len, List.length_singleton, hC.len]; omega))
  · exact .no (letters_row_no rfl)
  · exact .no (letters_row_no rfl)
  · exact .no (letters_row_no rfl)
  · exact .no (letters_row_no rfl)
  · by_cases h1 : q ^ n = 1
    · refine .no (letters_row_bent (pre := []) (x := .tup (natD C)) (post := []) (by rw [h1]; rfl) (fun v hv => by cases hv) (out_no rfl) (.inl rfl))
    · exact .no (letters_row_len (xs := [.tup (natD C)]) (.inl rfl) (by rw [List.length_singleton]; omega))
  · exact .no (letters_row_len (xs := []) (.inr rfl) (by rw [List.length_nil]; omega))
/-! ### loops with a store -/
theorem for_st {i : Nat} {b : MS} {Inv : MP.Env → S → Prop} : ∀ (xs : List D) (e : MP.Env) (s : S), (∀ x ∈ xs, ∀ e s, Inv e s → ∃ e' s', b (e.set i (some (.d x))) s = .nxt e' s' ∧ Inv e' s') → Inv e s → ∃ e' s', forGo (.nm i) b xs e s = .nxt e' s' ∧ Inv e' s'
  | [], e, s, _, hi => ⟨e, s, rfl, hi⟩
  | x :: xs, e, s, h, hi => by
    obtain ⟨e1, s1, h1, h2⟩ := h x List.mem_cons_self e s hi
    obtain ⟨e2, s2, g1, g2⟩ := for_st xs e1 s1 (fun y hy => h y (List.mem_cons_of_mem _ hy)) h2
    refine ⟨e2, s2, ?_, g2⟩
    show (match b (e.set i (some (.d x))) s with
      | .nxt e s => forGo (.nm i) b xs e s
      | .cnt e s => forGo (.nm i) b xs e s
      | .brk e s => .nxt e s
      | r => r) = _
    rw [h1]
    exact g1
theorem call_fresh2 {n : Nat} {f : List D → P} {l : ML} {e : MP.Env} {s s1 : S} {xs ys : List D} (hl : l e s = .ok (xs.map Val.d) s1) (hn : xs.length = n) (h : f xs = .fresh ys) : mCall (.pure n f) l e s = .ok (.d (.lst ys)) s1 := by
  unfold mCall
  rw [hl]
  simp only [R.bind_ok]
  rw [if_pos (by rw [List.length_map]; exact hn), datas_map]
  simp only [h]
  rfl
theorem pick_call {a b : ME} {e : MP.Env} {s s1 : S} {y x : D} (ha : a e s = .ok (.ref 0) s) (hb : b e s = .ok (.d y) s) (h : f__law_pick [.ref 0, .d y] s = .ok (.d x) s1) : mCall fk__law_pick (mCons a (mCons b mNil)) e s = .ok (.d x) s1 := by
  refine call_eff (vs := [.ref 0, .d y]) (s1 := s) ?_ rfl rfl h
  unfold mCons
  rw [ha]
  simp only [R.bind_ok]
  rw [hb]
  rfl
def due1 : D := .lst [.lst [.str (Str.ofString "BadLetters")], .lst [.str (Str.ofString "BadNumber")]]
theorem due1_eq : cmpD .ne due1 due1 = some false := by kernel_rfl
def due2 : D := .lst [.lst [.str (Str.ofString ""), .bl false], .lst [.str (Str.ofString "BadTable")]]
theorem due2_same : f__law_same 8 [due2, due2] = .ok (.bl true) := same_refl 8 due2 rfl
def due3 : D := .lst [.str (Str.ofString "TooMany"), .int 1024]
theorem due3_same : f__law_same 8 [due3, due3] = .ok (.bl true) := same_refl 8 due3 rfl
/-! ### the walk -/
abbrev rfE (q n : Nat) (C : List Nat) (x4 x5 x6 x7 x8 x9 x10 x11 x12 : Option Val) : MP.Env := [some (.ref 0), some (.d (.int q)), some (.d (.int n)), some (.d (.tup (natD C))), x4, x5, x6, x7, x8, x9, x10, x11, x12]
def rfF : MS := (mSeq (mRet (mCon (.bl false))) mPass)
def rfB1 : MS := (mSeq (mIf (mNot (mTru (mCall fk__law_same (mCons (mLst (mCons (mCall fk__law_ask (mCons (mCon (.int 0)) (mCons (mVar 1) (mCons (mVar 2) (mCons (mVar 7) mNil))))) (mCons (mCall fk__law_ask (mCons (mCon (.int 1)) (mCons (mVar 1) (mCons (mVar 2) (mCons (mVar 7) mNil))))) mNil))) (mCons (mLst (mCons (mLst (mCons (mCon (.str (Str.ofString ""))) (mCons (mCon (.bl false)) mNil))) (mCons (mLst (mCons (mCon (.str (Str.ofString "BadTable"))) mNil)) mNil))) mNil))))) rfF mPass) mPass)
def rfB2 : MS := (mSeq (mAsg 12 (mLst (mCons (mCall fk__law_ask (mCons (mVar 8) (mCons (mVar 5) (mCons (mCall fk__law_pick (mCons (mVar 0) (mCons (mTup (mCons (mVar 2) (mCons (mCon (.int 0)) mNil))) mNil))) (mCons (mVar 7) mNil))))) (mCons (mCall fk__law_ask (mCons (mVar 8) (mCons (mVar 1) (mCons (mVar 5) (mCons (mVar 7) mNil))))) mNil)))) (mSeq (mIf (mCmp .ne (mVar 12) (mLst (mCons (mLst (mCons (mCon (.str (Str.ofString "BadLetters"))) mNil)) (mCons (mLst (mCons (mCon (.str (Str.ofString "BadNumber"))) mNil)) mNil)))) rfF mPass) mPass))
def rfB3 : MS := (mSeq (mIf (mNot (mTru (mCall fk__law_same (mCons (mCall fk__law_ask (mCons (mVar 8) (mCons (mVar 9) (mCons (mVar 11) (mCons (mVar 7) mNil))))) (mCons (mLst (mCons (mCon (.str (Str.ofString "TooMany"))) (mCons (mCon (.int 1024)) mNil))) mNil))))) rfF mPass) mPass)
def rfI2 : MI := (mItV (mTup (mCons (mCon (.int 0)) (mCons (mCon (.int 9)) (mCons (mNeg (mCon (.int 1))) (mCons (mCon (.bl true)) (mCons (mCon .non) (mCons (mCon (.str (Str.ofString "2"))) (mCons (mTup (mCons (mVar 1) mNil)) (mCons mDic0 (mCons (mBin .pow (mCon (.int 10)) (mCon (.int 59))) mNil)))))))))))
def rfI3 : MI := (mItV (mTup (mCons (mBin .add (mVar 10) (mCon (.int 1))) (mCons (mBin .add (mBin .add (mVar 10) (mCon (.int 1))) (mCall fk__law_take (mCons (mVar 0) (mCons (mBin .sub (mCon (.int 8)) (mVar 10)) mNil)))) mNil))))
def rfD : MS := (mSeq (mFor (.nm 5) rfI2 rfB2) (mSeq (mAsg 9 (mBin .add (mCon (.int 3)) (mCall fk__law_take (mCons (mVar 0) (mCons (mCon (.int 6)) mNil))))) (mSeq (mAsg 10 (mIx (mTup (mCons (mCon (.int 6)) (mCons (mCon (.int 5)) (mCons (mCon (.int 4)) (mCons (mCon (.int 3)) (mCons (mCon (.int 3)) (mCons (mCon (.int 3)) mNil))))))) (mBin .sub (mVar 9) (mCon (.int 3))))) (mSeq (mFor (.nm 11) rfI3 rfB3) mPass))))
def rfM6 : ME := (mLst (mCons (mBin .add (mBin .add (mSl (mVar 3) none (some (mVar 4))) (mTup (mCons (mVar 5) mNil))) (mSl (mVar 3) (some (mBin .add (mVar 4) (mCon (.int 1)))) none)) (mCons (mSl (mVar 3) (some (mCon (.int 1))) none) (mCons (mBin .add (mVar 3) (mTup (mCons (mCon (.int 0)) mNil))) (mCons (mCon .non) (mCons (mCon (.int 0)) (mCons (mBin .mul (mCon (.str (Str.ofString "0"))) (mB1 .len (mVar 3))) (mCons mDic0 (mCons (mLst (mCons (mVar 3) mNil)) (mCons (mTup mNil) mNil))))))))))
def rfM5 : ME := (mTup (mCons (mVar 1) (mCons (mNeg (mCon (.int 1))) (mCons (mCon (.bl true)) (mCons (mCon (.bl false)) (mCons (mCon (.str (Str.ofString "0"))) (mCons (mCon .non) (mCons (mTup (mCons (mCon (.int 0)) mNil)) (mCons (mBin .pow (mCon (.int 10)) (mCon (.int 59))) mNil)))))))))
theorem rf_eq : m__law_refused = (mSeq (mAsg 4 (mCall fk__law_take (mCons (mVar 0) (mCons (mB1 .len (mVar 3)) mNil)))) (mSeq (mAsg 5 (mCall fk__law_pick (mCons (mVar 0) (mCons rfM5 mNil)))) (mSeq (mAsg 6 rfM6) (mSeq (mFor (.nm 7) (mItV (mVar 6)) rfB1) (mSeq (mAsg 7 (mCall fk__law_pick (mCons (mVar 0) (mCons (mVar 6) mNil)))) (mSeq (mFor (.nm 8) (mItV (mTup (mCons (mCon (.int 0)) (mCons (mCon (.int 1)) mNil)))) rfD) (mSeq (mRet (mCon (.bl true))) mPass))))))) := rfl
theorem opw59 : MP.opI .pow 10 59 = some (10 ^ 59) := by decide +kernel
theorem pow59 (e : MP.Env) (s : S) : mBin .pow (mCon (.int 10)) (mCon (.int 59)) e s = .ok (.d (.int (10 ^ 59))) s := bin_eq rfl rfl opw59
section
variable {q n : Nat} {C : List Nat}
theorem rf_b1 (hq : QN q n) {y : D} (lr : LR q n y none) (x4 x5 x6 x8 x9 x10 x11 x12 : Option Val) (s : S) : rfB1 (rfE q n C x4 x5 x6 (some (.d y)) x8 x9 x10 x11 x12) s = .nxt (rfE q n C x4 x5 x6 (some (.d y)) x8 x9 x10 x11 x12) s := by
  generalize hE : rfE q n C x4 x5 x6 (some (.d y)) x8 x9 x10 x11 x12 = E
  have v1 : mVar 1 E s = .ok (.d (.int q)) s := by subst hE; rfl
  have v2 : mVar 2 E s = .ok (.d (.int n)) s := by subst hE; rfl
  have v7 : mVar 7 E s = .ok (.d y) s := by subst hE; rfl
  have c0 : mCall fk__law_ask (mCons (mCon (.int 0)) (mCons (mVar 1) (mCons (mVar 2) (mCons (mVar 7) mNil)))) E s = .ok (.d (.lst [.str (Str.ofString ""), .bl false])) s := call_fresh (xs := [.int 0, .int q, .int n, y]) (cons_d rfl (cons_d v1 (cons_d v2 (cons_d v7 nil_d)))) rfl (ask_full hq lr)
  have c1 : mCall fk__law_ask (mCons (mCon (.int 1)) (mCons (mVar 1) (mCons (mVar 2) (mCons (mVar 7) mNil)))) E s = .ok (.d (.lst [.str (Str.ofString "BadTable")])) s := call_fresh (xs := [.int 1, .int q, .int n, y]) (cons_d rfl (cons_d v1 (cons_d v2 (cons_d v7 nil_d)))) rfl (ask_fault hq lr)
  have l1 := lst_d (xs := [.lst [.str (Str.ofString ""), .bl false], .lst [.str (Str.ofString "BadTable")]]) (cons_d c0 (cons_d c1 nil_d)) two_ok
  have c : mCall fk__law_same (mCons (mLst (mCons (mCall fk__law_ask (mCons (mCon (.int 0)) (mCons (mVar 1) (mCons (mVar 2) (mCons (mVar 7) mNil))))) (mCons (mCall fk__law_ask (mCons (mCon (.int 1)) (mCons (mVar 1) (mCons (mVar 2) (mCons (mVar 7) mNil))))) mNil))) (mCons (mLst (mCons (mLst (mCons (mCon (.str (Str.ofString ""))) (mCons (mCon (.bl false)) mNil))) (mCons (mLst (mCons (mCon (.str (Str.ofString "BadTable"))) mNil)) mNil))) mNil)) E s = .ok (.d (.bl true)) s :=
    call_ok (xs := [due2, due2]) (cons_d l1 (cons_d rfl nil_d)) rfl due2_same
  have e1 := if_f (a := rfF) (b := mPass) (not_ok (tru_bl c))
  unfold rfB1
  rw [seq_nxt (e1.trans rfl)]
  rfl
theorem rf_b2 (hq : QN q n) {d : Nat} (hd : d = 0 ∨ d = 1) {o y : D} (ho : o ∈ oddL q) {cells : List D} (hc : Cells cells) (x4 x6 x9 x10 x11 x12 : Option Val) {s : S} (hs : Sto cells s) :
    ∃ y12 s', rfB2 (rfE q n C x4 (some (.d o)) x6 (some (.d y)) (some (.d (.int d))) x9 x10 x11 x12) s = .nxt (rfE q n C x4 (some (.d o)) x6 (some (.d y)) (some (.d (.int d))) x9 x10 x11 y12) s' ∧ Sto cells s' := by
  generalize hE : rfE q n C x4 (some (.d o)) x6 (some (.d y)) (some (.d (.int d))) x9 x10 x11 x12 = E
  have v0 : ∀ s, mVar 0 E s = .ok (.ref 0) s := by subst hE; exact fun _ => rfl
  have v1 : ∀ s, mVar 1 E s = .ok (.d (.int q)) s := by subst hE; exact fun _ => rfl
  have v2 : ∀ s, mVar 2 E s = .ok (.d (.int n)) s := by subst hE; exact fun _ => rfl
  have v5 : ∀ s, mVar 5 E s = .ok (.d o) s := by subst hE; exact fun _ => rfl
  have v7 : ∀ s, mVar 7 E s = .ok (.d y) s := by subst hE; exact fun _ => rfl
  have v8 : ∀ s, mVar 8 E s = .ok (.d (.int d)) s := by subst hE; exact fun _ => rfl
  obtain ⟨x, s1, p1, _, p3⟩ := pick_ok (xs := [.int n, .int 0]) (y := .tup [.int n, .int 0]) (by simp) (by simp) (.inr rfl) hc hs
  have t1 : mTup (mCons (mVar 2) (mCons (mCon (.int 0)) mNil)) E s = .ok (.d (.tup [.int n, .int 0])) s := tup_d (xs := [.int n, .int 0]) (cons_d (v2 s) (cons_d rfl nil_d)) two_ok
  have c0 : mCall fk__law_ask (mCons (mVar 8) (mCons (mVar 5) (mCons (mCall fk__law_pick (mCons (mVar 0) (mCons (mTup (mCons (mVar 2) (mCons (mCon (.int 0)) mNil))) mNil))) (mCons (mVar 7) mNil)))) E s = .ok (.d (.lst [.str (Str.ofString "BadLetters")])) s1 :=
    call_fresh2 (xs := [.int d, o, x, y]) (cons_d (v8 s) (cons_d (v5 s) (cons_d (pick_call (v0 s) t1 p1) (cons_d (v7 s1) nil_d)))) rfl (ask_door hd (bad_letters ho x) fun _ => hd_letters)
  have c1 : mCall fk__law_ask (mCons (mVar 8) (mCons (mVar 1) (mCons (mVar 5) (mCons (mVar 7) mNil)))) E s1 = .ok (.d (.lst [.str (Str.ofString "BadNumber")])) s1 :=
    call_fresh2 (xs := [.int d, .int q, o, y]) (cons_d (v8 s1) (cons_d (v1 s1) (cons_d (v5 s1) (cons_d (v7 s1) nil_d)))) rfl (ask_door hd (bad_number hq.q1 hq.q8 ho) fun _ => hd_number)
  have l1 := asg_ok (i := 12) (x := due1) (lst_d (xs := [.lst [.str (Str.ofString "BadLetters")], .lst [.str (Str.ofString "BadNumber")]]) (cons_d c0 (cons_d c1 nil_d)) two_ok)
  subst hE
  refine ⟨some (.d due1), s1, ?_, p3⟩
  unfold rfB2
  rw [seq_nxt l1]
  have k : mCmp .ne (mVar 12) (mLst (mCons (mLst (mCons (mCon (.str (Str.ofString "BadLetters"))) mNil)) (mCons (mLst (mCons (mCon (.str (Str.ofString "BadNumber"))) mNil)) mNil))) (rfE q n C x4 (some (.d o)) x6 (some (.d y)) (some (.d (.int d))) x9 x10 x11 (some (.d due1))) s1 = .ok false s1 := cmp_ok (x := due1) (y := due1) rfl rfl due1_eq
  have e1 := if_f (a := rfF) (b := mPass) k
  show mSeq _ mPass (rfE q n C x4 (some (.d o)) x6 (some (.d y)) (some (.d (.int d))) x9 x10 x11 (some (.d due1))) s1 = _
  rw [seq_nxt (e1.trans rfl)]
  rfl
theorem rf_b3 {d : Nat} (hd : d = 0 ∨ d = 1) {i m : Nat} (hi : i < 6) (hm : leastN i < m) (h8 : m ≤ 8) {y : D} (x4 x5 x6 x10 x12 : Option Val) (s : S) :
    rfB3 (rfE q n C x4 x5 x6 (some (.d y)) (some (.d (.int d))) (some (.d (.int (i + 3 : Nat)))) x10 (some (.d (.int m))) x12) s = .nxt (rfE q n C x4 x5 x6 (some (.d y)) (some (.d (.int d))) (some (.d (.int (i + 3 : Nat)))) x10 (some (.d (.int m))) x12) s := by
  generalize hE : rfE q n C x4 x5 x6 (some (.d y)) (some (.d (.int d))) (some (.d (.int (i + 3 : Nat)))) x10 (some (.d (.int m))) x12 = E
  have v7 : mVar 7 E s = .ok (.d y) s := by subst hE; rfl
  have v8 : mVar 8 E s = .ok (.d (.int d)) s := by subst hE; rfl
  have v9 : mVar 9 E s = .ok (.d (.int (i + 3 : Nat))) s := by subst hE; rfl
  have v11 : mVar 11 E s = .ok (.d (.int m)) s := by subst hE; rfl
  have c0 : mCall fk__law_ask (mCons (mVar 8) (mCons (mVar 9) (mCons (mVar 11) (mCons (mVar 7) mNil)))) E s = .ok (.d due3) s := call_fresh (xs := [.int d, .int (i + 3 : Nat), .int m, y]) (cons_d v8 (cons_d v9 (cons_d v11 (cons_d v7 nil_d)))) rfl (ask_door hd (too_many hi hm h8) fun _ => hd_many)
  have c : mCall fk__law_same (mCons (mCall fk__law_ask (mCons (mVar 8) (mCons (mVar 9) (mCons (mVar 11) (mCons (mVar 7) mNil))))) (mCons (mLst (mCons (mCon (.str (Str.ofString "TooMany"))) (mCons (mCon (.int 1024)) mNil))) mNil)) E s = .ok (.d (.bl true)) s :=
    call_ok (xs := [due3, due3]) (cons_d c0 (cons_d rfl nil_d)) rfl due3_same
  have e1 := if_f (a := rfF) (b := mPass) (not_ok (tru_bl c))
  unfold rfB3
  rw [seq_nxt (e1.trans rfl)]
  rfl
theorem rf_i2 (x4 x5 x6 x7 x8 x9 x10 x11 x12 : Option Val) (s : S) : rfI2 (rfE q n C x4 x5 x6 x7 x8 x9 x10 x11 x12) s = .ok (oddL q) s := by
  have t := tup_d (xs := [.int q]) (cons_d (show mVar 1 (rfE q n C x4 x5 x6 x7 x8 x9 x10 x11 x12) s = .ok (.d (.int q)) s from rfl) nil_d) (le_line (by simp))
  exact it_any (tup_d (xs := oddL q) (cons_d rfl (cons_d rfl (cons_d rfl (cons_d rfl (cons_d rfl (cons_d rfl (cons_d t (cons_d rfl (cons_d (pow59 _ _) nil_d))))))))) (le_line (by simp [oddL]))) (.inr rfl)
theorem least_ix {i : Nat} (hi : i < 6) : MP.atI [D.int 6, .int 5, .int 4, .int 3, .int 3, .int 3] (i : Int) = some (.int (leastN i : Nat)) := by
  match i, hi with
  | 0, _ => rfl
  | 1, _ => rfl
  | 2, _ => rfl
  | 3, _ => rfl
  | 4, _ => rfl
  | 5, _ => rfl
theorem least_le {i : Nat} (hi : i < 6) : leastN i ≤ 6 := by
  match i, hi with
  | 0, _ => decide
  | 1, _ => decide
  | 2, _ => decide
  | 3, _ => decide
  | 4, _ => decide
  | 5, _ => decide
theorem rf_d (hq : QN q n) {d : Nat} (hd : d = 0 ∨ d = 1) {y : D} {cells : List D} (hc : Cells cells) (x4 x5 x6 x9 x10 x11 x12 : Option Val) {s : S} (hs : Sto cells s) :
    ∃ y5 y9 y10 y11 y12 s', rfD (rfE q n C x4 x5 x6 (some (.d y)) (some (.d (.int d))) x9 x10 x11 x12) s = .nxt (rfE q n C x4 y5 x6 (some (.d y)) (some (.d (.int d))) y9 y10 y11 y12) s' ∧ Sto cells s' := by
  obtain ⟨e1, s1, f1, y5, y12, he, hs1⟩ := for_st (i := 5) (b := rfB2) (Inv := fun e s => ∃ y5 y12, e = rfE q n C x4 y5 x6 (some (.d y)) (some (.d (.int d))) x9 x10 x11 y12 ∧ Sto cells s) (oddL q) (rfE q n C x4 x5 x6 (some (.d y)) (some (.d (.int d))) x9 x10 x11 x12) s (fun o ho e s ⟨y5, y12, he, hs⟩ => by
    subst he
    obtain ⟨z12, s', g1, g2⟩ := rf_b2 (C := C) (y := y) hq hd ho hc x4 x6 x9 x10 x11 y12 hs
    exact ⟨_, s', g1, _, _, rfl, g2⟩) ⟨x5, x12, rfl, hs⟩
  subst he
  obtain ⟨i, s2, t1, hi, t3⟩ := take_nat (n := 6) (by decide) (by decide) hc hs1
  have hl := least_le hi
  obtain ⟨t, s3, u1, ht, u3⟩ := take_nat (n := 8 - leastN i) (by omega) (by omega) hc t3
  have e2 : mAsg 9 (mBin .add (mCon (.int 3)) (mCall fk__law_take (mCons (mVar 0) (mCons (mCon (.int 6)) mNil)))) (rfE q n C x4 y5 x6 (some (.d y)) (some (.d (.int d))) x9 x10 x11 y12) s1 = .nxt (rfE q n C x4 y5 x6 (some (.d y)) (some (.d (.int d))) (some (.d (.int (i + 3 : Nat)))) x10 x11 y12) s2 :=
    asg_ok (bin_d (x := .int 3) (y := .int i) rfl (take_call rfl rfl t1) (by
      show some (D.int ((3 : Int) + (i : Int))) = _
      rw [show (3 : Int) + (i : Int) = ((i + 3 : Nat) : Int) by omega]))
  have e3 : mAsg 10 (mIx (mTup (mCons (mCon (.int 6)) (mCons (mCon (.int 5)) (mCons (mCon (.int 4)) (mCons (mCon (.int 3)) (mCons (mCon (.int 3)) (mCons (mCon (.int 3)) mNil))))))) (mBin .sub (mVar 9) (mCon (.int 3)))) (rfE q n C x4 y5 x6 (some (.d y)) (some (.d (.int d))) (some (.d (.int (i + 3 : Nat)))) x10 x11 y12) s2 = .nxt (rfE q n C x4 y5 x6 (some (.d y)) (some (.d (.int d))) (some (.d (.int (i + 3 : Nat)))) (some (.d (.int (leastN i : Nat)))) x11 y12) s2 :=
    asg_ok (ix_tup (xs := [.int 6, .int 5, .int 4, .int 3, .int 3, .int 3]) rfl (bin_eq (i := (i + 3 : Nat)) (j := 3) (k := i) rfl rfl (by rw [osub]; congr 1; omega)) (least_ix hi))
  generalize hl' : leastN i = l at *
  have a1 : mBin .add (mVar 10) (mCon (.int 1)) (rfE q n C x4 y5 x6 (some (.d y)) (some (.d (.int d))) (some (.d (.int (i + 3 : Nat)))) (some (.d (.int (l : Nat)))) x11 y12) s2 = .ok (.d (.int (l + 1 : Nat))) s2 := bin_eq (i := l) (j := 1) rfl rfl (oadd _ _)
  have a2 : mBin .sub (mCon (.int 8)) (mVar 10) (rfE q n C x4 y5 x6 (some (.d y)) (some (.d (.int d))) (some (.d (.int (i + 3 : Nat)))) (some (.d (.int (l : Nat)))) x11 y12) s2 = .ok (.d (.int (8 - l : Nat))) s2 := bin_eq (i := 8) (j := l) rfl rfl (by rw [osub]; congr 1; omega)
  have a3 : mBin .add (mBin .add (mVar 10) (mCon (.int 1))) (mCall fk__law_take (mCons (mVar 0) (mCons (mBin .sub (mCon (.int 8)) (mVar 10)) mNil))) (rfE q n C x4 y5 x6 (some (.d y)) (some (.d (.int d))) (some (.d (.int (i + 3 : Nat)))) (some (.d (.int (l : Nat)))) x11 y12) s2 = .ok (.d (.int (l + 1 + t : Nat))) s3 :=
    bin_d (x := .int (l + 1 : Nat)) (y := .int t) a1 (take_call rfl a2 u1) (by
      show some (D.int (((l + 1 : Nat) : Int) + (t : Int))) = _
      rw [show ((l + 1 : Nat) : Int) + (t : Int) = ((l + 1 + t : Nat) : Int) by omega])
  have e4 : rfI3 (rfE q n C x4 y5 x6 (some (.d y)) (some (.d (.int d))) (some (.d (.int (i + 3 : Nat)))) (some (.d (.int (l : Nat)))) x11 y12) s2 = .ok [.int (l + 1 : Nat), .int (l + 1 + t : Nat)] s3 := by
    have := tup_d (xs := [.int (l + 1 : Nat), .int (l + 1 + t : Nat)]) (cons_d a1 (cons_d a3 nil_d)) two_ok
    unfold rfI3 mItV
    rw [this]
    rfl
  obtain ⟨e5, s5, f5, y11, he5, hs5⟩ := for_st (i := 11) (b := rfB3) (Inv := fun e s => ∃ y11, e = rfE q n C x4 y5 x6 (some (.d y)) (some (.d (.int d))) (some (.d (.int (i + 3 : Nat)))) (some (.d (.int (l : Nat)))) y11 y12 ∧ s = s3) [.int (l + 1 : Nat), .int (l + 1 + t : Nat)] (rfE q n C x4 y5 x6 (some (.d y)) (some (.d (.int d))) (some (.d (.int (i + 3 : Nat)))) (some (.d (.int (l : Nat)))) x11 y12) s3 (fun x hx e s ⟨y11, he, hs⟩ => by
    subst he hs
    have : ∃ m : Nat, x = .int m ∧ l < m ∧ m ≤ 8 := by
      rcases List.mem_cons.mp hx with rfl | hx
      · exact ⟨_, rfl, by omega, by omega⟩
      · rw [List.mem_singleton.mp hx]
        exact ⟨_, rfl, by omega, by omega⟩
    obtain ⟨m, rfl, h1, h2⟩ := this
    exact ⟨_, s, rf_b3 (q := q) (n := n) (C := C) (y := y) hd hi (by rw [hl']; exact h1) h2 x4 y5 x6 (some (.d (.int (l : Nat)))) y12 s, _, rfl, rfl⟩) ⟨x11, rfl, rfl⟩
  subst he5
  rw [hs5] at f5
  refine ⟨y5, some (.d (.int (i + 3 : Nat))), some (.d (.int (l : Nat))), y11, y12, s3, ?_, u3⟩
  unfold rfD
  rw [seq_for (rf_i2 _ _ _ _ _ _ _ _ _ _), f1, fseq_nxt, seq_nxt e2, seq_nxt e3, seq_for e4, f5]
  rfl
theorem cut_to (l : List Nat) (a : Nat) (h : a ≤ l.length) : cut (natD l) none (some (a : Int)) = natD (l.take a) := by
  unfold cut sIx
  dsimp only
  rw [if_neg (by omega), Int.toNat_natCast, natD_len, Nat.min_eq_left h, Nat.sub_zero, List.drop_zero]
  unfold natD
  rw [List.map_take]
theorem cut_from (l : List Nat) (a : Nat) (h : a ≤ l.length) : cut (natD l) (some (a : Int)) none = natD (l.drop a) := by
  unfold cut sIx
  dsimp only
  rw [if_neg (by omega), Int.toNat_natCast, natD_len, Nat.min_eq_left h, List.take_of_length_le (by rw [List.length_drop, natD_len]; exact Nat.le_refl _)]
  unfold natD
  rw [List.map_drop]
theorem sl_to {a b : ME} {e : MP.Env} {s : S} {l : List Nat} {k : Nat} (ha : a e s = .ok (.d (.tup (natD l))) s) (hb : b e s = .ok (.d (.int k)) s) (h : k ≤ l.length) : mSl a none (some b) e s = .ok (.d (.tup (natD (l.take k)))) s := by
  unfold mSl
  rw [ha]
  show ((b e s).bind fun x s => match x with
    | .d (.int i) => R.ok (some i) s
    | _ => .stuck).bind _ = _
  rw [hb]
  show R.of ((some (D.tup (cut (natD l) none (some (k : Int))))).map Val.d) s = _
  rw [cut_to l k h]
  rfl
theorem sl_from {a b : ME} {e : MP.Env} {s : S} {l : List Nat} {k : Nat} (ha : a e s = .ok (.d (.tup (natD l))) s) (hb : b e s = .ok (.d (.int k)) s) (h : k ≤ l.length) : mSl a (some b) none e s = .ok (.d (.tup (natD (l.drop k)))) s := by
  unfold mSl
  rw [ha]
  show ((b e s).bind fun x s => match x with
    | .d (.int i) => R.ok (some i) s
    | _ => .stuck).bind _ = _
  rw [hb]
  show R.of ((some (D.tup (cut (natD l) (some (k : Int)) none))).map Val.d) s = _
  rw [cut_from l k h]
  rfl
theorem tup_add {a b : List D} (h : a.length + b.length ≤ 100000) : opD .add (.tup a) (.tup b) = some (.tup (a ++ b)) := by
  unfold opD
  dsimp only
  rw [if_pos ⟨rfl, le_line h⟩]
theorem str_rep {N : Nat} (h1 : 1 ≤ N) (h2 : N ≤ 1024) : opD .mul (.str (Str.ofString "0")) (.int (N : Int)) = some (.str (strRep (Str.ofString "0") N)) := by
  have hl : (Str.ofString "0").length = 1 := by decide
  unfold opD
  dsimp only
  rw [if_pos ⟨rfl, by omega, by omega, by rw [hl]; decide, by rw [hl]; decide⟩, Int.toNat_natCast]
/-- flat[:at] + (odd,) + flat[at + 1:] -/
theorem bent_ok {a b c d : ME} {e : MP.Env} {s : S} {l : List Nat} {k : Nat} {o : D} (ha : a e s = .ok (.d (.tup (natD l))) s) (hb : b e s = .ok (.d (.int k)) s) (hc : c e s = .ok (.d o) s) (hd : d e s = .ok (.d (.int (k + 1 : Nat))) s) (h : k < l.length) (hl : l.length ≤ 1024) :
    mBin .add (mBin .add (mSl a none (some b)) (mTup (mCons c mNil))) (mSl a (some d) none) e s = .ok (.d (.tup (natD (l.take k) ++ o :: natD (l.drop (k + 1))))) s := by
  have e1 := sl_to ha hb (by omega)
  have e2 := sl_from ha hd (by omega)
  have e3 := tup_d (xs := [o]) (cons_d hc nil_d) (le_line (by simp))
  have l1 : (natD (l.take k)).length ≤ 1024 := by rw [natD_len, List.length_take]; omega
  have l2 : (natD (l.drop (k + 1))).length ≤ 1024 := by rw [natD_len, List.length_drop]; omega
  have e4 := bin_d (o := .add) e1 e3 (tup_add (by rw [List.length_singleton]; omega))
  have e5 := bin_d (o := .add) e4 e2 (tup_add (by rw [List.length_append, List.length_singleton]; omega))
  rw [e5, List.append_assoc]
  rfl
variable {q n : Nat} {C : List Nat}
theorem rf_m6 (hq : QN q n) (hC : RowN q (q ^ n) C) {a : Nat} (ha : a < q ^ n) {o : D} (x6 x7 x8 x9 x10 x11 x12 : Option Val) (s : S) :
    rfM6 (rfE q n C (some (.d (.int a))) (some (.d o)) x6 x7 x8 x9 x10 x11 x12) s = .ok (.d (.lst (badL q (q ^ n) C a o))) s := by
  generalize hE : rfE q n C (some (.d (.int a))) (some (.d o)) x6 x7 x8 x9 x10 x11 x12 = E
  have v3 : mVar 3 E s = .ok (.d (.tup (natD C))) s := by subst hE; rfl
  have v4 : mVar 4 E s = .ok (.d (.int a)) s := by subst hE; rfl
  have v5 : mVar 5 E s = .ok (.d o) s := by subst hE; rfl
  have hN := hq.le
  have hp := hq.pos
  have hl := hC.len
  have b1 := bent_ok (d := mBin .add (mVar 4) (mCon (.int 1))) v3 v4 v5 (bin_eq (i := a) (j := 1) v4 rfl (oadd _ _)) (by rw [hl]; exact ha) (by rw [hl]; exact hN)
  have b2 : mSl (mVar 3) (some (mCon (.int 1))) none E s = .ok (.d (.tup (natD (C.drop 1)))) s := sl_from (k := 1) v3 rfl (by omega)
  have b3 : mBin .add (mVar 3) (mTup (mCons (mCon (.int 0)) mNil)) E s = .ok (.d (.tup (natD C ++ [.int 0]))) s := bin_d v3 (y := .tup [.int 0]) (s2 := s) rfl (tup_add (by rw [natD_len, List.length_singleton]; omega))
  have l6 : mB1 .len (mVar 3) E s = .ok (.d (.int (q ^ n : Nat))) s := by
    have := len_ok v3 (.inr rfl)
    rwa [natD_len, hl] at this
  have b6 : mBin .mul (mCon (.str (Str.ofString "0"))) (mB1 .len (mVar 3)) E s = .ok (.d (.str (strRep (Str.ofString "0") (q ^ n)))) s := bin_d (x := .str (Str.ofString "0")) (s1 := s) rfl l6 (str_rep hp hN)
  have b8 : mLst (mCons (mVar 3) mNil) E s = .ok (.d (.lst [.tup (natD C)])) s := lst_d (xs := [.tup (natD C)]) (cons_d v3 nil_d) (le_line (by simp))
  exact lst_d (xs := badL q (q ^ n) C a o) (cons_d b1 (cons_d b2 (cons_d b3 (cons_d rfl (cons_d rfl (cons_d b6 (cons_d rfl (cons_d b8 (cons_d rfl nil_d))))))))) (le_line (by simp [badL]))
theorem rf_m5 (e : MP.Env) (s : S) (h : mVar 1 e s = .ok (.d (.int q)) s) : rfM5 e s = .ok (.d (.tup (odd1 q))) s :=
  tup_d (xs := odd1 q) (cons_d h (cons_d rfl (cons_d rfl (cons_d rfl (cons_d rfl (cons_d rfl (cons_d rfl (cons_d (pow59 _ _) nil_d)))))))) (le_line (by simp [odd1]))
/-- bad values, letters, numbers and sizes are refused -/
theorem refused_ok (hq : QN q n) (hC : RowN q (q ^ n) C) {cells : List D} (hc : Cells cells) {s : S} (hs : Sto cells s) : ∃ s', f__law_refused [.ref 0, .d (.int q), .d (.int n), .d (.tup (natD C))] s = .ok (.d (.bl true)) s' ∧ Sto cells s' := by
  have hN := hq.le
  obtain ⟨a, s1, t1, ha, t3⟩ := take_nat (n := q ^ n) (by omega) hq.pos hc hs
  obtain ⟨o, s2, u1, ho, u3⟩ := pick_ok (xs := odd1 q) (y := .tup (odd1 q)) (by simp [odd1]) (by simp [odd1]) (.inr rfl) hc t3
  obtain ⟨y, s3, v1, hy, v3⟩ := pick_ok (xs := badL q (q ^ n) C a o) (y := .lst (badL q (q ^ n) C a o)) (by simp [badL]) (by simp [badL]) (.inl rfl) hc u3
  have e1 : mAsg 4 (mCall fk__law_take (mCons (mVar 0) (mCons (mB1 .len (mVar 3)) mNil))) (initE 13 [.ref 0, .d (.int q), .d (.int n), .d (.tup (natD C))]) s = .nxt (rfE q n C (some (.d (.int a))) none none none none none none none none) s1 := by
    have l3 : mB1 .len (mVar 3) (initE 13 [.ref 0, .d (.int q), .d (.int n), .d (.tup (natD C))]) s = .ok (.d (.int (q ^ n : Nat))) s := by
      have := len_ok (a := mVar 3) (e := initE 13 [.ref 0, .d (.int q), .d (.int n), .d (.tup (natD C))]) (s := s) (y := .tup (natD C)) (xs := natD C) rfl (.inr rfl)
      rwa [natD_len, hC.len] at this
    exact asg_ok (take_call rfl l3 t1)
  have e2 : mAsg 5 (mCall fk__law_pick (mCons (mVar 0) (mCons rfM5 mNil))) (rfE q n C (some (.d (.int a))) none none none none none none none none) s1 = .nxt (rfE q n C (some (.d (.int a))) (some (.d o)) none none none none none none none) s2 := asg_ok (pick_call rfl (rf_m5 _ _ rfl) u1)
  have e3 : mAsg 6 rfM6 (rfE q n C (some (.d (.int a))) (some (.d o)) none none none none none none none) s2 = .nxt (rfE q n C (some (.d (.int a))) (some (.d o)) (some (.d (.lst (badL q (q ^ n) C a o)))) none none none none none none) s2 := asg_ok (rf_m6 hq hC ha none none none none none none none s2)
  obtain ⟨e', s', f1, x7, he, hs'⟩ := for_st (i := 7) (b := rfB1) (Inv := fun e s => ∃ x7, e = rfE q n C (some (.d (.int a))) (some (.d o)) (some (.d (.lst (badL q (q ^ n) C a o)))) x7 none none none none none ∧ s = s2) (badL q (q ^ n) C a o) (rfE q n C (some (.d (.int a))) (some (.d o)) (some (.d (.lst (badL q (q ^ n) C a o)))) none none none none none none) s2 (fun z hz e s ⟨x7, he, hs⟩ => by
    subst he hs
    exact ⟨_, s, rf_b1 hq (bad_lr hq hC ha (odd1_out hq.q8 ho) hz) _ _ _ none none none none none s, _, rfl, rfl⟩) ⟨none, rfl, rfl⟩
  subst he
  rw [hs'] at f1
  have e4 : mItV (mVar 6) (rfE q n C (some (.d (.int a))) (some (.d o)) (some (.d (.lst (badL q (q ^ n) C a o)))) none none none none none none) s2 = .ok (badL q (q ^ n) C a o) s2 := it_any (y := .lst (badL q (q ^ n) C a o)) rfl (.inl rfl)
  have e5 : mAsg 7 (mCall fk__law_pick (mCons (mVar 0) (mCons (mVar 6) mNil))) (rfE q n C (some (.d (.int a))) (some (.d o)) (some (.d (.lst (badL q (q ^ n) C a o)))) x7 none none none none none) s2 = .nxt (rfE q n C (some (.d (.int a))) (some (.d o)) (some (.d (.lst (badL q (q ^ n) C a o)))) (some (.d y)) none none none none none) s3 := asg_ok (pick_call rfl rfl v1)
  have e6 : mItV (mTup (mCons (mCon (.int 0)) (mCons (mCon (.int 1)) mNil))) (rfE q n C (some (.d (.int a))) (some (.d o)) (some (.d (.lst (badL q (q ^ n) C a o)))) (some (.d y)) none none none none none) s3 = .ok [.int 0, .int 1] s3 := rfl
  obtain ⟨e7, s7, f7, x5, x8, x9, x10, x11, x12, he7, hs7⟩ := for_st (i := 8) (b := rfD) (Inv := fun e s => ∃ x5 x8 x9 x10 x11 x12, e = rfE q n C (some (.d (.int a))) x5 (some (.d (.lst (badL q (q ^ n) C a o)))) (some (.d y)) x8 x9 x10 x11 x12 ∧ Sto cells s) [.int 0, .int 1] (rfE q n C (some (.d (.int a))) (some (.d o)) (some (.d (.lst (badL q (q ^ n) C a o)))) (some (.d y)) none none none none none) s3 (fun z hz e s ⟨x5, x8, x9, x10, x11, x12, he, hs⟩ => by
    subst he
    have : ∃ d : Nat, z = .int d ∧ (d = 0 ∨ d = 1) := by
      rcases List.mem_cons.mp hz with rfl | hz
      · exact ⟨0, rfl, .inl rfl⟩
      · rw [List.mem_singleton.mp hz]
        exact ⟨1, rfl, .inr rfl⟩
    obtain ⟨d, rfl, hd⟩ := this
    obtain ⟨y5, y9, y10, y11, y12, s', g1, g2⟩ := rf_d (C := C) (y := y) hq hd hc (some (.d (.int a))) x5 (some (.d (.lst (badL q (q ^ n) C a o)))) x9 x10 x11 x12 hs
    exact ⟨_, s', g1, _, _, _, _, _, _, rfl, g2⟩) ⟨_, _, _, _, _, _, rfl, v3⟩
  refine ⟨s7, ?_, hs7⟩
  unfold f__law_refused
  refine runE_ret ?_
  rw [rf_eq, seq_nxt e1, seq_nxt e2, seq_nxt e3, seq_for e4, f1, fseq_nxt, seq_nxt e5, seq_for e6, f7, fseq_nxt]
  rfl
end
end MPL
end

section
set_option Elab.async false
set_option linter.all false
set_option maxRecDepth 100000
set_option maxHeartbeats 4000000
namespace MPL
open PySem MP
/-! ### fillings and numbers -/
def horner (q : Int) (l : List Int) : Int := l.foldl (fun a d => a * q + d) 0
theorem horner_fil {q : Nat} (hq : 1 ≤ q) : ∀ (n : Nat) (x : Int), 0 ≤ x → x < ((q ^ n : Nat) : Int) → horner q (fil q n x) = x
  | 0, x, h0, h1 => by
    rw [Nat.pow_zero] at h1
    have : x = 0 := by omega
    subst this
    rfl
  | n + 1, x, h0, h1 => by
    have hq0 : (0 : Int) < q := by omega
    have e : fil q (n + 1) x = fil q n (x / q) ++ [x % q] := by
      unfold fil
      rw [dg, List.reverse_cons]
    have h2 : 0 ≤ x / q := Int.ediv_nonneg h0 (by omega)
    have h3 : x / q < ((q ^ n : Nat) : Int) := by
      rw [Int.ediv_lt_iff_lt_mul hq0]
      rw [Nat.pow_succ, Int.natCast_mul] at h1
      exact h1
    have ih := horner_fil hq n (x / q) h2 h3
    unfold horner at ih ⊢
    rw [e, List.foldl_append, ih]
    show x / q * q + x % q = x
    rw [Int.mul_comm]
    exact Int.mul_ediv_add_emod x q
theorem fil_lt {q : Nat} (hq : 1 ≤ q) (n : Nat) (x : Int) : ∀ y ∈ fil q n x, 0 ≤ y ∧ y < q := fun y hy => by
  unfold fil at hy
  exact dg_lt (by omega) n x y (List.mem_reverse.mp hy)
structure Q8 (q n : Nat) : Prop where
  q1 : 1 ≤ q
  q8 : q ≤ 8
  n1 : 1 ≤ n
  n8 : n ≤ 8
theorem QN.q8n {q n : Nat} (h : QN q n) : Q8 q n := ⟨h.q1, h.q8, h.n1, h.n8⟩
theorem count_all : ((List.range 9).all fun q => Nat.beq q 0 || okI (f_check_letter_count [.int (q : Nat)]) (q : Nat)) = true := by decide +kernel
theorem count_ok {q : Nat} (h1 : 1 ≤ q) (h8 : q ≤ 8) : f_check_letter_count [.int q] = .ok (.int q) := by
  have h := List.all_eq_true.mp count_all q (List.mem_range.mpr (by omega))
  rw [beq0 h1, Bool.false_or] at h
  exact okI_ok h
theorem whole_int (v : Int) : f_whole [.int v] = .ok (.bl true) := by kernel_rfl
theorem whole_no {x : D} (h : noLet x = true) : f_whole [x] = .ok (.bl false) := by
  cases x with
  | int i => cases h
  | _ => kernel_rfl
theorem whole_call {a : ME} {e : MP.Env} {s : S} {x : D} {b : Bool} (ha : a e s = .ok (.d x) s) (h : f_whole [x] = .ok (.bl b)) : mNot (mTru (mCall fk_whole (mCons a mNil))) e s = .ok (!b) s := not_ok (tru_bl (call_ok (xs := [x]) (cons_d ha nil_d) rfl h))
/-- a number beyond its bounds, or none -/
def outB (lo hi : Int) (x : D) : Prop := noLet x = true ∨ ∃ v, x = .int v ∧ (v < lo ∨ hi ≤ v)
theorem fa_num {e : MP.Env} {s : S} {q n : Nat} (h : Q8 q n) (h0 : mVar 0 e s = .ok (.d (.int q)) s) (h1 : mVar 1 e s = .ok (.d (.int n)) s) : mCall fk_filling_count (mCons (mVar 0) (mCons (mVar 1) mNil)) e s = .ok (.d (.int (q ^ n : Nat))) s := by
  have hp := (pow_ok (q := q) (n := n) h.q8 h.n8).2.2
  rw [show ((q : Int) ^ n) = ((q ^ n : Nat) : Int) by simp] at hp
  exact call_ok (xs := [.int q, .int n]) (cons_d h0 (cons_d h1 nil_d)) rfl hp
theorem fa_eq : m_filling_at = (mSeq (mExpr (mCall fk_check_letter_count (mCons (mVar 0) mNil))) (mSeq (mIf (mOr (mNot (mTru (mCall fk_whole (mCons (mVar 1) mNil)))) (mOr (mCmp .lt (mVar 1) (mCon (.int 1))) (mCmp .gt (mVar 1) (mCon (.int 8))))) (mSeq (mRaise .BadNumber) mPass) mPass) (mSeq (mIf (mOr (mNot (mTru (mCall fk_whole (mCons (mVar 2) mNil)))) (mOr (mCmp .lt (mVar 2) (mCon (.int 0))) (mCmp .ge (mVar 2) (mCall fk_filling_count (mCons (mVar 0) (mCons (mVar 1) mNil)))))) (mSeq (mRaise .BadNumber) mPass) mPass) (mSeq (mRet (mCall fk_digits_of (mCons (mVar 0) (mCons (mVar 1) (mCons (mVar 2) mNil))))) mPass)))) := rfl
/-- not whole(x) or x < lo or x >= hi -/
theorem rng_t {a lo hi : ME} {e : MP.Env} {s : S} {x : D} {l h : Int} {c : Cmp} (hc : c = .ge ∨ c = .gt) (ha : a e s = .ok (.d x) s) (hl : lo e s = .ok (.d (.int l)) s) (hh : hi e s = .ok (.d (.int h)) s) :
    (∀ v, x = .int v → l ≤ v → (c = .ge → v < h) → (c = .gt → v ≤ h) → mOr (mNot (mTru (mCall fk_whole (mCons a mNil)))) (mOr (mCmp .lt a lo) (mCmp c a hi)) e s = .ok false s) ∧
    (noLet x = true → mOr (mNot (mTru (mCall fk_whole (mCons a mNil)))) (mOr (mCmp .lt a lo) (mCmp c a hi)) e s = .ok true s) ∧
    (∀ v, x = .int v → (v < l ∨ h < v ∨ (c = .ge ∧ h ≤ v)) → mOr (mNot (mTru (mCall fk_whole (mCons a mNil)))) (mOr (mCmp .lt a lo) (mCmp c a hi)) e s = .ok true s) := by
  refine ⟨fun v hx h1 h2 h3 => ?_, fun hn => or_t (whole_call ha (whole_no hn)), fun v hx hv => ?_⟩
  · subst hx
    refine or_f (whole_call ha (whole_int v)) (or_f (cmp_ok (r := false) ha hl ?_) (cmp_ok (r := false) ha hh ?_))
    · show some (decide (v < l)) = _
      rw [decide_eq_false (by omega)]
    · rcases hc with rfl | rfl
      · show some (decide (h ≤ v)) = _
        rw [decide_eq_false (by have := h2 rfl; omega)]
      · show some (decide (h < v)) = _
        rw [decide_eq_false (by have := h3 rfl; omega)]
  · subst hx
    refine or_f (whole_call ha (whole_int v)) ?_
    by_cases hl' : v < l
    · exact or_t (cmp_ok ha hl (by show some (decide (v < l)) = _; rw [decide_eq_true hl']))
    · refine or_f (cmp_ok ha hl (by show some (decide (v < l)) = _; rw [decide_eq_false hl'])) (cmp_ok ha hh ?_)
      rcases hc with rfl | rfl
      · show some (decide (h ≤ v)) = _
        rw [decide_eq_true (by omega)]
      · show some (decide (h < v)) = _
        rw [decide_eq_true (by rcases hv with h | h | h <;> first | omega | (cases h.1))]
section
variable {q n : Nat}
abbrev faE (q n : Nat) (y : D) : MP.Env := [some (.d (.int q)), some (.d (.int n)), some (.d y)]
theorem fa_pre (h : Q8 q n) (y : D) (k : MS) : mSeq (mExpr (mCall fk_check_letter_count (mCons (mVar 0) mNil))) (mSeq (mIf (mOr (mNot (mTru (mCall fk_whole (mCons (mVar 1) mNil)))) (mOr (mCmp .lt (mVar 1) (mCon (.int 1))) (mCmp .gt (mVar 1) (mCon (.int 8))))) (mSeq (mRaise .BadNumber) mPass) mPass) k) (faE q n y) [] = k (faE q n y) [] := by
  have e1 : mExpr (mCall fk_check_letter_count (mCons (mVar 0) mNil)) (faE q n y) [] = .nxt (faE q n y) [] := expr_ok (call_ok (xs := [.int q]) (cons_d rfl nil_d) rfl (count_ok h.q1 h.q8))
  have t := (rng_t (a := mVar 1) (lo := mCon (.int 1)) (hi := mCon (.int 8)) (e := faE q n y) (s := []) (x := .int n) (l := 1) (h := 8) (c := .gt) (.inr rfl) rfl rfl rfl).1 n rfl (by have := h.n1; omega) (fun z => by cases z) (fun _ => by have := h.n8; omega)
  have e2 := if_f (a := mSeq (mRaise .BadNumber) mPass) (b := mPass) t
  rw [seq_nxt e1, seq_nxt (e2.trans rfl)]
theorem fa_ok (h : Q8 q n) {v : Int} (h0 : 0 ≤ v) (h1 : v < ((q ^ n : Nat) : Int)) : f_filling_at [.int q, .int n, .int v] = .ok (.tup (zs (fil q n v))) := by
  have t := (rng_t (a := mVar 2) (lo := mCon (.int 0)) (hi := mCall fk_filling_count (mCons (mVar 0) (mCons (mVar 1) mNil))) (e := faE q n (.int v)) (s := []) (x := .int v) (l := 0) (c := .ge) (.inl rfl) rfl rfl (fa_num h rfl rfl)).1 v rfl h0 (fun _ => h1) (fun z => by cases z)
  have e2 := if_f (a := mSeq (mRaise .BadNumber) mPass) (b := mPass) t
  unfold f_filling_at
  refine runP_ret (s := []) ?_
  rw [fa_eq]
  show mSeq _ _ (faE q n (.int v)) [] = _
  rw [fa_pre h, seq_nxt (e2.trans rfl)]
  exact seq_ret (ret_ok (call_ok (xs := [.int q, .int n, .int v]) rfl rfl (digits_of_ok ⟨h.q1, h.q8⟩ h.n8 v)))
theorem fa_bad (h : Q8 q n) {y : D} (hy : outB 0 ((q ^ n : Nat) : Int) y) : f_filling_at [.int q, .int n, y] = .exn .BadNumber none := by
  have tt := rng_t (a := mVar 2) (lo := mCon (.int 0)) (hi := mCall fk_filling_count (mCons (mVar 0) (mCons (mVar 1) mNil))) (e := faE q n y) (s := []) (x := y) (l := 0) (c := .ge) (.inl rfl) rfl rfl (fa_num h rfl rfl)
  have t : mOr (mNot (mTru (mCall fk_whole (mCons (mVar 2) mNil)))) (mOr (mCmp .lt (mVar 2) (mCon (.int 0))) (mCmp .ge (mVar 2) (mCall fk_filling_count (mCons (mVar 0) (mCons (mVar 1) mNil))))) (faE q n y) [] = .ok true [] := by
    rcases hy with hy | ⟨v, hv, hb⟩
    · exact tt.2.1 hy
    · exact tt.2.2 v hv (hb.imp id fun z => .inr ⟨rfl, z⟩)
  have e2 := if_t (a := mSeq (mRaise .BadNumber) mPass) (b := mPass) t
  unfold f_filling_at
  refine runP_exn (s := []) (e := faE q n y) ?_
  rw [fa_eq]
  show mSeq _ _ (faE q n y) [] = _
  rw [fa_pre h]
  exact seq_exn (e2.trans rfl)
/-! ### filling_number -/
def outW (q : Nat) (x : D) : Prop := outB 0 (q : Int) x
abbrev clE (q : Nat) (N : Nat) (y : D) (x3 : Option Val) : MP.Env := [some (.d (.int q)), some (.d (.int N)), some (.d y), x3]
def clB : MS := (mSeq (mIf (mOr (mNot (mTru (mCall fk_whole (mCons (mVar 3) mNil)))) (mOr (mCmp .lt (mVar 3) (mCon (.int 0))) (mCmp .ge (mVar 3) (mVar 0)))) (mSeq (mRaise .BadFilling) mPass) mPass) mPass)
theorem cl_eq : m_check_letters_totals = (mSeq (mIf (mOr (mNot (mTru (mBl (mIsIs (mVar 2) [.list, .tuple])))) (mCmp .ne (mB1 .len (mVar 2)) (mVar 1))) (mSeq (mRaise .BadFilling) mPass) mPass) (mSeq (mFor (.nm 3) (mItV (mVar 2)) clB) (mSeq (mRet (mB1 .tuple (mVar 2))) mPass))) := rfl
theorem isis_row {i : Nat} {e : MP.Env} {s : S} {y : D} {xs : List D} (hy : y = .lst xs ∨ y = .tup xs) (h : mVar i e s = .ok (.d y) s) : mNot (mTru (mBl (mIsIs (mVar i) [.list, .tuple]))) e s = .ok false s := by
  have : mIsIs (mVar i) [.list, .tuple] e s = .ok true s := by
    unfold mIsIs
    rw [h]
    rcases hy with rfl | rfl <;> kernel_rfl
  exact not_ok (tru_bl (bl_ok this))
theorem cl_head {y : D} {xs : List D} (hy : y = .lst xs ∨ y = .tup xs) (k : MS) : mSeq (mIf (mOr (mNot (mTru (mBl (mIsIs (mVar 2) [.list, .tuple])))) (mCmp .ne (mB1 .len (mVar 2)) (mVar 1))) (mSeq (mRaise .BadFilling) mPass) mPass) k (clE q xs.length y none) [] = k (clE q xs.length y none) [] := by
  have t : mOr (mNot (mTru (mBl (mIsIs (mVar 2) [.list, .tuple])))) (mCmp .ne (mB1 .len (mVar 2)) (mVar 1)) (clE q xs.length y none) [] = .ok false [] := or_f (isis_row hy rfl) (cmp_ok (len_ok rfl hy) rfl (by
    show some (!((xs.length : Int) == (xs.length : Int))) = _
    simp))
  have e2 := if_f (a := mSeq (mRaise .BadFilling) mPass) (b := mPass) t
  rw [seq_nxt (e2.trans rfl)]
theorem cl_good {N : Nat} {y : D} {v : Int} (h0 : 0 ≤ v) (h1 : v < q) : clB (clE q N y (some (.d (.int v)))) [] = .nxt (clE q N y (some (.d (.int v)))) [] := by
  have t := (rng_t (a := mVar 3) (lo := mCon (.int 0)) (hi := mVar 0) (e := clE q N y (some (.d (.int v)))) (s := []) (x := .int v) (l := 0) (h := q) (c := .ge) (.inl rfl) rfl rfl rfl).1 v rfl h0 (fun _ => h1) (fun z => by cases z)
  have e2 := if_f (a := mSeq (mRaise .BadFilling) mPass) (b := mPass) t
  unfold clB
  rw [seq_nxt (e2.trans rfl)]
  rfl
theorem cl_bad {N : Nat} {y x : D} (hx : outW q x) : clB (clE q N y (some (.d x))) [] = .exn .BadFilling none (clE q N y (some (.d x))) [] := by
  have tt := rng_t (a := mVar 3) (lo := mCon (.int 0)) (hi := mVar 0) (e := clE q N y (some (.d x))) (s := []) (x := x) (l := 0) (h := q) (c := .ge) (.inl rfl) rfl rfl rfl
  have t : mOr (mNot (mTru (mCall fk_whole (mCons (mVar 3) mNil)))) (mOr (mCmp .lt (mVar 3) (mCon (.int 0))) (mCmp .ge (mVar 3) (mVar 0))) (clE q N y (some (.d x))) [] = .ok true [] := by
    rcases hx with hy | ⟨v, hv, hb⟩
    · exact tt.2.1 hy
    · exact tt.2.2 v hv (hb.imp id fun z => .inr ⟨rfl, z⟩)
  have e2 := if_t (a := mSeq (mRaise .BadFilling) mPass) (b := mPass) t
  unfold clB
  exact seq_exn (e2.trans rfl)
theorem cl_ok {L : List Int} (hr : ∀ v ∈ L, 0 ≤ v ∧ v < q) {y : D} (hy : y = .lst (zs L) ∨ y = .tup (zs L)) : f_check_letters_totals [.int q, .int (zs L).length, y] = .ok (.tup (zs L)) := by
  obtain ⟨e', f1, x3, f2⟩ := for_allD (i := 3) (b := clB) (Inv := fun e => ∃ x3, e = clE q (zs L).length y x3) (s := []) (zs L) (clE q (zs L).length y none) (fun x hx e ⟨x3, he⟩ => by
    subst he
    obtain ⟨v, hv, rfl⟩ := List.mem_map.mp hx
    obtain ⟨v1, v2⟩ := hr v hv
    exact ⟨_, cl_good v1 v2, _, rfl⟩) ⟨none, rfl⟩
  have e2 : mB1 .tuple (mVar 2) (clE q (zs L).length y x3) [] = .ok (.d (.tup (zs L))) [] := b1_ok rfl (by rcases hy with rfl | rfl <;> rfl)
  unfold f_check_letters_totals
  refine runP_ret (s := []) ?_
  rw [cl_eq]
  show mSeq _ _ (clE q (zs L).length y none) [] = _
  rw [cl_head hy, seq_for (it_any (a := mVar 2) rfl hy), f1, f2]
  exact seq_ret (ret_ok e2)
theorem cl_loop_bad {N : Nat} {y x : D} {post : List D} (hx : outW q x) : ∀ (pre : List Int) (x3 : Option Val), (∀ v ∈ pre, 0 ≤ v ∧ v < q) → forGo (.nm 3) clB (zs pre ++ x :: post) (clE q N y x3) [] = .exn .BadFilling none (clE q N y (some (.d x))) []
  | [], x3, _ => by
    show (match clB (clE q N y (some (.d x))) [] with
      | .nxt e s => forGo (.nm 3) clB post e s
      | .cnt e s => forGo (.nm 3) clB post e s
      | .brk e s => .nxt e s
      | r => r) = _
    rw [cl_bad hx]
  | v :: pre, x3, hr => by
    obtain ⟨v1, v2⟩ := hr v List.mem_cons_self
    show (match clB (clE q N y (some (.d (.int v)))) [] with
      | .nxt e s => forGo (.nm 3) clB (zs pre ++ x :: post) e s
      | .cnt e s => forGo (.nm 3) clB (zs pre ++ x :: post) e s
      | .brk e s => .nxt e s
      | r => r) = _
    rw [cl_good v1 v2]
    exact cl_loop_bad hx pre _ fun w hw => hr w (List.mem_cons_of_mem _ hw)
theorem cl_bent {pre : List Int} {x : D} {post : List D} (hr : ∀ v ∈ pre, 0 ≤ v ∧ v < q) (hx : outW q x) {y : D} (hy : y = .lst (zs pre ++ x :: post) ∨ y = .tup (zs pre ++ x :: post)) : f_check_letters_totals [.int q, .int (zs pre ++ x :: post).length, y] = .exn .BadFilling none := by
  unfold f_check_letters_totals
  refine runP_exn (s := []) (e := clE q (zs pre ++ x :: post).length y (some (.d x))) ?_
  rw [cl_eq]
  show mSeq _ _ (clE q (zs pre ++ x :: post).length y none) [] = _
  rw [cl_head hy, seq_for (it_any (a := mVar 2) rfl hy), cl_loop_bad hx pre none hr]
  rfl
abbrev fnE (q : Nat) (y : D) (x2 x3 : Option Val) : MP.Env := [some (.d (.int q)), some (.d y), x2, x3]
def fnB : MS := (mSeq (mAsg 2 (mBin .add (mBin .mul (mVar 2) (mVar 0)) (mVar 3))) mPass)
def fnI : MI := (mItV (mCall fk_check_letters_totals (mCons (mVar 0) (mCons (mB1 .len (mVar 1)) (mCons (mVar 1) mNil)))))
theorem fn_eq : m_filling_number = (mSeq (mExpr (mCall fk_check_letter_count (mCons (mVar 0) mNil))) (mSeq (mIf (mOr (mNot (mTru (mBl (mIsIs (mVar 1) [.list, .tuple])))) (mOr (mCmp .lt (mB1 .len (mVar 1)) (mCon (.int 1))) (mCmp .gt (mB1 .len (mVar 1)) (mCon (.int 8))))) (mSeq (mRaise .BadFilling) mPass) mPass) (mSeq (mAsg 2 (mCon (.int 0))) (mSeq (mFor (.nm 3) fnI fnB) (mSeq (mRet (mVar 2)) mPass))))) := rfl
theorem fn_head (h1 : 1 ≤ q) (h8 : q ≤ 8) {y : D} {xs : List D} (hy : y = .lst xs ∨ y = .tup xs) (hl : 1 ≤ xs.length ∧ xs.length ≤ 8) : ∀ k : MS, mSeq (mExpr (mCall fk_check_letter_count (mCons (mVar 0) mNil))) (mSeq (mIf (mOr (mNot (mTru (mBl (mIsIs (mVar 1) [.list, .tuple])))) (mOr (mCmp .lt (mB1 .len (mVar 1)) (mCon (.int 1))) (mCmp .gt (mB1 .len (mVar 1)) (mCon (.int 8))))) (mSeq (mRaise .BadFilling) mPass) mPass) (mSeq (mAsg 2 (mCon (.int 0))) k)) (fnE q y none none) [] = k (fnE q y (some (.d (.int 0))) none) [] := fun k => by
  have e1 : mExpr (mCall fk_check_letter_count (mCons (mVar 0) mNil)) (fnE q y none none) [] = .nxt (fnE q y none none) [] := expr_ok (call_ok (xs := [.int q]) (cons_d rfl nil_d) rfl (count_ok h1 h8))
  have l : mB1 .len (mVar 1) (fnE q y none none) [] = .ok (.d (.int xs.length)) [] := len_ok rfl hy
  have t : mOr (mNot (mTru (mBl (mIsIs (mVar 1) [.list, .tuple])))) (mOr (mCmp .lt (mB1 .len (mVar 1)) (mCon (.int 1))) (mCmp .gt (mB1 .len (mVar 1)) (mCon (.int 8)))) (fnE q y none none) [] = .ok false [] := by
    refine or_f (isis_row hy rfl) (or_f (cmp_ok (r := false) l (y := .int 1) rfl ?_) (cmp_ok (r := false) l (y := .int 8) rfl ?_))
    · show some (decide ((xs.length : Int) < 1)) = _
      rw [decide_eq_false (by omega)]
    · show some (decide ((8 : Int) < (xs.length : Int))) = _
      rw [decide_eq_false (by omega)]
  have e2 := if_f (a := mSeq (mRaise .BadFilling) mPass) (b := mPass) t
  have e3 : mAsg 2 (mCon (.int 0)) (fnE q y none none) [] = .nxt (fnE q y (some (.d (.int 0))) none) [] := rfl
  rw [seq_nxt e1, seq_nxt (e2.trans rfl), seq_nxt e3]
theorem fn_loop (h8 : q ≤ 8) {y : D} : ∀ (L : List Int) (acc : Int) (x3 : Option Val), ∃ y3, forGo (.nm 3) fnB (zs L) (fnE q y (some (.d (.int acc))) x3) [] = .nxt (fnE q y (some (.d (.int (L.foldl (fun a d => a * q + d) acc)))) y3) []
  | [], acc, x3 => ⟨x3, rfl⟩
  | v :: L, acc, x3 => by
    obtain ⟨y3, ih⟩ := fn_loop h8 (y := y) L (acc * q + v) (some (.d (.int v)))
    refine ⟨y3, ?_⟩
    have hm : MP.opI .mul acc (q : Int) = some (acc * q) := if_pos (small_mul (by
      have h1 : (8 : Int) < 2 ^ 64 := by decide
      have h2 : -(2 ^ 64 : Int) < 0 := by decide
      exact ⟨Int.lt_of_lt_of_le h2 (Int.natCast_nonneg q), Int.lt_of_le_of_lt (by omega) h1⟩))
    have e1 : mAsg 2 (mBin .add (mBin .mul (mVar 2) (mVar 0)) (mVar 3)) (fnE q y (some (.d (.int acc))) (some (.d (.int v)))) [] = .nxt (fnE q y (some (.d (.int (acc * q + v)))) (some (.d (.int v)))) [] := asg_ok (bin_eq (i := acc * q) (j := v) (bin_eq (i := acc) (j := q) rfl rfl hm) rfl (oadd _ _))
    show (match fnB (fnE q y (some (.d (.int acc))) (some (.d (.int v)))) [] with
      | .nxt e s => forGo (.nm 3) fnB (zs L) e s
      | .cnt e s => forGo (.nm 3) fnB (zs L) e s
      | .brk e s => .nxt e s
      | r => r) = _
    unfold fnB
    rw [seq_nxt e1]
    exact ih
theorem fn_ok (h1 : 1 ≤ q) (h8 : q ≤ 8) {L : List Int} (hl : 1 ≤ L.length ∧ L.length ≤ 8) (hr : ∀ v ∈ L, 0 ≤ v ∧ v < q) {y : D} (hy : y = .lst (zs L) ∨ y = .tup (zs L)) : f_filling_number [.int q, y] = .ok (.int (horner q L)) := by
  have it : fnI (fnE q y (some (.d (.int 0))) none) [] = .ok (zs L) [] := it_any (call_ok (xs := [.int q, .int (zs L).length, y]) (cons_d rfl (cons_d (len_ok rfl hy) (cons_d rfl nil_d))) rfl (cl_ok hr hy)) (.inr rfl)
  obtain ⟨y3, f⟩ := fn_loop h8 (y := y) L 0 none
  unfold f_filling_number
  refine runP_ret (s := []) ?_
  rw [fn_eq]
  show mSeq _ _ (fnE q y none none) [] = _
  rw [fn_head h1 h8 hy (by rw [zs_len]; exact hl), seq_for it, f]
  rfl
theorem seq_for_exn {tg : Tg} {it : MI} {b r : MS} {e : MP.Env} {s s1 : S} {c : EC} {z : Option D} (h : it e s = .exn c z s1) : mSeq (mFor tg it b) r e s = .exn c z e s1 := by
  unfold mSeq mFor
  rw [h]
theorem itV_exn {a : ME} {e : MP.Env} {s s1 : S} {c : EC} {z : Option D} (h : a e s = .exn c z s1) : mItV a e s = .exn c z s1 := by
  unfold mItV
  rw [h]
  rfl
theorem fn_bent (h1 : 1 ≤ q) (h8 : q ≤ 8) {pre : List Int} {x : D} {post : List D} (hl : (zs pre ++ x :: post).length ≤ 8) (hr : ∀ v ∈ pre, 0 ≤ v ∧ v < q) (hx : outW q x) {y : D} (hy : y = .lst (zs pre ++ x :: post) ∨ y = .tup (zs pre ++ x :: post)) : f_filling_number [.int q, y] = .exn .BadFilling none := by
  have it : fnI (fnE q y (some (.d (.int 0))) none) [] = .exn .BadFilling none [] := itV_exn (call_exn (xs := [.int q, .int (zs pre ++ x :: post).length, y]) (cons_d rfl (cons_d (len_ok rfl hy) (cons_d rfl nil_d))) rfl (cl_bent hr hx hy))
  unfold f_filling_number
  refine runP_exn (s := []) (e := fnE q y (some (.d (.int 0))) none) ?_
  rw [fn_eq]
  show mSeq _ _ (fnE q y none none) [] = _
  rw [fn_head h1 h8 hy ⟨by rw [List.length_append, List.length_cons]; omega, hl⟩]
  exact seq_for_exn it
end
end MPL
end

section
set_option Elab.async false
set_option linter.all false
set_option maxRecDepth 100000
set_option maxHeartbeats 4000000
namespace MPL
open PySem MP
theorem for_st1 {i : Nat} {b : MS} {Inv0 Inv : MP.Env → S → Prop} (x : D) (xs : List D) (e : MP.Env) (s : S) (h : ∀ y ∈ x :: xs, ∀ e s, Inv0 e s → ∃ e' s', b (e.set i (some (.d y))) s = .nxt e' s' ∧ Inv e' s') (hi : ∀ e s, Inv e s → Inv0 e s) (h0 : Inv0 e s) : ∃ e' s', forGo (.nm i) b (x :: xs) e s = .nxt e' s' ∧ Inv e' s' := by
  obtain ⟨e1, s1, h1, h2⟩ := h x List.mem_cons_self e s h0
  obtain ⟨e2, s2, g1, g2⟩ := for_st (i := i) (b := b) (Inv := Inv) xs e1 s1 (fun y hy e s hI => h y (List.mem_cons_of_mem _ hy) e s (hi e s hI)) h2
  refine ⟨e2, s2, ?_, g2⟩
  show (match b (e.set i (some (.d x))) s with
    | .nxt e s => forGo (.nm i) b xs e s
    | .cnt e s => forGo (.nm i) b xs e s
    | .brk e s => .nxt e s
    | r => r) = _
  rw [h1]
  exact g1
def str0 : D := .str (Str.ofString "")
def one1 (z : String) : D := .lst [.str (Str.ofString z)]
def due4 : D := .lst [one1 "BadNumber", one1 "BadFilling"]
theorem due4_eq : cmpD .ne due4 due4 = some false := by kernel_rfl
theorem oneF_eq : cmpD .ne (one1 "BadFilling") (one1 "BadFilling") = some false := by kernel_rfl
theorem oneL_eq : cmpD .ne (one1 "BadLetters") (one1 "BadLetters") = some false := by kernel_rfl
theorem oneL_eq2 : cmpD .eq (one1 "BadLetters") (one1 "BadLetters") = some true := by kernel_rfl
def due8 : D := .lst [one1 "BadNumber", one1 "BadNumber", one1 "BadNumber", one1 "BadNumber", one1 "BadNumber", one1 "BadNumber", one1 "BadNumber", one1 "BadNumber"]
theorem due8_eq : cmpD .eq due8 due8 = some true := by kernel_rfl
def odd3 : List D := [.tup [], .tup [.int 0, .int 0, .int 0, .int 0, .int 0, .int 0, .int 0, .int 0, .int 0], .lst [], .non, .int 0, .str (Str.ofString "0"), .dic [] [], .bl true]
theorem fnb_all : ((List.range 9).all fun q => Nat.beq q 0 || odd3.all fun o => okExn .BadFilling none (f_filling_number [.int (q : Nat), o])) = true := by decide +kernel
theorem fn_bad {q : Nat} (h1 : 1 ≤ q) (h8 : q ≤ 8) {o : D} (ho : o ∈ odd3) : f_filling_number [.int q, o] = .exn .BadFilling none := by
  have h := List.all_eq_true.mp fnb_all q (List.mem_range.mpr (by omega))
  rw [beq0 h1, Bool.false_or] at h
  exact okExn_ok (List.all_eq_true.mp h o ho)
def let4 : List D := [.int 0, .int 9, .bl true, .non]
theorem fn_let {l : D} (hl : l ∈ let4) (o : D) : f_filling_number [l, o] = .exn .BadLetters none := by
  unfold let4 at hl
  simp only [List.mem_cons, List.not_mem_nil, or_false] at hl
  rcases hl with rfl | rfl | rfl | rfl <;> kernel_rfl
def odd4 (n : Nat) : List D := [.int 0, .int 9, .int (-1), .bl true, .non, .str (Str.ofString "3"), .tup [.int n], .dic [] []]
theorem fab_all : ((List.range 9).all fun q => Nat.beq q 0 || (List.range 9).all fun n => (odd4 n).all fun o => okExn .BadNumber none (f_filling_at [.int (q : Nat), o, .int 0])) = true := by decide +kernel
theorem fa_num_bad {q n : Nat} (h1 : 1 ≤ q) (h8 : q ≤ 8) (hn : n ≤ 8) {o : D} (ho : o ∈ odd4 n) : f_filling_at [.int q, o, .int 0] = .exn .BadNumber none := by
  have h := List.all_eq_true.mp fab_all q (List.mem_range.mpr (by omega))
  rw [beq0 h1, Bool.false_or] at h
  exact okExn_ok (List.all_eq_true.mp (List.all_eq_true.mp h n (List.mem_range.mpr (by omega))) o ho)
theorem fa_900 : f_filling_at [.int 9, .int 0, .int 0] = .exn .BadLetters none := by kernel_rfl
def odd2 (N : Nat) : List D := [.int N, .int (-1), .bl true, .bl false, .non, .str (Str.ofString "0"), .tup [.int 0], .dic [] [], .int (10 ^ 59), .int (-(10 ^ 59))]
theorem pow_le8 {q n : Nat} (h : Q8 q n) : q ^ n ≤ 16777216 := by
  calc q ^ n ≤ 8 ^ n := Nat.pow_le_pow_left h.q8 n
    _ ≤ 8 ^ 8 := Nat.pow_le_pow_right (by decide) h.n8
    _ = 16777216 := by decide
theorem q_le {q n : Nat} (h : Q8 q n) : q ≤ q ^ n := by
  calc q = q ^ 1 := (Nat.pow_one q).symm
    _ ≤ q ^ n := Nat.pow_le_pow_right h.q1 h.n1
theorem odd2_out {q n : Nat} (h : Q8 q n) {o : D} (ho : o ∈ odd2 (q ^ n)) : outB 0 ((q ^ n : Nat) : Int) o ∧ outW q o := by
  have h1 := pow_le8 h
  have h2 := q_le h
  have big : (16777216 : Int) ≤ 10 ^ 59 := by decide
  have neg : (-(10 ^ 59) : Int) < 0 := by decide
  unfold odd2 at ho
  simp only [List.mem_cons, List.not_mem_nil, or_false] at ho
  rcases ho with rfl | rfl | rfl | rfl | rfl | rfl | rfl | rfl | rfl | rfl
  · exact ⟨.inr ⟨_, rfl, .inr (Int.le_refl _)⟩, .inr ⟨_, rfl, .inr (by omega)⟩⟩
  · exact ⟨.inr ⟨_, rfl, .inl (by decide)⟩, .inr ⟨_, rfl, .inl (by decide)⟩⟩
  · exact ⟨.inl rfl, .inl rfl⟩
  · exact ⟨.inl rfl, .inl rfl⟩
  · exact ⟨.inl rfl, .inl rfl⟩
  · exact ⟨.inl rfl, .inl rfl⟩
  · exact ⟨.inl rfl, .inl rfl⟩
  · exact ⟨.inl rfl, .inl rfl⟩
  · exact ⟨.inr ⟨_, rfl, .inr (Int.le_trans (by omega) big)⟩, .inr ⟨_, rfl, .inr (Int.le_trans (by omega) big)⟩⟩
  · exact ⟨.inr ⟨_, rfl, .inl neg⟩, .inr ⟨_, rfl, .inl neg⟩⟩
/-! ### the walk -/
abbrev nrE (q n : Nat) (x4 x5 x6 x7 x8 x9 x10 : Option Val) : MP.Env := [some (.ref 0), some (.d (.int q)), some (.d (.int n)), some (.d (.int (q ^ n : Nat))), x4, x5, x6, x7, x8, x9, x10]
def nrB1 : MS := (mSeq (mAsg 7 (mCall fk__law_digits_of (mCons (mVar 1) (mCons (mVar 2) (mCons (mVar 4) mNil))))) (mSeq (mAsg 8 (mCall fk__law_pick (mCons (mVar 0) (mCons (mTup (mCons (mVar 7) (mCons (mB1 .list (mVar 7)) mNil))) mNil)))) (mSeq (mIf (mNot (mTru (mCall fk__law_same (mCons (mLst (mCons (mCall fk__law_ask (mCons (mCon (.int 3)) (mCons (mVar 1) (mCons (mVar 2) (mCons (mVar 4) mNil))))) (mCons (mCall fk__law_ask (mCons (mCon (.int 2)) (mCons (mVar 1) (mCons (mVar 2) (mCons (mVar 8) mNil))))) mNil))) (mCons (mLst (mCons (mLst (mCons (mCon (.str (Str.ofString ""))) (mCons (mVar 7) mNil))) (mCons (mLst (mCons (mCon (.str (Str.ofString ""))) (mCons (mVar 4) mNil))) mNil))) mNil))))) rfF mPass) mPass)))
def nrB2 : MS := (mSeq (mAsg 9 (mCall fk__law_take (mCons (mVar 0) (mCons (mVar 2) mNil)))) (mSeq (mAsg 6 (mLst (mCons (mCall fk__law_ask (mCons (mCon (.int 3)) (mCons (mVar 1) (mCons (mVar 2) (mCons (mVar 5) mNil))))) (mCons (mCall fk__law_ask (mCons (mCon (.int 2)) (mCons (mVar 1) (mCons (mVar 2) (mCons (mBin .add (mBin .add (mSl (mVar 7) none (some (mVar 9))) (mTup (mCons (mVar 5) mNil))) (mSl (mVar 7) (some (mBin .add (mVar 9) (mCon (.int 1)))) none)) mNil))))) mNil)))) (mSeq (mIf (mCmp .ne (mVar 6) (mLst (mCons (mLst (mCons (mCon (.str (Str.ofString "BadNumber"))) mNil)) (mCons (mLst (mCons (mCon (.str (Str.ofString "BadFilling"))) mNil)) mNil)))) rfF mPass) mPass)))
def nrB3 : MS := (mSeq (mAsg 10 (mCall fk__law_pick (mCons (mVar 0) (mCons (mTup (mCons (mCon (.int 0)) (mCons (mCon (.int 9)) (mCons (mCon (.bl true)) (mCons (mCon .non) mNil))))) mNil)))) (mSeq (mIf (mOr (mCmp .ne (mCall fk__law_ask (mCons (mCon (.int 2)) (mCons (mVar 1) (mCons (mVar 2) (mCons (mVar 5) mNil))))) (mLst (mCons (mCon (.str (Str.ofString "BadFilling"))) mNil))) (mCmp .ne (mCall fk__law_ask (mCons (mCon (.int 2)) (mCons (mVar 10) (mCons (mVar 2) (mCons (mVar 5) mNil))))) (mLst (mCons (mCon (.str (Str.ofString "BadLetters"))) mNil)))) rfF mPass) mPass))
def nrI1 : MI := (mItV (mTup (mCons (mCon (.int 0)) (mCons (mBin .sub (mVar 3) (mCon (.int 1))) (mCons (mCall fk__law_take (mCons (mVar 0) (mCons (mVar 3) mNil))) (mCons (mCall fk__law_take (mCons (mVar 0) (mCons (mVar 3) mNil))) mNil))))))
def nrI2 : MI := (mItV (mTup (mCons (mVar 3) (mCons (mNeg (mCon (.int 1))) (mCons (mCon (.bl true)) (mCons (mCon (.bl false)) (mCons (mCon .non) (mCons (mCon (.str (Str.ofString "0"))) (mCons (mTup (mCons (mCon (.int 0)) mNil)) (mCons mDic0 (mCons (mBin .pow (mCon (.int 10)) (mCon (.int 59))) (mCons (mNeg (mBin .pow (mCon (.int 10)) (mCon (.int 59)))) mNil))))))))))))
def nrI3 : MI := (mItV (mTup (mCons (mTup mNil) (mCons (mBin .mul (mTup (mCons (mCon (.int 0)) mNil)) (mCon (.int 9))) (mCons (mLst mNil) (mCons (mCon .non) (mCons (mCon (.int 0)) (mCons (mCon (.str (Str.ofString "0"))) (mCons mDic0 (mCons (mCon (.bl true)) mNil))))))))))
def nrL : ME := (mLc [5] (.nm 5) (mItV (mTup (mCons (mCon (.int 0)) (mCons (mCon (.int 9)) (mCons (mNeg (mCon (.int 1))) (mCons (mCon (.bl true)) (mCons (mCon .non) (mCons (mCon (.str (Str.ofString "3"))) (mCons (mTup (mCons (mVar 2) mNil)) (mCons mDic0 mNil)))))))))) mYes (mCall fk__law_ask (mCons (mCon (.int 3)) (mCons (mVar 1) (mCons (mVar 5) (mCons (mCon (.int 0)) mNil))))))
def nrR : MS := (mSeq (mRet (mAndV (mBl (mCmp .eq (mVar 6) (mBin .mul (mLst (mCons (mLst (mCons (mCon (.str (Str.ofString "BadNumber"))) mNil)) mNil)) (mCon (.int 8))))) (mBl (mCmp .eq (mCall fk__law_ask (mCons (mCon (.int 3)) (mCons (mCon (.int 9)) (mCons (mCon (.int 0)) (mCons (mCon (.int 0)) mNil))))) (mLst (mCons (mCon (.str (Str.ofString "BadLetters"))) mNil)))))) mPass)
theorem nr_eq : m__law_numbers_right = (mSeq (mAsg 3 (mCall fk__law_power (mCons (mVar 1) (mCons (mVar 2) mNil)))) (mSeq (mFor (.nm 4) nrI1 nrB1) (mSeq (mFor (.nm 5) nrI2 nrB2) (mSeq (mFor (.nm 5) nrI3 nrB3) (mSeq (mAsg 6 nrL) nrR))))) := rfl
theorem zs_nat {L : List Int} (h : ∀ v ∈ L, 0 ≤ v) : zs L = natD (L.map Int.toNat) := by
  unfold zs natD
  rw [List.map_map]
  refine List.map_congr_left fun v hv => ?_
  show D.int v = D.int ((v.toNat : Nat) : Int)
  rw [Int.toNat_of_nonneg (h v hv)]
section
variable {q n : Nat}
theorem pred_nat {N : Nat} (h : 0 < N) : ((N : Nat) : Int) - 1 = ((N - 1 : Nat) : Int) := by omega
theorem nr_b1 (h : Q8 q n) {v : Nat} (hv : v < q ^ n) (x5 x6 x7 x8 x9 x10 : Option Val) {cells : List D} (hc : Cells cells) {s : S} (hs : Sto cells s) :
    ∃ l y8 s', nrB1 (nrE q n (some (.d (.int v))) x5 x6 x7 x8 x9 x10) s = .nxt (nrE q n (some (.d (.int v))) x5 x6 (some (.d (.tup (natD l)))) y8 x9 x10) s' ∧ RowN q n l ∧ Sto cells s' := by
  have hlt := fil_lt h.q1 n (v : Int)
  have hlen := fil_len q n (v : Int)
  have hho := horner_fil h.q1 n (v : Int) (by omega) (by omega)
  generalize hL : fil q n (v : Int) = L at *
  obtain ⟨x, s1, p1, pm, p3⟩ := pick_ok (xs := [.tup (zs L), .lst (zs L)]) (y := .tup [.tup (zs L), .lst (zs L)]) (by simp) (by simp) (.inr rfl) hc hs
  have hx : x = .lst (zs L) ∨ x = .tup (zs L) := by
    rcases List.mem_cons.mp pm with rfl | pm
    · exact .inr rfl
    · exact .inl (List.mem_singleton.mp pm)
  have e1 : mAsg 7 (mCall fk__law_digits_of (mCons (mVar 1) (mCons (mVar 2) (mCons (mVar 4) mNil)))) (nrE q n (some (.d (.int v))) x5 x6 x7 x8 x9 x10) s = .nxt (nrE q n (some (.d (.int v))) x5 x6 (some (.d (.tup (zs L)))) x8 x9 x10) s := asg_ok (call_ok (xs := [.int q, .int n, .int v]) rfl rfl (by rw [← hL]; exact law_digits_ok ⟨h.q1, h.q8⟩ h.n8 v))
  have e2 : mAsg 8 (mCall fk__law_pick (mCons (mVar 0) (mCons (mTup (mCons (mVar 7) (mCons (mB1 .list (mVar 7)) mNil))) mNil))) (nrE q n (some (.d (.int v))) x5 x6 (some (.d (.tup (zs L)))) x8 x9 x10) s = .nxt (nrE q n (some (.d (.int v))) x5 x6 (some (.d (.tup (zs L)))) (some (.d x)) x9 x10) s1 := by
    refine asg_ok (pick_call rfl (tup_d (xs := [.tup (zs L), .lst (zs L)]) (cons_d rfl (cons_d (b1_ok (x := .tup (zs L)) rfl rfl) nil_d)) two_ok) p1)
  generalize hE : nrE q n (some (.d (.int v))) x5 x6 (some (.d (.tup (zs L)))) (some (.d x)) x9 x10 = E at *
  have v1 : mVar 1 E s1 = .ok (.d (.int q)) s1 := by subst hE; rfl
  have v2 : mVar 2 E s1 = .ok (.d (.int n)) s1 := by subst hE; rfl
  have v4 : mVar 4 E s1 = .ok (.d (.int v)) s1 := by subst hE; rfl
  have v7 : mVar 7 E s1 = .ok (.d (.tup (zs L))) s1 := by subst hE; rfl
  have v8 : mVar 8 E s1 = .ok (.d x) s1 := by subst hE; rfl
  have fa : f_filling_at [.int q, .int n, .int v] = .ok (.tup (zs L)) := by rw [← hL]; exact fa_ok h (by omega) (by omega)
  have fn : f_filling_number [.int q, x] = .ok (.int v) := by
    have := fn_ok h.q1 h.q8 (L := L) (by rw [hlen]; exact ⟨h.n1, h.n8⟩) hlt hx
    rwa [hho] at this
  have c0 : mCall fk__law_ask (mCons (mCon (.int 3)) (mCons (mVar 1) (mCons (mVar 2) (mCons (mVar 4) mNil)))) E s1 = .ok (.d (.lst [.str (Str.ofString ""), .tup (zs L)])) s1 := call_fresh (xs := [.int 3, .int q, .int n, .int v]) (cons_d rfl (cons_d v1 (cons_d v2 (cons_d v4 nil_d)))) rfl (ask3_ok fa)
  have c1 : mCall fk__law_ask (mCons (mCon (.int 2)) (mCons (mVar 1) (mCons (mVar 2) (mCons (mVar 8) mNil)))) E s1 = .ok (.d (.lst [.str (Str.ofString ""), .int v])) s1 := call_fresh (xs := [.int 2, .int q, .int n, x]) (cons_d rfl (cons_d v1 (cons_d v2 (cons_d v8 nil_d)))) rfl (ask2_ok fn)
  have l1 := lst_d (xs := [.lst [.str (Str.ofString ""), .tup (zs L)], .lst [.str (Str.ofString ""), .int v]]) (cons_d c0 (cons_d c1 nil_d)) two_ok
  have r0 := lst_d (xs := [.str (Str.ofString ""), .tup (zs L)]) (cons_d (a := mCon (.str (Str.ofString ""))) rfl (cons_d v7 nil_d)) two_ok
  have r1 := lst_d (xs := [.str (Str.ofString ""), .int v]) (cons_d (a := mCon (.str (Str.ofString ""))) rfl (cons_d v4 nil_d)) two_ok
  have l2 := lst_d (xs := [.lst [.str (Str.ofString ""), .tup (zs L)], .lst [.str (Str.ofString ""), .int v]]) (cons_d r0 (cons_d r1 nil_d)) two_ok
  have g : gd 8 (.lst [.lst [.str (Str.ofString ""), .tup (zs L)], .lst [.str (Str.ofString ""), .int v]]) = true := by
    show (true && (((true && (true && (gd 6 (.tup (zs L)) && true)))) && (true && true))) = true
    rw [gd_tup 4 (by rw [hlen]; have := h.n8; omega)]
    rfl
  have c := call_ok (n := 2) (xs := [.lst [.lst [.str (Str.ofString ""), .tup (zs L)], .lst [.str (Str.ofString ""), .int v]], .lst [.lst [.str (Str.ofString ""), .tup (zs L)], .lst [.str (Str.ofString ""), .int v]]]) (cons_d l1 (cons_d l2 nil_d)) rfl (same_refl 8 _ g)
  have e3 := if_f (a := rfF) (b := mPass) (not_ok (tru_bl c))
  refine ⟨L.map Int.toNat, some (.d x), s1, ?_, ⟨by rw [List.length_map, hlen], fun o ho => ?_⟩, p3⟩
  · unfold nrB1
    rw [seq_nxt e1, seq_nxt e2, seq_nxt (e3.trans rfl), ← zs_nat fun w hw => (hlt w hw).1, hE]
    rfl
  · obtain ⟨w, hw, rfl⟩ := List.mem_map.mp ho
    obtain ⟨w1, w2⟩ := hlt w hw
    exact (Int.toNat_lt w1).mpr w2
theorem nr_b2 (h : Q8 q n) {l : List Nat} (hl : RowN q n l) {o : D} (ho : o ∈ odd2 (q ^ n)) (x4 x6 x8 x9 x10 : Option Val) {cells : List D} (hc : Cells cells) {s : S} (hs : Sto cells s) :
    ∃ y6 y9 s', nrB2 (nrE q n x4 (some (.d o)) x6 (some (.d (.tup (natD l)))) x8 x9 x10) s = .nxt (nrE q n x4 (some (.d o)) y6 (some (.d (.tup (natD l)))) x8 y9 x10) s' ∧ Sto cells s' := by
  obtain ⟨o1, o2⟩ := odd2_out h ho
  obtain ⟨kn, s1, t1, hk, t3⟩ := take_nat (n := n) (by have := h.n8; omega) h.n1 hc hs
  have e1 : mAsg 9 (mCall fk__law_take (mCons (mVar 0) (mCons (mVar 2) mNil))) (nrE q n x4 (some (.d o)) x6 (some (.d (.tup (natD l)))) x8 x9 x10) s = .nxt (nrE q n x4 (some (.d o)) x6 (some (.d (.tup (natD l)))) x8 (some (.d (.int kn))) x10) s1 := asg_ok (take_call rfl rfl t1)
  have hll := hl.len
  have hn8 := h.n8
  have b : mBin .add (mBin .add (mSl (mVar 7) none (some (mVar 9))) (mTup (mCons (mVar 5) mNil))) (mSl (mVar 7) (some (mBin .add (mVar 9) (mCon (.int 1)))) none) (nrE q n x4 (some (.d o)) x6 (some (.d (.tup (natD l)))) x8 (some (.d (.int kn))) x10) s1 = .ok (.d (.tup (natD (l.take kn) ++ o :: natD (l.drop (kn + 1))))) s1 := bent_ok rfl rfl rfl (bin_eq (i := kn) (j := 1) rfl rfl (oadd _ _)) (by omega) (by omega)
  have fn : f_filling_number [.int q, .tup (natD (l.take kn) ++ o :: natD (l.drop (kn + 1)))] = .exn .BadFilling none := by
    refine fn_bent h.q1 h.q8 (pre := castL (l.take kn)) (x := o) (post := natD (l.drop (kn + 1))) ?_ (fun v hv => ?_) o2 (.inr (by rw [natD_cast (l.take kn)]))
    · rw [List.length_append, List.length_cons, zs_len, natD_len, List.length_drop]
      unfold castL
      rw [List.length_map, List.length_take]
      omega
    · obtain ⟨b, hb, rfl⟩ := List.mem_map.mp hv
      have := hl.lt b (List.mem_of_mem_take hb)
      omega
  generalize hy : (.tup (natD (l.take kn) ++ o :: natD (l.drop (kn + 1))) : D) = y at *
  have c0 : mCall fk__law_ask (mCons (mCon (.int 3)) (mCons (mVar 1) (mCons (mVar 2) (mCons (mVar 5) mNil)))) (nrE q n x4 (some (.d o)) x6 (some (.d (.tup (natD l)))) x8 (some (.d (.int kn))) x10) s1 = .ok (.d (one1 "BadNumber")) s1 := call_fresh (xs := [.int 3, .int q, .int n, o]) (cons_d rfl (cons_d rfl (cons_d rfl (cons_d rfl nil_d)))) rfl (ask_exn (ask3_exn (fa_bad h o1)) hd_number)
  have c1 : mCall fk__law_ask (mCons (mCon (.int 2)) (mCons (mVar 1) (mCons (mVar 2) (mCons (mBin .add (mBin .add (mSl (mVar 7) none (some (mVar 9))) (mTup (mCons (mVar 5) mNil))) (mSl (mVar 7) (some (mBin .add (mVar 9) (mCon (.int 1)))) none)) mNil)))) (nrE q n x4 (some (.d o)) x6 (some (.d (.tup (natD l)))) x8 (some (.d (.int kn))) x10) s1 = .ok (.d (one1 "BadFilling")) s1 := call_fresh (xs := [.int 2, .int q, .int n, y]) (cons_d rfl (cons_d rfl (cons_d rfl (cons_d b nil_d)))) rfl (ask_exn (ask2_exn fn) hd_filling)
  have e2 : mAsg 6 _ (nrE q n x4 (some (.d o)) x6 (some (.d (.tup (natD l)))) x8 (some (.d (.int kn))) x10) s1 = .nxt (nrE q n x4 (some (.d o)) (some (.d due4)) (some (.d (.tup (natD l)))) x8 (some (.d (.int kn))) x10) s1 := asg_ok (lst_d (xs := [one1 "BadNumber", one1 "BadFilling"]) (cons_d c0 (cons_d c1 nil_d)) two_ok)
  have k : mCmp .ne (mVar 6) (mLst (mCons (mLst (mCons (mCon (.str (Str.ofString "BadNumber"))) mNil)) (mCons (mLst (mCons (mCon (.str (Str.ofString "BadFilling"))) mNil)) mNil))) (nrE q n x4 (some (.d o)) (some (.d due4)) (some (.d (.tup (natD l)))) x8 (some (.d (.int kn))) x10) s1 = .ok false s1 := cmp_ok (x := due4) (y := due4) rfl rfl due4_eq
  have e3 := if_f (a := rfF) (b := mPass) k
  refine ⟨some (.d due4), some (.d (.int kn)), s1, ?_, t3⟩
  unfold nrB2
  rw [seq_nxt e1, seq_nxt e2, seq_nxt (e3.trans rfl)]
  rfl
theorem nr_b3 (h : Q8 q n) {o : D} (ho : o ∈ odd3) (x4 x6 x7 x8 x9 x10 : Option Val) {cells : List D} (hc : Cells cells) {s : S} (hs : Sto cells s) :
    ∃ y10 s', nrB3 (nrE q n x4 (some (.d o)) x6 x7 x8 x9 x10) s = .nxt (nrE q n x4 (some (.d o)) x6 x7 x8 x9 y10) s' ∧ Sto cells s' := by
  obtain ⟨l, s1, p1, pm, p3⟩ := pick_ok (xs := let4) (y := .tup let4) (by simp [let4]) (by simp [let4]) (.inr rfl) hc hs
  have e1 : mAsg 10 (mCall fk__law_pick (mCons (mVar 0) (mCons (mTup (mCons (mCon (.int 0)) (mCons (mCon (.int 9)) (mCons (mCon (.bl true)) (mCons (mCon .non) mNil))))) mNil))) (nrE q n x4 (some (.d o)) x6 x7 x8 x9 x10) s = .nxt (nrE q n x4 (some (.d o)) x6 x7 x8 x9 (some (.d l))) s1 := asg_ok (pick_call rfl rfl p1)
  have c0 : mCall fk__law_ask (mCons (mCon (.int 2)) (mCons (mVar 1) (mCons (mVar 2) (mCons (mVar 5) mNil)))) (nrE q n x4 (some (.d o)) x6 x7 x8 x9 (some (.d l))) s1 = .ok (.d (one1 "BadFilling")) s1 := call_fresh (xs := [.int 2, .int q, .int n, o]) (cons_d rfl (cons_d rfl (cons_d rfl (cons_d rfl nil_d)))) rfl (ask_exn (ask2_exn (fn_bad h.q1 h.q8 ho)) hd_filling)
  have c1 : mCall fk__law_ask (mCons (mCon (.int 2)) (mCons (mVar 10) (mCons (mVar 2) (mCons (mVar 5) mNil)))) (nrE q n x4 (some (.d o)) x6 x7 x8 x9 (some (.d l))) s1 = .ok (.d (one1 "BadLetters")) s1 := call_fresh (xs := [.int 2, l, .int n, o]) (cons_d rfl (cons_d rfl (cons_d rfl (cons_d rfl nil_d)))) rfl (ask_exn (ask2_exn (fn_let pm o)) hd_letters)
  have t := or_f (cmp_ok c0 (y := one1 "BadFilling") (b := (mLst (mCons (mCon (.str (Str.ofString "BadFilling"))) mNil))) rfl oneF_eq) (cmp_ok c1 (y := one1 "BadLetters") (b := (mLst (mCons (mCon (.str (Str.ofString "BadLetters"))) mNil))) rfl oneL_eq)
  have e3 := if_f (a := rfF) (b := mPass) t
  refine ⟨some (.d l), s1, ?_, p3⟩
  unfold nrB3
  rw [seq_nxt e1, seq_nxt (e3.trans rfl)]
  rfl
theorem nr_l (h : Q8 q n) (x4 x5 x6 x7 x8 x9 x10 : Option Val) (s : S) : nrL (nrE q n x4 x5 x6 x7 x8 x9 x10) s = .ok (.d due8) s := by
  have t := tup_d (xs := [.int n]) (cons_d (show mVar 2 (nrE q n x4 x5 x6 x7 x8 x9 x10) s = .ok (.d (.int n)) s from rfl) nil_d) (le_line (by simp))
  have it := it_any (tup_d (xs := odd4 n) (l := (mCons (mCon (.int 0)) (mCons (mCon (.int 9)) (mCons (mNeg (mCon (.int 1))) (mCons (mCon (.bl true)) (mCons (mCon .non) (mCons (mCon (.str (Str.ofString "3"))) (mCons (mTup (mCons (mVar 2) mNil)) (mCons mDic0 mNil))))))))) (cons_d rfl (cons_d rfl (cons_d rfl (cons_d rfl (cons_d rfl (cons_d rfl (cons_d t (cons_d rfl nil_d)))))))) (le_line (by simp [odd4]))) (.inr rfl)
  have := mLc_map (own := [5]) (i := 5) (m := (mCall fk__law_ask (mCons (mCon (.int 3)) (mCons (mVar 1) (mCons (mVar 5) (mCons (mCon (.int 0)) mNil)))))) (g := fun _ => one1 "BadNumber") it fun o ho =>
    call_fresh (xs := [.int 3, .int q, o, .int 0]) (cons_d rfl (cons_d rfl (cons_d rfl (cons_d rfl nil_d)))) rfl (ask_exn (ask3_exn (fa_num_bad h.q1 h.q8 h.n8 ho)) hd_number)
  exact this
/-- fillings and numbers lead to one another -/
theorem numbers_right_ok (h : Q8 q n) {cells : List D} (hc : Cells cells) {s : S} (hs : Sto cells s) : ∃ s', f__law_numbers_right [.ref 0, .d (.int q), .d (.int n)] s = .ok (.d (.bl true)) s' ∧ Sto cells s' := by
  have hN := pow_le8 h
  have hpos : 0 < q ^ n := Nat.pow_pos h.q1
  obtain ⟨a, s1, t1, ha, t3⟩ := take_nat (n := q ^ n) (by omega) hpos hc hs
  obtain ⟨b, s2, u1, hb, u3⟩ := take_nat (n := q ^ n) (by omega) hpos hc t3
  have hp := (pow_ok (q := q) (n := n) h.q8 h.n8).2.1
  rw [show ((q : Int) ^ n) = ((q ^ n : Nat) : Int) by simp] at hp
  have e1 : mAsg 3 (mCall fk__law_power (mCons (mVar 1) (mCons (mVar 2) mNil))) (initE 11 [.ref 0, .d (.int q), .d (.int n)]) s = .nxt (nrE q n none none none none none none none) s := asg_ok (call_ok (xs := [.int q, .int n]) rfl rfl hp)
  have e2 : nrI1 (nrE q n none none none none none none none) s = .ok [.int (0 : Nat), .int (q ^ n - 1 : Nat), .int a, .int b] s2 := by
    have m1 : mBin .sub (mVar 3) (mCon (.int 1)) (nrE q n none none none none none none none) s = .ok (.d (.int (q ^ n - 1 : Nat))) s := bin_eq (i := (q ^ n : Nat)) (j := 1) rfl rfl (by rw [osub, pred_nat hpos])
    have := tup_d (xs := [.int (0 : Nat), .int (q ^ n - 1 : Nat), .int a, .int b]) (l := (mCons (mCon (.int 0)) (mCons (mBin .sub (mVar 3) (mCon (.int 1))) (mCons (mCall fk__law_take (mCons (mVar 0) (mCons (mVar 3) mNil))) (mCons (mCall fk__law_take (mCons (mVar 0) (mCons (mVar 3) mNil))) mNil))))) (cons_d rfl (cons_d m1 (cons_d (take_call rfl rfl t1) (cons_d (take_call rfl rfl u1) nil_d)))) (le_line (by simp))
    unfold nrI1 mItV
    rw [this]
    rfl
  obtain ⟨e', s', f1, l, x4, x8, he, hl, hs'⟩ := for_st1 (i := 4) (b := nrB1) (Inv0 := fun e s => ∃ x4 x7 x8, e = nrE q n x4 none none x7 x8 none none ∧ Sto cells s) (Inv := fun e s => ∃ l x4 x8, e = nrE q n x4 none none (some (.d (.tup (natD l)))) x8 none none ∧ RowN q n l ∧ Sto cells s) (.int (0 : Nat)) [.int (q ^ n - 1 : Nat), .int a, .int b] (nrE q n none none none none none none none) s2 (fun y hy e s ⟨x4, x7, x8, he, hs⟩ => by
    subst he
    have : ∃ v : Nat, y = .int v ∧ v < q ^ n := by
      simp only [List.mem_cons, List.not_mem_nil, or_false] at hy
      rcases hy with rfl | rfl | rfl | rfl
      · exact ⟨0, rfl, hpos⟩
      · exact ⟨_, rfl, by omega⟩
      · exact ⟨a, rfl, ha⟩
      · exact ⟨b, rfl, hb⟩
    obtain ⟨v, rfl, hv⟩ := this
    obtain ⟨l, y8, s', g1, g2, g3⟩ := nr_b1 h hv none none x7 x8 none none hc hs
    exact ⟨_, s', g1, l, _, y8, rfl, g2, g3⟩) (fun e s ⟨l, x4, x8, he, hl, hs⟩ => ⟨x4, _, x8, he, hs⟩) ⟨none, none, none, rfl, u3⟩
  subst he
  have e3 : nrI2 (nrE q n x4 none none (some (.d (.tup (natD l)))) x8 none none) s' = .ok (odd2 (q ^ n)) s' := by
    have n59 : mNeg (mBin .pow (mCon (.int 10)) (mCon (.int 59))) (nrE q n x4 none none (some (.d (.tup (natD l)))) x8 none none) s' = .ok (.d (.int (-(10 ^ 59)))) s' := by
      unfold mNeg
      rw [pow59]
      rfl
    exact it_any (tup_d (xs := odd2 (q ^ n)) (cons_d rfl (cons_d rfl (cons_d rfl (cons_d rfl (cons_d rfl (cons_d rfl (cons_d rfl (cons_d rfl (cons_d (pow59 _ _) (cons_d n59 nil_d)))))))))) (le_line (by simp [odd2]))) (.inr rfl)
  obtain ⟨e4, s4, f4, x5, x6, x9, he4, hs4⟩ := for_st (i := 5) (b := nrB2) (Inv := fun e s => ∃ x5 x6 x9, e = nrE q n x4 x5 x6 (some (.d (.tup (natD l)))) x8 x9 none ∧ Sto cells s) (odd2 (q ^ n)) (nrE q n x4 none none (some (.d (.tup (natD l)))) x8 none none) s' (fun o ho e s ⟨x5, x6, x9, he, hs⟩ => by
    subst he
    obtain ⟨y6, y9, s', g1, g2⟩ := nr_b2 h hl ho x4 x6 x8 x9 none hc hs
    exact ⟨_, s', g1, _, _, _, rfl, g2⟩) ⟨none, none, none, rfl, hs'⟩
  subst he4
  have e5 : nrI3 (nrE q n x4 x5 x6 (some (.d (.tup (natD l)))) x8 x9 none) s4 = .ok odd3 s4 := by
    have m9 : ∀ e s, mBin .mul (mTup (mCons (mCon (.int 0)) mNil)) (mCon (.int 9)) e s = .ok (.d (.tup [.int 0, .int 0, .int 0, .int 0, .int 0, .int 0, .int 0, .int 0, .int 0])) s := fun e s => bin_d (x := .tup [.int 0]) (y := .int 9) (s1 := s) rfl rfl (by kernel_rfl)
    exact it_any (tup_d (xs := odd3) (cons_d rfl (cons_d (m9 _ _) (cons_d rfl (cons_d rfl (cons_d rfl (cons_d rfl (cons_d rfl (cons_d rfl nil_d)))))))) (le_line (by simp [odd3]))) (.inr rfl)
  obtain ⟨e6, s6, f6, x5', x10, he6, hs6⟩ := for_st (i := 5) (b := nrB3) (Inv := fun e s => ∃ x5 x10, e = nrE q n x4 x5 x6 (some (.d (.tup (natD l)))) x8 x9 x10 ∧ Sto cells s) odd3 (nrE q n x4 x5 x6 (some (.d (.tup (natD l)))) x8 x9 none) s4 (fun o ho e s ⟨x5, x10, he, hs⟩ => by
    subst he
    obtain ⟨y10, s', g1, g2⟩ := nr_b3 h ho x4 x6 (some (.d (.tup (natD l)))) x8 x9 x10 hc hs
    exact ⟨_, s', g1, _, _, rfl, g2⟩) ⟨_, _, rfl, hs4⟩
  subst he6
  have e7 : mAsg 6 nrL (nrE q n x4 x5' x6 (some (.d (.tup (natD l)))) x8 x9 x10) s6 = .nxt (nrE q n x4 x5' (some (.d due8)) (some (.d (.tup (natD l)))) x8 x9 x10) s6 := asg_ok (nr_l h _ _ _ _ _ _ _ s6)
  refine ⟨s6, ?_, hs6⟩
  unfold f__law_numbers_right
  refine runE_ret ?_
  rw [nr_eq, seq_nxt e1, seq_for e2, f1, fseq_nxt, seq_for e3, f4, fseq_nxt, seq_for e5, f6, fseq_nxt, seq_nxt e7]
  have r1 : mBl (mCmp .eq (mVar 6) (mBin .mul (mLst (mCons (mLst (mCons (mCon (.str (Str.ofString "BadNumber"))) mNil)) mNil)) (mCon (.int 8)))) (nrE q n x4 x5' (some (.d due8)) (some (.d (.tup (natD l)))) x8 x9 x10) s6 = .ok (.d (.bl true)) s6 := bl_ok (cmp_ok (x := due8) (y := due8) rfl (by kernel_rfl) due8_eq)
  have c9 : mCall fk__law_ask (mCons (mCon (.int 3)) (mCons (mCon (.int 9)) (mCons (mCon (.int 0)) (mCons (mCon (.int 0)) mNil)))) (nrE q n x4 x5' (some (.d due8)) (some (.d (.tup (natD l)))) x8 x9 x10) s6 = .ok (.d (one1 "BadLetters")) s6 := call_fresh (xs := [.int 3, .int 9, .int 0, .int 0]) rfl rfl (ask_exn (ask3_exn fa_900) hd_letters)
  have r2 : mBl (mCmp .eq (mCall fk__law_ask (mCons (mCon (.int 3)) (mCons (mCon (.int 9)) (mCons (mCon (.int 0)) (mCons (mCon (.int 0)) mNil))))) (mLst (mCons (mCon (.str (Str.ofString "BadLetters"))) mNil))) (nrE q n x4 x5' (some (.d due8)) (some (.d (.tup (natD l)))) x8 x9 x10) s6 = .ok (.d (.bl true)) s6 := bl_ok (cmp_ok c9 (y := one1 "BadLetters") rfl oneL_eq2)
  unfold nrR
  refine seq_ret (ret_ok ?_)
  unfold mAndV
  rw [r1]
  exact r2
end
end MPL
end

section
set_option Elab.async false
set_option linter.all false
set_option maxRecDepth 100000
set_option maxHeartbeats 4000000
namespace MPL
open PySem MP
/-! ### the law -/
abbrev lwE (ns : List Int) (x2 x3 x4 x5 x6 : Option Val) : MP.Env := [some (.scr ns), some (.ref 0), x2, x3, x4, x5, x6]
def lwT2 : ME := (mTup (mCons (mCon (.int 4)) (mCons (mCon (.int 5)) (mCons (mCon (.int 2)) (mCons (mCon (.int 6)) (mCons (mCon (.int 1)) (mCons (mCon (.int 3)) (mCons (mCon (.int 4)) (mCons (mCon (.int 8)) (mCons (mCon (.int 7)) (mCons (mCon (.int 5)) mNil)))))))))))
def lwT3 : ME := (mTup (mCons (mCon (.int 8)) (mCons (mCon (.int 8)) (mCons (mCon (.int 6)) (mCons (mCon (.int 5)) (mCons (mCon (.int 4)) (mCons (mCon (.int 3)) (mCons (mCon (.int 3)) (mCons (mCon (.int 3)) mNil)))))))))
def lwT4 : ME := (mTup (mCons (mVar 3) (mCons (mCon (.int 2)) (mCons (mCon (.int 3)) (mCons (mBin .add (mCon (.int 1)) (mCall fk__law_take (mCons (mVar 1) (mCons (mVar 3) mNil)))) (mCons (mCon (.int 1)) (mCons (mCon (.int 3)) mNil)))))))
def lwF6 : MS := (mIf (mNot (mTru (mCall fk__law_flat_right (mCons (mVar 1) (mCons (mVar 2) (mCons (mVar 4) (mCons (mVar 5) mNil))))))) rfF mPass)
def lwB : MS := (mSeq (mIf (mNot (mTru (mCall fk__law_flat_right (mCons (mVar 1) (mCons (mVar 2) (mCons (mVar 4) (mCons (mCall fk__law_near_full (mCons (mVar 1) (mCons (mVar 2) (mCons (mVar 4) (mCons (mVar 5) mNil))))) mNil))))))) rfF mPass) mPass)
def lwF8 : MS := (mIf (mOr (mNot (mTru (mCall fk__law_refused (mCons (mVar 1) (mCons (mVar 2) (mCons (mVar 4) (mCons (mVar 5) mNil))))))) (mNot (mTru (mCall fk__law_numbers_right (mCons (mVar 1) (mCons (mVar 2) (mCons (mVar 4) mNil))))))) rfF mPass)
def lwF9 : MS := (mIf (mNot (mTru (mCall fk__law_numbers_right (mCons (mVar 1) (mCons (mBin .add (mCon (.int 1)) (mCall fk__law_take (mCons (mVar 1) (mCons (mCon (.int 8)) mNil)))) (mCons (mCall fk__law_pick (mCons (mVar 1) (mCons (mTup (mCons (mCon (.int 8)) (mCons (mBin .add (mCon (.int 1)) (mCall fk__law_take (mCons (mVar 1) (mCons (mCon (.int 8)) mNil)))) mNil))) mNil))) mNil)))))) rfF mPass)
def lwR : MS := (mSeq (mRet (mAndV (mCall fk__law_same (mCons (mCall fk__law_ask (mCons (mCon (.int 0)) (mCons (mVar 2) (mCons (mVar 4) (mCons (mVar 5) mNil))))) (mCons (mLst (mCons (mCon (.str (Str.ofString ""))) (mCons (mCon (.bl true)) mNil))) mNil))) (mCall fk__law_same (mCons (mCall fk__law_ask (mCons (mCon (.int 1)) (mCons (mVar 2) (mCons (mVar 4) (mCons (mB1 .list (mVar 5)) mNil))))) (mCons (mLst (mCons (mCon (.str (Str.ofString ""))) (mCons (mCon .non) mNil))) mNil))))) mPass)
theorem lw_eq : m_law = (mSeq (mAsg 1 (mCall fk__law_store (mCons (mVar 0) mNil))) (mSeq (mAsg 2 (mCall fk__law_pick (mCons (mVar 1) (mCons lwT2 mNil)))) (mSeq (mAsg 3 (mIx lwT3 (mBin .sub (mVar 2) (mCon (.int 1))))) (mSeq (mAsg 4 (mCall fk__law_pick (mCons (mVar 1) (mCons lwT4 mNil)))) (mSeq (mAsg 5 (mCall fk__law_one_answer (mCons (mVar 1) (mCons (mVar 2) (mCons (mVar 4) mNil))))) (mSeq lwF6 (mSeq (mFor (.nm 6) (mRg1 (mCon (.int 3))) lwB) (mSeq lwF8 (mSeq lwF9 lwR))))))))) := rfl
theorem pick_call2 {a b : ME} {e : MP.Env} {s s1 s2 : S} {y x : D} (ha : a e s = .ok (.ref 0) s) (hb : b e s = .ok (.d y) s1) (h : f__law_pick [.ref 0, .d y] s1 = .ok (.d x) s2) : mCall fk__law_pick (mCons a (mCons b mNil)) e s = .ok (.d x) s2 := by
  refine call_eff (vs := [.ref 0, .d y]) (s1 := s1) ?_ rfl rfl h
  unfold mCons
  rw [ha]
  simp only [R.bind_ok]
  rw [hb]
  rfl
theorem cons_v {a : ME} {l : ML} {e : MP.Env} {s s1 s2 : S} {v : Val} {vs : List Val} (ha : a e s = .ok v s1) (hl : l e s1 = .ok vs s2) : mCons a l e s = .ok (v :: vs) s2 := by
  unfold mCons
  rw [ha]
  simp only [R.bind_ok]
  rw [hl]
  rfl
def ten : List D := [.int 4, .int 5, .int 2, .int 6, .int 1, .int 3, .int 4, .int 8, .int 7, .int 5]
theorem ten_q {x : D} (h : x ∈ ten) : ∃ q : Nat, x = .int q ∧ 1 ≤ q ∧ q ≤ 8 := by
  unfold ten at h
  simp only [List.mem_cons, List.not_mem_nil, or_false] at h
  rcases h with rfl | rfl | rfl | rfl | rfl | rfl | rfl | rfl | rfl | rfl
  · exact ⟨4, rfl, by decide, by decide⟩
  · exact ⟨5, rfl, by decide, by decide⟩
  · exact ⟨2, rfl, by decide, by decide⟩
  · exact ⟨6, rfl, by decide, by decide⟩
  · exact ⟨1, rfl, by decide, by decide⟩
  · exact ⟨3, rfl, by decide, by decide⟩
  · exact ⟨4, rfl, by decide, by decide⟩
  · exact ⟨8, rfl, by decide, by decide⟩
  · exact ⟨7, rfl, by decide, by decide⟩
  · exact ⟨5, rfl, by decide, by decide⟩
theorem most_ix {q : Nat} (h1 : 1 ≤ q) (h8 : q ≤ 8) : MP.atI [D.int 8, .int 8, .int 6, .int 5, .int 4, .int 3, .int 3, .int 3] ((q - 1 : Nat) : Int) = some (.int (most q : Nat)) := by
  match q, h1, h8 with
  | 1, _, _ => rfl
  | 2, _, _ => rfl
  | 3, _, _ => rfl
  | 4, _, _ => rfl
  | 5, _, _ => rfl
  | 6, _, _ => rfl
  | 7, _, _ => rfl
  | 8, _, _ => rfl
theorem most3 : ∀ q, q ≤ 8 → 3 ≤ most q := by decide
theorem same_tt : f__law_same 8 [.lst [.str (Str.ofString ""), .bl true], .lst [.str (Str.ofString ""), .bl true]] = .ok (.bl true) := same_refl 8 _ rfl
theorem same_nn : f__law_same 8 [.lst [.str (Str.ofString ""), .non], .lst [.str (Str.ofString ""), .non]] = .ok (.bl true) := same_refl 8 _ rfl
theorem math_law (ns : List Int) : ∃ s', f_law [.scr ns] [] = .ok (.d (.bl true)) s' := by
  obtain ⟨cells, s0, h0, hc, hs0⟩ := store_ok ns
  obtain ⟨x, s1, p1, pm, hs1⟩ := pick_ok (xs := ten) (y := .tup ten) (by simp [ten]) (by simp [ten]) (.inr rfl) hc hs0
  obtain ⟨q, rfl, q1, q8⟩ := ten_q pm
  have hm8 := (most_le q q8).1
  have hm3 := most3 q q8
  obtain ⟨t, s2, t1, ht, hs2⟩ := take_nat (n := most q) (by omega) (by omega) hc hs1
  obtain ⟨y, s3, u1, um, hs3⟩ := pick_ok (xs := [.int (most q), .int 2, .int 3, .int (1 + t : Nat), .int 1, .int 3]) (y := .tup [.int (most q), .int 2, .int 3, .int (1 + t : Nat), .int 1, .int 3]) (by simp) (by simp) (.inr rfl) hc hs2
  have hn : ∃ n : Nat, y = .int n ∧ 1 ≤ n ∧ n ≤ most q := by
    simp only [List.mem_cons, List.not_mem_nil, or_false] at um
    rcases um with rfl | rfl | rfl | rfl | rfl | rfl
    · exact ⟨_, rfl, by omega, by omega⟩
    · exact ⟨2, rfl, by omega, by omega⟩
    · exact ⟨3, rfl, by omega, by omega⟩
    · exact ⟨_, rfl, by omega, by omega⟩
    · exact ⟨1, rfl, by omega, by omega⟩
    · exact ⟨3, rfl, by omega, by omega⟩
  obtain ⟨n, rfl, n1, nm⟩ := hn
  have hq : QN q n := ⟨q1, q8, n1, nm⟩
  obtain ⟨C, s4, v1, hF, hs4⟩ := one_answer_ok hq hc hs3
  have hC := hF.rowN
  obtain ⟨s5, w1, hs5⟩ := flat_right_ok hq hC.row hc hs4
  rw [← natD_cast] at w1
  have e1 : mAsg 1 (mCall fk__law_store (mCons (mVar 0) mNil)) (initE 7 [.scr ns]) [] = .nxt (lwE ns none none none none none) s0 := by
    have c : mCall fk__law_store (mCons (mVar 0) mNil) (initE 7 [.scr ns]) [] = .ok (.ref 0) s0 := call_eff (vs := [.scr ns]) (s1 := []) rfl rfl rfl h0
    unfold mAsg
    rw [c]
    rfl
  have e2 : mAsg 2 (mCall fk__law_pick (mCons (mVar 1) (mCons lwT2 mNil))) (lwE ns none none none none none) s0 = .nxt (lwE ns (some (.d (.int q))) none none none none) s1 := asg_ok (pick_call2 rfl rfl p1)
  have e3 : mAsg 3 (mIx lwT3 (mBin .sub (mVar 2) (mCon (.int 1)))) (lwE ns (some (.d (.int q))) none none none none) s1 = .nxt (lwE ns (some (.d (.int q))) (some (.d (.int (most q)))) none none none) s1 :=
    asg_ok (ix_tup (xs := [.int 8, .int 8, .int 6, .int 5, .int 4, .int 3, .int 3, .int 3]) rfl (bin_eq (i := q) (j := 1) rfl rfl (by rw [osub, pred_nat q1])) (most_ix q1 q8))
  have e4 : mAsg 4 (mCall fk__law_pick (mCons (mVar 1) (mCons lwT4 mNil))) (lwE ns (some (.d (.int q))) (some (.d (.int (most q)))) none none none) s1 = .nxt (lwE ns (some (.d (.int q))) (some (.d (.int (most q)))) (some (.d (.int n))) none none) s3 := by
    have a1 : mBin .add (mCon (.int 1)) (mCall fk__law_take (mCons (mVar 1) (mCons (mVar 3) mNil))) (lwE ns (some (.d (.int q))) (some (.d (.int (most q)))) none none none) s1 = .ok (.d (.int (1 + t : Nat))) s2 :=
      bin_d (x := .int 1) (y := .int t) rfl (take_call (a := mVar 1) (b := mVar 3) rfl rfl t1) (by
        show some (D.int ((1 : Int) + (t : Int))) = _
        rw [show (1 : Int) + (t : Int) = ((1 + t : Nat) : Int) by omega])
    exact asg_ok (pick_call2 rfl (tup_d (xs := [.int (most q), .int 2, .int 3, .int (1 + t : Nat), .int 1, .int 3]) (cons_d rfl (cons_d rfl (cons_d rfl (cons_d a1 (cons_d rfl (cons_d rfl nil_d)))))) (le_line (by simp))) u1)
  have e5 : mAsg 5 (mCall fk__law_one_answer (mCons (mVar 1) (mCons (mVar 2) (mCons (mVar 4) mNil)))) (lwE ns (some (.d (.int q))) (some (.d (.int (most q)))) (some (.d (.int n))) none none) s3 = .nxt (lwE ns (some (.d (.int q))) (some (.d (.int (most q)))) (some (.d (.int n))) (some (.d (.tup (natD C)))) none) s4 := asg_ok (call_eff (vs := [.ref 0, .d (.int q), .d (.int n)]) (s1 := s3) rfl rfl rfl v1)
  have e6 : lwF6 (lwE ns (some (.d (.int q))) (some (.d (.int (most q)))) (some (.d (.int n))) (some (.d (.tup (natD C)))) none) s4 = .nxt (lwE ns (some (.d (.int q))) (some (.d (.int (most q)))) (some (.d (.int n))) (some (.d (.tup (natD C)))) none) s5 := by
    have c : mCall fk__law_flat_right (mCons (mVar 1) (mCons (mVar 2) (mCons (mVar 4) (mCons (mVar 5) mNil)))) (lwE ns (some (.d (.int q))) (some (.d (.int (most q)))) (some (.d (.int n))) (some (.d (.tup (natD C)))) none) s4 = .ok (.d (.bl true)) s5 := call_eff (vs := [.ref 0, .d (.int q), .d (.int n), .d (.tup (natD C))]) (s1 := s4) rfl rfl rfl w1
    exact if_f (not_ok (tru_bl c))
  obtain ⟨e', s6, f7, x6, he, hs6⟩ := for_ix (i := 6) (b := lwB) (N := 3) (e := lwE ns (some (.d (.int q))) (some (.d (.int (most q)))) (some (.d (.int n))) (some (.d (.tup (natD C)))) none) (s := s5)
    (Inv := fun k e s => ∃ x6, e = lwE ns (some (.d (.int q))) (some (.d (.int (most q)))) (some (.d (.int n))) (some (.d (.tup (natD C)))) x6 ∧ Sto cells s)
    (fun k hk e s ⟨x6, he, hs⟩ => by
      subst he
      obtain ⟨W, s', g1, hW, g3⟩ := near_full_ok hq hC hc hs
      obtain ⟨s'', r1, r2⟩ := flat_right_ok hq hW.row hc g3
      rw [← natD_cast] at r1
      have c0 : mCall fk__law_near_full (mCons (mVar 1) (mCons (mVar 2) (mCons (mVar 4) (mCons (mVar 5) mNil)))) (lwE ns (some (.d (.int q))) (some (.d (.int (most q)))) (some (.d (.int n))) (some (.d (.tup (natD C)))) (some (.d (.int k)))) s = .ok (.d (.tup (natD W))) s' := call_eff (vs := [.ref 0, .d (.int q), .d (.int n), .d (.tup (natD C))]) (s1 := s) rfl rfl rfl g1
      have c : mCall fk__law_flat_right (mCons (mVar 1) (mCons (mVar 2) (mCons (mVar 4) (mCons (mCall fk__law_near_full (mCons (mVar 1) (mCons (mVar 2) (mCons (mVar 4) (mCons (mVar 5) mNil))))) mNil)))) (lwE ns (some (.d (.int q))) (some (.d (.int (most q)))) (some (.d (.int n))) (some (.d (.tup (natD C)))) (some (.d (.int k)))) s = .ok (.d (.bl true)) s'' := call_eff (vs := [.ref 0, .d (.int q), .d (.int n), .d (.tup (natD W))]) (s1 := s') (cons_v rfl (cons_v rfl (cons_v rfl (cons_v c0 rfl)))) rfl rfl r1
      have e3 := if_f (a := rfF) (b := mPass) (not_ok (tru_bl c))
      refine ⟨lwE ns (some (.d (.int q))) (some (.d (.int (most q)))) (some (.d (.int n))) (some (.d (.tup (natD C)))) (some (.d (.int k))), s'', ?_, _, rfl, r2⟩
      show lwB (lwE ns (some (.d (.int q))) (some (.d (.int (most q)))) (some (.d (.int n))) (some (.d (.tup (natD C)))) (some (.d (.int k)))) s = _
      unfold lwB
      rw [seq_nxt (e3.trans rfl)]
      rfl)
    ⟨none, rfl, hs5⟩
  subst he
  have e7 : mRg1 (mCon (.int 3)) (lwE ns (some (.d (.int q))) (some (.d (.int (most q)))) (some (.d (.int n))) (some (.d (.tup (natD C)))) none) s5 = .ok (natD (List.range 3)) s5 := rgI (m := 3) (by decide) rfl
  obtain ⟨s8, a1, hs8⟩ := refused_ok hq hC hc hs6
  obtain ⟨s9, b1, hs9⟩ := numbers_right_ok hq.q8n hc hs8
  generalize hE : lwE ns (some (.d (.int q))) (some (.d (.int (most q)))) (some (.d (.int n))) (some (.d (.tup (natD C)))) x6 = E at f7
  have v1 : ∀ s, mVar 1 E s = .ok (.ref 0) s := by subst hE; exact fun _ => rfl
  have v2 : ∀ s, mVar 2 E s = .ok (.d (.int q)) s := by subst hE; exact fun _ => rfl
  have v4 : ∀ s, mVar 4 E s = .ok (.d (.int n)) s := by subst hE; exact fun _ => rfl
  have v5 : ∀ s, mVar 5 E s = .ok (.d (.tup (natD C))) s := by subst hE; exact fun _ => rfl
  have nl : ∀ s, mNil E s = .ok [] s := fun _ => rfl
  have e8 : lwF8 E s6 = .nxt E s9 := by
    have c0 : mCall fk__law_refused (mCons (mVar 1) (mCons (mVar 2) (mCons (mVar 4) (mCons (mVar 5) mNil)))) E s6 = .ok (.d (.bl true)) s8 := call_eff (vs := [.ref 0, .d (.int q), .d (.int n), .d (.tup (natD C))]) (s1 := s6) (cons_v (v1 _) (cons_v (v2 _) (cons_v (v4 _) (cons_v (v5 _) (nl _))))) rfl rfl a1
    have c1 : mCall fk__law_numbers_right (mCons (mVar 1) (mCons (mVar 2) (mCons (mVar 4) mNil))) E s8 = .ok (.d (.bl true)) s9 := call_eff (vs := [.ref 0, .d (.int q), .d (.int n)]) (s1 := s8) (cons_v (v1 _) (cons_v (v2 _) (cons_v (v4 _) (nl _)))) rfl rfl b1
    exact if_f (or_f (not_ok (tru_bl c0)) (not_ok (tru_bl c1)))
  obtain ⟨k1, sa, d1, hk1, hsa⟩ := take_nat (n := 8) (by decide) (by decide) hc hs9
  obtain ⟨k2, sb, d2, hk2, hsb⟩ := take_nat (n := 8) (by decide) (by decide) hc hsa
  obtain ⟨z, sc, d3, zm, hsc⟩ := pick_ok (xs := [.int (8 : Nat), .int (1 + k2 : Nat)]) (y := .tup [.int (8 : Nat), .int (1 + k2 : Nat)]) (by simp) (by simp) (.inr rfl) hc hsb
  have hz : ∃ m : Nat, z = .int m ∧ 1 ≤ m ∧ m ≤ 8 := by
    rcases List.mem_cons.mp zm with rfl | zm
    · exact ⟨8, rfl, by omega, by omega⟩
    · rw [List.mem_singleton.mp zm]
      exact ⟨_, rfl, by omega, by omega⟩
  obtain ⟨m, rfl, m1, m8⟩ := hz
  obtain ⟨sd, g1, hsd⟩ := numbers_right_ok (q := 1 + k1) (n := m) ⟨by omega, by omega, m1, m8⟩ hc hsc
  have e9 : lwF9 E s9 = .nxt E sd := by
    have a1 : ∀ (k : Nat) (s s' : S), f__law_take [.ref 0, .d (.int (8 : Nat))] s = .ok (.d (.int k)) s' → mBin .add (mCon (.int 1)) (mCall fk__law_take (mCons (mVar 1) (mCons (mCon (.int 8)) mNil))) E s = .ok (.d (.int (1 + k : Nat))) s' := fun k s s' h =>
      bin_d (x := .int 1) (y := .int k) rfl (take_call (a := mVar 1) (b := mCon (.int 8)) (v1 _) rfl h) (by
        show some (D.int ((1 : Int) + (k : Int))) = _
        rw [show (1 : Int) + (k : Int) = ((1 + k : Nat) : Int) by omega])
    have c : mCall fk__law_numbers_right (mCons (mVar 1) (mCons (mBin .add (mCon (.int 1)) (mCall fk__law_take (mCons (mVar 1) (mCons (mCon (.int 8)) mNil)))) (mCons (mCall fk__law_pick (mCons (mVar 1) (mCons (mTup (mCons (mCon (.int 8)) (mCons (mBin .add (mCon (.int 1)) (mCall fk__law_take (mCons (mVar 1) (mCons (mCon (.int 8)) mNil)))) mNil))) mNil))) mNil))) E s9 = .ok (.d (.bl true)) sd :=
      call_eff (vs := [.ref 0, .d (.int (1 + k1 : Nat)), .d (.int m)]) (s1 := sc) (cons_v (v1 _) (cons_v (a1 _ _ _ d1) (cons_v (pick_call2 (v1 _) (tup_d (xs := [.int (8 : Nat), .int (1 + k2 : Nat)]) (cons_d rfl (cons_d (a1 _ _ _ d2) nil_d)) two_ok) d3) (nl _)))) rfl rfl g1
    exact if_f (not_ok (tru_bl c))
  have lr1 : LR q n (.tup (natD C)) (some (castL C)) := .row hF.row (.inr (by rw [natD_cast]))
  have lr2 : LR q n (.lst (natD C)) (some (castL C)) := .row hF.row (.inl (by rw [natD_cast]))
  have k0 : f__law_ask [.int 0, .int q, .int n, .tup (natD C)] = .fresh [.str (Str.ofString ""), .bl true] := by
    have := ask_full hq lr1
    dsimp only at this
    rw [hF.fault hq] at this
    exact this
  have k1 : f__law_ask [.int 1, .int q, .int n, .lst (natD C)] = .fresh [.str (Str.ofString ""), .non] := by
    have := ask_fault hq lr2
    dsimp only at this
    rw [hF.fault hq] at this
    exact this
  have c0 : mCall fk__law_ask (mCons (mCon (.int 0)) (mCons (mVar 2) (mCons (mVar 4) (mCons (mVar 5) mNil)))) E sd = .ok (.d (.lst [.str (Str.ofString ""), .bl true])) sd := call_fresh (xs := [.int 0, .int q, .int n, .tup (natD C)]) (cons_d rfl (cons_d (v2 _) (cons_d (v4 _) (cons_d (v5 _) nil_d)))) rfl k0
  have c1 : mCall fk__law_ask (mCons (mCon (.int 1)) (mCons (mVar 2) (mCons (mVar 4) (mCons (mB1 .list (mVar 5)) mNil)))) E sd = .ok (.d (.lst [.str (Str.ofString ""), .non])) sd := call_fresh (xs := [.int 1, .int q, .int n, .lst (natD C)]) (cons_d rfl (cons_d (v2 _) (cons_d (v4 _) (cons_d (b1_ok (v5 _) rfl) nil_d)))) rfl k1
  have r0 : mCall fk__law_same (mCons (mCall fk__law_ask (mCons (mCon (.int 0)) (mCons (mVar 2) (mCons (mVar 4) (mCons (mVar 5) mNil))))) (mCons (mLst (mCons (mCon (.str (Str.ofString ""))) (mCons (mCon (.bl true)) mNil))) mNil)) E sd = .ok (.d (.bl true)) sd := call_ok (xs := [.lst [.str (Str.ofString ""), .bl true], .lst [.str (Str.ofString ""), .bl true]]) (cons_d c0 (cons_d rfl nil_d)) rfl same_tt
  have r1 : mCall fk__law_same (mCons (mCall fk__law_ask (mCons (mCon (.int 1)) (mCons (mVar 2) (mCons (mVar 4) (mCons (mB1 .list (mVar 5)) mNil))))) (mCons (mLst (mCons (mCon (.str (Str.ofString ""))) (mCons (mCon .non) mNil))) mNil)) E sd = .ok (.d (.bl true)) sd := call_ok (xs := [.lst [.str (Str.ofString ""), .non], .lst [.str (Str.ofString ""), .non]]) (cons_d c1 (cons_d rfl nil_d)) rfl same_nn
  refine ⟨sd, ?_⟩
  unfold f_law
  refine runE_ret ?_
  rw [lw_eq, seq_nxt e1, seq_nxt e2, seq_nxt e3, seq_nxt e4, seq_nxt e5, seq_nxt e6, seq_for e7, f7, fseq_nxt, seq_nxt e8, seq_nxt e9]
  unfold lwR
  refine seq_ret (ret_ok ?_)
  unfold mAndV
  rw [r0]
  exact r1
end MPL
end

section
set_option Elab.async false
set_option linter.all false
set_option maxRecDepth 100000
set_option maxHeartbeats 0
namespace MPL
open PySem PySem.Spec PyProof.Rows L2 MP
def fa : List He.Fa := faOf tu bl fn
abbrev R : PySem.W.OpenRow := PySem.W.OpenLaw.row PySem.Challenge.rw_slipsjoined_k24_one_answer_line_by_line
abbrev hk : PySem.W.Hook := hookM 4 tu fa fn
def ob (s : PySem.W.SharedT) : AlM := obM 4 tu fa fn s
theorem ob_eq (s : PySem.W.SharedT) : ob s = hk.obs s.abs := obM_eq s
def loose : List Str := (PySem.Challenge.pw_slipsjoined_k24_one_answer_line_by_line.main.scope.names.map (·.1)).filter fun n => n != ("law" : Str) && n != ("__name__" : Str)
theorem run (w : World) : HandSHeadRun.RunEq R (PySem.W.view R.prog [lastI]) hk ob 60000 loose w := by
  intro os
  kernel_rfl
end MPL
end

section
set_option Elab.async false
set_option linter.all false
set_option maxRecDepth 100000
set_option maxHeartbeats 0
namespace MPL
open PySem PySem.Spec PyProof.Rows L2 MP
theorem math (ns : List Int) (h : ns.length ≤ 63) : ∃ s', lawM tu bl qs q_law [.scr ns] [] = .ok (.d (.bl true)) s' := by
  rw [law_eq]
  exact math_law ns
theorem qs_ok : ((q_law :: qs).all fun q => q.ok && decide (q.d.at_.2 = none)) = true := by kernel_rfl
theorem qs_in : ∀ q ∈ q_law :: qs, q.d ∈ fn := by
  have h : fn.length = (q_law :: qs).length := by kernel_rfl
  have e : (qs ++ [q_law]).map (·.d) = fn := by rfl
  intro q hq
  rw [← e]
  refine List.mem_map.mpr ⟨q, ?_, rfl⟩
  rcases List.mem_cons.mp hq with rfl | hq
  · exact List.mem_append_right _ List.mem_cons_self
  · exact List.mem_append_left _ hq
theorem at_law : q_law.d.at_.1 = ("law" : Str) := by kernel_rfl
theorem facts {P : Program} {w : World} {K : PySem.W.Frag} {h : Heap} {mg : Str → Option Value} {f : Addr} (X : K.In h) (G : h.Ns mainGlobals mg) (hP : P.main.file = tu.file ∧ (P.main.scope.names.lookup ("super" : Str)).isSome = false) (hfa : mg ("law" : Str) = some (.ref f)) (c : obsM tu fa fn K = valM tu fn w) :
    ∃ fd : FuncData, (∀ (s : Shared) (v : Value), BindsTo s fd ⟨[v], []⟩ [(("script" : Str), v)]) ∧ ∀ base : Heap, FnOk P w K mg base (CXZ P) (2 + lev qs + 1) f fd [("script" : Str)] (spE (gdOf K) 1 (lawM tu bl qs q_law)) := by
  obtain ⟨fd, h1, h2⟩ := law_facts (P := P) (w := w) (ql := q_law) (qs := qs) (x := "law") X G c qs_ok qs_in (by rw [at_law]) rfl hP hfa
  exact ⟨fd, h1, fun base => cxz (h2 base)⟩
theorem hP : (PySem.Challenge.rw_slipsjoined_k24_one_answer_line_by_line).prog.main.file = tu.file ∧ ((PySem.Challenge.rw_slipsjoined_k24_one_answer_line_by_line).prog.main.scope.names.lookup ("super" : Str)).isSome = false := ⟨by kernel_rfl, by kernel_rfl⟩
end MPL
open PySem PySem.W PySem.Calls PyProof.Rows
theorem PySem.Challenge.cw_slipsjoined_k24_one_answer_line_by_line_holds : PySem.Challenge.rw_slipsjoined_k24_one_answer_line_by_line.Holds := by
  w_on; o_law
  refine HandSHeadRun.head_any (r := OpenLaw.row PySem.Challenge.rw_slipsjoined_k24_one_answer_line_by_line) (q := view (OpenLaw.row PySem.Challenge.rw_slipsjoined_k24_one_answer_line_by_line).prog [MPL.lastI]) (H := MPL.hk) (ob := MPL.ob) (M := 60000) (loose := MPL.loose) (d := HandSHeadRun.topDef (OpenLaw.row PySem.Challenge.rw_slipsjoined_k24_one_answer_line_by_line).prog MPL.lastI) (kwd := []) MPL.ob_eq
    (by kernel_rfl) (fun s => by kernel_rfl) MPL.run (by kernel_rfl) (by kernel_rfl) (by kernel_rfl) (by rfl) (by first | assumption | decide +kernel) (by decide +kernel) ⟨rfl, rfl, rfl, rfl, rfl, by decide +kernel⟩ ?hw ?hc
  case hw => w_witness2
  case hc =>
    refine L2.walk_ofE (l := PySem.Challenge.rw_slipsjoined_k24_one_answer_line_by_line) (n := 63) (k := 61) (x := "script") (CX := MP.CXZ (PySem.Challenge.rw_slipsjoined_k24_one_answer_line_by_line).prog) rfl (by decide) (by kernel_rfl) ⟨rfl, by decide, by decide⟩ ?F MP.cxz_no
    intro w mg fa h Y G hmg0
    obtain ⟨K, KX, c⟩ := Y
    have hmg : mg ("law" : PySem.Str) = some (.ref fa) := by
      have e : (HandSHeadRun.topDef (OpenLaw.row PySem.Challenge.rw_slipsjoined_k24_one_answer_line_by_line).prog MPL.lastI).name = ("law" : PySem.Str) := by kernel_rfl
      rw [← e]
      exact hmg0
    obtain ⟨fd, hb, hF⟩ := MPL.facts (P := (PySem.Challenge.rw_slipsjoined_k24_one_answer_line_by_line).prog) (w := w) KX G MPL.hP hmg c
    refine ⟨K, fd, MP.spE (MP.gdOf K) 1 (MP.lawM MPL.tu MPL.bl MPL.qs MPL.q_law), KX, hb, fun H a ns hl hO hS => ?_, fun base _ _ => hF base⟩
    obtain ⟨s', hs⟩ := MPL.math ns hl
    exact MP.law_sp rfl (Nat.le_trans hl (by decide)) hO hS hs
end
