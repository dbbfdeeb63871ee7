import PyProof.Rows.All
import Wide.All
import OpenK.AllK
import Wide.FinOn
import HandS.ForMost
import HandS.ForExc
import HandS.Flow
import HandS.Zip
import HandS.Walk
import HandS.TupAny
import HandS.TupLe
import HandS.Wide
import HandS.WideBits
import HandS.CallSlots
import HandS.IsInst
import HandS.Conv
import HandS.Defaults
import HandS.DeepEq
import HandS.Deep
import HandS.Small
import HandS.Steps
import HandS.Zip0
import HandS.ExcInit
import HandS.ExcField
import HandS.ExcIs
import HandS.Words
import HandS.HeadHook1
import HandS.HeadHook2
import KE.KStateDown
import HandS.Head0
import HandS.Head1
import HandS.Head2
import HandS.HeadWalk
import HandS.EndTab
import PySem.Challenge.RW_fewchairs_k00_crowd_sums
set_option Elab.async false
set_option linter.all false
set_option maxRecDepth 100000
set_option autoImplicit false
set_option maxHeartbeats 0
namespace Ip
open PySem (Str)

/-- immutable data -/
inductive D where
  | none | bool (b : Bool) | int (i : Int) | str (s : Str)
  | tup (xs : List D) | lst (xs : List D) | dict (kvs : List (D × D)) | obj (c : Nat) (fs : List (Nat × D))
  deriving Inhabited

/-- a value: data, or a place of the heap -/
inductive MV where
  | d (x : D) | ref (n : Nat)
  deriving Inhabited
/-- what stands at a place -/
inductive MO where
  | lst (xs : List MV)
  | dict (kvs : List (D × MV))
  | ins (c : Nat) (fs : List (Nat × MV))
  | dead
  deriving Inhabited
abbrev Hm := List MO
inductive R (α : Type) where
  | ok (a : α) (h : Hm) | exc (e : D) (h : Hm) | stuck
abbrev M (α : Type) := Hm → R α
def M.pure {α : Type} (a : α) : M α := fun h => .ok a h
def M.bind {α β : Type} (m : M α) (f : α → M β) : M β := fun h => match m h with
  | .ok a h' => f a h'
  | .exc e h' => .exc e h'
  | .stuck => .stuck
def M.stuck {α : Type} : M α := fun _ => .stuck
def M.ofO {α : Type} (o : Option α) : M α := fun h => match o with
  | some a => .ok a h
  | none => .stuck

inductive Op where
  | add | sub | mul | fdiv | mod | pow
  deriving DecidableEq
inductive Cm where
  | lt | le | gt | ge | eq | ne
  deriving DecidableEq
inductive Bi where
  | len | sum | min2 | max2 | abs | int | tuple | list | isBool | isInt | isStr | isTup | isList
  deriving DecidableEq
inductive Tg where
  | nm (i : Nat) | tp (ts : List Tg)
mutual
inductive E where
  | var (i : Nat) | int (i : Int) | bool (b : Bool) | none | str (s : Str)
  | bin (o : Op) (a b : E) | neg (a : E) | not (a : E) | and (es : List E) | or (es : List E)
  | cmp (o : Cm) (a b : E) | cmp3 (o p : Cm) (a b c : E) | isN (a : E) | notN (a : E) | ite (c a b : E)
  | tup (es : List E) | lst (es : List E) | lstM (es : List E)
  | call (f : Nat) (es : List E) | callM (f : Nat) (es : List E) | callB (f : Nat) (es : List E)
  | rngS (k : Nat) (a : E) | rngS2 (k : Nat) (a b : E)
  | bi (b : Bi) (es : List E)
  | ix (a b : E) | sl (a : E) (lo hi : Option E)
  | lc (m : Bool) (elt : E) (t : Tg) (it : I) (cs : List E) (own : List Nat)
  | append (l x : E)
inductive I where
  | seq (e : E) | rng1 (a : E) | rng2 (a b : E) | zip (a b : E) | enum (a : E)
end
abbrev Frame := List (Option MV)
inductive Flow where
  | nx (ρ : Frame) | ret (v : MV) | brk (ρ : Frame) | ct (ρ : Frame)
inductive LHS where
  | tg (t : Tg) | ix (o i : E) | at_ (o : E) (a : Nat)
/-! ### values -/
def MV.gr : MV → Option D
  | .d x => some x
  | .ref _ => none
def grs : List MV → Option (List D)
  | [] => some []
  | .d x :: r => (grs r).map (x :: ·)
  | .ref _ :: _ => none
/-- data made of the containers that a fresh heap holds -/
def harden0 : List MV → Option (List D) := grs
def hard1 (h : Hm) : MV → Option D
  | .d x => some x
  | .ref n => match h[n]? with
    | some (.lst xs) => (grs xs).map .lst
    | _ => none
def isNone : MV → Bool
  | .d .none => true
  | _ => false
def mvI : MV → Option Int
  | .d (.int i) => some i
  | _ => none
def items (h : Hm) : MV → Option (List MV)
  | .d (.tup xs) => some (xs.map .d)
  | .d (.lst xs) => some (xs.map .d)
  | .ref n => match h[n]? with
    | some (.lst xs) => some xs
    | _ => none
  | _ => none
def ditems : MV → Option (List MV)
  | .d (.tup xs) => some (xs.map .d)
  | .d (.lst xs) => some (xs.map .d)
  | _ => none
def dits : MV → Option (List D)
  | .d (.tup xs) => some xs
  | .d (.lst xs) => some xs
  | _ => none
def litems (h : Hm) : MV → Option (List MV)
  | .d (.lst xs) => some (xs.map .d)
  | .ref n => match h[n]? with
    | some (.lst xs) => some xs
    | _ => none
  | _ => none
def truth (h : Hm) : MV → Option Bool
  | .d .none => some false
  | .d (.bool b) => some b
  | .d (.int i) => some (i != 0)
  | .d (.tup xs) => some (!xs.isEmpty)
  | .d (.lst xs) => some (!xs.isEmpty)
  | .ref n => match h[n]? with
    | some (.lst xs) => some (!xs.isEmpty)
    | _ => none
  | _ => none
def big : Nat := 2 ^ 20
def mulOk (i j : Int) : Bool := decide (i.natAbs < 2 ^ 64) || decide (j.natAbs < 2 ^ 64) || decide (i.natAbs.log2 + j.natAbs.log2 < 1000000)
def ar : Op → Int → Int → Option Int
  | .add, i, j => some (i + j)
  | .sub, i, j => some (i - j)
  | .mul, i, j => if mulOk i j then some (i * j) else none
  | .fdiv, i, j => if 0 < j ∧ j.natAbs.log2 < 9000 then some (i / j) else none
  | .mod, i, j => if 0 < j then some (i % j) else none
  | .pow, i, j => if 0 ≤ j ∧ j ≤ 1000 ∧ i.natAbs < 2 ^ 64 then some (i ^ j.toNat) else none
def binop (o : Op) (v w : MV) : M MV := match v, w with
  | .d (.int i), .d (.int j) => M.ofO ((ar o i j).map fun k => .d (.int k))
  | .d (.tup xs), .d (.tup ys) => if o = .add ∧ xs.length + ys.length ≤ big then M.pure (.d (.tup (xs ++ ys))) else M.stuck
  | _, _ => M.stuck
mutual
/-- data whose == is equality, to a depth -/
def pl : D → Nat → Bool
  | .none, _ => true
  | .int _, _ => true
  | .str x, _ => x.cps.all (· < 0x110000)
  | .tup xs, n + 1 => pls xs n
  | .lst xs, n + 1 => pls xs n
  | _, _ => false
def pls : List D → Nat → Bool
  | [], _ => true
  | x :: xs, n => pl x n && pls xs n
end
mutual
def deq : D → D → Bool
  | .none, .none => true
  | .bool a, .bool b => a == b
  | .int i, .int j => decide (i = j)
  | .str s, .str t => decide (s = t)
  | .tup xs, .tup ys => deqs xs ys
  | .lst xs, .lst ys => deqs xs ys
  | _, _ => false
def deqs : List D → List D → Bool
  | [], [] => true
  | x :: xs, y :: ys => deq x y && deqs xs ys
  | _, _ => false
end
def ci : Cm → Int → Int → Bool
  | .lt, i, j => decide (i < j)
  | .le, i, j => decide (i ≤ j)
  | .gt, i, j => decide (j < i)
  | .ge, i, j => decide (j ≤ i)
  | .eq, i, j => decide (i = j)
  | .ne, i, j => !decide (i = j)
def cmpD (o : Cm) (x y : D) : Option Bool := match x, y with
  | .int i, .int j => some (ci o i j)
  | .bool a, .bool b => if o = .eq then some (a == b) else if o = .ne then some (a != b) else none
  | x, y => if pl x 60 && pl y 60 then (if o = .eq then some (deq x y) else if o = .ne then some (!deq x y) else none) else none
def hdat (h : Hm) (v : MV) : Option D := hard1 h v
def cmpop (o : Cm) (v w : MV) : M MV := fun h => match hdat h v, hdat h w with
  | some x, some y => match cmpD o x y with
    | some b => .ok (.d (.bool b)) h
    | none => .stuck
  | _, _ => .stuck
def ixN (n : Nat) (i : Int) : Option Nat := if 0 ≤ i then (if i < n then some i.toNat else none) else if -(n : Int) ≤ i then some (i + n).toNat else none
def atI {α : Type} (xs : List α) (i : Int) : Option α := (ixN xs.length i).bind fun j => xs[j]?
def index (v w : MV) : M MV := fun h => match items h v, w with
  | some xs, .d (.int i) => match atI xs i with
    | some x => .ok x h
    | none => .stuck
  | _, _ => .stuck
def sIx (n d : Nat) : Option Int → Nat
  | none => d
  | some i => if i < 0 then (i + (n : Int)).toNat else min i.toNat n
def cut {α : Type} (xs : List α) (lo hi : Option Int) : List α := (xs.drop (sIx xs.length 0 lo)).take (sIx xs.length xs.length hi - sIx xs.length 0 lo)
def slice (v : MV) (lo hi : Option Int) : M MV := match v with
  | .d (.tup xs) => M.pure (.d (.tup (cut xs lo hi)))
  | .d (.lst xs) => M.pure (.d (.lst (cut xs lo hi)))
  | _ => M.stuck
def intsOf : List MV → Option (List Int)
  | [] => some []
  | .d (.int i) :: r => (intsOf r).map (i :: ·)
  | _ :: _ => none
def biF (b : Bi) (vs : List MV) : M MV := fun h => match b, vs with
  | .len, [v] => match items h v with
    | some xs => .ok (.d (.int xs.length)) h
    | none => .stuck
  | .sum, [v] => match (items h v).bind intsOf with
    | some is => .ok (.d (.int is.sum)) h
    | none => .stuck
  | .min2, [.d (.int i), .d (.int j)] => .ok (.d (.int (if j < i then j else i))) h
  | .max2, [.d (.int i), .d (.int j)] => .ok (.d (.int (if i < j then j else i))) h
  | .abs, [.d (.int i)] => .ok (.d (.int (if i < 0 then -i else i))) h
  | .int, [.d (.int i)] => .ok (.d (.int i)) h
  | .tuple, [.d (.tup xs)] => .ok (.d (.tup xs)) h
  | .tuple, [v] => match (litems h v).bind grs with
    | some xs => .ok (.d (.tup xs)) h
    | none => .stuck
  | .list, [.d (.tup xs)] => .ok (.d (.lst xs)) h
  | .list, [v] => match (litems h v).bind grs with
    | some xs => .ok (.d (.lst xs)) h
    | none => .stuck
  | .isBool, [.d x] => .ok (.d (.bool (match x with | .bool _ => true | _ => false))) h
  | .isInt, [.d x] => .ok (.d (.bool (match x with | .bool _ => true | .int _ => true | _ => false))) h
  | .isStr, [.d x] => .ok (.d (.bool (match x with | .str _ => true | _ => false))) h
  | .isTup, [.d x] => .ok (.d (.bool (match x with | .tup _ => true | _ => false))) h
  | .isList, [.d x] => .ok (.d (.bool (match x with | .lst _ => true | _ => false))) h
  | _, _ => .stuck
def appendM (v w : MV) : M MV := fun h => match v with
  | .ref n => match h[n]? with
    | some (.lst xs) => if xs.length < big then .ok (.d .none) (h.set n (.lst (xs ++ [w]))) else .stuck
    | _ => .stuck
  | _ => .stuck
def isLst (v : MV) : M Unit := fun h => match v with
  | .ref n => match h[n]? with
    | some (.lst _) => .ok () h
    | _ => .stuck
  | _ => .stuck
def setIx (v w x : MV) : M Unit := fun h => match v, w with
  | .ref n, .d (.int i) => match h[n]? with
    | some (.lst xs) => match ixN xs.length i with
      | some j => .ok () (h.set n (.lst (xs.set j x)))
      | none => .stuck
    | _ => .stuck
  | _, _ => .stuck
def alloc (o : MO) : M MV := fun h => .ok (.ref h.length) (h ++ [o])
def asTup (vs : List MV) : M MV := match grs vs with
  | some xs => if xs.length ≤ big then M.pure (.d (.tup xs)) else M.stuck
  | none => M.stuck
def asLst (vs : List MV) : M MV := match grs vs with
  | some xs => if xs.length ≤ big then M.pure (.d (.lst xs)) else M.stuck
  | none => M.stuck
def asLstM (vs : List MV) : M MV := if vs.length ≤ big then alloc (.lst vs) else M.stuck
def rng (lo : Int) (n : Nat) : List MV := (List.range n).map fun k => .d (.int (lo + (k : Nat)))
def small62 (i : Int) : Bool := decide (-(2 ^ 62) ≤ i) && decide (i < 2 ^ 62)
mutual
def bindT : Tg → MV → Frame → Option Frame
  | .nm i, v, ρ => some (ρ.set i (some v))
  | .tp ts, .d (.tup xs), ρ => bindTs ts xs ρ
  | .tp _, _, _ => none
def bindTs : List Tg → List D → Frame → Option Frame
  | [], [], ρ => some ρ
  | t :: ts, x :: xs, ρ => (bindT t (.d x) ρ).bind (bindTs ts xs)
  | _, _, _ => none
end
def wipe (ρ : Frame) : List Nat → Frame
  | [] => ρ
  | v :: vs => (wipe ρ vs).set v none
/-- the items of a comprehension -/
def mapF (f : MV → M (Option MV)) : List MV → M (List MV)
  | [] => M.pure []
  | x :: xs => M.bind (f x) fun o => M.bind (mapF f xs) fun r => M.pure (match o with | some y => y :: r | none => r)
/-- one turn of a comprehension -/
def lcF (ρ : Frame) (t : Tg) (c : Frame → M Bool) (e : Frame → M MV) (x : MV) : M (Option MV) := match bindT t x ρ with
  | some ρ' => M.bind (c ρ') fun b => if b then M.bind (e ρ') fun v => M.pure (some v) else M.pure none
  | none => M.stuck
/-- no exception leaves -/
def noX {α : Type} (m : M α) : M α := fun h => match m h with
  | .ok a h' => .ok a h'
  | _ => .stuck
def chkLen {α : Type} (xs : List α) : M Unit := if xs.length ≤ big then M.pure () else M.stuck
def zipI (v w : MV) : M (List MV) := match v, w with
  | .d (.tup xs), .d (.tup ys) => M.pure ((xs.zip ys).map fun p => .d (.tup [p.1, p.2]))
  | .d (.lst xs), .d (.lst ys) => M.pure ((xs.zip ys).map fun p => .d (.tup [p.1, p.2]))
  | _, _ => M.stuck
abbrev Gc := Nat → List MV → M MV
def pcall (G : Gc) (f : Nat) (vs : List MV) : M MV := fun h => match grs vs with
  | some ds => match G f (ds.map .d) [] with
    | .ok v h' => match hard1 h' v with
      | some x => .ok (.d x) h
      | none => .stuck
    | .exc e _ => .exc e h
    | .stuck => .stuck
  | none => .stuck
def hards (h : Hm) : List MV → Option (List D)
  | [] => some []
  | v :: r => (hard1 h v).bind fun x => (hards h r).map (x :: ·)
def scal : D → Bool
  | .none => true
  | .bool _ => true
  | .int _ => true
  | .str _ => true
  | _ => false
/-- a call that only looks at lists -/
def bcall (G : Gc) (f : Nat) (vs : List MV) : M MV := fun h => match hards h vs with
  | some ds => match G f (ds.map .d) [] with
    | .ok (.d x) _ => if scal x then .ok (.d x) h else .stuck
    | _ => .stuck
  | none => .stuck
def rngD (lo : Int) (n : Nat) : List D := (List.range n).map fun k => .int (lo + (k : Nat))
def rngK (k : Nat) (i j : Int) : M MV := if small62 i && small62 j && decide ((j - i).toNat ≤ big) then (match k with
  | 0 => M.pure (.d (.lst (rngD i (j - i).toNat)))
  | 1 => alloc (.lst ((rngD i (j - i).toNat).map .d))
  | _ => M.pure (.d (.tup (rngD i (j - i).toNat)))) else M.stuck
mutual
def evE (G : Gc) (ρ : Frame) : E → M MV
  | .var i => fun h => match ρ[i]? with
    | some (some v) => .ok v h
    | _ => .stuck
  | .int i => M.pure (.d (.int i))
  | .bool b => M.pure (.d (.bool b))
  | .none => M.pure (.d .none)
  | .str s => M.pure (.d (.str s))
  | .bin o a b => M.bind (evE G ρ a) fun v => M.bind (evE G ρ b) fun w => binop o v w
  | .neg a => M.bind (evE G ρ a) fun v => match v with
    | .d (.int i) => M.pure (.d (.int (-i)))
    | _ => M.stuck
  | .not a => M.bind (evE G ρ a) fun v h => match truth h v with
    | some b => .ok (.d (.bool (!b))) h
    | none => .stuck
  | .and es => evAnd G ρ es
  | .or es => evOr G ρ es
  | .cmp o a b => M.bind (evE G ρ a) fun v => M.bind (evE G ρ b) fun w => cmpop o v w
  | .cmp3 o p a b c => M.bind (evE G ρ a) fun v => M.bind (evE G ρ b) fun w => M.bind (cmpop o v w) fun t => match t with
    | .d (.bool true) => M.bind (evE G ρ c) fun z => cmpop p w z
    | .d (.bool false) => M.pure (.d (.bool false))
    | _ => M.stuck
  | .isN a => M.bind (evE G ρ a) fun v => M.pure (.d (.bool (isNone v)))
  | .notN a => M.bind (evE G ρ a) fun v => M.pure (.d (.bool (!isNone v)))
  | .ite c a b => M.bind (evE G ρ c) fun v h => match truth h v with
    | some true => evE G ρ a h
    | some false => evE G ρ b h
    | none => .stuck
  | .tup es => M.bind (evEs G ρ es) asTup
  | .lst es => M.bind (evEs G ρ es) asLst
  | .lstM es => M.bind (evEs G ρ es) asLstM
  | .call f es => M.bind (evEs G ρ es) fun vs => pcall G f vs
  | .callM f es => M.bind (evEs G ρ es) fun vs => G f vs
  | .callB f es => M.bind (evEs G ρ es) fun vs => bcall G f vs
  | .rngS k a => M.bind (evE G ρ a) fun v => match v with
    | .d (.int i) => rngK k 0 i
    | _ => M.stuck
  | .rngS2 k a b => M.bind (evE G ρ a) fun v => M.bind (evE G ρ b) fun w => match v, w with
    | .d (.int i), .d (.int j) => rngK k i j
    | _, _ => M.stuck
  | .bi b es => M.bind (evEs G ρ es) fun vs => biF b vs
  | .ix a b => M.bind (evE G ρ a) fun v => M.bind (evE G ρ b) fun w => index v w
  | .sl a lo hi => M.bind (evE G ρ a) fun v => M.bind (evO G ρ lo) fun l => M.bind (evO G ρ hi) fun u => slice v l u
  | .lc m elt t it cs own => M.bind (evI G ρ it) fun xs => M.bind (chkLen xs) fun _ => M.bind (noX (mapF (lcF (wipe ρ own) t (fun ρ' => evCs G ρ' cs) (fun ρ' => evE G ρ' elt)) xs)) fun vs => if m then asLstM vs else asLst vs
  | .append l x => M.bind (evE G ρ l) fun v => M.bind (isLst v) fun _ => M.bind (evE G ρ x) fun w => appendM v w
def evO (G : Gc) (ρ : Frame) : Option E → M (Option Int)
  | none => M.pure none
  | some e => M.bind (evE G ρ e) fun v => match v with
    | .d (.int i) => M.pure (some i)
    | _ => M.stuck
def evEs (G : Gc) (ρ : Frame) : List E → M (List MV)
  | [] => M.pure []
  | e :: es => M.bind (evE G ρ e) fun v => M.bind (evEs G ρ es) fun vs => M.pure (v :: vs)
def evAnd (G : Gc) (ρ : Frame) : List E → M MV
  | [] => M.stuck
  | [e] => evE G ρ e
  | e :: es => M.bind (evE G ρ e) fun v => match v with
    | .d (.bool true) => evAnd G ρ es
    | .d (.bool false) => M.pure (.d (.bool false))
    | _ => M.stuck
def evOr (G : Gc) (ρ : Frame) : List E → M MV
  | [] => M.stuck
  | [e] => evE G ρ e
  | e :: es => M.bind (evE G ρ e) fun v => match v with
    | .d (.bool false) => evOr G ρ es
    | .d (.bool true) => M.pure (.d (.bool true))
    | _ => M.stuck
def evCs (G : Gc) (ρ : Frame) : List E → M Bool
  | [] => M.pure true
  | c :: cs => M.bind (evE G ρ c) fun v h => match truth h v with
    | some true => evCs G ρ cs h
    | some false => .ok false h
    | none => .stuck
def evI (G : Gc) (ρ : Frame) : I → M (List MV)
  | .seq e => M.bind (evE G ρ e) fun v => M.ofO (ditems v)
  | .rng1 a => M.bind (evE G ρ a) fun v => match v with
    | .d (.int i) => if small62 i then M.pure (rng 0 i.toNat) else M.stuck
    | _ => M.stuck
  | .rng2 a b => M.bind (evE G ρ a) fun v => M.bind (evE G ρ b) fun w => match v, w with
    | .d (.int i), .d (.int j) => if small62 i && small62 j then M.pure (rng i (j - i).toNat) else M.stuck
    | _, _ => M.stuck
  | .zip a b => M.bind (evE G ρ a) fun v => M.bind (evE G ρ b) fun w => zipI v w
  | .enum a => M.bind (evE G ρ a) fun v => match dits v with
    | some xs => M.pure ((xs.zipIdx).map fun p => .d (.tup [.int p.2, p.1]))
    | none => M.stuck
end
/-- what a handler hands back -/
inductive HE where
  | fld (a : Nat) | isin (k : Nat) | str (s : Str) | none | tup (es : List HE)
mutual
def evH (sub : Nat → Nat → Bool) (c : Nat) (fs : List (Nat × D)) : HE → Option D
  | .fld a => fs.lookup a
  | .isin k => some (.bool (sub c k))
  | .str s => some (.str s)
  | .none => some .none
  | .tup es => (evHs sub c fs es).map .tup
def evHs (sub : Nat → Nat → Bool) (c : Nat) (fs : List (Nat × D)) : List HE → Option (List D)
  | [] => some []
  | e :: es => (evH sub c fs e).bind fun x => (evHs sub c fs es).map (x :: ·)
end
inductive S where
  | asg (t : LHS) (e : E) | expr (e : E) | ret (e : E) | retN | pass | brk | ct
  | ite (c : E) (a b : List S) | wh (c : E) (b : List S) | for_ (t : Tg) (it : I) (b : List S)
  | raise (c : Nat) (es : List E)
  | try_ (b : List S) (c i : Nat) (x : HE)
  | frz (i : Nat)
structure Fn where
  np : Nat
  ns : Nat
  body : List S
structure Prog where
  fn : Nat → Option Fn
  sub : Nat → Nat → Bool
  exF : Nat → List Nat
  exs : List Nat
/-- what follows a statement; a loop's turn -/
def flowK (f : Frame → M Flow) : Flow → M Flow
  | .nx ρ => f ρ
  | fl => M.pure fl
def loopK (f : Frame → M Flow) : Flow → M Flow
  | .nx ρ => f ρ
  | .ct ρ => f ρ
  | .brk ρ => M.pure (.nx ρ)
  | .ret v => M.pure (.ret v)
def forL (t : Tg) (body : Frame → M Flow) : List MV → Frame → M Flow
  | [], ρ => M.pure (.nx ρ)
  | x :: xs, ρ => match bindT t x ρ with
    | none => M.stuck
    | some ρ1 => M.bind (body ρ1) (loopK (forL t body xs))
def whL (c : Frame → M Bool) (body : Frame → M Flow) : Nat → Frame → M Flow
  | 0, _ => M.stuck
  | n + 1, ρ => M.bind (c ρ) fun b => match b with
    | false => M.pure (.nx ρ)
    | true => M.bind (body ρ) (loopK (whL c body n))
def loopFuel : Nat := 2 ^ 20
def truthM (v : MV) : M Bool := fun h => match truth h v with
  | some b => .ok b h
  | none => .stuck
def asgL (G : Gc) (ρ : Frame) (v : MV) : LHS → M Flow
  | .tg t => match bindT t v ρ with
    | some ρ' => M.pure (.nx ρ')
    | none => M.stuck
  | .ix o i => M.bind (evE G ρ o) fun x => M.bind (evE G ρ i) fun j => M.bind (setIx x j v) fun _ => M.pure (.nx ρ)
  | .at_ _ _ => M.stuck
/-- what a try makes of its body's end -/
def tryK (P : Prog) (c i : Nat) (x : HE) (ρ : Frame) : R Flow → R Flow
  | .ok f h => .ok f h
  | .stuck => .stuck
  | .exc (.obj k fs) h => if P.exs.contains k ∧ i < ρ.length then (if k = c then (match evH P.sub k fs x with
      | some y => .ok (.ret (.d y)) h
      | none => .stuck) else if P.sub k c then .stuck else .exc (.obj k fs) h) else .stuck
  | .exc _ _ => .stuck
mutual
def exS (P : Prog) (G : Gc) (ρ : Frame) : S → M Flow
  | .asg t e => M.bind (evE G ρ e) fun v => asgL G ρ v t
  | .expr e => M.bind (evE G ρ e) fun _ => M.pure (.nx ρ)
  | .ret e => M.bind (evE G ρ e) fun v => M.pure (.ret v)
  | .retN => M.pure (.ret (.d .none))
  | .pass => M.pure (.nx ρ)
  | .brk => M.pure (.brk ρ)
  | .ct => M.pure (.ct ρ)
  | .ite c a b => M.bind (M.bind (evE G ρ c) truthM) fun t => if t then exSs P G ρ a else exSs P G ρ b
  | .wh c b => whL (fun ρ' => M.bind (evE G ρ' c) truthM) (fun ρ' => exSs P G ρ' b) loopFuel ρ
  | .for_ t it b => M.bind (evI G ρ it) fun xs => forL t (fun ρ' => exSs P G ρ' b) xs ρ
  | .raise c es => M.bind (evEs G ρ es) fun vs h => match grs vs with
    | some ds => if ds.length = (P.exF c).length then .exc (.obj c ((P.exF c).zip ds)) h else .stuck
    | none => .stuck
  | .try_ b c i x => fun h => tryK P c i x ρ (exSs P G ρ b h)
  | .frz i => fun h => match ρ[i]? with
    | some (some (.ref n)) => match h[n]? with
      | some (.lst xs) => match grs xs with
        | some ds => .ok (.nx (ρ.set i (some (.d (.lst ds))))) (h.set n .dead)
        | none => .stuck
      | _ => .stuck
    | _ => .stuck
def exSs (P : Prog) (G : Gc) (ρ : Frame) : List S → M Flow
  | [] => M.pure (.nx ρ)
  | s :: ss => M.bind (exS P G ρ s) (flowK fun ρ' => exSs P G ρ' ss)
end
def startF (n : Nat) (vs : List MV) : Frame := vs.map some ++ List.replicate (n - vs.length) none
def callF (P : Prog) : Nat → Gc
  | 0 => fun _ _ => M.stuck
  | n + 1 => fun f vs => match P.fn f with
    | none => M.stuck
    | some d => if vs.length = d.np then M.bind (exSs P (callF P n) (startF d.ns vs) d.body) fun fl => match fl with
      | .ret v => M.pure v
      | .nx _ => M.pure (.d .none)
      | _ => M.stuck
      else M.stuck
end Ip

namespace Ip
open PySem PySem.Spec PyProof.Rows L2
abbrev St := L2.St
/-! ### what stands for what -/
mutual
inductive RepD (Φ : Hp) : V → D → Prop
  | none : RepD Φ .non .none
  | bool (b : Bool) : RepD Φ (.bl b) (.bool b)
  | int (i : Int) : RepD Φ (.int i) (.int i)
  | str (s : Str) : RepD Φ (.str s) (.str s)
  | tup {a : Addr} {vs : List V} {xs : List D} : Φ a = some (.tup vs) → RepDs Φ vs xs → RepD Φ (.ref a) (.tup xs)
  | lst {a : Addr} {vs : List V} {xs : List D} : Φ a = some (.lst vs) → RepDs Φ vs xs → RepD Φ (.ref a) (.lst xs)
inductive RepDs (Φ : Hp) : List V → List D → Prop
  | nil : RepDs Φ [] []
  | cons {v : V} {x : D} {vs : List V} {xs : List D} : RepD Φ v x → RepDs Φ vs xs → RepDs Φ (v :: vs) (x :: xs)
end
def Le (Φ Φ' : Hp) : Prop := ∀ a u, Φ a = some u → Φ' a = some u
theorem Le.refl {Φ : Hp} : Le Φ Φ := fun _ _ h => h
theorem Le.trans {Φ Φ1 Φ2 : Hp} (a : Le Φ Φ1) (b : Le Φ1 Φ2) : Le Φ Φ2 := fun x u h => b x u (a x u h)
mutual
theorem RepD.le {Φ Φ' : Hp} (l : Le Φ Φ') : ∀ {v : V} {x : D}, RepD Φ v x → RepD Φ' v x
  | _, _, .none => .none
  | _, _, .bool b => .bool b
  | _, _, .int i => .int i
  | _, _, .str s => .str s
  | _, _, .tup h r => .tup (l _ _ h) (RepDs.le l r)
  | _, _, .lst h r => .lst (l _ _ h) (RepDs.le l r)
theorem RepDs.le {Φ Φ' : Hp} (l : Le Φ Φ') : ∀ {vs : List V} {xs : List D}, RepDs Φ vs xs → RepDs Φ' vs xs
  | _, _, .nil => .nil
  | _, _, .cons a b => .cons (RepD.le l a) (RepDs.le l b)
end
theorem RepDs.len {Φ : Hp} : ∀ {vs : List V} {xs : List D}, RepDs Φ vs xs → vs.length = xs.length
  | _, _, .nil => rfl
  | _, _, .cons _ b => congrArg Nat.succ (RepDs.len b)
def RepV (α : List Addr) (Φ : Hp) : V → MV → Prop
  | v, .d x => RepD Φ v x
  | v, .ref n => ∃ a, α[n]? = some a ∧ v = .ref a
abbrev RepVs (α : List Addr) (Φ : Hp) : List V → List MV → Prop := Paired (RepV α Φ)
theorem RepVs.of {α : List Addr} {Φ : Hp} : ∀ {vs : List V} {xs : List D}, RepDs Φ vs xs → RepVs α Φ vs (xs.map .d)
  | _, _, .nil => .nil
  | _, _, .cons a b => .cons a (RepVs.of b)
theorem RepVs.grs {α : List Addr} {Φ : Hp} : ∀ {ms : List MV} {vs : List V} {xs : List D}, RepVs α Φ vs ms → grs ms = some xs → RepDs Φ vs xs
  | [], _, _, .nil, e => by cases e; exact .nil
  | .d x :: ms, _, xs, .cons a b, e => by
    unfold Ip.grs at e
    cases q : Ip.grs ms with
    | none => rw [q] at e; cases e
    | some ys => rw [q] at e; cases e; exact .cons a (RepVs.grs b q)
  | .ref _ :: _, _, _, _, e => by cases e
def RepO (α : List Addr) (Φ H : Hp) (a : Addr) : MO → Prop
  | .lst xs => Φ a = none ∧ ∃ vs, H a = some (.lst vs) ∧ RepVs α Φ vs xs
  | .dead => True
  | _ => False
/-- what is frozen is there, perhaps locked; an exception's dict is never locked -/
def Rdd (H : Hp) (a : Addr) (u : HO) : Prop := match u with
  | .xd fs => H a = some (.xd fs)
  | u => Rd H a u
theorem Rdd.of {H : Hp} {a : Addr} {u : HO} (h : H a = some u) : Rdd H a u := by
  unfold Rdd; split
  · exact h
  · exact .inl h
theorem Rdd.mono {H H' : Hp} {a : Addr} {u : HO} (r : Rdd H a u) (h : ∀ v, H a = some v → H' a = some v) : Rdd H' a u := by
  unfold Rdd at r ⊢
  split at r
  · exact h _ r
  · rcases r with z | ⟨o, z⟩
    · exact .inl (h _ z)
    · exact .inr ⟨o, h _ z⟩
theorem Rdd.live {H : Hp} {a : Addr} {u : HO} (r : Rdd H a u) : H a ≠ none := by
  unfold Rdd at r
  split at r
  · rw [r]; simp
  · rcases r with z | ⟨o, z⟩ <;> rw [z] <;> simp
structure Rl (α : List Addr) (Φ : Hp) (h : Hm) (H : Hp) : Prop where
  sub : ∀ a u, Φ a = some u → Rdd H a u
  len : α.length = h.length
  inj : ∀ (i j : Nat) (a : Addr), α[i]? = some a → α[j]? = some a → i = j
  live : ∀ a, a ∈ α → H a ≠ none
  obj : ∀ (n : Nat) (a : Addr) (o : MO), α[n]? = some a → h[n]? = some o → RepO α Φ H a o
structure Step (α : List Addr) (Φ H : Hp) (α' : List Addr) (Φ' H' : Hp) : Prop where
  ext : ∃ β, α' = α ++ β ∧ ∀ p ∈ β, H p = none
  le : Le Φ Φ'
  keep : ∀ a u, H a = some u → a ∉ α → H' a = some u
  new : ∀ a u, Φ' a = some u → Φ a = some u ∨ H a = none ∨ a ∈ α
theorem Step.refl {α : List Addr} {Φ H : Hp} : Step α Φ H α Φ H := ⟨⟨[], by simp, by simp⟩, .refl, fun _ _ h _ => h, fun _ _ h => .inl h⟩
theorem Step.at_ {α α' : List Addr} {Φ H Φ' H' : Hp} (s : Step α Φ H α' Φ' H') {n : Nat} {a : Addr} (h : α[n]? = some a) : α'[n]? = some a := by
  obtain ⟨β, rfl, _⟩ := s.ext
  rw [List.getElem?_append_left (List.getElem?_eq_some_iff.mp h).1]
  exact h
theorem Step.mem {α α' : List Addr} {Φ H Φ' H' : Hp} (s : Step α Φ H α' Φ' H') {a : Addr} (h : a ∈ α) : a ∈ α' := by
  obtain ⟨β, rfl, _⟩ := s.ext
  exact List.mem_append_left _ h
theorem RepV.step {α α' : List Addr} {Φ H Φ' H' : Hp} (s : Step α Φ H α' Φ' H') {v : V} {m : MV} (r : RepV α Φ v m) : RepV α' Φ' v m := by
  cases m with
  | d x => exact RepD.le s.le r
  | ref n => obtain ⟨a, e, q⟩ := r; exact ⟨a, s.at_ e, q⟩
theorem RepVs.step {α α' : List Addr} {Φ H Φ' H' : Hp} (s : Step α Φ H α' Φ' H') : ∀ {vs : List V} {ms : List MV}, RepVs α Φ vs ms → RepVs α' Φ' vs ms
  | _, _, .nil => .nil
  | _, _, .cons a b => .cons (a.step s) (RepVs.step s b)
theorem RepVs.len {α : List Addr} {Φ : Hp} {vs : List V} {ms : List MV} (r : RepVs α Φ vs ms) : vs.length = ms.length := Paired.length r
theorem Step.trans {α α1 α2 : List Addr} {Φ Φ1 Φ2 H H1 H2 : Hp} (s : Step α Φ H α1 Φ1 H1) (t : Step α1 Φ1 H1 α2 Φ2 H2) (l : ∀ a, a ∈ α1 → H1 a ≠ none) : Step α Φ H α2 Φ2 H2 := by
  obtain ⟨β, rfl, hβ⟩ := s.ext
  obtain ⟨γ, rfl, hγ⟩ := t.ext
  have bk : ∀ p, H1 p = none → H p = none := fun p e => by
    cases q : H p with
    | none => rfl
    | some u =>
      by_cases hp : p ∈ α
      · exact absurd e (l p (List.mem_append_left _ hp))
      · rw [s.keep p u q hp] at e; cases e
  refine ⟨⟨β ++ γ, by rw [List.append_assoc], fun p hp => ?_⟩, s.le.trans t.le, fun a u e ha => ?_, fun a u e => ?_⟩
  · rcases List.mem_append.mp hp with z | z
    · exact hβ p z
    · exact bk p (hγ p z)
  · refine t.keep a u (s.keep a u e ha) fun z => ?_
    rcases List.mem_append.mp z with z | z
    · exact ha z
    · rw [hβ a z] at e; cases e
  · rcases t.new a u e with z | z | z
    · exact s.new a u z
    · exact .inr (.inl (bk a z))
    · rcases List.mem_append.mp z with z | z
      · exact .inr (.inr z)
      · exact .inr (.inl (hβ a z))
theorem Rl.free {α : List Addr} {Φ H : Hp} {h : Hm} (r : Rl α Φ h H) {p : Addr} (e : H p = none) : Φ p = none ∧ p ∉ α := by
  refine ⟨?_, fun z => r.live p z e⟩
  cases q : Φ p with
  | none => rfl
  | some u =>
    exact absurd e (r.sub p u q).live
theorem RepO.le {α : List Addr} {Φ Φ' H H' : Hp} {a : Addr} {o : MO} (r : RepO α Φ H a o) (l : Le Φ Φ') (e : ∀ u, H a = some u → H' a = some u) (n : Φ a = none → Φ' a = none) : RepO α Φ' H' a o := by
  cases o with
  | lst xs =>
    obtain ⟨h1, vs, h2, h3⟩ := r
    refine ⟨n h1, vs, e _ h2, ?_⟩
    exact Paired.mapP h3 fun v m q => by
      cases m with
      | d x => exact RepD.le l q
      | ref k => exact q
  | dead => trivial
  | dict _ => exact r
  | ins _ _ => exact r
/-- a new object, frozen from the start -/
theorem Rl.lay {α : List Addr} {Φ H : Hp} {h : Hm} (r : Rl α Φ h H) {p : Addr} (e : H p = none) (o : HO) : Rl α (upd Φ p o) h (upd H p o) := by
  obtain ⟨f1, f2⟩ := r.free e
  refine ⟨fun a u q => ?_, r.len, r.inj, fun a ha => ?_, fun n a o' h1 h2 => ?_⟩
  · by_cases z : a = p
    · subst z; rw [upd_same] at q; cases q; exact .of upd_same
    · rw [upd_ne z] at q
      exact (r.sub a u q).mono fun v e => by rw [upd_ne z]; exact e
  · by_cases z : a = p
    · subst z; rw [upd_same]; simp
    · rw [upd_ne z]; exact r.live a ha
  · have z : a ≠ p := fun z => f2 (z ▸ List.mem_of_getElem? h1)
    refine (r.obj n a o' h1 h2).le (fun b u q => ?_) (fun u q => by rw [upd_ne z]; exact q) fun q => by rw [upd_ne z]; exact q
    rw [upd_ne (fun w => by rw [w, f1] at q; cases q)]; exact q
theorem Step.lay {α : List Addr} {Φ H : Hp} {h : Hm} (r : Rl α Φ h H) {p : Addr} (e : H p = none) (o : HO) : Step α Φ H α (upd Φ p o) (upd H p o) := by
  obtain ⟨f1, f2⟩ := r.free e
  refine ⟨⟨[], by simp, by simp⟩, fun a u q => ?_, fun a u q _ => ?_, fun a u q => ?_⟩
  · rw [upd_ne (fun z => by rw [z, f1] at q; cases q)]; exact q
  · rw [upd_ne (fun z => by rw [z, e] at q; cases q)]; exact q
  · by_cases z : a = p
    · subst z; exact .inr (.inl e)
    · rw [upd_ne z] at q; exact .inl q
/-- a new list of the heap -/
theorem Rl.alloc {α : List Addr} {Φ H : Hp} {h : Hm} (r : Rl α Φ h H) {p : Addr} (e : H p = none) {vs : List V} {xs : List MV} (q : RepVs α Φ vs xs) :
    Rl (α ++ [p]) Φ (h ++ [.lst xs]) (upd H p (.lst vs)) ∧ Step α Φ H (α ++ [p]) Φ (upd H p (.lst vs)) := by
  obtain ⟨f1, f2⟩ := r.free e
  have st : Step α Φ H (α ++ [p]) Φ (upd H p (.lst vs)) := by
    refine ⟨⟨[p], rfl, fun a ha => by rw [List.mem_singleton.mp ha]; exact e⟩, .refl, fun a u w _ => ?_, fun a u w => .inl w⟩
    rw [upd_ne (fun z => by rw [z, e] at w; cases w)]; exact w
  refine ⟨⟨fun a u w => ?_, by simp [r.len], fun i j a h1 h2 => ?_, fun a ha => ?_, fun n a o h1 h2 => ?_⟩, st⟩
  · have z : a ≠ p := fun z => by rw [z, f1] at w; cases w
    exact (r.sub a u w).mono fun v e => by rw [upd_ne z]; exact e
  · have key : ∀ i, (α ++ [p])[i]? = some a → (i < α.length ∧ α[i]? = some a) ∨ (i = α.length ∧ a = p) := fun i h1 => by
      by_cases hi : i < α.length
      · rw [List.getElem?_append_left hi] at h1; exact .inl ⟨hi, h1⟩
      · rw [List.getElem?_append_right (by omega)] at h1
        by_cases hz : i - α.length = 0
        · rw [hz] at h1; exact .inr ⟨by omega, (Option.some.inj h1).symm⟩
        · rw [List.getElem?_eq_none (by simp; omega)] at h1; cases h1
    rcases key i h1 with ⟨_, a1⟩ | ⟨a1, a2⟩ <;> rcases key j h2 with ⟨_, b1⟩ | ⟨b1, b2⟩
    · exact r.inj i j a a1 b1
    · subst b2; exact absurd (List.mem_of_getElem? a1) f2
    · subst a2; exact absurd (List.mem_of_getElem? b1) f2
    · omega
  · rcases List.mem_append.mp ha with z | z
    · rw [upd_ne (show a ≠ p from fun w => f2 (w ▸ z))]; exact r.live a z
    · rw [List.mem_singleton.mp z, upd_same]; simp
  · by_cases hn : n < α.length
    · rw [List.getElem?_append_left hn] at h1
      rw [List.getElem?_append_left (by rw [← r.len]; exact hn)] at h2
      have z : a ≠ p := fun z => f2 (z ▸ List.mem_of_getElem? h1)
      have ro := r.obj n a o h1 h2
      cases o with
      | lst ys =>
        obtain ⟨g1, ws, g2, g3⟩ := ro
        exact ⟨g1, ws, by rw [upd_ne z]; exact g2, g3.step st⟩
      | dead => trivial
      | dict _ => exact ro
      | ins _ _ => exact ro
    · rw [List.getElem?_append_right (by omega)] at h1
      rw [List.getElem?_append_right (by rw [← r.len]; omega)] at h2
      have hz : n - α.length = 0 := by
        by_cases hz : n - α.length = 0
        · exact hz
        · rw [List.getElem?_eq_none (by simp; omega)] at h1; cases h1
      rw [hz] at h1
      rw [show n - h.length = 0 by rw [← r.len]; exact hz] at h2
      cases h1; cases h2
      exact ⟨f1, vs, upd_same, q.step st⟩
/-- a list of the heap is written -/
theorem Rl.write {α : List Addr} {Φ H : Hp} {h : Hm} (r : Rl α Φ h H) {n : Nat} {a : Addr} (ha : α[n]? = some a) {vs0 vs : List V} {xs0 xs : List MV} (hx : h[n]? = some (.lst xs0)) (q : RepVs α Φ vs xs) :
    Rl α Φ (h.set n (.lst xs)) (upd H a (.lst vs)) ∧ Step α Φ H α Φ (upd H a (.lst vs)) := by
  obtain ⟨g1, ws, g2, g3⟩ := r.obj n a _ ha hx
  have mem : a ∈ α := List.mem_of_getElem? ha
  refine ⟨⟨fun b u w => ?_, by simp [r.len], r.inj, fun b hb => ?_, fun m b o h1 h2 => ?_⟩, ⟨[], by simp, by simp⟩, .refl, fun b u w hb => ?_, fun b u w => .inl w⟩
  · have z : b ≠ a := fun z => by rw [z, g1] at w; cases w
    exact (r.sub b u w).mono fun v e => by rw [upd_ne z]; exact e
  · by_cases z : b = a
    · subst z; rw [upd_same]; simp
    · rw [upd_ne z]; exact r.live b hb
  · by_cases hm : m = n
    · subst hm
      rw [h1] at ha; cases ha
      rw [List.getElem?_set_self (List.getElem?_eq_some_iff.mp hx).1] at h2
      cases h2
      exact ⟨g1, vs, upd_same, q⟩
    · rw [List.getElem?_set_ne (Ne.symm hm)] at h2
      have z : b ≠ a := fun z => by subst z; exact hm (r.inj _ _ _ h1 ha)
      exact (r.obj m b o h1 h2).le .refl (fun u w => by rw [upd_ne z]; exact w) fun w => w
  · rw [upd_ne (show b ≠ a from fun z => hb (z ▸ mem))]; exact w

/-! ### what is wanted behind a piece -/
structure Sg where
  cA : Nat → Addr
  aN : Nat → Str
def RepX (sg : Sg) (Φ H : Hp) (e : D) (cls : Value) (d : Option Addr) : Prop :=
  ∃ c fs dd vs, e = .obj c fs ∧ cls = .ref (sg.cA c) ∧ d = some dd ∧ Φ dd = some (.xd vs) ∧ ∀ a x, fs.lookup a = some x → ∃ v, vs.lookup (sg.aN a) = some v ∧ RepD Φ v x
def PG {β ν : Type} (sg : Sg) (W : WX) (σ : St) (α : List Addr) (Φ H : Hp) (r : R β) (Rp : List Addr → Hp → ν → β → Prop) (Q : ν → Hp → Prop) : Prop := match r with
  | .ok b h' => ∀ α' Φ' H' x, Step α Φ H α' Φ' H' → Rl α' Φ' h' H' → Rp α' Φ' x b → Q x H'
  | .exc e h' => ∀ α' Φ' H' cls d, Step α Φ H α' Φ' H' → Rl α' Φ' h' H' → RepX sg Φ' H' e cls d → W cls d σ H'
  | .stuck => False
theorem PG.step {β ν : Type} {sg : Sg} {W : WX} {σ : St} {α α1 : List Addr} {Φ H Φ1 H1 : Hp} {h1 : Hm} {r : R β} {Rp : List Addr → Hp → ν → β → Prop} {Q : ν → Hp → Prop}
    (p : PG sg W σ α Φ H r Rp Q) (s : Step α Φ H α1 Φ1 H1) (l : Rl α1 Φ1 h1 H1) : PG sg W σ α1 Φ1 H1 r Rp Q := by
  cases r with
  | ok b h' => exact fun α' Φ' H' x st rl rp => p α' Φ' H' x (s.trans st l.live) rl rp
  | exc e h' => exact fun α' Φ' H' cls d st rl rx => p α' Φ' H' cls d (s.trans st l.live) rl rx
  | stuck => exact p
theorem PG.bind {β γ ν μ : Type} {sg : Sg} {W : WX} {σ : St} {α : List Addr} {Φ H : Hp} {h : Hm} {m : M β} {f : β → M γ} {RpA : List Addr → Hp → ν → β → Prop} {RpB : List Addr → Hp → μ → γ → Prop} {K : ν → Hp → Prop} {Q : μ → Hp → Prop}
    (p : PG sg W σ α Φ H (M.bind m f h) RpB Q)
    (k : ∀ v h1 α1 Φ1 H1 x, m h = .ok v h1 → Step α Φ H α1 Φ1 H1 → Rl α1 Φ1 h1 H1 → RpA α1 Φ1 x v → PG sg W σ α1 Φ1 H1 (f v h1) RpB Q → K x H1) : PG sg W σ α Φ H (m h) RpA K := by
  unfold M.bind at p
  cases e : m h with
  | ok v h1 =>
    rw [e] at p
    intro α1 Φ1 H1 x st rl rp
    exact k v h1 α1 Φ1 H1 x e st rl rp (PG.step p st rl)
  | exc e' h1 => rw [e] at p; exact p
  | stuck => rw [e] at p; exact p
theorem PG.imp {β γ δ ν μ : Type} {sg : Sg} {W : WX} {σ : St} {α : List Addr} {Φ H : Hp} {h : Hm} {m : M β} {f : β → M γ} {g : β → M δ} {RpB : List Addr → Hp → ν → γ → Prop} {RpC : List Addr → Hp → μ → δ → Prop} {Q : ν → Hp → Prop} {Q' : μ → Hp → Prop}
    (p : PG sg W σ α Φ H (M.bind m f h) RpB Q) (k : ∀ v h1, m h = .ok v h1 → PG sg W σ α Φ H (f v h1) RpB Q → PG sg W σ α Φ H (g v h1) RpC Q') : PG sg W σ α Φ H (M.bind m g h) RpC Q' := by
  unfold M.bind at p ⊢
  cases e : m h with
  | ok v h1 => rw [e] at p; exact k v h1 e p
  | exc e' h1 => rw [e] at p; exact p
  | stuck => rw [e] at p; exact p
theorem bind_assoc' {β γ δ : Type} (m : M β) (f : β → M γ) (g : γ → M δ) : M.bind (M.bind m f) g = M.bind m fun v => M.bind (f v) g := by
  funext h
  unfold M.bind
  cases m h <;> rfl
/-- the frame -/
structure Fr (α : List Addr) (Φ : Hp) (ρ : Frame) (σ : St) : Prop where
  len : ρ.length = σ.length
  at_ : ∀ (i : Nat) (m : MV), ρ[i]? = some (some m) → ∃ v, σ[i]? = some (some v) ∧ RepV α Φ v m
theorem Fr.step {α α' : List Addr} {Φ H Φ' H' : Hp} {ρ : Frame} {σ : St} (f : Fr α Φ ρ σ) (s : Step α Φ H α' Φ' H') : Fr α' Φ' ρ σ :=
  ⟨f.len, fun i m e => let ⟨v, h, r⟩ := f.at_ i m e; ⟨v, h, r.step s⟩⟩
theorem Fr.set {α : List Addr} {Φ : Hp} {ρ : Frame} {σ : St} (f : Fr α Φ ρ σ) (i : Nat) {v : V} {m : MV} (r : RepV α Φ v m) : Fr α Φ (ρ.set i (some m)) (σ.set i (some v)) := by
  refine ⟨by simp [f.len], fun j k e => ?_⟩
  by_cases hj : i = j
  · subst hj
    rw [List.getElem?_set] at e
    simp only [if_true] at e
    split at e
    · cases e
      rename_i hl
      exact ⟨v, by rw [List.getElem?_set_self (by rw [← f.len]; exact hl)], r⟩
    · cases e
  · rw [List.getElem?_set_ne hj] at e
    obtain ⟨w, h1, h2⟩ := f.at_ j k e
    exact ⟨w, by rw [List.getElem?_set_ne hj]; exact h1, h2⟩
theorem Fr.unset {α : List Addr} {Φ : Hp} {ρ : Frame} {σ : St} (f : Fr α Φ ρ σ) (i : Nat) : Fr α Φ (ρ.set i none) (σ.set i none) := by
  refine ⟨by simp [f.len], fun j k e => ?_⟩
  by_cases hj : i = j
  · subst hj
    rw [List.getElem?_set] at e
    simp only [if_true] at e
    split at e <;> cases e
  · rw [List.getElem?_set_ne hj] at e
    obtain ⟨w, h1, h2⟩ := f.at_ j k e
    exact ⟨w, by rw [List.getElem?_set_ne hj]; exact h1, h2⟩
theorem Fr.wipe {α : List Addr} {Φ : Hp} {ρ : Frame} {σ : St} (f : Fr α Φ ρ σ) : ∀ vs : List Nat, Fr α Φ (Ip.wipe ρ vs) (L2.wipe σ vs)
  | [] => f
  | v :: vs => by unfold Ip.wipe L2.wipe; exact (Fr.wipe f vs).unset v
/-- a piece's reading -/
def tM {β ν : Type} (sg : Sg) (W : WX) (m : Frame → M β) (Rp : List Addr → Hp → ν → β → Prop) (σ : St) (H : Hp) (Q : ν → Hp → Prop) : Prop :=
  ∃ α Φ ρ h, Rl α Φ h H ∧ Fr α Φ ρ σ ∧ PG sg W σ α Φ H (m ρ h) Rp Q
abbrev tE (sg : Sg) (W : WX) (G : Gc) (c : E) : TE := tM sg W (fun ρ => evE G ρ c) RepV
abbrev tEs (sg : Sg) (W : WX) (G : Gc) (cs : List E) : TA := tM sg W (fun ρ => evEs G ρ cs) RepVs
def tT (sg : Sg) (W : WX) (G : Gc) (c : E) : TT := tM sg W (fun ρ => M.bind (evE G ρ c) truthM) fun _ _ b b' => b = b'
/-- the first part of a bound piece -/
theorem tM.bind {β γ ν μ : Type} {sg : Sg} {W : WX} {m : Frame → M β} {f : Frame → β → M γ} {RpA : List Addr → Hp → ν → β → Prop} {RpB : List Addr → Hp → μ → γ → Prop} {σ : St} {H : Hp} {K : ν → Hp → Prop} {Q : μ → Hp → Prop}
    (t : tM sg W (fun ρ => M.bind (m ρ) (f ρ)) RpB σ H Q)
    (k : ∀ ρ v h1 α1 Φ1 H1 x, Rl α1 Φ1 h1 H1 → Fr α1 Φ1 ρ σ → RpA α1 Φ1 x v → PG sg W σ α1 Φ1 H1 (f ρ v h1) RpB Q → K x H1) : tM sg W m RpA σ H K := by
  obtain ⟨α, Φ, ρ, h, rl, fr, p⟩ := t
  exact ⟨α, Φ, ρ, h, rl, fr, PG.bind p fun v h1 α1 Φ1 H1 x _ st rl1 rp p1 => k ρ v h1 α1 Φ1 H1 x rl1 (fr.step st) rp p1⟩
theorem tM.bindE {β γ ν μ : Type} {sg : Sg} {W : WX} {m : Frame → M β} {f : Frame → β → M γ} {RpA : List Addr → Hp → ν → β → Prop} {RpB : List Addr → Hp → μ → γ → Prop} {σ : St} {H : Hp} {K : ν → Hp → Prop} {Q : μ → Hp → Prop}
    (t : tM sg W (fun ρ => M.bind (m ρ) (f ρ)) RpB σ H Q)
    (k : ∀ ρ v h0 h1 α1 Φ1 H1 x, m ρ h0 = .ok v h1 → Rl α1 Φ1 h1 H1 → Fr α1 Φ1 ρ σ → RpA α1 Φ1 x v → PG sg W σ α1 Φ1 H1 (f ρ v h1) RpB Q → K x H1) : tM sg W m RpA σ H K := by
  obtain ⟨α, Φ, ρ, h, rl, fr, p⟩ := t
  exact ⟨α, Φ, ρ, h, rl, fr, PG.bind p fun v h1 α1 Φ1 H1 x e st rl1 rp p1 => k ρ v h h1 α1 Φ1 H1 x e rl1 (fr.step st) rp p1⟩
theorem PG.okI {β ν : Type} {sg : Sg} {W : WX} {σ : St} {α α' : List Addr} {Φ H Φ' H' : Hp} {b : β} {h' : Hm} {Rp : List Addr → Hp → ν → β → Prop} {Q : ν → Hp → Prop} {x : ν}
    (p : PG sg W σ α Φ H (.ok b h') Rp Q) (st : Step α Φ H α' Φ' H') (rl : Rl α' Φ' h' H') (r : Rp α' Φ' x b) : Q x H' := p α' Φ' H' x st rl r
end Ip
namespace L2
theorem PE.mono {X : Cx} {e : PySem.Expr} {t t' : TE} (h : PE X e t) (f : ∀ σ H Q, t' σ H Q → t σ H Q) : PE X e t' := ⟨fun pins s σ H Q I hw => h.run pins s σ H Q I (f σ H Q hw)⟩
theorem PT.mono {X : Cx} {e : PySem.Expr} {t t' : TT} (h : PT X e t) (f : ∀ σ H Q, t' σ H Q → t σ H Q) : PT X e t' := ⟨fun pins s σ H Q I hw => h.run pins s σ H Q I (f σ H Q hw)⟩
theorem PA.mono {X : Cx} {e : List PySem.Expr} {t t' : TA} (h : PA X e t) (f : ∀ σ H Q, t' σ H Q → t σ H Q) : PA X e t' := ⟨fun pos pins s σ H Q I hw => h.run pos pins s σ H Q I (f σ H Q hw)⟩
theorem PS.mono {X : Cx} {e : PySem.Stmt} {t t' : TS} (h : PS X e t) (f : ∀ D σ H, t' D σ H → t D σ H) : PS X e t' := ⟨fun pins s σ H D I hw => h.run pins s σ H D I (f D σ H hw)⟩
theorem PSs.mono {X : Cx} {e : List PySem.Stmt} {t t' : TS} (h : PSs X e t) (f : ∀ D σ H, t' D σ H → t D σ H) : PSs X e t' := ⟨fun pins s σ H D I hw => h.run pins s σ H D I (f D σ H hw)⟩
end L2

namespace Ip
open PySem PySem.Spec PyProof.Rows L2
/-! ### values, one rule a kind of operation -/
section
variable {sg : Sg} {W : WX} {σ : St} {α : List Addr} {Φ H : Hp} {h : Hm} {Q : VK} {K : PySem.W.Frag}
theorem RepD.iint {v : V} {i : Int} (r : RepD Φ v (.int i)) : v = .int i := by cases r; rfl
theorem RepD.ibool {v : V} {i : Bool} (r : RepD Φ v (.bool i)) : v = .bl i := by cases r; rfl
theorem Rl.seqT (r : Rl α Φ h H) {a : Addr} {vs : List V} (e : Φ a = some (.tup vs)) : SqT K H a vs := .inl (r.sub _ _ e)
theorem Rl.seqL (r : Rl α Φ h H) {a : Addr} {vs : List V} (e : Φ a = some (.lst vs)) : SqL K H a vs := .inl (r.sub _ _ e)
theorem big_line {n : Nat} (h : n ≤ big) : n ≤ sizeLine := Nat.le_trans h (by unfold big; rw [sizeLine_eq]; decide)
/-- a new tuple is the value -/
theorem PG.newTup {xs : List D} {h' : Hm} (p : PG sg W σ α Φ H (.ok (.d (.tup xs)) h') RepV Q) (rl : Rl α Φ h' H) {vs : List V} (rs : RepDs Φ vs xs) {p0 : Addr} (hp : H p0 = none) : Q (.ref p0) (upd H p0 (.tup vs)) :=
  p α (upd Φ p0 (.tup vs)) _ _ (.lay rl hp _) (rl.lay hp _) (RepD.tup upd_same (RepDs.le (Step.lay rl hp (.tup vs)).le rs))
theorem PG.newLst {xs : List D} {h' : Hm} (p : PG sg W σ α Φ H (.ok (.d (.lst xs)) h') RepV Q) (rl : Rl α Φ h' H) {vs : List V} (rs : RepDs Φ vs xs) {p0 : Addr} (hp : H p0 = none) : Q (.ref p0) (upd H p0 (.lst vs)) :=
  p α (upd Φ p0 (.lst vs)) _ _ (.lay rl hp _) (rl.lay hp _) (RepD.lst upd_same (RepDs.le (Step.lay rl hp (.lst vs)).le rs))
theorem PG.same {β ν : Type} {b : β} {x : ν} {Rp : List Addr → Hp → ν → β → Prop} {Q : ν → Hp → Prop} (p : PG sg W σ α Φ H (.ok b h) Rp Q) (rl : Rl α Φ h H) (r : Rp α Φ x b) : Q x H := p α Φ H x .refl rl r
theorem RepDs.app {Φ : Hp} : ∀ {vs ws : List V} {xs ys : List D}, RepDs Φ vs xs → RepDs Φ ws ys → RepDs Φ (vs ++ ws) (xs ++ ys)
  | _, _, _, _, .nil, b => b
  | _, _, _, _, .cons a r, b => .cons a (RepDs.app r b)
theorem RepDs.take {Φ : Hp} : ∀ (n : Nat) {vs : List V} {xs : List D}, RepDs Φ vs xs → RepDs Φ (vs.take n) (xs.take n)
  | 0, _, _, _ => .nil
  | n + 1, _, _, .nil => .nil
  | n + 1, _, _, .cons a r => .cons a (RepDs.take n r)
theorem RepDs.drop {Φ : Hp} : ∀ (n : Nat) {vs : List V} {xs : List D}, RepDs Φ vs xs → RepDs Φ (vs.drop n) (xs.drop n)
  | 0, _, _, r => r
  | n + 1, _, _, .nil => .nil
  | n + 1, _, _, .cons a r => RepDs.drop n r
theorem RepDs.nil_iff {Φ : Hp} {vs : List V} {xs : List D} (r : RepDs Φ vs xs) : vs = [] ↔ xs = [] := by cases r <;> simp
theorem RepVs.nil_iff {vs : List V} {xs : List MV} (r : RepVs α Φ vs xs) : vs.isEmpty = xs.isEmpty := by cases r <;> rfl
/-- arithmetic -/
def opC : Op → Operator
  | .add => .Add | .sub => .Sub | .mul => .Mult | .fdiv => .FloorDiv | .mod => .Mod | .pow => .Pow
def rAr (K : PySem.W.Frag) : Op → R2
  | .add => fun x y H Q => rI0 (fun i j => .int (i + j)) x y H Q ∨ rCatA K x y H Q
  | .sub => rI0 fun i j => .int (i - j)
  | .mul => fun x y H Q => rI CMul (fun i j => .int (i * j)) x y H Q ∨ rI CMulW (fun i j => .int (i * j)) x y H Q
  | .fdiv => rI CDivW fun i j => .int (i / j)
  | .mod => rI (fun _ j => 0 < j) fun i j => .int (i % j)
  | .pow => rI CPow fun i j => .int (i ^ j.toNat)
theorem op_ar {X : Cx} (o : Op) : OpR X (binaryOp (opC o)) (rAr X.K o) := by
  cases o with
  | add => exact op_add.or op_catA
  | sub => exact op_sub
  | mul => exact op_mul.or op_mulW
  | fdiv => exact op_fdivW
  | mod => exact op_mod
  | pow => exact op_pow
theorem v_bin {o : Op} {v w : MV} {x y : V} (rl : Rl α Φ h H) (rx : RepV α Φ x v) (ry : RepV α Φ y w) (p : PG sg W σ α Φ H (binop o v w h) RepV Q) : rAr K o x y H Q := by
  unfold binop at p
  split at p
  · rename_i i j
    cases rx.iint; cases ry.iint
    have fin : ∀ k, ar o i j = some k → Q (.int k) H := fun k e => by
      rw [e] at p
      exact PG.same p rl (RepD.int k)
    cases o with
    | add => exact .inl ⟨i, j, rfl, rfl, fin _ rfl⟩
    | sub => exact ⟨i, j, rfl, rfl, fin _ rfl⟩
    | mul =>
      by_cases hm : mulOk i j = true
      · have q := fin (i * j) (if_pos hm)
        unfold mulOk at hm
        simp only [Bool.or_eq_true, decide_eq_true_eq] at hm
        rcases hm with (hm | hm) | hm
        · exact .inl ⟨i, j, rfl, rfl, .inl (by omega), q⟩
        · exact .inl ⟨i, j, rfl, rfl, .inr (by omega), q⟩
        · exact .inr ⟨i, j, rfl, rfl, hm, q⟩
      · have e : ar .mul i j = none := if_neg hm
        rw [e] at p; exact p.elim
    | fdiv =>
      by_cases hm : 0 < j ∧ j.natAbs.log2 < 9000
      · exact ⟨i, j, rfl, rfl, hm, fin (i / j) (if_pos hm)⟩
      · have e : ar .fdiv i j = none := if_neg hm
        rw [e] at p; exact p.elim
    | mod =>
      by_cases hm : 0 < j
      · exact ⟨i, j, rfl, rfl, hm, fin (i % j) (if_pos hm)⟩
      · have e : ar .mod i j = none := if_neg hm
        rw [e] at p; exact p.elim
    | pow =>
      by_cases hm : 0 ≤ j ∧ j ≤ 1000 ∧ i.natAbs < 2 ^ 64
      · exact ⟨i, j, rfl, rfl, ⟨hm.1, by omega, hm.2.2⟩, fin (i ^ j.toNat) (if_pos hm)⟩
      · have e : ar .pow i j = none := if_neg hm
        rw [e] at p; exact p.elim
  · rename_i xs ys
    split at p
    · rename_i hc
      obtain ⟨rfl, hz⟩ := hc
      cases rx with
      | tup ea ra =>
        cases ry with
        | tup eb rb =>
          refine .inr ⟨_, _, _, _, rfl, rfl, rl.seqT ea, rl.seqT eb, big_line (by rw [ra.len, rb.len]; exact hz), fun e => ?_, fun _ e => ?_, fun _ _ p0 hp => ?_⟩
          · rw [ra.nil_iff.mp e] at p
            exact PG.same p rl (RepD.tup eb rb)
          · rw [rb.nil_iff.mp e, List.append_nil] at p
            exact PG.same p rl (RepD.tup ea ra)
          · exact PG.newTup p rl (ra.app rb) hp
    · exact p.elim
  · exact p.elim
/-! comparisons -/
mutual
def py : D → PyData
  | .none => .none
  | .bool b => .bool b
  | .int i => .int i
  | .str s => .str s
  | .tup xs => .tuple (pys xs)
  | .lst xs => .list (pys xs)
  | .dict _ => .dict []
  | .obj _ _ => .dict []
def pys : List D → List PyData
  | [] => []
  | x :: xs => py x :: pys xs
end
mutual
theorem RepD.dp (s : ∀ a u, Φ a = some u → Rdd H a u) : ∀ {v : V} {x : D}, RepD Φ v x → Dp K H v (py x)
  | _, _, .none => .non
  | _, _, .bool b => .bl b
  | _, _, .int i => .int i
  | _, _, .str x => .str x
  | _, _, .tup e r => .tup (.inl (s _ _ e)) (RepDs.dp s r)
  | _, _, .lst e r => .lst (.inl (s _ _ e)) (RepDs.dp s r)
theorem RepDs.dp (s : ∀ a u, Φ a = some u → Rdd H a u) : ∀ {vs : List V} {xs : List D}, RepDs Φ vs xs → DpAll K H vs (pys xs)
  | _, _, .nil => .nil
  | _, _, .cons a b => .cons (RepD.dp s a) (RepDs.dp s b)
end
mutual
theorem pl_ok : ∀ (x : D) (n : Nat), pl x n = true → (py x).canLay0 = true ∧ (py x).depth ≤ n
  | .none, n, _ => by simp [py, PyData.canLay0, PyData.depth]
  | .int _, n, _ => by simp [py, PyData.canLay0, PyData.depth]
  | .bool _, n, h => by simp [pl] at h
  | .str x, n, h => by
    refine ⟨?_, by simp [py, PyData.depth]⟩
    simp only [py, PyData.canLay0]
    simp only [pl] at h
    exact h
  | .tup xs, 0, h => by simp [pl] at h
  | .tup xs, n + 1, h => by
    have q := pls_ok xs n (by simpa [pl] using h)
    simp only [py, PyData.canLay0, PyData.depth]
    exact ⟨q.1, by omega⟩
  | .lst xs, 0, h => by simp [pl] at h
  | .lst xs, n + 1, h => by
    have q := pls_ok xs n (by simpa [pl] using h)
    simp only [py, PyData.canLay0, PyData.depth]
    exact ⟨q.1, by omega⟩
  | .dict _, n, h => by simp [pl] at h
  | .obj _ _, n, h => by simp [pl] at h
theorem pls_ok : ∀ (xs : List D) (n : Nat), pls xs n = true → PyData.canLayAll0 (pys xs) = true ∧ PyData.depthAll (pys xs) ≤ n
  | [], n, _ => by simp [pys, PyData.canLayAll0, PyData.depthAll]
  | x :: xs, n, h => by
    simp only [pls, Bool.and_eq_true] at h
    have a := pl_ok x n h.1
    have b := pls_ok xs n h.2
    simp only [pys, PyData.canLayAll0, PyData.depthAll, a.1, b.1, Bool.and_self, true_and]
    omega
end
mutual
theorem deq_eqv : ∀ (x y : D) (n m : Nat), pl x n = true → pl y m = true → PyData.eqv (py x) (py y) = deq x y
  | .none, y, n, m, _, h => by cases y <;> first | (exfalso; simp [pl] at h; done) | (simp [py, PyData.eqv, deq]; done)
  | .bool _, y, n, m, h, _ => by simp [pl] at h
  | .int i, y, n, m, _, h => by
    cases y <;> first | (exfalso; simp [pl] at h; done) | (simp [py, PyData.eqv, deq]; done) | (simp only [py, PyData.eqv, deq]; first | exact Bool.beq_eq_decide_eq _ _ | rfl)
  | .str s, y, n, m, _, h => by
    cases y <;> first | (exfalso; simp [pl] at h; done) | (simp [py, PyData.eqv, deq]; done) | (simp only [py, PyData.eqv, deq]; first | exact Bool.beq_eq_decide_eq _ _ | rfl)
  | .tup xs, y, n, m, hx, h => by
    cases y with
    | tup ys =>
      cases n with
      | zero => simp [pl] at hx
      | succ n =>
        cases m with
        | zero => simp [pl] at h
        | succ m =>
          simp only [py, PyData.eqv, deq]
          exact deqs_eqv xs ys n m (by simpa [pl] using hx) (by simpa [pl] using h)
    | _ => first | (exfalso; simp [pl] at h; done) | (simp [py, PyData.eqv, deq]; done)
  | .lst xs, y, n, m, hx, h => by
    cases y with
    | lst ys =>
      cases n with
      | zero => simp [pl] at hx
      | succ n =>
        cases m with
        | zero => simp [pl] at h
        | succ m =>
          simp only [py, PyData.eqv, deq]
          exact deqs_eqv xs ys n m (by simpa [pl] using hx) (by simpa [pl] using h)
    | _ => first | (exfalso; simp [pl] at h; done) | (simp [py, PyData.eqv, deq]; done)
  | .dict _, y, n, m, h, _ => by simp [pl] at h
  | .obj _ _, y, n, m, h, _ => by simp [pl] at h
theorem deqs_eqv : ∀ (xs ys : List D) (n m : Nat), pls xs n = true → pls ys m = true → PyData.eqvAll (pys xs) (pys ys) = deqs xs ys
  | [], [], _, _, _, _ => by simp [pys, PyData.eqvAll, deqs]
  | [], _ :: _, _, _, _, _ => by simp [pys, PyData.eqvAll, deqs]
  | _ :: _, [], _, _, _, _ => by simp [pys, PyData.eqvAll, deqs]
  | x :: xs, y :: ys, n, m, h1, h2 => by
    simp only [pls, Bool.and_eq_true] at h1 h2
    simp only [pys, PyData.eqvAll, deqs, deq_eqv x y n m h1.1 h2.1, deqs_eqv xs ys n m h1.2 h2.2]
end
theorem pl_shaped {x : D} (h : pl x 60 = true) : SeqAt.shaped (py x) = true := by
  obtain ⟨a, b⟩ := pl_ok x 60 h
  unfold SeqAt.shaped
  rw [a]
  simp only [Bool.true_and, decide_eq_true_eq]
  omega
def cmC : Cm → CmpOp
  | .lt => .Lt | .le => .LtE | .gt => .Gt | .ge => .GtE | .eq => .Eq | .ne => .NotEq
def rCm (K : PySem.W.Frag) : Cm → R2
  | .lt => rI0 fun i j => .bl (decide (i < j))
  | .le => rI0 fun i j => .bl (decide (i ≤ j))
  | .gt => rI0 fun i j => .bl (decide (j < i))
  | .ge => rI0 fun i j => .bl (decide (j ≤ i))
  | .eq => fun x y H Q => rEq x y H Q ∨ rEqD K x y H Q
  | .ne => fun x y H Q => rNe x y H Q ∨ rNeD K x y H Q
theorem op_cm {X : Cx} (o : Cm) (hu : X.A.units + 64 < cLine) : OpR X (compareOp (cmC o)) (rCm X.K o) := by
  cases o with
  | lt => exact op_lt
  | le => exact op_le
  | gt => exact op_gt
  | ge => exact op_ge
  | eq => exact op_eq.or (op_eqD hu)
  | ne => exact op_ne.or (op_neD hu)
/-- what a value is as data: itself, or the list that stands at it -/
theorem RepV.dat {v : MV} {x : V} {d : D} (rl : Rl α Φ h H) (r : RepV α Φ x v) (e : hdat h v = some d) : Dp K H x (py d) ∧ (∀ i, d = .int i → x = .int i) ∧ (∀ b, d = .bool b → x = .bl b) := by
  unfold hdat hard1 at e
  cases v with
  | d d0 =>
    cases e
    refine ⟨RepD.dp rl.sub r, fun i z => ?_, fun i z => ?_⟩
    · subst z; exact RepD.iint r
    · subst z; exact RepD.ibool r
  | ref n =>
    obtain ⟨a, ea, rfl⟩ := r
    simp only at e
    split at e
    · rename_i xs eh
      obtain ⟨g1, vs, g2, g3⟩ := rl.obj n a _ ea eh
      cases q : Ip.grs xs with
      | none => rw [q] at e; cases e
      | some ys =>
        rw [q] at e; cases e
        exact ⟨.lst (.of g2) (RepDs.dp rl.sub (RepVs.grs g3 q)), (fun _ z => by cases z), (fun _ z => by cases z)⟩
    · cases e
theorem v_cmp {o : Cm} {v w : MV} {x y : V} (rl : Rl α Φ h H) (rx : RepV α Φ x v) (ry : RepV α Φ y w) (p : PG sg W σ α Φ H (cmpop o v w h) RepV Q) : rCm K o x y H Q := by
  unfold cmpop at p
  split at p
  · rename_i d e ed ee
    obtain ⟨dx, ix, bx⟩ := RepV.dat (K := K) rl rx ed
    obtain ⟨dy, iy, by_⟩ := RepV.dat (K := K) rl ry ee
    split at p
    · rename_i b eb
      have fin : Q (.bl b) H := PG.same p rl (RepD.bool b)
      unfold cmpD at eb
      split at eb
      · rename_i i j
        have e1 := ix i rfl
        have e2 := iy j rfl
        subst e1 e2
        cases eb
        cases o with
        | lt => exact ⟨i, j, rfl, rfl, fin⟩
        | le => exact ⟨i, j, rfl, rfl, fin⟩
        | gt => exact ⟨i, j, rfl, rfl, fin⟩
        | ge => exact ⟨i, j, rfl, rfl, fin⟩
        | eq => exact .inl ⟨rfl, by simpa [ci] using fin⟩
        | ne => exact .inl ⟨rfl, by simpa [ci] using fin⟩
      · rename_i i j
        have e1 := bx i rfl
        have e2 := by_ j rfl
        subst e1 e2
        have hd : ∀ c d : Bool, decide (V.bl c = V.bl d) = (c == d) := by intro c d; cases c <;> cases d <;> rfl
        cases o with
        | eq => simp at eb; subst eb; exact .inl ⟨rfl, by rw [hd]; exact fin⟩
        | ne =>
          simp at eb; subst eb
          refine .inl ⟨rfl, ?_⟩
          rw [hd]
          have e3 : (!(i == j)) = (i != j) := rfl
          rw [e3]; exact fin
        | lt => simp at eb
        | le => simp at eb
        | gt => simp at eb
        | ge => simp at eb
      · split at eb
        · rename_i hp
          rw [Bool.and_eq_true] at hp
          have ev := deq_eqv d e 60 60 hp.1 hp.2
          cases o with
          | eq => simp at eb; subst eb; exact .inr ⟨_, _, dx, dy, pl_shaped hp.1, pl_shaped hp.2, by rw [ev]; exact fin⟩
          | ne =>
            have eb' : (!deq d e) = b := by simpa using eb
            subst eb'
            exact .inr ⟨_, _, dx, dy, pl_shaped hp.1, pl_shaped hp.2, by rw [ev]; exact fin⟩
          | lt => simp at eb
          | le => simp at eb
          | gt => simp at eb
          | ge => simp at eb
        · cases eb
    · exact p.elim
  · exact p.elim
end
end Ip

namespace Ip
open PySem PySem.Spec PyProof.Rows L2
section
variable {prog : Program} {w : World} {A : Around} {Ex : Value → Shared → Prop} {s : Shared} {l : Addr} {its : List Value} {ns : List Int} {Q : Value → Shared → Prop}
/-- sum of a tuple of ints -/
theorem sum_tupI (hh : A.handled = none) (hl : s.heap.IsTuple l its.toArray) (hi : IntsAre its ns)
    (fin : ∀ h' tk t', (∀ b o, s.heap.get? b = some o → h'.get? b = some o) → Q (.int ns.sum t') { s with heap := h', toks := tk }) :
    wpAny (model prog w) A (call (.builtin "sum") [.ref l]) Q Ex s := by
  obtain ⟨xs, ex⟩ := hi.allInts.items
  have en : numsOf (intItems xs).toList = ns := (congrArg (fun a => numsOf a.toList) ex.symm).trans (by simpa using hi.numsOf)
  rw [nums_intItems] at en
  rw [ex] at hl
  have lt : l < s.heap.objs.size := let ⟨_, e, _⟩ := hl; Heap.lt_size e
  refine call_sum_walkG (wpAny_pyIter_tuple hl ?_)
  refine ⟨_, [s.heap.objs.size, l], [s.heap.objs.size], (intItems xs).size, _, _, numAt xs, rfl, Walks.tuple (A := A.in1) hh _ l (Nat.ne_of_lt lt) (intItems xs),
    ⟨⟨_, Heap.get?_push_size _ rfl, rfl, rfl⟩, hl.push _⟩, fun b hb => ?_, fun _ _ => intItems_at, fun h' tk t' hk => ?_⟩
  · show b < (s.heap.push _).objs.size
    rw [Heap.size_push]
    rcases List.mem_cons.mp hb with e | hb
    · rw [e]; exact Nat.lt_succ_self _
    · rw [List.mem_singleton.mp hb]; exact Nat.lt_succ_of_lt lt
  · have done := fin h' tk t' fun b o eb => hk b o (fun hm => by
        have z := Heap.lt_size eb
        rw [List.mem_singleton.mp hm] at z
        exact Nat.lt_irrefl _ z) (Heap.get?_push_of_some _ eb)
    have es : preSum (numAt xs) (intItems xs).size = ns.sum := by
      rw [preSum_eq, List.take_of_length_le (by simp [intItems]), en]
    rw [es]
    exact done
end
/-! ### the values' side of the built-ins -/
section
variable {X : Cx}
def rSumT (K : PySem.W.Frag) : List V → Hp → VK → Prop := fun vs H Q => ∃ (a : Addr) (ns : List Int), vs = [V.ref a] ∧ SqT K H a (ns.map V.int) ∧ Q (.int ns.sum) H
theorem cr_sumT (hc : X.calm = true) : CallR X (.builtin "sum") (rSumT X.K) := by
  intro pins s σ H vs us Q I r h
  obtain ⟨a, ns, rfl, hs, q⟩ := h
  obtain ⟨its, rv, hl, _⟩ := I.tuple hs
  rw [Vals.ref1 r]
  exact sum_tupI (I.ok.hd hc) hl rv.ints fun h' tk t' hk => ⟨.int _, H, I.kept hk, ⟨_, rfl⟩, q⟩
def tyN : Bi → String
  | .isBool => "bool" | .isInt => "int" | .isStr => "str" | .isTup => "tuple" | .isList => "list" | _ => ""
/-- what each built-in is asked -/
def rBi (K : PySem.W.Frag) : Bi → List V → Hp → VK → Prop
  | .len => fun xs H Q => ∃ x n, xs = [x] ∧ LenV K x H n ∧ Q (.int n) H
  | .sum => fun xs H Q => rSum K xs H Q ∨ rSumT K xs H Q
  | .min2 => fun xs H Q => ∃ i j, xs = [.int i, .int j] ∧ Q (.int (if j < i then j else i)) H
  | .max2 => fun xs H Q => ∃ i j, xs = [.int i, .int j] ∧ Q (.int (if j > i then j else i)) H
  | .abs => fun xs H Q => ∃ i, xs = [.int i] ∧ Q (.int (if i < 0 then -i else i)) H
  | .int => fun xs H Q => (∃ i, xs = [.int i] ∧ Q (.int i) H) ∨ ∃ k, xs = [.bl k] ∧ Q (.int (if k then 1 else 0)) H
  | .tuple => fun xs H Q => ∃ p ys, xs = [.ref p] ∧ ((SqL K H p ys ∧ ∀ l, H l = none → Q (.ref l) (upd H l (.tup ys))) ∨ (SqT K H p ys ∧ Q (.ref p) H))
  | .list => fun xs H Q => ∃ p ys, xs = [.ref p] ∧ (SqL K H p ys ∨ SqT K H p ys) ∧ ∀ l, H l = none → Q (.ref l) (upd H l (.lst ys))
  | b => fun xs H Q => rIsi K (xs ++ [.ty (tyN b)]) H Q
def bName : Bi → Str
  | .len => "len" | .sum => "sum" | .min2 => "min" | .max2 => "max" | .abs => "abs" | .int => "int" | .tuple => "tuple" | .list => "list" | _ => "isinstance"
def isIsi : Bi → Bool
  | .isBool | .isInt | .isStr | .isTup | .isList => true
  | _ => false
def bVal : Bi → Value
  | .len => .builtin "len" | .sum => .builtin "sum" | .min2 => .builtin "min" | .max2 => .builtin "max" | .abs => .builtin "abs" | .int => .type "int" | .tuple => .type "tuple" | .list => .type "list" | _ => .builtin "isinstance"
theorem cr_bi (hc : X.calm = true) (b : Bi) (hb : isIsi b = false) : CallR X (bVal b) (rBi X.K b) := by
  cases b <;> first | (simp [isIsi] at hb; done) | skip
  · exact call_len
  · exact (cr_sum hc).or (cr_sumT hc)
  · exact call_min2 hc
  · exact call_max2 hc
  · exact call_abs
  · exact call_int1
  · exact call_tuple_of
  · exact call_list_of
end
section
variable {sg : Sg} {W : WX} {σ : St} {α : List Addr} {Φ H : Hp} {h : Hm} {Q : VK} {K : PySem.W.Frag}
theorem RepDs.ints {vs : List V} {ys : List Int} : ∀ {xs : List D}, RepDs Φ vs xs → intsOf (xs.map .d) = some ys → vs = ys.map V.int := by
  intro xs r
  induction xs generalizing vs ys with
  | nil => cases r; intro e; cases e; rfl
  | cons x xs ih =>
    cases r with
    | cons a b =>
      intro e
      cases x with
      | int i =>
        simp only [List.map_cons, intsOf] at e
        cases q : intsOf (xs.map MV.d) with
        | none => rw [q] at e; cases e
        | some zs => rw [q] at e; cases e; rw [a.iint, ih b q]; rfl
      | _ => simp [intsOf] at e
theorem RepVs.ints {ms : List MV} : ∀ {vs : List V} {ys : List Int}, RepVs α Φ vs ms → intsOf ms = some ys → vs = ys.map V.int := by
  induction ms with
  | nil => intro vs ys r e; cases r; cases e; rfl
  | cons m ms ih =>
    intro vs ys r e
    cases r with
    | cons a b =>
      cases m with
      | d x =>
        cases x with
        | int i =>
          simp only [intsOf] at e
          cases q : intsOf ms with
          | none => rw [q] at e; cases e
          | some zs => rw [q] at e; cases e; rw [RepD.iint a, ih b q]; rfl
        | _ => simp [intsOf] at e
      | ref n => simp [intsOf] at e
/-- what a sequence's items are -/
theorem RepV.items {v : MV} {x : V} {ms : List MV} (rl : Rl α Φ h H) (r : RepV α Φ x v) (e : items h v = some ms) :
    ∃ a vs, x = .ref a ∧ (SqL K H a vs ∨ SqT K H a vs) ∧ RepVs α Φ vs ms := by
  cases v with
  | d d0 =>
    cases d0 with
    | tup xs => cases e; cases r with | tup ea ra => exact ⟨_, _, rfl, .inr (rl.seqT ea), .of ra⟩
    | lst xs => cases e; cases r with | lst ea ra => exact ⟨_, _, rfl, .inl (rl.seqL ea), .of ra⟩
    | _ => cases e
  | ref n =>
    obtain ⟨a, ea, rfl⟩ := r
    simp only [Ip.items] at e
    split at e
    · rename_i xs eh
      cases e
      obtain ⟨g1, vs, g2, g3⟩ := rl.obj n a _ ea eh
      exact ⟨a, vs, rfl, .inl (.of g2), g3⟩
    · cases e
theorem ixN_lt {n : Nat} {i : Int} {j : Nat} (e : Ip.ixN n i = some j) : j < n := by
  unfold Ip.ixN at e
  split at e
  · split at e
    · cases e; omega
    · cases e
  · split at e
    · cases e; omega
    · cases e
theorem RepVs.at_ {vs : List V} {ms : List MV} (r : RepVs α Φ vs ms) {j : Nat} {m : MV} (e : ms[j]? = some m) : ∃ v, vs[j]? = some v ∧ RepV α Φ v m := by
  induction ms generalizing vs j with
  | nil => simp at e
  | cons m' ms ih =>
    cases r with
    | cons a b =>
      cases j with
      | zero => simp at e; subst e; exact ⟨_, rfl, a⟩
      | succ j => simpa using ih b (by simpa using e)
theorem v_index {v w : MV} {x y : V} (rl : Rl α Φ h H) (rx : RepV α Φ x v) (ry : RepV α Φ y w) (p : PG sg W σ α Φ H (index v w h) RepV Q) : rIx K x y H Q := by
  unfold index at p
  cases ei : items h v with
  | none => simp only [ei] at p; exact p.elim
  | some ms =>
    obtain ⟨a, vs, rfl, hs, rs⟩ := RepV.items (K := K) rl rx ei
    cases w with
    | ref n => simp only [ei] at p; exact p.elim
    | d dw =>
      cases dw with
      | int i =>
        cases RepD.iint ry
        cases em : Ip.atI ms i with
        | none => simp only [ei, em] at p; exact p.elim
        | some m =>
          simp only [ei, em] at p
          unfold Ip.atI at em
          cases q : Ip.ixN ms.length i with
          | none => rw [q] at em; cases em
          | some j =>
            rw [q] at em
            obtain ⟨z, h1, h2⟩ := rs.at_ em
            have e2 : L2.atI vs i = some z := by
              unfold L2.atI
              have : L2.ixN vs.length i = some j := by rw [rs.len]; exact q
              rw [this]; exact h1
            have fin := PG.same p rl h2
            rcases hs with hs | hs
            · exact .inl ⟨a, vs, i, z, rfl, rfl, hs, e2, fin⟩
            · exact .inr (.inl ⟨a, vs, i, z, rfl, rfl, hs, e2, fin⟩)
      | _ => simp only [ei] at p; exact p.elim
def rSlc (K : PySem.W.Frag) : V → Option Int → Option Int → Hp → VK → Prop := fun x lo hi H Q => rSlA K x lo hi H Q ∨ rSlL K x lo hi H Q
theorem sIx_eq (n d : Nat) (o : Option Int) : Ip.sIx n d o = HT.sIx n d o := by cases o <;> rfl
theorem cut_len {β γ : Type} {xs : List β} {ys : List γ} (e : xs.length = ys.length) (lo hi : Option Int) : HT.sIx xs.length 0 lo = Ip.sIx ys.length 0 lo ∧ HT.sIx xs.length xs.length hi = Ip.sIx ys.length ys.length hi := by
  rw [e, sIx_eq, sIx_eq]; exact ⟨rfl, rfl⟩
theorem RepDs.cut {vs : List V} {xs : List D} (r : RepDs Φ vs xs) (lo hi : Option Int) : RepDs Φ (cutV vs lo hi) (Ip.cut xs lo hi) := by
  unfold cutV Ip.cut
  obtain ⟨e1, e2⟩ := cut_len r.len lo hi
  rw [e1, e2]
  exact (r.drop _).take _
theorem v_slice {v : MV} {x : V} {lo hi : Option Int} (rl : Rl α Φ h H) (rx : RepV α Φ x v) (p : PG sg W σ α Φ H (slice v lo hi h) RepV Q) : rSlc K x lo hi H Q := by
  cases v with
  | ref n => exact p.elim
  | d dv =>
    cases dv with
    | tup xs =>
      have p : PG sg W σ α Φ H (.ok (.d (.tup (Ip.cut xs lo hi))) h) RepV Q := p
      cases rx with
      | @tup a vs _ ea ra =>
        refine .inl ⟨a, vs, rfl, rl.seqT ea, fun hw => ?_, fun _ p0 hp => PG.newTup p rl (ra.cut lo hi) hp⟩
        have e : Ip.cut xs lo hi = xs := by
          unfold Ip.cut
          obtain ⟨e1, e2⟩ := cut_len ra.len lo hi
          rw [e1, e2, ra.len] at hw
          rw [hw.1, hw.2]
          simp
        rw [e] at p
        exact PG.same p rl (RepD.tup ea ra)
    | lst xs =>
      have p : PG sg W σ α Φ H (.ok (.d (.lst (Ip.cut xs lo hi))) h) RepV Q := p
      cases rx with
      | @lst a vs _ ea ra => exact .inr ⟨a, vs, rfl, rl.seqL ea, fun p0 hp => PG.newLst p rl (ra.cut lo hi) hp⟩
    | _ => exact p.elim
theorem RepV.litems {v : MV} {x : V} {ms : List MV} (rl : Rl α Φ h H) (r : RepV α Φ x v) (e : litems h v = some ms) :
    ∃ a vs, x = .ref a ∧ SqL K H a vs ∧ RepVs α Φ vs ms := by
  cases v with
  | d d0 =>
    cases d0 with
    | lst xs => cases e; cases r with | lst ea ra => exact ⟨_, _, rfl, rl.seqL ea, .of ra⟩
    | _ => cases e
  | ref n =>
    obtain ⟨a, ea, rfl⟩ := r
    simp only [Ip.litems] at e
    split at e
    · rename_i xs eh
      cases e
      obtain ⟨g1, vs, g2, g3⟩ := rl.obj n a _ ea eh
      exact ⟨a, vs, rfl, .of g2, g3⟩
    · cases e
theorem v_isi {b : Bi} {x : V} {d : D} (hb : isIsi b = true) (rl : Rl α Φ h H) (r : RepD Φ x d) : ∃ t c, TyX K H x t ∧ PySem.W.kitOne K t (.type (tyN b)) = some c ∧ biF b [.d d] h = .ok (.d (.bool c)) h := by
  cases r with
  | none => cases b <;> first | (simp [isIsi] at hb; done) | exact ⟨_, _, .base .non, kit_ty (r := false) (by decide +kernel), rfl⟩
  | bool c => cases b <;> first | (simp [isIsi] at hb; done) | exact ⟨_, _, .base (.bl c), kit_ty (r := true) (by decide +kernel), rfl⟩ | exact ⟨_, _, .base (.bl c), kit_ty (r := false) (by decide +kernel), rfl⟩
  | int c => cases b <;> first | (simp [isIsi] at hb; done) | exact ⟨_, _, .base (.int c), kit_ty (r := true) (by decide +kernel), rfl⟩ | exact ⟨_, _, .base (.int c), kit_ty (r := false) (by decide +kernel), rfl⟩
  | str c => cases b <;> first | (simp [isIsi] at hb; done) | exact ⟨_, _, .base (.str c), kit_ty (r := true) (by decide +kernel), rfl⟩ | exact ⟨_, _, .base (.str c), kit_ty (r := false) (by decide +kernel), rfl⟩
  | @tup a0 _ _ e q =>
    have t : TyX K H (.ref a0) (.type "tuple") := by
      rcases rl.sub _ _ e with z | ⟨o, z⟩
      · exact .base (.tup z)
      · exact .fTuple z
    cases b <;> first | (simp [isIsi] at hb; done) | exact ⟨_, _, t, kit_ty (r := true) (by decide +kernel), rfl⟩ | exact ⟨_, _, t, kit_ty (r := false) (by decide +kernel), rfl⟩
  | @lst a0 _ _ e q =>
    have t : TyX K H (.ref a0) (.type "list") := by
      rcases rl.sub _ _ e with z | ⟨o, z⟩
      · exact .base (.lst z)
      · exact .base (.frz z)
    cases b <;> first | (simp [isIsi] at hb; done) | exact ⟨_, _, t, kit_ty (r := true) (by decide +kernel), rfl⟩ | exact ⟨_, _, t, kit_ty (r := false) (by decide +kernel), rfl⟩
theorem vals_1 {ms : List MV} {vs : List V} (r : RepVs α Φ vs ms) {m : MV} (e : ms = [m]) : ∃ v, vs = [v] ∧ RepV α Φ v m := by
  subst e
  cases r with | cons a b => cases b; exact ⟨_, rfl, a⟩
theorem vals_2 {vs : List V} {m n : MV} (r : RepVs α Φ vs [m, n]) : ∃ v w, vs = [v, w] ∧ RepV α Φ v m ∧ RepV α Φ w n := by
  cases r with | cons a b => cases b with | cons c d => cases d; exact ⟨_, _, rfl, a, c⟩
theorem v_bi {b : Bi} {ms : List MV} {vs : List V} (rl : Rl α Φ h H) (rs : RepVs α Φ vs ms) (p : PG sg W σ α Φ H (biF b ms h) RepV Q) : rBi K b vs H Q := by
  have lists : ∀ (v : MV) (x : V) (ds : List D), RepV α Φ x v → (litems h v).bind Ip.grs = some ds → ∃ a ws, x = .ref a ∧ SqL K H a ws ∧ RepDs Φ ws ds := fun v x ds rx e => by
    cases q : litems h v with
    | none => rw [q] at e; cases e
    | some xs =>
      rw [q] at e
      obtain ⟨a, ws, e1, hs, rw'⟩ := RepV.litems (K := K) rl rx q
      exact ⟨a, ws, e1, hs, rw'.grs e⟩
  cases hb : isIsi b with
  | true =>
    match ms, rs, p with
    | [.d d], rs, p =>
      obtain ⟨x, rfl, rx⟩ := vals_1 rs rfl
      obtain ⟨t, c, h1, h2, h3⟩ := v_isi (K := K) hb rl rx
      rw [h3] at p
      have fin := PG.same p rl (RepD.bool c)
      cases b <;> first | (exfalso; simp [isIsi] at hb; done) | exact ⟨x, _, t, _, c, rfl, .ty _, h1, h2, fin⟩
    | [], _, p => cases b <;> first | exact p.elim | (exfalso; simp [isIsi] at hb; done)
    | [.ref _], _, p => cases b <;> first | exact p.elim | (exfalso; simp [isIsi] at hb; done)
    | _ :: _ :: _, _, p => cases b <;> first | (exfalso; simp [isIsi] at hb; done) | (exfalso; simp [biF, PG] at p; done)
  | false =>
  unfold biF at p
  split at p
  · -- len
    obtain ⟨x, rfl, rx⟩ := vals_1 rs rfl
    split at p
    · rename_i xs ei
      obtain ⟨a, ws, rfl, hs, rw'⟩ := RepV.items (K := K) rl rx ei
      refine ⟨_, xs.length, rfl, ?_, PG.same p rl (RepD.int _)⟩
      rcases hs with hs | hs
      · exact .inl ⟨ws, hs, rw'.len.symm⟩
      · exact .inr ⟨ws, hs, rw'.len.symm⟩
    · exact p.elim
  · -- sum
    rename_i v
    obtain ⟨x, rfl, rx⟩ := vals_1 rs rfl
    split at p
    · rename_i is ei
      cases q : items h v with
      | none => rw [q] at ei; cases ei
      | some xs =>
        rw [q] at ei
        obtain ⟨a, ws, rfl, hs, rw'⟩ := RepV.items (K := K) rl rx q
        have e := rw'.ints ei
        subst e
        have fin := PG.same p rl (RepD.int _)
        rcases hs with hs | hs
        · exact .inl ⟨a, is, rfl, hs, fin⟩
        · exact .inr ⟨a, is, rfl, hs, fin⟩
    · exact p.elim
  · rename_i i j
    obtain ⟨x, y, rfl, rx, ry⟩ := vals_2 rs
    cases RepD.iint rx; cases RepD.iint ry
    exact ⟨i, j, rfl, PG.same p rl (RepD.int _)⟩
  · rename_i i j
    obtain ⟨x, y, rfl, rx, ry⟩ := vals_2 rs
    cases RepD.iint rx; cases RepD.iint ry
    exact ⟨i, j, rfl, PG.same p rl (RepD.int _)⟩
  · rename_i i
    obtain ⟨x, rfl, rx⟩ := vals_1 rs rfl
    cases RepD.iint rx
    exact ⟨i, rfl, PG.same p rl (RepD.int _)⟩
  · rename_i i
    obtain ⟨x, rfl, rx⟩ := vals_1 rs rfl
    cases RepD.iint rx
    exact .inl ⟨i, rfl, PG.same p rl (RepD.int _)⟩
  · -- tuple of a tuple
    obtain ⟨x, rfl, rx⟩ := vals_1 rs rfl
    have fin := PG.same p rl rx
    cases rx with
    | @tup a ws _ ea ra => exact ⟨a, ws, rfl, .inr ⟨rl.seqT ea, fin⟩⟩
  · obtain ⟨x, rfl, rx⟩ := vals_1 rs rfl
    split at p
    · rename_i ds ei
      obtain ⟨a, ws, rfl, hs, rd⟩ := lists _ _ _ rx ei
      exact ⟨a, ws, rfl, .inl ⟨hs, fun p0 hp => PG.newTup p rl rd hp⟩⟩
    · exact p.elim
  · obtain ⟨x, rfl, rx⟩ := vals_1 rs rfl
    cases rx with
    | @tup a ws _ ea ra => exact ⟨a, ws, rfl, .inr (rl.seqT ea), fun p0 hp => PG.newLst p rl ra hp⟩
  · obtain ⟨x, rfl, rx⟩ := vals_1 rs rfl
    split at p
    · rename_i ds ei
      obtain ⟨a, ws, rfl, hs, rd⟩ := lists _ _ _ rx ei
      exact ⟨a, ws, rfl, .inl hs, fun p0 hp => PG.newLst p rl rd hp⟩
    · exact p.elim
  all_goals first
    | exact p.elim
    | (exfalso; simp [isIsi] at hb; done)
end
end Ip

namespace Ip
open PySem PySem.Spec PyProof.Rows L2
/-! ### what a call gives -/
def spG (sg : Sg) (G : Gc) (f : Nat) : Sp := fun vs H Q Ex => ∃ α Φ h ms, Rl α Φ h H ∧ RepVs α Φ vs ms ∧ PG sg (fun c d _ H' => Ex c d H') [] α Φ H (G f ms h) RepV Q
structure CK where
  N : List Str
  free : List Str
  fns : List (Nat × Str)
  exs : List (Nat × Str)
structure FnAt (X : Cx) (sg : Sg) (G : Gc) (k f : Nat) (x : Str) : Prop where
  at_ : ∃ a fd ps, X.mg x = some (.ref a) ∧ PySem.W.keepIn X.K (.ref a) = true ∧ Binds X.K fd ps [] ∧ FnOk X.prog X.w X.K X.mg X.base (L2.CX X.prog X.w) k a fd ps (spG sg G f)
structure Ctx (sg : Sg) (W : WX) (G : Gc) (C : CK) (sc : Scope) (k : Nat) (X : Cx) : Prop where
  N : X.N = C.N
  nd : X.N.Nodup
  sc : X.env.scope = sc
  calm : X.calm = true
  free : ∀ x, x ∈ C.free → X.mg x = none
  room : Room k X.A
  fns : ∀ f x, (f, x) ∈ C.fns → FnAt X sg G k f x
  tk : Takes X W
variable {sg : Sg} {W : WX} {G : Gc} {C : CK} {sc : Scope} {k : Nat} {X : Cx}
def plainT : Expr → Bool
  | .UnaryOp .Not _ _ => false
  | .BoolOp _ _ _ => false
  | .IfExp _ _ _ _ => false
  | .Compare _ _ _ _ => false
  | _ => true
theorem isTrue_of {e : Expr} (h : plainT e = true) (env : Env) (whole : Sem Value) :
    isTrue e env whole = (do let v ← whole; standAt e.pos; holding [v] (truthy v)) := by
  cases e <;> first | (cases h; done) | rfl | skip
  rename_i op _ _
  cases op <;> first | (cases h; done) | rfl
structure Snd (X : Cx) (sg : Sg) (W : WX) (G : Gc) (c : E) (e : Expr) : Prop where
  pe : PE X e (tE sg W G c)
  pt : PT X e (tT sg W G c)
theorem v_truth {α : List Addr} {Φ H : Hp} {h : Hm} {K : PySem.W.Frag} {v : MV} {x : V} {b : Bool} (rl : Rl α Φ h H) (r : RepV α Φ x v) (e : truth h v = some b) : TruV K x H b := by
  cases v with
  | d d0 =>
    cases d0 with
    | none => cases e; cases r; rfl
    | bool b => cases e; cases r; rfl
    | int i => cases e; cases r; rfl
    | tup xs =>
      cases e
      cases r with
      | tup ea ra => exact .inr (.inl ⟨_, rl.seqT ea, by rw [RepVs.nil_iff (α := α) (RepVs.of ra)]; simp⟩)
    | lst xs =>
      cases e
      cases r with
      | lst ea ra => exact .inl ⟨_, rl.seqL ea, by rw [RepVs.nil_iff (α := α) (RepVs.of ra)]; simp⟩
    | _ => cases e
  | ref n =>
    obtain ⟨a, ea, rfl⟩ := r
    simp only [truth] at e
    split at e
    · rename_i xs eh
      cases e
      obtain ⟨g1, vs, g2, g3⟩ := rl.obj n a _ ea eh
      exact .inl ⟨vs, .of g2, by rw [RepVs.nil_iff g3]⟩
    · cases e
theorem PG_truth {σ : St} {α : List Addr} {Φ H : Hp} {h : Hm} {K : PySem.W.Frag} {v : MV} {x : V} {Q : Bool → Hp → Prop} (rl : Rl α Φ h H) (r : RepV α Φ x v) (p : PG sg W σ α Φ H (truthM v h) (fun _ _ b b' => b = b') Q) : ∃ b, TruV K x H b ∧ Q b H := by
  unfold truthM at p
  cases e : Ip.truth h v with
  | none => rw [e] at p; exact p.elim
  | some b => rw [e] at p; exact ⟨b, v_truth rl r e, PG.same p rl rfl⟩
theorem Snd.of {c : E} {e : Expr} (h : PE X e (tE sg W G c)) (he : plainT e = true) : Snd X sg W G c e :=
  ⟨h, (pt_truth h (fun w => isTrue_of he X.env w)).mono fun σ H Q t => tM.bind (m := fun ρ => evE G ρ c) (f := fun _ => truthM) t fun ρ v h1 α1 Φ1 H1 x rl fr rx p => PG_truth rl rx p⟩
/-! ### one lemma a form -/
def visB (sc : Scope) (x : Str) : Bool := match sc.names.lookup x with
  | some .local => true | some .cell => true | some .free => true | _ => false
theorem visB_ok {x : Str} (h : visB sc x = true) : Vis sc x := by
  unfold visB at h
  unfold Vis
  split at h <;> first | (rename_i e; simp [e]; done) | cases h
theorem s_var (cx : Ctx sg W G C sc k X) {i : Nat} {x : Str} {pos : Pos} (hN : C.N[i]? = some x) (hv : visB sc x = true) (h1 : (x == ("__debug__" : Str)) = false) (h2 : (x == ("__classdict__" : Str)) = false) : PE X (.Name x pos) (tE sg W G (.var i)) :=
  (pe_var (by rw [cx.N]; exact hN) (by rw [cx.sc]; exact visB_ok hv) h1 h2).mono fun σ H Q ⟨α, Φ, ρ, h, rl, fr, p⟩ => by
    have p : PG sg W σ α Φ H (match ρ[i]? with | some (some v) => .ok v h | _ => .stuck) RepV Q := p
    split at p
    · rename_i v e
      obtain ⟨w, h3, h4⟩ := fr.at_ i v e
      exact ⟨w, h3, PG.same p rl h4⟩
    · exact p.elim
theorem s_int {i : Int} {j pos} : PE X (.Constant (.int i) j pos) (tE sg W G (.int i)) := pe_int.mono fun σ H Q ⟨α, Φ, ρ, h, rl, fr, p⟩ => PG.same (b := MV.d (.int i)) p rl (RepD.int i)
theorem s_bool {i : Bool} {j pos} : PE X (.Constant (.bool i) j pos) (tE sg W G (.bool i)) := pe_bl.mono fun σ H Q ⟨α, Φ, ρ, h, rl, fr, p⟩ => PG.same (b := MV.d (.bool i)) p rl (RepD.bool i)
theorem s_none {j pos} : PE X (.Constant .none j pos) (tE sg W G .none) := pe_non.mono fun σ H Q ⟨α, Φ, ρ, h, rl, fr, p⟩ => PG.same (b := MV.d .none) p rl RepD.none
theorem s_str {i : Str} {j pos} : PE X (.Constant (.str i) j pos) (tE sg W G (.str i)) := pe_str.mono fun σ H Q ⟨α, Φ, ρ, h, rl, fr, p⟩ => PG.same (b := MV.d (.str i)) p rl (RepD.str i)
variable {a b c : E} {ea eb ec : Expr} {pos : Pos}
/-- two parts, then a rule by values -/
theorem two {f : MV → MV → M MV} {r : R2} (t : ∀ {α : List Addr} {Φ H : Hp} {h : Hm} {v w : MV} {x y : V} {σ : St} {Q : VK}, Rl α Φ h H → RepV α Φ x v → RepV α Φ y w → PG sg W σ α Φ H (f v w h) RepV Q → r x y H Q)
    {σ : St} {H : Hp} {Q : VK} (m : tM sg W (fun ρ => M.bind (evE G ρ a) fun v => M.bind (evE G ρ b) fun w => f v w) RepV σ H Q) : tOp r (tE sg W G a) (tE sg W G b) σ H Q :=
  tM.bind (f := fun ρ v => M.bind (evE G ρ b) fun w => f v w) m fun ρ v h1 α1 Φ1 H1 x rl1 fr1 rx p1 => ⟨α1, Φ1, ρ, h1, rl1, fr1, PG.bind p1 fun w h2 α2 Φ2 H2 y _ st rl2 ry p2 => t rl2 (rx.step st) ry p2⟩
theorem s_bin {o : Op} (ha : PE X ea (tE sg W G a)) (hb : PE X eb (tE sg W G b)) : PE X (.BinOp ea (opC o) eb pos) (tE sg W G (.bin o a b)) :=
  (pe_op (op_ar o) ha hb).mono fun σ H Q t => two (f := binop o) (fun rl rx ry p => v_bin rl rx ry p) t
theorem s_neg (ha : PE X ea (tE sg W G a)) : PE X (.UnaryOp .USub ea pos) (tE sg W G (.neg a)) :=
  (pe_un un_neg ha).mono fun σ H Q t => by
    refine tM.bind (m := fun ρ => evE G ρ a) t fun ρ v h1 α1 Φ1 H1 x rl fr rx p => ?_
    split at p
    · rename_i i
      cases RepD.iint rx
      exact ⟨i, rfl, PG.same p rl (RepD.int _)⟩
    · exact p.elim
theorem s_ix (ha : PE X ea (tE sg W G a)) (hb : PE X eb (tE sg W G b)) (hs : PlainIx eb) : PE X (.Subscript ea eb pos) (tE sg W G (.ix a b)) :=
  (pe_ix ix_seq ha hb hs).mono fun σ H Q t => two (f := index) (fun rl rx ry p => v_index rl rx ry p) t
/-- comparisons give truth values -/
theorem cmpop_bool {o : Cm} {v w z : MV} {h h1 : Hm} (e : cmpop o v w h = .ok z h1) : ∃ b, z = .d (.bool b) := by
  unfold cmpop at e
  split at e
  · split at e
    · cases e; exact ⟨_, rfl⟩
    · cases e
  · cases e
theorem bind_ok {β γ : Type} {m : M β} {f : β → M γ} {h h2 : Hm} {y : γ} (e : M.bind m f h = .ok y h2) : ∃ x h1, m h = .ok x h1 ∧ f x h1 = .ok y h2 := by
  unfold M.bind at e
  split at e
  · rename_i a h' q; exact ⟨a, h', q, e⟩
  · cases e
  · cases e
theorem RepV.isBool {α : List Addr} {Φ : Hp} {x : V} {b : Bool} (r : RepV α Φ x (.d (.bool b))) : x = .bl b := RepD.ibool r
/-- a test of a piece that gives truth values -/
theorem tT_bool {c : E} (hb : ∀ ρ h v h1, evE G ρ c h = .ok v h1 → ∃ b, v = .d (.bool b)) {σ : St} {H : Hp} {Q : Bool → Hp → Prop} (t : tT sg W G c σ H Q) : tE sg W G c σ H fun x H1 => ∃ k, x = .bl k ∧ Q k H1 :=
  tM.bindE (m := fun ρ => evE G ρ c) (f := fun _ => truthM) (RpA := RepV) t fun ρ v h0 h1 α1 Φ1 H1 x e rl fr rx p => by
    obtain ⟨b, rfl⟩ := hb ρ h0 v h1 e
    have ex := RepD.ibool rx
    exact ⟨b, ex, PG.same (b := b) p rl rfl⟩
theorem s_cmp {o : Cm} (cx : Ctx sg W G C sc k X) (ha : PE X ea (tE sg W G a)) (hb : PE X eb (tE sg W G b)) : Snd X sg W G (.cmp o a b) (.Compare ea [cmC o] [eb] pos) := by
  have hm : behindInMarks (cmC o) eb = false := by cases o <;> exact nomark _
  refine ⟨(pe_cmpR (op_cm o cx.room.units) ha hb hm).mono fun σ H Q t => two (f := cmpop o) (fun rl rx ry p => v_cmp rl rx ry p) t, ?_⟩
  refine (pt_cmpR (op_cm o cx.room.units) ha hb hm).mono fun σ H Q t => ?_
  exact two (f := cmpop o) (fun rl rx ry p => v_cmp rl rx ry p) (tT_bool (c := .cmp o a b) (fun ρ h v h1 e => by
    obtain ⟨x, h2, e1, e2⟩ := bind_ok (m := evE G ρ a) e
    obtain ⟨y, h3, e3, e4⟩ := bind_ok (m := evE G ρ b) e2
    exact cmpop_bool e4) t)
/-- a chain of two comparisons -/
theorem s_cmp3 {o p : Cm} (cx : Ctx sg W G C sc k X) (ha : PE X ea (tE sg W G a)) (hb : PE X eb (tE sg W G b)) (hc : PE X ec (tE sg W G c)) : Snd X sg W G (.cmp3 o p a b c) (.Compare ea [cmC o, cmC p] [eb, ec] pos) := by
  have hm : lastMarks [cmC o, cmC p] [eb, ec] = false := by
    show behindInMarks (cmC p) ec = false
    cases p <;> exact nomark _
  have key : ∀ {σ : St} {H : Hp} {Q : VK}, tE sg W G (.cmp3 o p a b c) σ H Q → tChain (rCm X.K o) (rCm X.K p) (tE sg W G a) (tE sg W G b) (tE sg W G c) σ H Q := fun {σ H Q} t => by
    refine tM.bind (m := fun ρ => evE G ρ a) t fun ρ v h1 α1 Φ1 H1 x rl1 fr1 rx p1 => ?_
    refine ⟨α1, Φ1, ρ, h1, rl1, fr1, PG.bind p1 fun w h2 α2 Φ2 H2 y _ st2 rl2 ry p2 => ?_⟩
    refine v_cmp rl2 (rx.step st2) ry (PG.bind p2 fun z h3 α3 Φ3 H3 x3 e3 st3 rl3 rz p3 => ?_)
    obtain ⟨bb, rfl⟩ := cmpop_bool e3
    refine ⟨bb, RepD.ibool rz, ?_⟩
    cases bb with
    | true =>
      rw [if_pos rfl]
      exact ⟨α3, Φ3, ρ, h3, rl3, (fr1.step st2).step st3, PG.bind p3 fun u h4 α4 Φ4 H4 x4 _ st4 rl4 ru p4 => v_cmp rl4 ((ry.step st3).step st4) ru p4⟩
    | false =>
      rw [if_neg Bool.false_ne_true]
      exact PG.same (b := MV.d (.bool false)) p3 rl3 (RepD.bool false)
  refine ⟨(pe_chain (op_cm o cx.room.units) (op_cm p cx.room.units) ha hb hc hm).mono fun σ H Q t => key t, ?_⟩
  refine (pt_chain (op_cm o cx.room.units) (op_cm p cx.room.units) ha hb hc hm).mono fun σ H Q t => key (tT_bool (c := .cmp3 o p a b c) (fun ρ h v h1 e => ?_) t)
  obtain ⟨x, h2, e1, e2⟩ := bind_ok (m := evE G ρ a) e
  obtain ⟨y, h3, e3, e4⟩ := bind_ok (m := evE G ρ b) e2
  obtain ⟨z, h4, e5, e6⟩ := bind_ok (m := cmpop o x y) e4
  obtain ⟨bb, rfl⟩ := cmpop_bool e5
  cases bb with
  | true =>
    obtain ⟨u, h5, e7, e8⟩ := bind_ok (m := evE G ρ c) e6
    exact cmpop_bool e8
  | false => cases e6; exact ⟨_, rfl⟩
theorem repD_none {Φ : Hp} {x : V} {d : D} (r : RepD Φ x d) : decide (x = V.non) = isNone (.d d) := by
  cases r <;> rfl
theorem repV_none {α : List Addr} {Φ : Hp} {x : V} {m : MV} (r : RepV α Φ x m) : decide (x = V.non) = isNone m := by
  cases m with
  | d d => exact repD_none r
  | ref n => obtain ⟨a, _, rfl⟩ := r; rfl
theorem s_isN {j : Nat} {pos' : Pos} (ha : PE X ea (tE sg W G a)) : Snd X sg W G (.isN a) (.Compare ea [.Is] [.Constant .none j pos'] pos) := by
  have key : ∀ {σ : St} {H : Hp} {Q : VK}, tE sg W G (.isN a) σ H Q → tIsN (tE sg W G a) σ H Q := fun {σ H Q} t =>
    tM.bind (m := fun ρ => evE G ρ a) t fun ρ v h1 α1 Φ1 H1 x rl fr rx p => by
      rw [repV_none rx]
      exact PG.same p rl (RepD.bool _)
  refine ⟨(pe_cmp (pc_isN ha)).mono fun σ H Q t => key t, (pt_cmp (pc_isN ha)).mono fun σ H Q t => key (tT_bool (c := .isN a) (fun ρ h v h1 e => ?_) t)⟩
  obtain ⟨x, h2, e1, e2⟩ := bind_ok (m := evE G ρ a) e
  cases e2; exact ⟨_, rfl⟩
theorem s_notN {j : Nat} {pos' : Pos} (ha : PE X ea (tE sg W G a)) : Snd X sg W G (.notN a) (.Compare ea [.IsNot] [.Constant .none j pos'] pos) := by
  have key : ∀ {σ : St} {H : Hp} {Q : VK}, tE sg W G (.notN a) σ H Q → tNotN (tE sg W G a) σ H Q := fun {σ H Q} t =>
    tM.bind (m := fun ρ => evE G ρ a) t fun ρ v h1 α1 Φ1 H1 x rl fr rx p => by
      rw [repV_none rx]
      exact PG.same p rl (RepD.bool _)
  refine ⟨(pe_cmp (pc_notN ha)).mono fun σ H Q t => key t, (pt_cmp (pc_notN ha)).mono fun σ H Q t => key (tT_bool (c := .notN a) (fun ρ h v h1 e => ?_) t)⟩
  obtain ⟨x, h2, e1, e2⟩ := bind_ok (m := evE G ρ a) e
  cases e2; exact ⟨_, rfl⟩
theorem s_not (ha : Snd X sg W G a ea) : Snd X sg W G (.not a) (.UnaryOp .Not ea pos) := by
  refine ⟨(pe_notT ha.pe).mono fun σ H Q t => ?_, (pt_not ha.pt).mono fun σ H Q t => ?_⟩
  · refine tM.bind (m := fun ρ => evE G ρ a) t fun ρ v h1 α1 Φ1 H1 x rl fr rx p => ?_
    cases e : Ip.truth h1 v with
    | none => simp only [e] at p; exact p.elim
    | some b => simp only [e] at p; exact ⟨b, v_truth rl rx e, PG.same p rl (RepD.bool _)⟩
  · obtain ⟨α, Φ, ρ, h, rl, fr, p⟩ := t
    refine ⟨α, Φ, ρ, h, rl, fr, ?_⟩
    have p : PG sg W σ α Φ H (M.bind (M.bind (evE G ρ a) fun v h => match Ip.truth h v with | some b => .ok (MV.d (.bool (!b))) h | none => .stuck) truthM h) (fun _ _ b b' => b = b') Q := p
    rw [bind_assoc'] at p
    refine PG.imp p fun v h1 _ q => ?_
    unfold truthM
    cases e2 : Ip.truth h1 v with
    | none => unfold M.bind at q; simp only [e2] at q; exact q.elim
    | some b =>
      unfold M.bind at q
      simp only [e2] at q
      intro α1 Φ1 H1 x st rl1 rx
      subst rx
      exact q α1 Φ1 H1 _ st rl1 rfl
theorem s_ite (hc : Snd X sg W G c ec) (ha : Snd X sg W G a ea) (hb : Snd X sg W G b eb) : PE X (.IfExp ec ea eb pos) (tE sg W G (.ite c a b)) :=
  (pe_ifExp hc.pt ha.pe hb.pe).mono fun σ H Q ⟨α, Φ, ρ, h, rl, fr, p⟩ => by
    have p : PG sg W σ α Φ H (M.bind (evE G ρ c) (fun v h => match Ip.truth h v with | some true => evE G ρ a h | some false => evE G ρ b h | none => .stuck) h) RepV Q := p
    refine ⟨α, Φ, ρ, h, rl, fr, ?_⟩
    refine PG.imp p fun v h1 _ q => ?_
    unfold truthM
    cases e2 : Ip.truth h1 v with
    | none => simp only [e2] at q; exact q.elim
    | some bb =>
      simp only [e2] at q
      intro α1 Φ1 H1 x st rl1 rx
      subst rx
      cases x with
      | true => rw [if_pos rfl]; exact ⟨α1, Φ1, ρ, h1, rl1, fr.step st, PG.step q st rl1⟩
      | false => rw [if_neg Bool.false_ne_true]; exact ⟨α1, Φ1, ρ, h1, rl1, fr.step st, PG.step q st rl1⟩
end Ip

namespace L2
theorem PW.mono {X : Cx} {e : PySem.Expr} {t t' : TT} (h : PW X e t) (f : ∀ σ H Q, t' σ H Q → t σ H Q) : PW X e t' := ⟨fun wh pins s σ H Q I hw => h.run wh pins s σ H Q I (f σ H Q hw)⟩
theorem PO.mono {X : Cx} {e : Option PySem.Expr} {t t' : TO} (h : PO X e t) (f : ∀ σ H Q, t' σ H Q → t σ H Q) : PO X e t' := ⟨fun pins s σ H Q I hw => h.run pins s σ H Q I (f σ H Q hw)⟩
theorem PTs.mono {X : Cx} {e : List PySem.Expr} {t t' : TT} (h : PTs X e t) (f : ∀ σ H Q, t' σ H Q → t σ H Q) : PTs X e t' := ⟨fun pins s σ H Q I hw => h.run pins s σ H Q I (f σ H Q hw)⟩
end L2
namespace Ip
open PySem PySem.Spec PyProof.Rows L2
variable {sg : Sg} {W : WX} {G : Gc} {C : CK} {sc : Scope} {k : Nat} {X : Cx} {a b c : E} {ea eb ec : Expr} {pos : Pos} {cs : List E} {es rest : List Expr}
abbrev Rb : List Addr → Hp → Bool → Bool → Prop := fun _ _ b b' => b = b'
theorem RepVs.app {α : List Addr} {Φ : Hp} : ∀ {vs ws : List V} {xs ys : List MV}, RepVs α Φ vs xs → RepVs α Φ ws ys → RepVs α Φ (vs ++ ws) (xs ++ ys)
  | _, _, _, _, .nil, b => b
  | _, _, _, _, .cons a r, b => .cons a (RepVs.app r b)
/-! ### and, or -/
abbrev tAn (sg : Sg) (W : WX) (G : Gc) (cs : List E) : TE := tM sg W (fun ρ => evAnd G ρ cs) RepV
abbrev tAnT (sg : Sg) (W : WX) (G : Gc) (cs : List E) : TT := tM sg W (fun ρ => M.bind (evAnd G ρ cs) truthM) Rb
abbrev tOrr (sg : Sg) (W : WX) (G : Gc) (cs : List E) : TE := tM sg W (fun ρ => evOr G ρ cs) RepV
abbrev tOrrT (sg : Sg) (W : WX) (G : Gc) (cs : List E) : TT := tM sg W (fun ρ => M.bind (evOr G ρ cs) truthM) Rb
structure SAn (X : Cx) (sg : Sg) (W : WX) (G : Gc) (cs : List E) (es : List Expr) : Prop where
  pe : ∀ pos, PE X (.BoolOp .And es pos) (tAn sg W G cs)
  pt : ∀ pos, PW X (.BoolOp .And es pos) (tAnT sg W G cs)
structure SOr (X : Cx) (sg : Sg) (W : WX) (G : Gc) (cs : List E) (es : List Expr) : Prop where
  pe : ∀ pos, PE X (.BoolOp .Or es pos) (tOrr sg W G cs)
  pt : ∀ pos, PW X (.BoolOp .Or es pos) (tOrrT sg W G cs)
theorem s_and1 (ha : Snd X sg W G a ea) : SAn X sg W G [a] [ea] := ⟨fun _ => pe_one ha.pe, fun _ => pw_and1 ha.pt⟩
theorem s_or1 (ha : Snd X sg W G a ea) : SOr X sg W G [a] [ea] := ⟨fun _ => pe_one ha.pe, fun _ => pw_or1 ha.pt⟩
theorem s_andC (ha : Snd X sg W G a ea) (hb : SAn X sg W G (b :: cs) (eb :: rest)) : SAn X sg W G (a :: b :: cs) (ea :: eb :: rest) := by
  refine ⟨fun pos => (pe_and ha.pe (hb.pe pos)).mono fun σ H Q t => ?_, fun pos => (pw_and ha.pt (hb.pt pos)).mono fun σ H Q t => ?_⟩
  · refine tM.bind (m := fun ρ => evE G ρ a) t fun ρ v h1 α1 Φ1 H1 x rl fr rx p => ?_
    cases v with
    | ref n => exact (show False from p).elim
    | d d =>
      cases d with
      | bool bb =>
        refine ⟨bb, RepD.ibool rx, ?_⟩
        cases bb with
        | true => rw [if_pos rfl]; exact ⟨α1, Φ1, ρ, h1, rl, fr, p⟩
        | false => rw [if_neg Bool.false_ne_true]; exact PG.same (b := MV.d (.bool false)) p rl (RepD.bool false)
      | _ => exact (show False from p).elim
  · obtain ⟨α, Φ, ρ, h, rl, fr, p⟩ := t
    refine ⟨α, Φ, ρ, h, rl, fr, ?_⟩
    have p : PG sg W σ α Φ H (M.bind (M.bind (evE G ρ a) fun v => match v with | .d (.bool true) => evAnd G ρ (b :: cs) | .d (.bool false) => M.pure (.d (.bool false)) | _ => M.stuck) truthM h) Rb Q := p
    rw [bind_assoc'] at p
    refine PG.imp p fun v h1 _ q => ?_
    cases v with
    | ref n => exact (show False from q).elim
    | d d =>
      cases d with
      | bool bb =>
        show PG sg W σ α Φ H (.ok bb h1) Rb _
        intro α1 Φ1 H1 x st rl1 rx
        subst rx
        cases x with
        | true => rw [if_pos rfl]; exact ⟨α1, Φ1, ρ, h1, rl1, fr.step st, PG.step q st rl1⟩
        | false =>
          rw [if_neg Bool.false_ne_true]
          have q : PG sg W σ α Φ H (.ok false h1) Rb Q := q
          exact q α1 Φ1 H1 false st rl1 rfl
      | _ => exact (show False from q).elim
theorem s_orC (ha : Snd X sg W G a ea) (hb : SOr X sg W G (b :: cs) (eb :: rest)) : SOr X sg W G (a :: b :: cs) (ea :: eb :: rest) := by
  refine ⟨fun pos => (pe_or ha.pe (hb.pe pos)).mono fun σ H Q t => ?_, fun pos => (pw_or ha.pt (hb.pt pos)).mono fun σ H Q t => ?_⟩
  · refine tM.bind (m := fun ρ => evE G ρ a) t fun ρ v h1 α1 Φ1 H1 x rl fr rx p => ?_
    cases v with
    | ref n => exact (show False from p).elim
    | d d =>
      cases d with
      | bool bb =>
        refine ⟨bb, RepD.ibool rx, ?_⟩
        cases bb with
        | false => rw [if_neg Bool.false_ne_true]; exact ⟨α1, Φ1, ρ, h1, rl, fr, p⟩
        | true => rw [if_pos rfl]; exact PG.same (b := MV.d (.bool true)) p rl (RepD.bool true)
      | _ => exact (show False from p).elim
  · obtain ⟨α, Φ, ρ, h, rl, fr, p⟩ := t
    refine ⟨α, Φ, ρ, h, rl, fr, ?_⟩
    have p : PG sg W σ α Φ H (M.bind (M.bind (evE G ρ a) fun v => match v with | .d (.bool false) => evOr G ρ (b :: cs) | .d (.bool true) => M.pure (.d (.bool true)) | _ => M.stuck) truthM h) Rb Q := p
    rw [bind_assoc'] at p
    refine PG.imp p fun v h1 _ q => ?_
    cases v with
    | ref n => exact (show False from q).elim
    | d d =>
      cases d with
      | bool bb =>
        show PG sg W σ α Φ H (.ok bb h1) Rb _
        intro α1 Φ1 H1 x st rl1 rx
        subst rx
        cases x with
        | false => rw [if_neg Bool.false_ne_true]; exact ⟨α1, Φ1, ρ, h1, rl1, fr.step st, PG.step q st rl1⟩
        | true =>
          rw [if_pos rfl]
          have q : PG sg W σ α Φ H (.ok true h1) Rb Q := q
          exact q α1 Φ1 H1 true st rl1 rfl
      | _ => exact (show False from q).elim
theorem SAn.snd (h : SAn X sg W G cs es) : Snd X sg W G (.and cs) (.BoolOp .And es pos) := ⟨h.pe pos, (h.pt pos).pt⟩
theorem SOr.snd (h : SOr X sg W G cs es) : Snd X sg W G (.or cs) (.BoolOp .Or es pos) := ⟨h.pe pos, (h.pt pos).pt⟩
/-! ### argument lists, displays -/
def notStar : Expr → Bool
  | .Starred _ _ => false
  | _ => true
theorem star_cons {e : Expr} (h : notStar e = true) (es : List Expr) (env : Env) : starEach (e :: es) env = (false, eval e env) :: starEach es env := by
  cases e <;> first | rfl | cases h
theorem star_any (pos : Pos) (env : Env) : ∀ {es : List Expr}, es.all notStar = true → (backTo pos (starEach es env)).any (·.1) = false
  | [], _ => rfl
  | e :: es, h => by
    rw [List.all_cons, Bool.and_eq_true] at h
    rw [star_cons h.1]
    unfold backTo
    rw [List.map_cons, List.any_cons]
    have ih := star_any pos env h.2
    unfold backTo at ih
    rw [ih]; rfl
theorem s_nil : PA X [] (tEs sg W G []) := pa_nil.mono fun σ H Q ⟨α, Φ, ρ, h, rl, fr, p⟩ => PG.same (b := ([] : List MV)) p rl .nil
theorem s_cons (ha : PE X ea (tE sg W G a)) (hr : PA X es (tEs sg W G cs)) (hn : notStar ea = true) : PA X (ea :: es) (tEs sg W G (a :: cs)) :=
  (pa_cons ha hr (star_cons hn es X.env)).mono fun σ H Q t =>
    tM.bind (m := fun ρ => evE G ρ a) t fun ρ v h1 α1 Φ1 H1 x rl fr rx p => ⟨α1, Φ1, ρ, h1, rl, fr, PG.bind p fun vs h2 α2 Φ2 H2 xs _ st rl2 rs p2 => PG.same p2 rl2 (.cons (rx.step st) rs)⟩
theorem s_tup {x1 : Nat} (h : PA X es (tEs sg W G cs)) : PE X (.Tuple es x1 pos) (tE sg W G (.tup cs)) :=
  (pe_tup h).mono fun σ H Q t => tM.bind (m := fun ρ => evEs G ρ cs) t fun ρ v h1 α1 Φ1 H1 x rl fr rx p => by
    unfold asTup at p
    cases e : Ip.grs v with
    | none => simp only [e] at p; exact p.elim
    | some ds =>
      simp only [e] at p
      split at p
      · rename_i hz
        have rd := RepVs.grs rx e
        exact ⟨big_line (by rw [rd.len]; exact hz), fun p0 hp => PG.newTup p rl rd hp⟩
      · exact p.elim
theorem s_lst (h : PA X es (tEs sg W G cs)) : PE X (.List es pos) (tE sg W G (.lst cs)) :=
  (pe_lst h).mono fun σ H Q t => tM.bind (m := fun ρ => evEs G ρ cs) t fun ρ v h1 α1 Φ1 H1 x rl fr rx p => by
    unfold asLst at p
    cases e : Ip.grs v with
    | none => simp only [e] at p; exact p.elim
    | some ds =>
      simp only [e] at p
      split at p
      · rename_i hz
        have rd := RepVs.grs rx e
        exact ⟨big_line (by rw [rd.len]; exact hz), fun p0 hp => PG.newLst p rl rd hp⟩
      · exact p.elim
theorem PG.newM {sg : Sg} {W : WX} {σ : St} {α : List Addr} {Φ H : Hp} {h : Hm} {Q : VK} {ms : List MV} {vs : List V} (p : PG sg W σ α Φ H (alloc (.lst ms) h) RepV Q) (rl : Rl α Φ h H) (rs : RepVs α Φ vs ms) {p0 : Addr} (hp : H p0 = none) :
    Q (.ref p0) (upd H p0 (.lst vs)) := by
  obtain ⟨a1, a2⟩ := rl.alloc hp rs
  refine PG.okI (b := MV.ref h.length) p a2 a1 ⟨p0, ?_, rfl⟩
  rw [← rl.len, List.getElem?_append_right (Nat.le_refl _), Nat.sub_self]
  rfl
theorem s_lstM (h : PA X es (tEs sg W G cs)) : PE X (.List es pos) (tE sg W G (.lstM cs)) :=
  (pe_lst h).mono fun σ H Q t => tM.bind (m := fun ρ => evEs G ρ cs) t fun ρ v h1 α1 Φ1 H1 x rl fr rx p => by
    unfold asLstM at p
    split at p
    · rename_i hz
      exact ⟨big_line (by rw [rx.len]; exact hz), fun p0 hp => PG.newM p rl rx hp⟩
    · exact p.elim
/-! ### slices -/
abbrev tOi (sg : Sg) (W : WX) (G : Gc) (o : Option E) : TO := tM sg W (fun ρ => evO G ρ o) fun _ _ i j => i = j
theorem s_onone : PO X none (tOi sg W G none) := po_none.mono fun σ H Q ⟨α, Φ, ρ, h, rl, fr, p⟩ => PG.same (b := (none : Option Int)) p rl rfl
theorem s_osome (ha : PE X ea (tE sg W G a)) : PO X (some ea) (tOi sg W G (some a)) := (po_some ha).mono fun σ H Q t =>
  tM.bind (m := fun ρ => evE G ρ a) t fun ρ v h1 α1 Φ1 H1 x rl fr rx p => by
    cases v with
    | ref n => exact (show False from p).elim
    | d d =>
      cases d with
      | int i => exact ⟨i, RepD.iint rx, PG.same (b := some i) p rl rfl⟩
      | _ => exact (show False from p).elim
theorem s_sl {lo hi : Option E} {elo ehi : Option Expr} {p2 : Pos} (ha : PE X ea (tE sg W G a)) (hl : PO X elo (tOi sg W G lo)) (hh : PO X ehi (tOi sg W G hi)) : PE X (.Subscript ea (.Slice elo ehi none p2) pos) (tE sg W G (.sl a lo hi)) :=
  (pe_slice (sl_tupA.or sl_list) ha hl hh).mono fun σ H Q t => tM.bind (m := fun ρ => evE G ρ a) t fun ρ v h1 α1 Φ1 H1 x rl fr rx p =>
    ⟨α1, Φ1, ρ, h1, rl, fr, PG.bind p fun l h2 α2 Φ2 H2 l' _ st2 rl2 e2 p2 =>
      ⟨α2, Φ2, ρ, h2, rl2, fr.step st2, PG.bind p2 fun u h3 α3 Φ3 H3 u' _ st3 rl3 e3 p3 => by
        subst e2 e3
        exact v_slice rl3 ((rx.step st2).step st3) p3⟩⟩
/-! ### built-ins -/
def glB (sc : Scope) (x : Str) : Bool := match sc.names.lookup x with
  | some .globalImplicit => true
  | _ => false
theorem glB_ok (cx : Ctx sg W G C sc k X) {x : Str} (h : glB sc x = true) : Gl X x := by
  unfold Gl Env.kindOf
  rw [cx.sc]
  unfold glB at h
  split at h
  · rename_i e; exact e
  · cases h
theorem boot_bi (b : Bi) : bootBuiltins (bName b) = some (bVal b) := by cases b <;> decide +kernel
theorem s_bi {bb : Bi} {p : Pos} (cx : Ctx sg W G C sc k X) (hb : isIsi bb = false) (hg : glB sc (bName bb) = true) (hf : bName bb ∈ C.free) (ha : PA X (ea :: es) (tEs sg W G cs)) (hn : (ea :: es).all notStar = true) :
    PE X (.Call (.Name (bName bb) p) (ea :: es) [] pos) (tE sg W G (.bi bb cs)) := by
  rw [List.all_cons, Bool.and_eq_true] at hn
  have cr := cr_bi (X := X) cx.calm bb hb
  have bt := boot_bi bb
  have fin : ∀ {σ : St} {H : Hp} {Q : VK}, tE sg W G (.bi bb cs) σ H Q → tCB (rBi X.K bb) (tEs sg W G cs) σ H Q := fun {σ H Q} t =>
    tM.bind (m := fun ρ => evEs G ρ cs) t fun ρ v h1 α1 Φ1 H1 x rl fr rx p => v_bi rl rx p
  have h1 : bName bb ≠ ("__name__" : Str) := by cases bb <;> decide +kernel
  have h2 : (bName bb == ("__debug__" : Str)) = false := by cases bb <;> decide +kernel
  cases hv : bVal bb with
  | builtin id =>
    rw [hv] at cr bt
    exact (pe_callB cr (glB_ok cx hg) (cx.free _ hf) bt ha h1 h2 (star_cons hn.1 es X.env) (star_any _ _ hn.2)).mono fun σ H Q t => fin t
  | type T =>
    rw [hv] at cr bt
    exact (pe_callTy cr (glB_ok cx hg) (cx.free _ hf) bt ha h1 h2 (star_cons hn.1 es X.env) (star_any _ _ hn.2)).mono fun σ H Q t => fin t
  | _ => cases bb <;> cases hv
theorem boot_ty {bb : Bi} (hb : isIsi bb = true) : bootBuiltins (Str.ofString (tyN bb)) = some (.type (tyN bb)) := by
  cases bb <;> first | (exfalso; simp [isIsi] at hb; done) | decide +kernel
theorem s_isi {bb : Bi} {p q : Pos} (cx : Ctx sg W G C sc k X) (hb : isIsi bb = true) (hg : glB sc "isinstance" = true) (hf : ("isinstance" : Str) ∈ C.free) (hg2 : glB sc (Str.ofString (tyN bb)) = true) (hf2 : Str.ofString (tyN bb) ∈ C.free)
    (ha : PE X ea (tE sg W G a)) (hn : notStar ea = true) : PE X (.Call (.Name "isinstance" p) [ea, .Name (Str.ofString (tyN bb)) q] [] pos) (tE sg W G (.bi bb [a])) := by
  have h1 : Str.ofString (tyN bb) ≠ ("__name__" : Str) := by cases bb <;> first | (exfalso; simp [isIsi] at hb; done) | decide +kernel
  have h2 : (Str.ofString (tyN bb) == ("__debug__" : Str)) = false := by cases bb <;> first | (exfalso; simp [isIsi] at hb; done) | decide +kernel
  have pt : PE X (.Name (Str.ofString (tyN bb)) q) (tC (.ty (tyN bb))) := pe_bltn (glB_ok cx hg2) (cx.free _ hf2) (boot_ty hb) rfl h1 h2
  refine (pe_callB call_isi (glB_ok cx hg) (cx.free _ hf) (by decide +kernel) (pa_cons ha (pa_cons pt pa_nil) (star_cons hn _ X.env)) (by decide) (by decide) (star_cons hn _ X.env) rfl).mono fun σ H Q t => ?_
  refine tM.bind (m := fun ρ => evE G ρ a) (f := fun ρ v => M.bind (M.pure []) fun vs => M.bind (M.pure (v :: vs)) fun vs => biF bb vs) (RpA := RepV) (RpB := RepV) (Q := Q) ?_ fun ρ v h1 α1 Φ1 H1 x rl fr rx p => ?_
  · obtain ⟨α, Φ, ρ, h, rl, fr, p⟩ := t
    refine ⟨α, Φ, ρ, h, rl, fr, ?_⟩
    have p : PG sg W σ α Φ H (M.bind (M.bind (evE G ρ a) fun v => M.bind (M.pure []) fun vs => M.pure (v :: vs)) (fun vs => biF bb vs) h) RepV Q := p
    rw [bind_assoc'] at p
    exact p
  · have p : PG sg W σ α1 Φ1 H1 (biF bb [v] h1) RepV Q := p
    have z := v_bi (K := X.K) rl (.cons rx .nil) p
    cases bb <;> first | (exfalso; simp [isIsi] at hb; done) | exact z
/-! ### calls -/
theorem after_base {α α2 : List Addr} {Φ H Φ2 H2 : Hp} {h h2 : Hm} (rl : Rl α Φ h H) (st : Step [] Φ H α2 Φ2 H2) (rl2 : Rl α2 Φ2 h2 H2) (Φ3 : Hp) (l : Le Φ2 Φ3) (n : ∀ a u, Φ3 a = some u → Φ2 a = some u ∨ (H a = none ∧ H2 a = some u)) :
    Step α Φ H α Φ3 H2 ∧ Rl α Φ3 h H2 := by
  have old : ∀ a u, H a = some u → H2 a = some u := fun a u q => st.keep a u q (by simp)
  have none2 : ∀ a, a ∈ α → Φ a = none → Φ2 a = none := fun a ha q => by
    cases z : Φ2 a with
    | none => rfl
    | some u =>
      rcases st.new a u z with w | w | w
      · rw [q] at w; cases w
      · exact absurd w (rl.live a ha)
      · cases w
  refine ⟨⟨⟨[], by simp, by simp⟩, st.le.trans l, fun a u q _ => old a u q, fun a u q => ?_⟩, ⟨fun a u q => ?_, rl.len, rl.inj, fun a ha => ?_, fun i a o q1 q2 => ?_⟩⟩
  · rcases n a u q with w | w
    · rcases st.new a u w with z | z | z
      · exact .inl z
      · exact .inr (.inl z)
      · cases z
    · exact .inr (.inl w.1)
  · rcases n a u q with w | w
    · exact rl2.sub a u w
    · exact .of w.2
  · cases q : H a with
    | none => exact absurd q (rl.live a ha)
    | some u => rw [old a u q]; simp
  · have ha := List.mem_of_getElem? q1
    refine (rl.obj i a o q1 q2).le (st.le.trans l) (old a) fun q => ?_
    cases z : Φ3 a with
    | none => rfl
    | some u =>
      rcases n a u z with w | w
      · rw [none2 a ha q] at w; cases w
      · exact absurd w.1 (rl.live a ha)
theorem harden {α α2 : List Addr} {Φ H Φ2 H2 : Hp} {h h2 : Hm} {v : MV} {x : V} {d : D} (rl : Rl α Φ h H) (st : Step [] Φ H α2 Φ2 H2) (rl2 : Rl α2 Φ2 h2 H2) (rv : RepV α2 Φ2 x v) (e : hard1 h2 v = some d) :
    ∃ Φ3, Step α Φ H α Φ3 H2 ∧ Rl α Φ3 h H2 ∧ RepD Φ3 x d := by
  cases v with
  | d d0 =>
    cases e
    obtain ⟨b1, b2⟩ := after_base rl st rl2 Φ2 .refl fun a u q => .inl q
    exact ⟨Φ2, b1, b2, rv⟩
  | ref n =>
    obtain ⟨a, ea, rfl⟩ := rv
    simp only [hard1] at e
    split at e
    · rename_i xs eh
      obtain ⟨g1, vs, g2, g3⟩ := rl2.obj n a _ ea eh
      cases q : Ip.grs xs with
      | none => rw [q] at e; cases e
      | some ds =>
        rw [q] at e; cases e
        have fresh : H a = none := by
          obtain ⟨β, hβ, hp⟩ := st.ext
          exact hp a (by have := List.mem_of_getElem? ea; rw [hβ] at this; simpa using this)
        have l : Le Φ2 (upd Φ2 a (.lst vs)) := fun b u w => by rw [upd_ne (fun z => by rw [z, g1] at w; cases w)]; exact w
        obtain ⟨b1, b2⟩ := after_base rl st rl2 (upd Φ2 a (.lst vs)) l fun b u w => by
          by_cases z : b = a
          · subst z; rw [upd_same] at w; cases w; exact .inr ⟨fresh, g2⟩
          · rw [upd_ne z] at w; exact .inl w
        exact ⟨_, b1, b2, .lst upd_same (RepDs.le l (g3.grs q))⟩
    · cases e
theorem Rl.empty {α : List Addr} {Φ H : Hp} {h : Hm} (r : Rl α Φ h H) : Rl [] Φ [] H := ⟨r.sub, rfl, fun i j a e => by simp at e, fun a ha => by simp at ha, fun n a o e => by simp at e⟩
/-- a pure call -/
theorem v_pcall {f : Nat} {σ : St} {α : List Addr} {Φ H : Hp} {h : Hm} {Q : VK} {ms : List MV} {vs : List V} (rl : Rl α Φ h H) (rs : RepVs α Φ vs ms) (p : PG sg W σ α Φ H (pcall G f ms h) RepV Q) : spG sg G f vs H Q (fun c d H' => W c d σ H') := by
  unfold pcall at p
  cases e : Ip.grs ms with
  | none => simp only [e] at p; exact p.elim
  | some ds =>
    simp only [e] at p
    refine ⟨[], Φ, [], ds.map .d, rl.empty, .of (rs.grs e), ?_⟩
    cases q : G f (ds.map .d) [] with
    | ok v h2 =>
      simp only [q] at p
      intro α2 Φ2 H2 x st rl2 rv
      cases q2 : hard1 h2 v with
      | none => simp only [q2] at p; exact p.elim
      | some d =>
        simp only [q2] at p
        obtain ⟨Φ3, s3, r3, d3⟩ := harden rl st rl2 rv q2
        exact p α Φ3 H2 x s3 r3 d3
    | exc e2 h2 =>
      simp only [q] at p
      intro α2 Φ2 H2 cls d st rl2 rx
      obtain ⟨s3, r3⟩ := after_base rl st rl2 Φ2 .refl fun a u q => .inl q
      exact p α Φ2 H2 cls d s3 r3 rx
    | stuck => simp only [q] at p; exact p
theorem v_callM {f : Nat} {σ : St} {α : List Addr} {Φ H : Hp} {h : Hm} {Q : VK} {ms : List MV} {vs : List V} (rl : Rl α Φ h H) (rs : RepVs α Φ vs ms) (p : PG sg W σ α Φ H (G f ms h) RepV Q) : spG sg G f vs H Q (fun c d H' => W c d σ H') := by
  refine ⟨α, Φ, h, ms, rl, rs, ?_⟩
  cases e : G f ms h with
  | ok v h2 => rw [e] at p; exact p
  | exc e2 h2 => rw [e] at p; exact p
  | stuck => rw [e] at p; exact p
theorem s_callG {f : Nat} {x : Str} {p : Pos} (cx : Ctx sg W G C sc k X) (hf : (f, x) ∈ C.fns) (hg : glB sc x = true) (hd : (x == ("__debug__" : Str)) = false) (ha : PA X (ea :: es) (tEs sg W G cs)) (hn : (ea :: es).all notStar = true) :
    PE X (.Call (.Name x p) (ea :: es) [] pos) (tCallSD (spG sg G f) [] (fun σ c d H' => W c d σ H') (tEs sg W G cs)) := by
  rw [List.all_cons, Bool.and_eq_true] at hn
  obtain ⟨a, fd, ps, h1, h2, h3, h4⟩ := (cx.fns f x hf).at_
  exact pe_callSD h4 cx.room (glB_ok cx hg) h1 h2 h3 .nil (fun σ => passAt cx.tk σ) ha hd (star_cons hn.1 es X.env) (star_any _ _ hn.2)
theorem s_call {f : Nat} {x : Str} {p : Pos} (cx : Ctx sg W G C sc k X) (hf : (f, x) ∈ C.fns) (hg : glB sc x = true) (hd : (x == ("__debug__" : Str)) = false) (ha : PA X (ea :: es) (tEs sg W G cs)) (hn : (ea :: es).all notStar = true) :
    PE X (.Call (.Name x p) (ea :: es) [] pos) (tE sg W G (.call f cs)) :=
  (s_callG cx hf hg hd ha hn).mono fun σ H Q t => tM.bind (m := fun ρ => evEs G ρ cs) t fun ρ v h1 α1 Φ1 H1 x rl fr rx p => by
    show spG sg G f (x ++ []) H1 Q _
    rw [List.append_nil]
    exact v_pcall rl rx p
theorem s_callM {f : Nat} {x : Str} {p : Pos} (cx : Ctx sg W G C sc k X) (hf : (f, x) ∈ C.fns) (hg : glB sc x = true) (hd : (x == ("__debug__" : Str)) = false) (ha : PA X (ea :: es) (tEs sg W G cs)) (hn : (ea :: es).all notStar = true) :
    PE X (.Call (.Name x p) (ea :: es) [] pos) (tE sg W G (.callM f cs)) :=
  (s_callG cx hf hg hd ha hn).mono fun σ H Q t => tM.bind (m := fun ρ => evEs G ρ cs) t fun ρ v h1 α1 Φ1 H1 x rl fr rx p => by
    show spG sg G f (x ++ []) H1 Q _
    rw [List.append_nil]
    exact v_callM rl rx p
/-! ### a call that only looks at lists -/
open Classical in
noncomputable def lend (α : List Addr) (Φ H : Hp) : Hp := fun a => match Φ a with
  | some u => some u
  | none => if a ∈ α then (match H a with
    | some (.lst vs) => some (.lst vs)
    | _ => none) else none
theorem lend_le (α : List Addr) (Φ H : Hp) : Le Φ (lend α Φ H) := fun a u q => by unfold lend; rw [q]
theorem lend_sub {α : List Addr} {Φ H : Hp} {h : Hm} (rl : Rl α Φ h H) : ∀ a u, lend α Φ H a = some u → Rdd H a u := fun a u q => by
  unfold lend at q
  split at q
  · rename_i e; cases q; exact rl.sub _ _ e
  · split at q
    · split at q
      · rename_i e; cases q; exact .of e
      · cases q
    · cases q
theorem lend_hards {α : List Addr} {Φ H : Hp} {h : Hm} (rl : Rl α Φ h H) : ∀ {ms : List MV} {vs : List V} {ds : List D}, RepVs α Φ vs ms → hards h ms = some ds → RepDs (lend α Φ H) vs ds
  | [], _, _, .nil, e => by cases e; exact .nil
  | m :: ms, _, ds, .cons a b, e => by
    unfold hards at e
    cases e1 : hard1 h m with
    | none => rw [e1] at e; cases e
    | some x =>
      rw [e1] at e
      cases e2 : hards h ms with
      | none => rw [e2] at e; cases e
      | some ys =>
        rw [e2] at e
        cases e
        refine .cons ?_ (lend_hards rl b e2)
        cases m with
        | d x' => cases e1; exact RepD.le (lend_le α Φ H) a
        | ref n =>
          obtain ⟨aa, ea, rfl⟩ := a
          simp only [hard1] at e1
          split at e1
          · rename_i xs eh
            obtain ⟨g1, vs, g2, g3⟩ := rl.obj n aa _ ea eh
            cases q : Ip.grs xs with
            | none => rw [q] at e1; cases e1
            | some ds =>
              rw [q] at e1; cases e1
              refine .lst (vs := vs) ?_ (RepDs.le (lend_le α Φ H) (g3.grs q))
              unfold lend
              rw [g1]
              simp only
              rw [if_pos (List.mem_of_getElem? ea), g2]
          · cases e1
theorem RepD.scal {Φ Φ' : Hp} {x : V} {d : D} (r : RepD Φ x d) (h : scal d = true) : RepD Φ' x d := by
  cases r <;> first | (simp [Ip.scal] at h; done) | constructor
theorem Rl.ext0 {α : List Addr} {Φ H H' : Hp} {h : Hm} (r : Rl α Φ h H) (e : ∀ a u, H a = some u → H' a = some u) : Rl α Φ h H' ∧ Step α Φ H α Φ H' := by
  refine ⟨⟨fun a u q => ?_, r.len, r.inj, fun a ha => ?_, fun n a o q1 q2 => (r.obj n a o q1 q2).le .refl (e a) fun q => q⟩, ⟨[], by simp, by simp⟩, .refl, fun a u q _ => e a u q, fun a u q => .inl q⟩
  · exact (r.sub a u q).mono (e a)
  · cases q : H a with
    | none => exact absurd q (r.live a ha)
    | some u => rw [e a u q]; simp
theorem v_bcall {f : Nat} {σ : St} {α : List Addr} {Φ H : Hp} {h : Hm} {Q : VK} {ms : List MV} {vs : List V} (rl : Rl α Φ h H) (rs : RepVs α Φ vs ms) (p : PG sg W σ α Φ H (bcall G f ms h) RepV Q) : spG sg G f vs H Q (fun c d H' => W c d σ H') := by
  unfold bcall at p
  cases e : hards h ms with
  | none => simp only [e] at p; exact p.elim
  | some ds =>
    simp only [e] at p
    refine ⟨[], lend α Φ H, [], ds.map .d, ⟨lend_sub rl, rfl, fun i j a e => by simp at e, fun a ha => by simp at ha, fun n a o e => by simp at e⟩, .of (lend_hards rl rs e), ?_⟩
    cases q : G f (ds.map .d) [] with
    | ok v h2 =>
      simp only [q] at p
      intro α2 Φ2 H2 x st rl2 rv
      cases v with
      | d y =>
        simp only at p
        split at p
        · rename_i hs
          obtain ⟨r3, s3⟩ := rl.ext0 (fun a u q => st.keep a u q (by simp))
          exact p α Φ H2 x s3 r3 (RepD.scal rv hs)
        · exact p.elim
      | ref n => exact (show False from p).elim
    | exc e2 h2 => simp only [q] at p; exact p.elim
    | stuck => simp only [q] at p; exact p.elim
theorem s_callB {f : Nat} {x : Str} {p : Pos} (cx : Ctx sg W G C sc k X) (hf : (f, x) ∈ C.fns) (hg : glB sc x = true) (hd : (x == ("__debug__" : Str)) = false) (ha : PA X (ea :: es) (tEs sg W G cs)) (hn : (ea :: es).all notStar = true) :
    PE X (.Call (.Name x p) (ea :: es) [] pos) (tE sg W G (.callB f cs)) :=
  (s_callG cx hf hg hd ha hn).mono fun σ H Q t => tM.bind (m := fun ρ => evEs G ρ cs) t fun ρ v h1 α1 Φ1 H1 x rl fr rx p => by
    show spG sg G f (x ++ []) H1 Q _
    rw [List.append_nil]
    exact v_bcall rl rx p
/-! ### list(range(..)), tuple(range(..)) -/
theorem rep_rgV {Φ : Hp} (i j : Int) : RepDs Φ (rgV i j) (rngD i (j - i).toNat) := by
  unfold rgV rngD
  generalize List.range (j - i).toNat = l
  induction l with
  | nil => exact .nil
  | cons a l ih => exact .cons (.int _) ih
theorem v_rngK {k : Nat} {i j : Int} {σ : St} {α : List Addr} {Φ H : Hp} {h : Hm} {Q : VK} (rl : Rl α Φ h H) (p : PG sg W σ α Φ H (rngK k i j h) RepV Q) : RgOk i j ∧ ((k < 2 → ∀ q, H q = none → Q (.ref q) (upd H q (.lst (rgV i j)))) ∧ (2 ≤ k → ∀ q, H q = none → Q (.ref q) (upd H q (.tup (rgV i j))))) := by
  unfold rngK at p
  split at p
  · rename_i hz
    unfold small62 at hz
    simp only [Bool.and_eq_true, decide_eq_true_eq] at hz
    obtain ⟨⟨⟨h1, h2⟩, h3, h4⟩, h5⟩ := hz
    refine ⟨⟨h1, h2, h3, h4, Nat.le_trans h5 (by unfold big; decide)⟩, fun hk q hq => ?_, fun hk q hq => ?_⟩
    · match k, hk with
      | 0, _ => exact PG.okI (b := MV.d (.lst (rngD i (j - i).toNat))) p (.lay rl hq _) (rl.lay hq _) (.lst upd_same (rep_rgV i j))
      | 1, _ =>
        obtain ⟨r2, s2⟩ := rl.alloc hq (RepVs.of (α := α) (rep_rgV (Φ := Φ) i j))
        refine PG.okI (b := MV.ref h.length) p s2 r2 ⟨q, ?_, rfl⟩
        rw [← rl.len, List.getElem?_append_right (Nat.le_refl _), Nat.sub_self]; rfl
    · match k, hk with
      | k + 2, _ => exact PG.okI (b := MV.d (.tup (rngD i (j - i).toNat))) p (.lay rl hq _) (rl.lay hq _) (.tup upd_same (rep_rgV i j))
  · exact p.elim
theorem s_rngS {kk : Nat} {p p2 pos2 : Pos} (cx : Ctx sg W G C sc k X) (hg : glB sc "range" = true) (hf : ("range" : Str) ∈ C.free) (ha : PE X ea (tE sg W G a)) (hn : notStar ea = true) :
    (kk < 2 → glB sc "list" = true → ("list" : Str) ∈ C.free → PE X (.Call (.Name "list" p) [.Call (.Name "range" p2) [ea] [] pos2] [] pos) (tE sg W G (.rngS kk a))) ∧
    (2 ≤ kk → glB sc "tuple" = true → ("tuple" : Str) ∈ C.free → PE X (.Call (.Name "tuple" p) [.Call (.Name "range" p2) [ea] [] pos2] [] pos) (tE sg W G (.rngS kk a))) := by
  have key : ∀ σ H Q, tE sg W G (.rngS kk a) σ H Q → tE sg W G a σ H fun x H1 => ∃ n, x = .int n ∧ (RgOk 0 n ∧ ((kk < 2 → ∀ q, H1 q = none → Q (.ref q) (upd H1 q (.lst (rgV 0 n)))) ∧ (2 ≤ kk → ∀ q, H1 q = none → Q (.ref q) (upd H1 q (.tup (rgV 0 n)))))) := fun σ H Q t =>
    tM.bind (m := fun ρ => evE G ρ a) t fun ρ v h1 α1 Φ1 H1 x rl fr rx p => by
      cases v with
      | ref n => exact (show False from p).elim
      | d d =>
        cases d with
        | int i => cases RepD.iint rx; exact ⟨i, rfl, v_rngK rl p⟩
        | _ => exact (show False from p).elim
  have mono : ∀ {σ H} {Q Q' : VK}, tE sg W G a σ H Q → (∀ x H1, Q x H1 → Q' x H1) → tE sg W G a σ H Q' := fun {σ H Q Q'} ⟨α, Φ, ρ, h, rl, fr, p⟩ f => ⟨α, Φ, ρ, h, rl, fr, by
    cases e : evE G ρ a h with
    | ok v h' => simp only [e] at p ⊢; exact fun α' Φ' H' x st rl' rv => f x H' (p α' Φ' H' x st rl' rv)
    | exc e' h' => simp only [e] at p ⊢; exact p
    | stuck => simp only [e] at p; exact p.elim⟩
  refine ⟨fun hk h1 h2 => ?_, fun hk h1 h2 => ?_⟩
  · exact (pe_listRg cx.calm (glB_ok cx h1) (cx.free _ h2) (prg_1 (glB_ok cx hg) (cx.free _ hf) ha (star_cons hn [] X.env)) rfl).mono fun σ H Q t => mono (key σ H Q t) fun x H1 ⟨n, e, r, q, _⟩ => ⟨n, e, r, q hk⟩
  · exact (pe_tupRg cx.calm (glB_ok cx h1) (cx.free _ h2) (prg_1 (glB_ok cx hg) (cx.free _ hf) ha (star_cons hn [] X.env)) rfl).mono fun σ H Q t => mono (key σ H Q t) fun x H1 ⟨n, e, r, _, q⟩ => ⟨n, e, r, q hk⟩
/-! ### l.append(x) -/
def notCall : Expr → Bool
  | .Call _ _ _ _ => false
  | _ => true
theorem baseOk {o : Expr} (h : notCall o = true) (n : Str) (env : Env) (w : Sem Value) : attributeBase o n env w = w := by
  cases o <;> first | rfl | cases h
theorem s_append {apos : Pos} (hb : notCall ea = true) (hl : (apos.endLine == pos.line) = true) (ha : PE X ea (tE sg W G a)) (hx : PE X eb (tE sg W G b)) (hn : notStar eb = true) :
    PE X (.Call (.Attribute ea "append" apos) [eb] [] pos) (tE sg W G (.append a b)) := by
  refine (pe_bm PySem.F.plainAttrs_list PySem.F.slot_list_append PySem.F.type_list_append mt_append ha (pa_cons hx pa_nil (star_cons hn _ _)) (baseOk hb _ _ _) ?_ hl (star_cons hn _ _) rfl).mono fun σ H Q t => ?_
  · rw [star_cons hn]; rfl
  · refine tM.bind (m := fun ρ => evE G ρ a) t fun ρ v h1 α1 Φ1 H1 x rl fr rx p => ?_
    cases v with
    | d d => exact (show False from p).elim
    | ref n =>
      cases e : h1[n]? with
      | none => unfold M.bind isLst at p; simp only [e] at p; exact p.elim
      | some o =>
        cases o with
        | lst xs =>
          have p : PG sg W σ α1 Φ1 H1 (M.bind (evE G ρ b) (fun w => appendM (.ref n) w) h1) RepV Q := by
            unfold M.bind isLst at p; simp only [e] at p; exact p
          obtain ⟨aa, ea', rfl⟩ := rx
          obtain ⟨g1, vs, g2, g3⟩ := rl.obj n aa _ ea' e
          refine ⟨.inl ⟨rfl, vs, .of g2⟩, α1, Φ1, ρ, h1, rl, fr, PG.bind p fun w h2 α2 Φ2 H2 y _ st2 rl2 ry p2 => ?_⟩
          have ea2 := st2.at_ ea'
          cases e2 : h2[n]? with
          | none => unfold appendM at p2; simp only [e2] at p2; exact p2.elim
          | some o2 =>
            cases o2 with
            | lst ys =>
              unfold appendM at p2
              simp only [e2] at p2
              split at p2
              · rename_i hz
                obtain ⟨k1, ws, k2, k3⟩ := rl2.obj n aa _ ea2 e2
                obtain ⟨r3, s3⟩ := rl2.write (vs0 := ws) ea2 e2 (vs := ws ++ [y]) (xs := ys ++ [w]) (RepVs.app k3 (.cons ry .nil))
                refine ⟨aa, ws, y, rfl, rfl, k2, Nat.lt_of_lt_of_le (by rw [k3.len]; exact hz) (big_line (Nat.le_refl _)), ?_⟩
                exact PG.okI p2 s3 r3 RepD.none
              · exact p2.elim
            | _ => unfold appendM at p2; simp only [e2] at p2; exact p2.elim
        | _ => unfold M.bind isLst at p; simp only [e] at p; exact p.elim
end Ip

namespace L2
theorem PG.monoG {X : Cx} {e : PySem.Expr} {t t' : TG} (h : PG X e t) (f : ∀ v σ H Q, t' v σ H Q → t v σ H Q) : PG X e t' := ⟨fun pins s σ H v u Q I r hw => h.run pins s σ H v u Q I r (f v σ H Q hw)⟩
theorem PGs.monoG {X : Cx} {e : List PySem.Expr} {t t' : TGs} (h : PGs X e t) (f : ∀ v σ H Q, t' v σ H Q → t v σ H Q) : PGs X e t' := ⟨fun pins s σ H v u Q I r hw => h.run pins s σ H v u Q I r (f v σ H Q hw)⟩
theorem PI.mono {X : Cx} {tg e : PySem.Expr} {t t' : TI} (h : PI X tg e t) (f : ∀ σ H R, t' σ H R → t σ H R) : PI X tg e t' := ⟨fun pins s σ H R I hw => h.run pins s σ H R I (f σ H R hw)⟩
end L2
namespace Ip
open PySem PySem.Spec PyProof.Rows L2
variable {sg : Sg} {W : WX} {G : Gc} {C : CK} {sc sS : Scope} {k : Nat} {X : Cx} {a b c : E} {ea eb ec : Expr} {pos : Pos} {cs : List E} {es rest : List Expr}
/-! ### targets -/
mutual
def slots : Tg → List Nat
  | .nm i => [i]
  | .tp ts => slotss ts
def slotss : List Tg → List Nat
  | [] => []
  | t :: ts => slots t ++ slotss ts
end
def Off (vs : List Nat) (σ σ' : St) : Prop := σ.length = σ'.length ∧ ∀ i, i ∉ vs → σ[i]? = σ'[i]?
abbrev Sb (Φ H : Hp) : Prop := ∀ a u, Φ a = some u → Rdd H a u
def gT (t : Tg) : TG := fun v σ H Q => ∃ α Φ m ρ ρ', Sb Φ H ∧ Fr α Φ ρ σ ∧ RepV α Φ v m ∧ bindT t m ρ = some ρ' ∧ ∀ σ', Fr α Φ ρ' σ' → Off (slots t) σ σ' → Q σ' H
def gTs (ts : List Tg) : TGs := fun vs σ H Q => ∃ α Φ ds ρ ρ', Sb Φ H ∧ Fr α Φ ρ σ ∧ RepDs Φ vs ds ∧ bindTs ts ds ρ = some ρ' ∧ ∀ σ', Fr α Φ ρ' σ' → Off (slotss ts) σ σ' → Q σ' H
def locB (sS : Scope) (x : Str) : Bool := match sS.names.lookup x with
  | some .local => true | some .cell => true | _ => false
theorem locB_ok {x : Str} (h : locB sS x = true) : L2.Loc sS x := by
  unfold locB at h
  unfold L2.Loc
  split at h <;> first | (rename_i e; simp [e]; done) | cases h
/-- names that are stored here -/
structure Sto (C : CK) (sS : Scope) (X : Cx) : Prop where
  N : X.N = C.N
  nd : X.N.Nodup
  calm : X.calm = true
  sto : ∀ x, L2.Loc sS x → L2.Loc X.env.scope x ∧ (X.fn x = true ∨ X.env.scope.names.lookup x = some .local)
mutual
def chkT (C : CK) (sS : Scope) : Tg → Expr → Bool
  | .nm i, .Name x _ => decide (C.N[i]? = some x) && locB sS x
  | .tp ts, .Tuple es _ _ => chkTs C sS ts es
  | _, _ => false
def chkTs (C : CK) (sS : Scope) : List Tg → List Expr → Bool
  | [], [] => true
  | t :: ts, e :: es => chkT C sS t e && chkTs C sS ts es
  | _, _ => false
end
theorem chkT_star {t : Tg} {e : Expr} (h : chkT C sS t e = true) : notStar e = true := by
  cases t <;> cases e <;> first | rfl | (simp [chkT] at h; done)
theorem assign_cons {e : Expr} (h : notStar e = true) (es : List Expr) (env : Env) : assignEach (e :: es) env = (false, assign e env) :: assignEach es env := by
  cases e <;> first | rfl | cases h
theorem chkTs_each (env : Env) : ∀ {ts : List Tg} {es : List Expr}, chkTs C sS ts es = true → (assignEach es env).length = ts.length ∧ (assignEach es env).findIdx? (·.1) = none
  | [], [], _ => ⟨rfl, rfl⟩
  | t :: ts, e :: es, h => by
    simp only [chkTs, Bool.and_eq_true] at h
    obtain ⟨a1, a2⟩ := chkTs_each env h.2
    rw [assign_cons (chkT_star h.1)]
    refine ⟨by rw [List.length_cons, a1, List.length_cons], ?_⟩
    rw [List.findIdx?_cons]
    simp [a2]
  | [], _ :: _, h => by simp [chkTs] at h
  | _ :: _, [], h => by simp [chkTs] at h
mutual
theorem bindTs_len : ∀ {ts : List Tg} {ds : List D} {ρ ρ' : Frame}, bindTs ts ds ρ = some ρ' → ds.length = ts.length
  | [], [], _, _, _ => rfl
  | t :: ts, d :: ds, ρ, ρ', h => by
    unfold bindTs at h
    cases e : bindT t (.d d) ρ with
    | none => rw [e] at h; cases h
    | some ρ1 => rw [e] at h; rw [List.length_cons, List.length_cons, bindTs_len (show bindTs ts ds ρ1 = some ρ' from h)]
  | [], _ :: _, _, _, h => by simp [bindTs] at h
  | _ :: _, [], _, _, h => by simp [bindTs] at h
end
theorem Off.trans {vs ws : List Nat} {σ σ1 σ2 : St} (a : Off vs σ σ1) (b : Off ws σ1 σ2) : Off (vs ++ ws) σ σ2 :=
  ⟨a.1.trans b.1, fun i hi => (a.2 i fun z => hi (List.mem_append_left _ z)).trans (b.2 i fun z => hi (List.mem_append_right _ z))⟩
mutual
theorem sTg (cx : Sto C sS X) : ∀ (t : Tg) {e : Expr}, chkT C sS t e = true → L2.PG X e (gT t)
  | .nm i, e, h => by
    cases e <;> first | (simp [chkT] at h; done) | skip
    rename_i x pos
    simp only [chkT, Bool.and_eq_true, decide_eq_true_eq] at h
    obtain ⟨l1, l2⟩ := cx.sto x (locB_ok h.2)
    refine (pg_name (i := i) cx.nd (by rw [cx.N]; exact h.1) l1 l2).monoG fun v σ H Q ⟨α, Φ, m, ρ, ρ', s, fr, r, hb, q⟩ => ?_
    cases hb
    exact q _ (fr.set i r) ⟨by simp, fun j hj => by rw [List.getElem?_set_ne (fun z => hj (by simp [slots, z]))]⟩
  | .tp ts, e, h => by
    cases e <;> first | (simp [chkT] at h; done) | skip
    rename_i es kk pos
    have h : chkTs C sS ts es = true := by simpa only [chkT] using h
    obtain ⟨a1, a2⟩ := chkTs_each X.env h
    refine (pg_tup cx.calm (sTgs cx ts h) a1 a2).monoG fun v σ H Q ⟨α, Φ, m, ρ, ρ', s, fr, r, hb, q⟩ => ?_
    cases m with
    | ref n => simp [bindT] at hb
    | d d =>
      cases d with
      | tup ds =>
        cases r with
        | @tup a vs _ er rr =>
          have hb : bindTs ts ds ρ = some ρ' := by simpa only [bindT] using hb
          exact ⟨a, vs, rfl, .inl (s _ _ er), by rw [rr.len, bindTs_len hb], α, Φ, ds, ρ, ρ', s, fr, rr, hb, fun σ' f o => q σ' f o⟩
      | _ => simp [bindT] at hb
theorem sTgs (cx : Sto C sS X) : ∀ (ts : List Tg) {es : List Expr}, chkTs C sS ts es = true → PGs X es (gTs ts)
  | [], [], _ => pgs_nil.monoG fun vs σ H Q ⟨α, Φ, ds, ρ, ρ', s, fr, r, hb, q⟩ => by
    cases ds with
    | nil => cases hb; cases r; exact ⟨rfl, q σ fr ⟨rfl, fun _ _ => rfl⟩⟩
    | cons d ds => simp [bindTs] at hb
  | t :: ts, e :: es, h => by
    simp only [chkTs, Bool.and_eq_true] at h
    refine (pgs_cons (sTg cx t h.1) (sTgs cx ts h.2) (by rw [assign_cons (chkT_star h.1)]; rfl)).monoG fun vs σ H Q ⟨α, Φ, ds, ρ, ρ', s, fr, r, hb, q⟩ => ?_
    cases ds with
    | nil => simp [bindTs] at hb
    | cons d ds =>
      cases r with
      | @cons v _ vr _ r1 r2 =>
        unfold bindTs at hb
        cases e1 : bindT t (.d d) ρ with
        | none => rw [e1] at hb; cases hb
        | some ρ1 =>
          rw [e1] at hb
          exact ⟨v, vr, rfl, α, Φ, .d d, ρ, ρ1, s, fr, r1, e1, fun σ1 f1 o1 => ⟨α, Φ, ds, ρ1, ρ', s, f1, r2, hb, fun σ2 f2 o2 => q σ2 f2 (o1.trans o2)⟩⟩
  | [], _ :: _, h => by simp [chkTs] at h
  | _ :: _, [], h => by simp [chkTs] at h
end
/-! ### what is walked -/
/-- item i: as it stands, or a new pair -/
def WkI (Φ : Hp) (J : It) (xs : List MV) : Prop := Walk J xs.length (Sb Φ) fun i H x H' => ∃ d, xs[i]? = some (.d d) ∧ ((H' = H ∧ RepD Φ x d) ∨
  ∃ T vs ds, H T = none ∧ H' = upd H T (.tup vs) ∧ x = .ref T ∧ d = .tup ds ∧ RepDs Φ vs ds)
abbrev tIt (sg : Sg) (W : WX) (G : Gc) (it : I) : TI := fun σ H R => tM sg W (fun ρ => evI G ρ it) (fun _ Φ J xs => WkI Φ J xs) σ H R
theorem RepDs.at_ {Φ : Hp} {vs : List V} {xs : List D} (r : RepDs Φ vs xs) {j : Nat} {v : V} (e : vs[j]? = some v) : ∃ d, xs[j]? = some d ∧ RepD Φ v d := by
  induction vs generalizing xs j with
  | nil => simp at e
  | cons v' vs ih =>
    cases r with
    | cons a b =>
      cases j with
      | zero => simp at e; subst e; exact ⟨_, rfl, a⟩
      | succ j => simpa using ih b (by simpa using e)
theorem wk_list {K : PySem.W.Frag} {Φ : Hp} {a : Addr} {vs : List V} {xs : List D} (e : Φ a = some (.lst vs)) (r : RepDs Φ vs xs) : WkI Φ (Itl K a) (xs.map .d) := by
  unfold WkI
  rw [List.length_map, ← r.len]
  refine Walk.mono (walk_list (K := K) (a := a) (xs := vs)) (fun H s => .inl (s _ _ e)) fun i H x H' hi s y => ?_
  obtain ⟨d, h1, h2⟩ := r.at_ y.2
  exact ⟨d, by simp [h1], .inl ⟨y.1, h2⟩⟩
theorem wk_tup {K : PySem.W.Frag} {Φ : Hp} {a : Addr} {vs : List V} {xs : List D} (e : Φ a = some (.tup vs)) (r : RepDs Φ vs xs) : WkI Φ (Itt K a) (xs.map .d) := by
  unfold WkI
  rw [List.length_map, ← r.len]
  refine Walk.mono (walk_tup (K := K) (a := a) (xs := vs)) (fun H s => .inl (s _ _ e)) fun i H x H' hi s y => ?_
  obtain ⟨d, h1, h2⟩ := r.at_ y.2
  exact ⟨d, by simp [h1], .inl ⟨y.1, h2⟩⟩
theorem wk_rng {Φ : Hp} (lo : Int) (n : Nat) : WkI Φ (Itr lo n) (rng lo n) := by
  unfold WkI rng
  rw [List.length_map, List.length_range]
  refine Walk.mono walk_range (fun _ _ => trivial) fun i H x H' hi _ y => ?_
  obtain ⟨y1, y2⟩ := y
  subst y2
  exact ⟨.int (lo + (i : Nat)), by simp [List.getElem?_range hi], .inl ⟨y1, RepD.int _⟩⟩
theorem pair_at {Φ : Hp} {vs ws : List V} {xs ys : List D} (r1 : RepDs Φ vs xs) (r2 : RepDs Φ ws ys) {i : Nat} {x y : V} (h1 : vs[i]? = some x) (h2 : ws[i]? = some y) :
    ∃ d e, ((xs.zip ys).map fun p => MV.d (.tup [p.1, p.2]))[i]? = some (.d (.tup [d, e])) ∧ RepDs Φ [x, y] [d, e] := by
  obtain ⟨d, e1, q1⟩ := r1.at_ h1
  obtain ⟨e, e2, q2⟩ := r2.at_ h2
  refine ⟨d, e, ?_, .cons q1 (.cons q2 .nil)⟩
  rw [List.getElem?_map, List.getElem?_zip_eq_some (z := (d, e)) |>.mpr ⟨e1, e2⟩]
  rfl
theorem walk_zipT {K : PySem.W.Frag} {a b : Addr} {xs ys : List V} {n : Nat} (hn : n = min xs.length ys.length) : Walk (RZ.ItzT K a b) n (fun H => SqT K H a xs ∧ SqT K H b ys) (YPair (fun i => xs[i]?) (fun i => ys[i]?)) := by
  subst hn
  refine ⟨fun i _ hi ⟨q1, q2⟩ => ?_, fun _ ⟨q1, q2⟩ => ⟨xs, ys, q1, q2, by omega⟩, fun i H v H' _ ⟨q1, q2⟩ y => ?_⟩
  · have a1 : i < xs.length := by omega
    have a2 : i < ys.length := by omega
    exact ⟨xs, ys, xs[i], ys[i], q1, q2, by simp [a1], by simp [a2]⟩
  · obtain ⟨T, x, z, e1, e2, e3, e4, e5⟩ := y
    exact ⟨T, x, z, e1, e2, e3, e4 xs q1, e5 ys q2⟩
theorem wk_pairs {Φ : Hp} {J : It} {Gd : Hp → Prop} {vs ws : List V} {xs ys : List D} (r1 : RepDs Φ vs xs) (r2 : RepDs Φ ws ys) (hg : ∀ H, Sb Φ H → Gd H)
    (w : Walk J (min vs.length ws.length) Gd (YPair (fun i => vs[i]?) (fun i => ws[i]?))) : WkI Φ J ((xs.zip ys).map fun p => .d (.tup [p.1, p.2])) := by
  unfold WkI
  rw [List.length_map, List.length_zip, ← r1.len, ← r2.len]
  refine Walk.mono w hg fun i H v H' hi s y => ?_
  obtain ⟨T, x, y', e1, e2, e3, e4, e5⟩ := y
  obtain ⟨d, e, f1, f2⟩ := pair_at r1 r2 e4 e5
  exact ⟨_, f1, .inr ⟨T, [x, y'], [d, e], e2, e3, e1, rfl, f2⟩⟩
theorem pi_seq {tg l : Expr} {tl : TE} (hl : PE X l tl) : PI X tg l (fun σ H R => tl σ H fun x H1 => ∃ a, x = .ref a ∧ (((∃ xs, SqL X.K H1 a xs) ∧ R (Itl X.K a) H1) ∨ ((∃ xs, SqT X.K H1 a xs) ∧ R (Itt X.K a) H1))) := by
  refine ⟨fun pins s σ H R I h => thn (hl.run pins s σ H _ I h) fun v s1 ⟨x, H1, I1, r1, a, ex, q1⟩ => ?_⟩
  subst ex
  cases r1
  have own : ∀ c ∈ [s1.heap.objs.size], FpOk X pins H1 c := fun c hc => by
    rw [List.mem_singleton.mp hc]
    exact I1.fpOk (Nat.le_refl _) (I1.hok.fresh (Nat.le_refl _))
  rcases q1 with ⟨⟨xs, hq⟩, q⟩ | ⟨⟨xs, hq⟩, q⟩
  · obtain ⟨its, _, pl, _⟩ := I1.list hq
    exact wpAny_pyIter_list pl.isList ⟨_, [s1.heap.objs.size], _, _, H1, rfl, I1.kept (t' := s1.toks) fun c o e => Heap.get?_push_of_some _ e, turn_list a _, ⟨_, Heap.get?_push_size _ rfl, rfl, rfl⟩, own, q⟩
  · obtain ⟨its, _, pl, _⟩ := I1.tuple hq
    exact wpAny_pyIter_tuple (show s1.heap.IsTuple a its.toArray from pl) ⟨_, [s1.heap.objs.size], _, _, H1, rfl, I1.kept (t' := s1.toks) fun c o e => Heap.get?_push_of_some _ e, turn_tuple a _, ⟨_, Heap.get?_push_size _ rfl, rfl, rfl⟩, own, q⟩
theorem s_seq {tg : Expr} (ha : PE X ea (tE sg W G a)) : PI X tg ea (tIt sg W G (.seq a)) := (pi_seq ha).mono fun σ H R t =>
  tM.bind (m := fun ρ => evE G ρ a) t fun ρ v h1 α1 Φ1 H1 x rl fr rx p => by
    cases v with
    | ref n => exact (show False from p).elim
    | d d =>
      cases d with
      | tup xs =>
        cases rx with
        | @tup aa vs _ er rr => exact ⟨aa, rfl, .inr ⟨⟨vs, rl.seqT er⟩, PG.same (b := xs.map MV.d) p rl (wk_tup er rr)⟩⟩
      | lst xs =>
        cases rx with
        | @lst aa vs _ er rr => exact ⟨aa, rfl, .inl ⟨⟨vs, rl.seqL er⟩, PG.same (b := xs.map MV.d) p rl (wk_list er rr)⟩⟩
      | _ => exact (show False from p).elim
theorem s_rng1 {tg : Expr} {p : Pos} (cx : Ctx sg W G C sc k X) (hg : glB sc "range" = true) (hf : ("range" : Str) ∈ C.free) (ha : PA X [ea] (tEs sg W G [a])) (hn : notStar ea = true) : PI X tg (.Call (.Name "range" p) [ea] [] pos) (tIt sg W G (.rng1 a)) :=
  (pi_range1 (glB_ok cx hg) (cx.free _ hf) ha (star_cons hn [] X.env)).mono fun σ H R ⟨α, Φ, ρ, h, rl, fr, p⟩ => by
    refine ⟨α, Φ, ρ, h, rl, fr, ?_⟩
    show PG sg W σ α Φ H (M.bind (evE G ρ a) (fun v => M.bind (M.pure []) fun vs => M.pure (v :: vs)) h) RepVs _
    refine PG.imp p fun v h1 e q => ?_
    intro α1 Φ1 H1 x st rl1 rx
    obtain ⟨y, rfl, ry⟩ := vals_1 rx rfl
    cases v with
    | ref n => exact (show False from q).elim
    | d d =>
      cases d with
      | int i =>
        cases RepD.iint ry
        have q : PG sg W σ α Φ H ((if small62 i then M.pure (rng 0 i.toNat) else M.stuck : M (List MV)) h1) (fun _ Φ J xs => WkI Φ J xs) R := q
        split at q
        · rename_i hz
          unfold small62 at hz
          simp only [Bool.and_eq_true, decide_eq_true_eq] at hz
          exact ⟨i, rfl, hz.1, hz.2, PG.okI (b := rng 0 i.toNat) q st rl1 (wk_rng 0 _)⟩
        · exact q.elim
      | _ => exact (show False from q).elim
theorem s_rng2 {tg : Expr} {p : Pos} (cx : Ctx sg W G C sc k X) (hg : glB sc "range" = true) (hf : ("range" : Str) ∈ C.free) (ha : PE X ea (tE sg W G a)) (hb : PE X eb (tE sg W G b)) (hn : notStar ea = true) (hm : notStar eb = true) :
    PI X tg (.Call (.Name "range" p) [ea, eb] [] pos) (tIt sg W G (.rng2 a b)) :=
  (pi_range2 (glB_ok cx hg) (cx.free _ hf) (pa_cons ha (pa_cons hb pa_nil (star_cons hm [] X.env)) (star_cons hn _ X.env)) (by rw [star_cons hn, star_cons hm]; rfl) (star_cons hm [] X.env)).mono fun σ H R t =>
  tM.bind (m := fun ρ => evE G ρ a) t fun ρ v h1 α1 Φ1 H1 x rl fr rx p => ⟨α1, Φ1, ρ, h1, rl, fr, PG.bind p fun w h2 α2 Φ2 H2 y _ st2 rl2 ry p2 => by
    cases v with
    | ref n => cases w <;> exact (show False from p2).elim
    | d d =>
      cases w with
      | ref n => cases d <;> exact (show False from p2).elim
      | d d2 =>
        cases d with
        | int i =>
          cases d2 with
          | int j =>
            cases RepD.iint rx; cases RepD.iint ry
            have q : PG sg W σ α2 Φ2 H2 ((if small62 i && small62 j then M.pure (rng i (j - i).toNat) else M.stuck : M (List MV)) h2) (fun _ Φ J xs => WkI Φ J xs) R := p2
            split at q
            · rename_i hz
              unfold small62 at hz
              simp only [Bool.and_eq_true, decide_eq_true_eq] at hz
              exact ⟨i, j, rfl, ⟨hz.1.1, hz.1.2, hz.2.1, hz.2.2⟩, PG.same (b := rng i (j - i).toNat) q rl2 (wk_rng i _)⟩
            · exact q.elim
          | _ => exact (show False from p2).elim
        | _ => exact (show False from p2).elim⟩
theorem s_zip {p tpos : Pos} {elts : List Expr} {kk : Nat} (cx : Ctx sg W G C sc k X) (hg : glB sc "zip" = true) (hf : ("zip" : Str) ∈ C.free) (ha : PE X ea (tE sg W G a)) (hb : PE X eb (tE sg W G b)) (hn : notStar ea = true) (hm : notStar eb = true) :
    PI X (.Tuple elts kk tpos) (.Call (.Name "zip" p) [ea, eb] [] pos) (tIt sg W G (.zip a b)) :=
  (RZ.pi_zipA (glB_ok cx hg) (cx.free _ hf) (pa_cons ha (pa_cons hb pa_nil (star_cons hm [] X.env)) (star_cons hn _ X.env)) (star_cons hn _ X.env) (by rw [star_cons hm]; rfl)).mono fun σ H R t =>
  tM.bind (m := fun ρ => evE G ρ a) t fun ρ v h1 α1 Φ1 H1 x rl fr rx p => ⟨α1, Φ1, ρ, h1, rl, fr, PG.bind p fun w h2 α2 Φ2 H2 y _ st2 rl2 ry p2 => by
    have rx2 := rx.step st2
    cases v with
    | ref n => cases w <;> exact (show False from p2).elim
    | d d =>
      cases w with
      | ref n => cases d <;> exact (show False from p2).elim
      | d d2 =>
        cases d with
        | tup xs =>
          cases d2 with
          | tup ys =>
            cases rx2 with
            | @tup a1 vs _ e1 r1 =>
              cases ry with
              | @tup a2 ws _ e2 r2 =>
                refine ⟨a1, a2, vs, ws, rfl, .inr ⟨rl2.seqT e1, rl2.seqT e2, ?_⟩⟩
                exact PG.same (b := (xs.zip ys).map fun p => MV.d (.tup [p.1, p.2])) p2 rl2 (wk_pairs r1 r2 (fun H s => ⟨.inl (s _ _ e1), .inl (s _ _ e2)⟩) (walk_zipT (K := X.K) (a := a1) (b := a2) rfl))
          | _ => exact (show False from p2).elim
        | lst xs =>
          cases d2 with
          | lst ys =>
            cases rx2 with
            | @lst a1 vs _ e1 r1 =>
              cases ry with
              | @lst a2 ws _ e2 r2 =>
                refine ⟨a1, a2, vs, ws, rfl, .inl ⟨rl2.seqL e1, rl2.seqL e2, ?_⟩⟩
                exact PG.same (b := (xs.zip ys).map fun p => MV.d (.tup [p.1, p.2])) p2 rl2 (wk_pairs r1 r2 (fun H s => ⟨.inl (s _ _ e1), .inl (s _ _ e2)⟩) (walk_zip (K := X.K) (a := a1) (b := a2) rfl))
          | _ => exact (show False from p2).elim
        | _ => cases d2 <;> exact (show False from p2).elim⟩
end Ip

/-! enumerate over a tuple -/
namespace IpEnum
open PySem PySem.Spec PyProof.Rows L2
open AutoSeq1 (wpAny_loadPart')
theorem newEnum (l : Addr) (its : Array Value) (n : Nat) (od : Option Addr) (sl : Array (Option Value)) :
    Meets (Builtin.«enumerate.__new__» ⟨[.type "enumerate", .ref l], []⟩) fun _ Rt s => s.heap.get? l = some { cls := .type "tuple", dict := od, data := .seq its n, slots := sl } ∧
      Rt (.ok (.ret (.ref (s.heap.push { cls := .type "tuple_iterator", data := .fields #[.ref l, .int 0 0] }).objs.size)))
        { s with heap := (s.heap.push { cls := .type "tuple_iterator", data := .fields #[.ref l, .int 0 0] }).push { cls := .type "enumerate", data := .fields #[.none, .bool false, .ref s.heap.objs.size, rawInt 0, .none, .none] } } :=
  .of_wp fun prog w A Rt s h => by
    obtain ⟨hp, g, d, tk, os⟩ := s
    obtain ⟨hl, h⟩ := h
    have sub := sub_enumerate
    have isT : Heap.IsTuple (Shared.heap ⟨hp, g, d, tk, os⟩) l its := ⟨_, hl, rfl, n, rfl⟩
    wp_walk using wpAny_loadPart' hl
    refine wpAny_stack_any fun st => wpAny_pure ?_
    split
    · rename_i c _ _ _ _ _
      cases (c == Value.type "enumerate") <;> (wp_walk using wpAny_loadPart' hl, wpAny_pyIter_tuple isT; exact ⟨_, rfl, h⟩)
    · wp_walk using wpAny_loadPart' hl, wpAny_pyIter_tuple isT
      exact ⟨_, rfl, h⟩
section
variable {prog : Program} {w : World} {A : Around} {Ex : Value → Shared → Prop} {s : Shared}
theorem makeEnum {l : Addr} {its : Array Value} {Q : Value → Shared → Prop} (hT : s.heap.IsTuple l its)
    (fin : ∀ h', IsEnum h' (s.heap.objs.size + 1) s.heap.objs.size 0 .none → h'.IsTupleIter s.heap.objs.size l 0 → (∀ b o, s.heap.get? b = some o → h'.get? b = some o) → Q (.ref (s.heap.objs.size + 1)) { s with heap := h' }) :
    wpAny (model prog w) A (call (.type "enumerate") [.ref l]) Q Ex s := by
  obtain ⟨⟨c, od, dt, sl⟩, hl, hc, n, hd⟩ := hT
  simp only at hc hd
  subst hc hd
  refine callType_new F.called_enumerate (by decide) (F.typeCall_enumerate_1 _) (F.newCall_enumerate_1 _) (fun obj => F.args_object_init_2 obj _) F.entry_enumerate_new (newEnum l its n od sl) ⟨hl, ?_⟩
  have sz : (s.heap.push { cls := .type "tuple_iterator", data := .fields #[.ref l, .int 0 0] }).objs.size = s.heap.objs.size + 1 := Heap.size_push ..
  have g1 : ((s.heap.push { cls := .type "tuple_iterator", data := .fields #[.ref l, .int 0 0] }).push { cls := .type "enumerate", data := .fields #[.none, .bool false, .ref s.heap.objs.size, rawInt 0, .none, .none] }).get?
      (s.heap.push { cls := .type "tuple_iterator", data := .fields #[.ref l, .int 0 0] }).objs.size = some _ := Heap.get?_push_size _ rfl
  have g0 : ((s.heap.push { cls := .type "tuple_iterator", data := .fields #[.ref l, .int 0 0] }).push { cls := .type "enumerate", data := .fields #[.none, .bool false, .ref s.heap.objs.size, rawInt 0, .none, .none] }).get? s.heap.objs.size = some _ :=
    Heap.get?_push_of_some _ (Heap.get?_push_size _ rfl)
  rw [sz] at g1
  show _ ∧ _
  rw [sz]
  exact ⟨⟨_, g1, rfl⟩, fin _ g1 ⟨_, g0, rfl, rfl⟩ fun b o q => Heap.get?_push_of_some _ (Heap.get?_push_of_some _ q)⟩
/-- what a turn of it leaves -/
structure Turned (s : Shared) (e it l : Addr) (i : Nat) (x : Value) (h' : Heap) : Prop where
  out : IsEnumOut h' e it ((i : Int) + 1) x s.heap.objs.size
  ptr : h'.IsTupleIter it l (i + 1)
  pair : h'.get? s.heap.objs.size = some { cls := .type "tuple", data := .seq #[.int i s.toks, x] }
  kept : ∀ b o, b ≠ e → b ≠ it → s.heap.get? b = some o → h'.get? b = some o
theorem turnEnum {e it l : Addr} {i : Nat} {its : Array Value} {x old : Value} {Q : Value → Shared → Prop}
    (he : IsEnum s.heap e it i old) (hp : s.heap.IsTupleIter it l i) (hT : s.heap.IsTuple l its) (hx : its[i]? = some x) (ne : e ≠ it)
    (fin : ∀ h', Turned s e it l i x h' → Q (.ref s.heap.objs.size) { s with heap := h', toks := s.toks + 1 }) :
    wpAny (model prog w) A (Builtin.«enumerate.__next__» ⟨[.ref e], []⟩) (fun f s' => ∃ v, f = .done (.ret v) ∧ Q v s') Ex s := by
  obtain ⟨g0, gs, dr, tk, os⟩ := s
  have lt : e < g0.objs.size := Heap.lt_size he
  show wpAny _ _ (field (.ref e) 2 >>= _) _ _ _
  refine wpAny_bind (wpAny_field he rfl (x := .ref it) rfl (wpAny_bind (RZ.nextOf_tuple_item hp hT hx fun g1 p1 k1 => ?_)))
  have k1 : Heap.SameBut it g0 g1 := k1
  have a1 : IsEnum g1 e it i old := (k1.2 e ne).trans he
  show wpAny _ _ (field (.ref e) 3 >>= _) _ _ ⟨g1, gs, dr, tk, os⟩
  refine wpAny_bind (wpAny_field a1 rfl (x := rawInt i) rfl ?_)
  show wpAny _ _ (field (.ref e) 4 >>= _) _ _ ⟨g1, gs, dr, tk, os⟩
  refine wpAny_bind (wpAny_field a1 rfl (x := .none) rfl ?_)
  show wpAny _ _ (mkInt i >>= _) _ _ ⟨g1, gs, dr, tk, os⟩
  refine wpAny_bind (wpAny_mkInt ?_)
  show wpAny _ _ (setField (.ref e) 3 (rawInt ((i : Int) + 1)) >>= _) _ _ ⟨g1, gs, dr, tk + 1, os⟩
  refine wpAny_bind (wpAny_setField_rec a1 (by simp) fun g2 a2 k2 => ?_)
  have k2 : Heap.SameBut e g1 g2 := k2
  have a2 : IsEnum g2 e it ((i : Int) + 1) old := a2
  show wpAny _ _ (setField (.ref e) 4 .none >>= _) _ _ ⟨g2, gs, dr, tk + 1, os⟩
  refine wpAny_bind (wpAny_setField_rec a2 (by simp) fun g3 a3 k3 => ?_)
  have k3 : Heap.SameBut e g2 g3 := k3
  have a3 : IsEnum g3 e it ((i : Int) + 1) old := a3
  show wpAny _ _ (newTuple [.int i tk, x] >>= _) _ _ ⟨g3, gs, dr, tk + 1, os⟩
  refine wpAny_bind (wpAny_newTuple ?_)
  have a4 : IsEnum (g3.push { cls := .type "tuple", data := .seq #[.int i tk, x] }) e it ((i : Int) + 1) old := Heap.get?_push_of_some _ a3
  have sz3 : g3.objs.size = g0.objs.size := by rw [k3.1, k2.1, k1.1]
  have t4 : (g3.push { cls := .type "tuple", data := .seq #[.int i tk, x] }).get? g0.objs.size = some { cls := .type "tuple", data := .seq #[.int i tk, x] } := by
    rw [← sz3]; exact Heap.get?_push_size _ rfl
  have ke : ∀ b o, b ≠ e → b ≠ it → g0.get? b = some o → (g3.push { cls := .type "tuple", data := .seq #[.int i tk, x] }).get? b = some o := fun b o n1 n2 q =>
    Heap.get?_push_of_some _ (k3.extBut b o n1 (k2.extBut b o n1 (k1.extBut b o n2 q)))
  have p4 : (g3.push { cls := .type "tuple", data := .seq #[.int i tk, x] }).IsTupleIter it l (i + 1) := by
    obtain ⟨o, ho, rr⟩ := (p1.extBut k2.extBut (Ne.symm ne)).extBut k3.extBut (Ne.symm ne)
    exact ⟨o, Heap.get?_push_of_some _ ho, rr⟩
  generalize g3.push { cls := .type "tuple", data := .seq #[.int i tk, x] } = g4 at a4 t4 ke p4
  show wpAny _ _ (Builtin.SmallTypes.ownedTupleIsFree (.ref e) >>= _) _ _ ⟨g4, gs, dr, tk + 1, os⟩
  rw [sz3]
  refine wpAny_bind ?_
  unfold Builtin.SmallTypes.ownedTupleIsFree
  refine wpAny_bind (wpAny_field a4 rfl (x := .none) rfl (wpAny_pure ?_))
  simp only [if_true]
  refine wpAny_bind (wpAny_rule (wpAny_bind (wpAny_field a4 rfl (x := old) rfl (wpAny_bind (wpAny_setField_rec a4 (by simp) fun g5 a5 k5 => ?_)))))
  have k5 : Heap.SameBut e g4 g5 := k5
  have a5 : IsEnum g5 e it ((i : Int) + 1) x := a5
  show wpAny _ _ (Builtin.SmallTypes.ownedTupleHandOut (.ref e) (.ref g0.objs.size) >>= _) _ _ ⟨g5, gs, dr, tk + 1, os⟩
  refine wpAny_bind ?_
  unfold Builtin.SmallTypes.ownedTupleHandOut
  refine wpAny_bind (wpAny_setField_rec a5 (by simp) fun g6 a6 k6 => ?_)
  have k6 : Heap.SameBut e g5 g6 := k6
  have a6 : IsEnumOut g6 e it ((i : Int) + 1) x g0.objs.size := a6
  refine wpAny_setField_rec a6 (by simp) fun g7 a7 k7 => ?_
  have k7 : Heap.SameBut e g6 g7 := k7
  have a7 : IsEnumOut g7 e it ((i : Int) + 1) x g0.objs.size := a7
  refine wpAny_bind (wpAny_letGo (wpAny_pure ⟨_, rfl, fin g7 ⟨a7, ?_, ?_, fun b o n1 n2 q => ?_⟩⟩))
  · exact ((p4.extBut k5.extBut (Ne.symm ne)).extBut k6.extBut (Ne.symm ne)).extBut k7.extBut (Ne.symm ne)
  · exact k7.extBut _ _ (Nat.ne_of_gt lt) (k6.extBut _ _ (Nat.ne_of_gt lt) (k5.extBut _ _ (Nat.ne_of_gt lt) t4))
  · exact k7.extBut b o n1 (k6.extBut b o n1 (k5.extBut b o n1 (ke b o n1 n2 q)))
theorem nextEnum {e it l : Addr} {i : Nat} {its : Array Value} {x old : Value} {Q : Option Value → Shared → Prop}
    (he : IsEnum s.heap e it i old) (hp : s.heap.IsTupleIter it l i) (hT : s.heap.IsTuple l its) (hx : its[i]? = some x) (ne : e ≠ it)
    (fin : ∀ h', Turned s e it l i x h' → Q (some (.ref s.heap.objs.size)) { s with heap := h', toks := s.toks + 1 }) : wpAny (model prog w) A (pyNext (.ref e)) Q Ex s := by
  have ty : s.TypeIs (.ref e) "enumerate" := ⟨_, he, rfl⟩
  unfold pyNext
  exact wpAny_bind (wpAny_attempt (wpAny_callSpecial?_slot (name := Str.ofString "__next__") ty F.slot_enumerate_next
    (wpAny_call_entry F.slot_enumerate_next ty F.entry_enumerate_next (turnEnum he hp hT hx ne fun h' t => wpAny_pure (fin h' t)) (F.args_enumerate_next_1 _))))
theorem stopEnum {e it l : Addr} {i : Nat} {its : Array Value} {old : Value} {Q : Option Value → Shared → Prop} (hh : A.handled = none)
    (he : IsEnum s.heap e it i old) (hp : s.heap.IsTupleIter it l i) (hT : s.heap.IsTuple l its) (hx : its[i]? = none)
    (fin : ∀ h', Heap.ExtBut it s.heap h' → Q none { s with heap := h' }) : wpAny (model prog w) A (pyNext (.ref e)) Q Ex s := by
  have ty : s.TypeIs (.ref e) "enumerate" := ⟨_, he, rfl⟩
  unfold pyNext
  refine wpAny_bind (wpAny_attempt (wpAny_callSpecial?_slot (name := Str.ofString "__next__") ty F.slot_enumerate_next (wpAny_call_entry F.slot_enumerate_next ty F.entry_enumerate_next ?_ (F.args_enumerate_next_1 _))))
  show wpAny _ _ (field (.ref e) 2 >>= _) _ _ _
  refine wpAny_bind (wpAny_field he rfl (x := .ref it) rfl (wpAny_bind (RZ.nextOf_tuple_end hh hp hT hx fun h' x ext ⟨o, ho, hc⟩ => ?_)))
  exact wpAny_bind (wpAny_isInstance (T := "StopIteration") (b := true) ⟨o, ho, hc⟩ isSubtype_stop (wpAny_pure (fin _ ext)))
end
/-- the tuple at a, each item in a new pair -/
def IteT (K : PySem.W.Frag) (a : Addr) : It :=
  ⟨fun i H => ∃ (xs : List V) (x : V), SqT K H a xs ∧ xs[i]? = some x, fun i H v H' => ∃ T x, v = .ref T ∧ H T = none ∧ H' = upd H T (.tup [.int (i : Nat), x]) ∧ ∀ xs, SqT K H a xs → xs[i]? = some x,
    fun i H => ∃ xs : List V, SqT K H a xs ∧ xs.length ≤ i⟩
theorem turnT {P : Program} {w : World} {K : PySem.W.Frag} {elts : List Expr} {kk : Nat} {tpos : Pos} (a e it : Addr) :
    Turn P w K (.Tuple elts kk tpos) (IteT K a) [e, it] e (fun i h => (∃ old, IsEnum h e it ((i : Nat) : Int) old) ∧ h.IsTupleIter it a i ∧ e ≠ it) where
  mem := List.mem_cons_self
  obj := fun i h st b hb => by
    obtain ⟨⟨old, he⟩, ⟨o, ho, hc, hd⟩, _⟩ := st
    rcases List.mem_cons.mp hb with z | hb
    · rw [z]; exact ⟨_, he, fun v q => nomatch q⟩
    · rw [List.mem_singleton.mp hb]; exact ⟨o, ho, fun v q => by rw [hd] at q; cases q⟩
  keep := fun i h h' st k => let ⟨⟨old, he⟩, hi, ne⟩ := st; ⟨⟨old, k e (by simp) _ he⟩, hi.at fun o q => k it (by simp) o q, ne⟩
  item := by
    intro X hP hw hK hc i pins s σ H E I hf st hg
    subst hP hw hK
    obtain ⟨⟨old, he⟩, hit, ne⟩ := st
    obtain ⟨xs, x, hq, hx⟩ := hg
    obtain ⟨its, rv, p, hz⟩ := I.tuple hq
    obtain ⟨u, hu, ru⟩ := rv.get hx
    have el : e < s.heap.objs.size := Heap.lt_size he
    have il : it < s.heap.objs.size := by obtain ⟨_, q, _⟩ := hit; exact Heap.lt_size q
    refine nextEnum he hit (show s.heap.IsTuple a its.toArray from p) (x := u) (by simpa using hu) ne fun h' T => ⟨_, rfl, wpAny_letOwnedTupleGo_enum (s := { s with heap := h', toks := s.toks + 1 }) T.out fun h2 he2 sb => ?_⟩
    have pr : h2.get? s.heap.objs.size = some { cls := .type "tuple", data := .seq #[.int i s.toks, u] } := (sb.2 _ (Nat.ne_of_gt el)).trans T.pair
    have new : ObjOk X.prog X.w (upd H s.heap.objs.size (.tup [.int (i : Nat), x])) h2 s.heap.objs.size (.tup [.int (i : Nat), x]) :=
      ⟨by show 2 ≤ sizeLine; decide, [.int i s.toks, u], .cons ⟨_, rfl⟩ (.cons ru .nil), ⟨_, pr, rfl, _, rfl⟩⟩
    have I1 : Inv X pins σ (upd H s.heap.objs.size (.tup [.int (i : Nat), x])) { s with heap := h2, toks := s.toks + 1 } :=
      I.turnedNew (ch := [e, it]) (fun b ob hb q => (sb.2 b fun z => hb (by simp [z])).trans (T.kept b ob (fun z => hb (by simp [z])) (fun z => hb (by simp [z])) q)) hf (Nat.le_refl _) new
    refine ⟨.ref s.heap.objs.size, _, I1, rfl, ⟨_, x, rfl, I.hok.fresh (Nat.le_refl _), rfl, fun ys hy => by rw [I.tuple_inj hy hq]; exact hx⟩, ⟨⟨u, ?_⟩, T.ptr.at fun o q => (sb.2 it (Ne.symm ne)).trans q, ne⟩, fun b hb => ?_⟩
    · rw [show ((i + 1 : Nat) : Int) = (i : Int) + 1 by omega]; exact he2
    · have lb : b < s.heap.objs.size := by
        rcases List.mem_cons.mp hb with z | hb
        · rw [z]; exact el
        · rw [List.mem_singleton.mp hb]; exact il
      rw [upd_ne (Nat.ne_of_lt lb)]
      exact (hf b hb).1
  done := by
    intro X hP hw hK hc i pins s σ H E I hf st hg
    subst hP hw hK
    obtain ⟨⟨old, he⟩, hit, ne⟩ := st
    obtain ⟨xs, hq, hx⟩ := hg
    obtain ⟨its, rv, p, hz⟩ := I.tuple hq
    obtain ⟨f0, f1, f2, f3, f4, f5⟩ := hf it (by simp)
    have hl := rv.length
    exact stopEnum (I.ok.hd hc) he hit (show s.heap.IsTuple a its.toArray from p) (by simp; omega) fun h' eb => ⟨rfl, I.turned (t' := s.toks) (fun b o hb q => eb b o hb q) f0 f1 f3 f4 f5⟩
  self := fun A i s Q E st h => let ⟨⟨_, he⟩, _⟩ := st; wpAny_pyIter_enum he h
theorem walk_enumT {K : PySem.W.Frag} {a : Addr} {xs : List V} : Walk (IteT K a) xs.length (fun H => SqT K H a xs) (YPair (fun i => some (.int (i : Nat))) (fun i => xs[i]?)) :=
  ⟨fun i _ hi q => ⟨xs, xs[i], q, by simp [hi]⟩, fun _ q => ⟨xs, q, Nat.le_refl _⟩, fun i H v H' _ q ⟨T, x, e1, e2, e3, e4⟩ => ⟨T, _, x, e1, e2, e3, rfl, e4 xs q⟩⟩
theorem pi_enumA {X : Cx} {e : Expr} {ta : TA} {p pos tpos : Pos} {elts : List Expr} {kk : Nat} (hg : Gl X "enumerate") (hm : X.mg "enumerate" = none) (ha : PA X [e] ta) (hs : starEach [e] X.env = [(false, eval e X.env)]) :
    PI X (.Tuple elts kk tpos) (.Call (.Name "enumerate" p) [e] [] pos) (fun σ H R => ta σ H fun vs H1 => ∃ a xs, vs = [.ref a] ∧ ((SqL X.K H1 a xs ∧ R (Ite X.K a) H1) ∨ (SqT X.K H1 a xs ∧ R (IteT X.K a) H1))) := by
  refine ⟨fun pins s σ H R I h => Call_ (ld_blt I hg hm boot_enumerate (PyProof.Rows.callWith_type1 (thn (ha.run pos pins s σ H _ I h) fun us s1 ⟨vs, H1, I1, r1, a, xs, ex, q1⟩ => ?_) hs rfl))⟩
  subst ex
  cases r1 with
  | cons r rr =>
    cases rr
    cases r
    have own : ∀ b ∈ [s1.heap.objs.size + 1, s1.heap.objs.size], FpOk X pins H1 b := fun b hb => by
      have le : s1.heap.objs.size ≤ b := by
        rcases List.mem_cons.mp hb with z | hb
        · rw [z]; exact Nat.le_succ _
        · rw [List.mem_singleton.mp hb]; exact Nat.le_refl _
      exact I1.fpOk le (I1.hok.fresh le)
    rcases q1 with ⟨hq, q⟩ | ⟨hq, q⟩
    · obtain ⟨its, rv, pl, _⟩ := I1.list hq
      exact call_enumerate_list pl.isList fun h' he hit _ hk => wpAny_pyIter_enum he
        ⟨s1.heap.objs.size + 1, [s1.heap.objs.size + 1, s1.heap.objs.size], _, _, H1, rfl, I1.kept (t' := s1.toks) hk, turn_enum a _ _, ⟨⟨.none, he⟩, hit, Nat.succ_ne_self _⟩, own, q⟩
    · obtain ⟨its, rv, pl, _⟩ := I1.tuple hq
      exact makeEnum (show s1.heap.IsTuple a its.toArray from pl) fun h' he hit hk => wpAny_pyIter_enum he
        ⟨s1.heap.objs.size + 1, [s1.heap.objs.size + 1, s1.heap.objs.size], _, _, H1, rfl, I1.kept (t' := s1.toks) hk, turnT a _ _, ⟨⟨.none, he⟩, hit, Nat.succ_ne_self _⟩, own, q⟩
end IpEnum
namespace Ip
open PySem PySem.Spec PyProof.Rows L2
variable {sg : Sg} {W : WX} {G : Gc} {C : CK} {sc sS : Scope} {k : Nat} {X : Cx} {a b c : E} {ea eb ec : Expr} {pos : Pos} {cs : List E} {es rest : List Expr}
theorem wk_enum {Φ : Hp} {J : It} {Gd : Hp → Prop} {vs : List V} {xs : List D} (r : RepDs Φ vs xs) (hg : ∀ H, Sb Φ H → Gd H)
    (w : Walk J vs.length Gd (YPair (fun i => some (.int (i : Nat))) (fun i => vs[i]?))) : WkI Φ J ((xs.zipIdx).map fun p => .d (.tup [.int p.2, p.1])) := by
  unfold WkI
  rw [List.length_map, List.length_zipIdx, ← r.len]
  refine Walk.mono w hg fun i H v H' hi s y => ?_
  obtain ⟨T, x, y', e1, e2, e3, e4, e5⟩ := y
  cases e4
  obtain ⟨d, h1, h2⟩ := r.at_ e5
  refine ⟨.tup [.int (i : Nat), d], ?_, .inr ⟨T, [.int (i : Nat), y'], [.int (i : Nat), d], e2, e3, e1, rfl, .cons (.int _) (.cons h2 .nil)⟩⟩
  rw [List.getElem?_map, List.getElem?_zipIdx, h1]
  simp
theorem s_enum {p tpos : Pos} {elts : List Expr} {kk : Nat} (cx : Ctx sg W G C sc k X) (hg : glB sc "enumerate" = true) (hf : ("enumerate" : Str) ∈ C.free) (ha : PE X ea (tE sg W G a)) (hn : notStar ea = true) :
    PI X (.Tuple elts kk tpos) (.Call (.Name "enumerate" p) [ea] [] pos) (tIt sg W G (.enum a)) :=
  (IpEnum.pi_enumA (glB_ok cx hg) (cx.free _ hf) (pa_cons ha pa_nil (star_cons hn [] X.env)) (star_cons hn [] X.env)).mono fun σ H R t =>
  tM.bind (m := fun ρ => evE G ρ a) t fun ρ v h1 α1 Φ1 H1 x rl fr rx p => by
    cases v with
    | ref n => exact (show False from p).elim
    | d d =>
      cases d with
      | tup xs =>
        cases rx with
        | @tup a1 vs _ e1 r1 => exact ⟨a1, vs, rfl, .inr ⟨rl.seqT e1, PG.same (b := (xs.zipIdx).map fun p => MV.d (.tup [.int p.2, p.1])) p rl (wk_enum r1 (fun H s => .inl (s _ _ e1)) IpEnum.walk_enumT)⟩⟩
      | lst xs =>
        cases rx with
        | @lst a1 vs _ e1 r1 => exact ⟨a1, vs, rfl, .inl ⟨rl.seqL e1, PG.same (b := (xs.zipIdx).map fun p => MV.d (.tup [.int p.2, p.1])) p rl (wk_enum r1 (fun H s => .inl (s _ _ e1)) walk_enum)⟩⟩
      | _ => exact (show False from p).elim
end Ip

namespace Ip
open PySem PySem.Spec PyProof.Rows L2
variable {sg : Sg} {W : WX} {G : Gc} {C : CK} {sc sS : Scope} {k : Nat} {X : Cx} {a b c : E} {ea eb ec : Expr} {pos : Pos} {cs : List E} {es rest : List Expr}
/-! ### an object aside: tracked, but neither frozen nor of the heap -/
structure Aside (α : List Addr) (Φ H : Hp) (D : Addr) (o : HO) : Prop where
  at_ : H D = some o
  nf : Φ D = none
  nm : D ∉ α
theorem Aside.step {α α' : List Addr} {Φ H Φ' H' : Hp} {D : Addr} {o : HO} (a : Aside α Φ H D o) (s : Step α Φ H α' Φ' H') : Aside α' Φ' H' D o := by
  refine ⟨s.keep D o a.at_ a.nm, ?_, fun z => ?_⟩
  · cases q : Φ' D with
    | none => rfl
    | some u =>
      rcases s.new D u q with z | z | z
      · rw [a.nf] at z; cases z
      · rw [a.at_] at z; cases z
      · exact absurd z a.nm
  · obtain ⟨β, rfl, hβ⟩ := s.ext
    rcases List.mem_append.mp z with z | z
    · exact a.nm z
    · have := hβ D z; rw [a.at_] at this; cases this
theorem Rl.side {α : List Addr} {Φ H : Hp} {h : Hm} (r : Rl α Φ h H) {D : Addr} (hf : Φ D = none) (hm : D ∉ α) (o : HO) : Rl α Φ h (upd H D o) := by
  refine ⟨fun a u q => ?_, r.len, r.inj, fun a ha => ?_, fun n a o' q1 q2 => ?_⟩
  · have z : a ≠ D := fun z => by rw [z, hf] at q; cases q
    exact (r.sub a u q).mono fun v e => by rw [upd_ne z]; exact e
  · rw [upd_ne (show a ≠ D from fun z => hm (z ▸ ha))]; exact r.live a ha
  · have z : a ≠ D := fun z => hm (z ▸ List.mem_of_getElem? q1)
    exact (r.obj n a o' q1 q2).le .refl (fun u w => by rw [upd_ne z]; exact w) fun w => w
theorem Step.side {α α' : List Addr} {Φ H Φ' H' : Hp} (s : Step α Φ H α' Φ' H') {D : Addr} (hD : H D = none) (o : HO) : Step α Φ H α' Φ' (upd H' D o) :=
  ⟨s.ext, s.le, fun a u q ha => by rw [upd_ne (show a ≠ D from fun z => by rw [z, hD] at q; cases q)]; exact s.keep a u q ha, s.new⟩
theorem Rl.frz {α : List Addr} {Φ H : Hp} {h : Hm} (r : Rl α Φ h H) {D : Addr} {o : HO} (a : Aside α Φ H D o) : Rl α (upd Φ D o) h H := by
  refine ⟨fun b u q => ?_, r.len, r.inj, r.live, fun n b o' q1 q2 => ?_⟩
  · by_cases z : b = D
    · subst z; rw [upd_same] at q; cases q; exact .of a.at_
    · rw [upd_ne z] at q; exact r.sub b u q
  · have z : b ≠ D := fun z => a.nm (z ▸ List.mem_of_getElem? q1)
    exact (r.obj n b o' q1 q2).le (fun c u q => by rw [upd_ne (fun w => by rw [w, a.nf] at q; cases q)]; exact q) (fun u q => q) fun q => by rw [upd_ne z]; exact q
theorem Step.frz {α α' : List Addr} {Φ H Φ' H' : Hp} (s : Step α Φ H α' Φ' H') {D : Addr} {o : HO} (hD : H D = none) (hf : Φ' D = none) : Step α Φ H α' (upd Φ' D o) H' :=
  ⟨s.ext, s.le.trans fun c u q => by rw [upd_ne (fun w => by rw [w, hf] at q; cases q)]; exact q, s.keep, fun a u q => by
    by_cases z : a = D
    · subst z; exact .inr (.inl hD)
    · rw [upd_ne z] at q; exact s.new a u q⟩
theorem Rl.adopt {α : List Addr} {Φ H : Hp} {h : Hm} (r : Rl α Φ h H) {D : Addr} {vs : List V} {ms : List MV} (a : Aside α Φ H D (.lst vs)) (q : RepVs α Φ vs ms) : Rl (α ++ [D]) Φ (h ++ [.lst ms]) H := by
  have key : ∀ (i : Nat) (b : Addr), (α ++ [D])[i]? = some b → (i < α.length ∧ α[i]? = some b) ∨ (i = α.length ∧ b = D) := fun i b h1 => by
    by_cases hi : i < α.length
    · rw [List.getElem?_append_left hi] at h1; exact .inl ⟨hi, h1⟩
    · rw [List.getElem?_append_right (by omega)] at h1
      by_cases hz : i - α.length = 0
      · rw [hz] at h1; exact .inr ⟨by omega, (Option.some.inj h1).symm⟩
      · rw [List.getElem?_eq_none (by simp; omega)] at h1; cases h1
  have up : ∀ {v : V} {m : MV}, RepV α Φ v m → RepV (α ++ [D]) Φ v m := fun {v m} z => by
    cases m with
    | d x => exact z
    | ref n =>
      obtain ⟨b, e, w⟩ := z
      exact ⟨b, by rw [List.getElem?_append_left (List.getElem?_eq_some_iff.mp e).1]; exact e, w⟩
  refine ⟨r.sub, by simp [r.len], fun i j b h1 h2 => ?_, fun b hb => ?_, fun n b o h1 h2 => ?_⟩
  · rcases key i b h1 with ⟨_, a1⟩ | ⟨a1, a2⟩ <;> rcases key j b h2 with ⟨_, b1⟩ | ⟨b1, b2⟩
    · exact r.inj i j b a1 b1
    · subst b2; exact absurd (List.mem_of_getElem? a1) a.nm
    · subst a2; exact absurd (List.mem_of_getElem? b1) a.nm
    · omega
  · rcases List.mem_append.mp hb with z | z
    · exact r.live b z
    · rw [List.mem_singleton.mp z, a.at_]; simp
  · rcases key n b h1 with ⟨a0, a1⟩ | ⟨a1, a2⟩
    · rw [List.getElem?_append_left (by rw [← r.len]; exact a0)] at h2
      have ro := r.obj n b o a1 h2
      cases o with
      | lst ys =>
        obtain ⟨g1, ws, g2, g3⟩ := ro
        exact ⟨g1, ws, g2, Paired.mapP g3 fun _ _ z => up z⟩
      | dead => trivial
      | dict _ => exact ro
      | ins _ _ => exact ro
    · subst a2
      rw [List.getElem?_append_right (by rw [← r.len]; omega)] at h2
      rw [show n - h.length = 0 by rw [← r.len]; omega] at h2
      cases h2
      exact ⟨a.nf, vs, a.at_, Paired.mapP q fun _ _ z => up z⟩
theorem Step.adopt {α α' : List Addr} {Φ H Φ' H' : Hp} (s : Step α Φ H α' Φ' H') {D : Addr} (hD : H D = none) : Step α Φ H (α' ++ [D]) Φ' H' := by
  obtain ⟨β, e, hβ⟩ := s.ext
  refine ⟨⟨β ++ [D], by rw [e, List.append_assoc], fun p hp => ?_⟩, s.le, s.keep, s.new⟩
  rcases List.mem_append.mp hp with z | z
  · exact hβ p z
  · rw [List.mem_singleton.mp z]; exact hD
/-! ### the pieces of a comprehension's run -/
theorem noX_bind {β γ δ ν : Type} {σ : St} {α : List Addr} {Φ H : Hp} {h : Hm} {m : M β} {f : β → M γ} {g : γ → M δ} {Rp : List Addr → Hp → ν → δ → Prop} {Q : ν → Hp → Prop} (p : PG sg W σ α Φ H (M.bind (noX (M.bind m f)) g h) Rp Q) :
    ∃ v h2, m h = .ok v h2 ∧ PG sg W σ α Φ H (M.bind (noX (f v)) g h2) Rp Q := by
  unfold M.bind noX at p
  cases e : m h with
  | ok v h2 =>
    refine ⟨v, h2, rfl, ?_⟩
    simp only [e] at p
    unfold M.bind noX
    exact p
  | exc e2 h2 => simp only [e] at p; exact p.elim
  | stuck => simp only [e] at p; exact p.elim
theorem noX_map {β γ δ ν : Type} {σ : St} {α : List Addr} {Φ H : Hp} {h : Hm} {m : M β} {f : β → γ} {g : γ → M δ} {Rp : List Addr → Hp → ν → δ → Prop} {Q : ν → Hp → Prop} (p : PG sg W σ α Φ H (M.bind (noX (M.bind m fun r => M.pure (f r))) g h) Rp Q) :
    PG sg W σ α Φ H (M.bind (noX m) (fun r => g (f r)) h) Rp Q := by
  unfold M.bind noX at p ⊢
  cases e : m h with
  | ok v h2 => simp only [e, M.pure] at p ⊢; exact p
  | exc e2 h2 => simp only [e] at p; exact p.elim
  | stuck => simp only [e] at p; exact p.elim
theorem okPG {β ν : Type} {σ : St} {W' : WX} {α : List Addr} {Φ H : Hp} {r : R β} {v : β} {h2 : Hm} {Rp : List Addr → Hp → ν → β → Prop} {Q : ν → Hp → Prop} (e : r = .ok v h2) (q : ∀ α' Φ' H' x, Step α Φ H α' Φ' H' → Rl α' Φ' h2 H' → Rp α' Φ' x v → Q x H') : PG sg W' σ α Φ H r Rp Q := by
  subst e; exact q
abbrev W0 : WX := fun _ _ _ _ => False
theorem Ctx.blk (cx : Ctx sg W G C sc k X) (s : Shared) (H : Hp) (scope : Scope) (Cc : Addr) (cl : List (Str × Addr)) (fp : List Addr) : Ctx sg W0 G C (relS scope sc) k (X.blk s H scope (compEnvC scope cl Cc X.env) fp) :=
  ⟨cx.N, cx.nd, by show relS scope X.env.scope = _; rw [cx.sc], cx.calm, cx.free, cx.room, fun f x h => ⟨(cx.fns f x h).at_⟩, fun _ _ ⟨_, _, _, _, _, _, _, _, _, _, _, _, _, _, _, _, w⟩ => w⟩
theorem Sto.blk (cx : Ctx sg W G C sc k X) (s : Shared) (H : Hp) (scope : Scope) (Cc : Addr) (cl : List (Str × Addr)) (fp : List Addr) : Sto C scope (X.blk s H scope (compEnvC scope cl Cc X.env) fp) := by
  refine ⟨cx.N, cx.nd, cx.calm, fun x h => ?_⟩
  rcases h with h | h
  · have e : (relS scope X.env.scope).names.lookup x = some .local := lookup_relS_keep (by decide) h
    exact ⟨.inl e, .inr e⟩
  · have e : (relS scope X.env.scope).names.lookup x = some .cell := lookup_relS_keep (by decide) h
    refine ⟨.inr e, .inl ?_⟩
    show (scope.names.lookup x == some .cell) = true
    rw [h]; rfl
theorem wipe_len (σ : St) (vs : List Nat) : (L2.wipe σ vs).length = σ.length := wipe_length σ vs
theorem wipe_at (σ : St) : ∀ (vs : List Nat) (i : Nat), (L2.wipe σ vs)[i]? = if i ∈ vs then (if i < σ.length then some none else none) else σ[i]?
  | [], i => by simp [L2.wipe]
  | v :: vs, i => by
    unfold L2.wipe
    rw [List.getElem?_set, wipe_at σ vs i, wipe_length]
    by_cases h1 : v = i
    · subst h1; simp
    · have h2 : ¬ i = v := fun z => h1 z.symm
      simp [h1, h2]
theorem wipe_off {σ σ' : St} {vs ws : List Nat} (o : Off ws (L2.wipe σ vs) σ') (hs : ∀ i ∈ ws, i ∈ vs) : L2.wipe σ' vs = L2.wipe σ vs := by
  apply List.ext_getElem?
  intro i
  have hl : σ.length = σ'.length := by rw [← o.1, wipe_length]
  rw [wipe_at, wipe_at, hl]
  by_cases hi : i ∈ vs
  · simp [hi]
  · have q := o.2 i fun z => hi (hs i z)
    rw [wipe_at] at q
    simp only [hi, if_false] at q ⊢
    exact q.symm
def lcEnd (m : Bool) (vs : List MV) : M MV := if m then asLstM vs else asLst vs
/-- the reading of a comprehension -/
theorem v_lc {m : Bool} {elt : E} {t : Tg} {it : I} {own : List Nat} (hsl : ∀ i ∈ slots t, i ∈ own) {σ : St} {H : Hp} {Q : VK} (u : tE sg W G (.lc m elt t it cs own) σ H Q) :
    tLc (tIt sg W G it) (gT t) (tM sg W0 (fun ρ => evCs G ρ cs) Rb) (tE sg W0 G elt) own σ H Q := by
  refine tM.bind (m := fun ρ => evI G ρ it) u fun ρ xs h1 α1 Φ1 H1 J rl1 fr1 wk p => ?_
  intro D hD
  obtain ⟨d1, d2⟩ := rl1.free hD
  have p : PG sg W σ α1 Φ1 H1 (M.bind (chkLen xs) (fun _ => M.bind (noX (mapF (lcF (Ip.wipe ρ own) t (fun ρ' => evCs G ρ' cs) (fun ρ' => evE G ρ' elt)) xs)) (lcEnd m)) h1) RepV Q := p
  unfold chkLen at p
  by_cases hz : xs.length ≤ big
  case neg => rw [if_neg hz] at p; exact p.elim
  rw [if_pos hz] at p
  have p : PG sg W σ α1 Φ1 H1 (M.bind (noX (mapF (lcF (Ip.wipe ρ own) t (fun ρ' => evCs G ρ' cs) (fun ρ' => evE G ρ' elt)) xs)) (lcEnd m) h1) RepV Q := p
  generalize hF : lcF (Ip.wipe ρ own) t (fun ρ' => evCs G ρ' cs) (fun ρ' => evE G ρ' elt) = F at p
  refine lc_it wk (fun i Hc => ∃ α' Φ' h' vs ms, Step α1 Φ1 H1 α' Φ' Hc ∧ Rl α' Φ' h' Hc ∧ Aside α' Φ' Hc D (.lst vs) ∧ RepVs α' Φ' vs ms ∧ vs.length ≤ i ∧
    PG sg W σ α1 Φ1 H1 (M.bind (noX (mapF F (xs.drop i))) (fun r => lcEnd m (ms ++ r)) h') RepV Q)
    ⟨α1, Φ1, h1, [], [], Step.refl.side hD _, rl1.side d1 d2 _, ⟨upd_same, d1, d2⟩, .nil, Nat.le_refl _, by simpa using p⟩
    (fun i Hc _ ⟨α', Φ', h', vs, ms, st, rl, _⟩ a u q => rl.sub a u (st.le a u q)) ?_ ?_
  · rintro i x Hc H' hi ⟨α', Φ', h', vs, ms, st, rl, as, rv, hl, p⟩ ⟨d, ed, y⟩
    -- the item, at its heap
    obtain ⟨Φ2, st2, rl2, as2, rv2, rx⟩ : ∃ Φ2, Step α1 Φ1 H1 α' Φ2 H' ∧ Rl α' Φ2 h' H' ∧ Aside α' Φ2 H' D (.lst vs) ∧ RepVs α' Φ2 vs ms ∧ RepD Φ2 x d := by
      rcases y with ⟨rfl, y⟩ | ⟨T, ws, ds, hT, rfl, rfl, rfl, rd⟩
      · exact ⟨Φ', st, rl, as, rv, RepD.le st.le y⟩
      · have s1 := Step.lay rl hT (.tup ws)
        have q1 := rl.lay hT (.tup ws)
        exact ⟨_, st.trans s1 rl.live, q1, as.step s1, rv.step s1, .tup upd_same (RepDs.le (st.le.trans s1.le) rd)⟩
    have ex : xs.drop i = .d d :: xs.drop (i + 1) := by
      obtain ⟨hi2, e2⟩ := List.getElem?_eq_some_iff.mp ed
      rw [List.drop_eq_getElem_cons hi2, e2]
    rw [ex] at p
    obtain ⟨o, h2, eF, p2⟩ := noX_bind (m := F (.d d)) (f := fun o => M.bind (mapF F (xs.drop (i + 1))) fun r => M.pure (match o with | some y => y :: r | none => r)) p
    have p3 := noX_map p2
    rw [← hF] at eF
    unfold lcF at eF
    cases eb : bindT t (.d d) (Ip.wipe ρ own) with
    | none => rw [eb] at eF; cases eF
    | some ρ' =>
      simp only [eb] at eF
      obtain ⟨bb, h3, ec, eF⟩ := bind_ok eF
      refine ⟨α', Φ2, .d d, Ip.wipe ρ own, ρ', rl2.sub, ((fr1.step st2).wipe own), rx, eb, fun σ' fr' off => ⟨wipe_off off hsl, α', Φ2, ρ', h', rl2, fr', okPG ec fun α3 Φ3 H3 b' st3 rl3 hb => ?_⟩⟩
      subst hb
      have as3 := as2.step st3
      have rv3 := rv2.step st3
      have s3 := st2.trans st3 rl2.live
      cases b' with
      | true =>
        rw [if_pos rfl]
        simp only [if_true] at eF
        obtain ⟨v, h4, ee, eF⟩ := bind_ok eF
        cases eF
        refine ⟨α3, Φ3, ρ', h3, rl3, fr'.step st3, okPG ee fun α4 Φ4 H4 yv st4 rl4 ry => ?_⟩
        have as4 := as3.step st4
        refine ⟨vs, as4.at_, ?_, α4, Φ4, h2, vs ++ [yv], ms ++ [v], ?_, rl4.side as4.nf as4.nm _, ⟨upd_same, as4.nf, as4.nm⟩, (rv3.step st4).app (.cons ry .nil), by simp; omega, ?_⟩
        · have : big < sizeLine := by unfold big; rw [sizeLine_eq]; decide
          omega
        · exact (s3.trans st4 rl3.live).side hD _
        · simpa using p3
      | false =>
        rw [if_neg Bool.false_ne_true]
        simp only [Bool.false_eq_true, if_false] at eF
        cases eF
        exact ⟨α3, Φ3, _, vs, ms, s3, rl3, as3, rv3, by omega, p3⟩
  · rintro Hc ⟨α', Φ', h', vs, ms, st, rl, as, rv, hl, p⟩
    rw [List.drop_length] at p
    have p : PG sg W σ α1 Φ1 H1 (lcEnd m (ms ++ []) h') RepV Q := p
    rw [List.append_nil] at p
    cases m with
    | true =>
      have p : PG sg W σ α1 Φ1 H1 (asLstM ms h') RepV Q := p
      unfold asLstM at p
      split at p
      · refine PG.okI (b := MV.ref h'.length) p (st.adopt hD) (rl.adopt as rv) ⟨D, ?_, rfl⟩
        rw [← rl.len, List.getElem?_append_right (Nat.le_refl _), Nat.sub_self]; rfl
      · exact p.elim
    | false =>
      have p : PG sg W σ α1 Φ1 H1 (asLst ms h') RepV Q := p
      unfold asLst at p
      cases e : Ip.grs ms with
      | none => simp only [e] at p; exact p.elim
      | some ds =>
        simp only [e] at p
        split at p
        · exact PG.okI (b := MV.d (.lst ds)) p (st.frz hD as.nf) (rl.frz as) (RepD.lst upd_same (RepDs.le (fun c u q => by rw [upd_ne (fun w => by rw [w, as.nf] at q; cases q)]; exact q) (rv.grs e)))
        · exact p.elim
/-- what a comprehension's parts must be, in its block -/
structure LcOk (X : Cx) (sg : Sg) (W : WX) (G : Gc) (C : CK) (sc : Scope) (k : Nat) (elt : E) (t : Tg) (it : I) (cs : List E) (own : List Nat) (ee tg iter : Expr) (ifs : List Expr) (scope : Scope) (op : List (Str × Nat)) : Prop where
  hit : PI X tg iter (tIt sg W G it)
  ok : blkC C.N sc scope op = true
  hown : op.map (·.2) = own
  htg : chkT C scope t tg = true
  sl : ∀ i, i ∈ slots t → i ∈ own
  hcs : ∀ X', Ctx sg W0 G C (relS scope sc) k X' → PTs X' ifs (tM sg W0 (fun ρ => evCs G ρ cs) Rb)
  hel : ∀ X', Ctx sg W0 G C (relS scope sc) k X' → PE X' ee (tE sg W0 G elt)
  hfs : ∀ x, foldedSetIterable iter X.env x = pure x
theorem s_lc {m : Bool} {elt : E} {t : Tg} {it : I} {own : List Nat} {ee tg iter : Expr} {ifs : List Expr} {scope : Scope} {op : List (Str × Nat)} (cx : Ctx sg W G C sc k X) (h : LcOk X sg W G C sc k elt t it cs own ee tg iter ifs scope op) :
    PE X (.ListComp ee [⟨tg, iter, ifs, 0⟩] scope pos) (tE sg W G (.lc m elt t it cs own)) := by
  have ok : BlkOk X.N X.env.scope scope op := by rw [cx.N, cx.sc]; exact blkOk_by h.ok
  refine (pe_lc cx.calm cx.nd h.hit ok (fun s H Cc cl fp => sTg (Sto.blk cx s H scope Cc cl fp) t h.htg) (fun s H Cc cl fp => h.hcs _ (cx.blk s H scope Cc cl fp)) (fun s H Cc cl fp => h.hel _ (cx.blk s H scope Cc cl fp)) h.hfs).mono fun σ H Q u => ?_
  rw [h.hown]
  exact v_lc h.sl u
theorem s_csNil : PTs X [] (tM sg W (fun ρ => evCs G ρ []) Rb) := pts_nil.mono fun σ H Q ⟨α, Φ, ρ, h, rl, fr, p⟩ => PG.same (b := true) p rl rfl
theorem s_csOne (ha : Snd X sg W G a ea) : PTs X [ea] (tM sg W (fun ρ => evCs G ρ [a]) Rb) := (pts_one ha.pt).mono fun σ H Q ⟨α, Φ, ρ, h, rl, fr, p⟩ => by
  refine ⟨α, Φ, ρ, h, rl, fr, ?_⟩
  refine PG.imp p fun v h1 e q => ?_
  unfold truthM
  cases e2 : Ip.truth h1 v with
  | none => simp only [e2] at q; exact q.elim
  | some b =>
    simp only [e2] at q
    cases b with
    | true => exact q
    | false => exact q
end Ip

namespace Ip
open PySem PySem.Spec PyProof.Rows L2
variable {sg : Sg} {W : WX} {P : Prog} {G : Gc} {C : CK} {sc sS : Scope} {k : Nat} {X : Cx} {a b c : E} {ea eb ec : Expr} {pos : Pos} {cs : List E} {es rest : List Expr} {s : S} {ss : List S} {st : Stmt} {sts : List Stmt}
/-! ### statements -/
def PF (sg : Sg) (W : WX) (σ : St) (α : List Addr) (Φ H : Hp) (r : R Flow) (D : Ends) : Prop := match r with
  | .ok (.nx ρ') h' => ∀ α' Φ' H' σ', Step α Φ H α' Φ' H' → Rl α' Φ' h' H' → Fr α' Φ' ρ' σ' → σ'.length = σ.length → D.nx σ' H'
  | .ok (.brk ρ') h' => ∀ α' Φ' H' σ', Step α Φ H α' Φ' H' → Rl α' Φ' h' H' → Fr α' Φ' ρ' σ' → σ'.length = σ.length → D.bk σ' H'
  | .ok (.ct ρ') h' => ∀ α' Φ' H' σ', Step α Φ H α' Φ' H' → Rl α' Φ' h' H' → Fr α' Φ' ρ' σ' → σ'.length = σ.length → D.ct σ' H'
  | .ok (.ret v) h' => ∀ α' Φ' H' x, Step α Φ H α' Φ' H' → Rl α' Φ' h' H' → RepV α' Φ' x v → D.rt x H'
  | .exc e h' => ∀ α' Φ' H' cls d σ', Step α Φ H α' Φ' H' → Rl α' Φ' h' H' → RepX sg Φ' H' e cls d → σ'.length = σ.length → W cls d σ' H'
  | .stuck => False
theorem PF.step {σ σ1 : St} {α α1 : List Addr} {Φ H Φ1 H1 : Hp} {h1 : Hm} {r : R Flow} {D : Ends} (p : PF sg W σ α Φ H r D) (s : Step α Φ H α1 Φ1 H1) (l : Rl α1 Φ1 h1 H1) (e : σ1.length = σ.length) : PF sg W σ1 α1 Φ1 H1 r D := by
  cases r with
  | ok f h' =>
    cases f with
    | nx ρ' => exact fun α' Φ' H' σ' st rl fr q => p α' Φ' H' σ' (s.trans st l.live) rl fr (q.trans e)
    | brk ρ' => exact fun α' Φ' H' σ' st rl fr q => p α' Φ' H' σ' (s.trans st l.live) rl fr (q.trans e)
    | ct ρ' => exact fun α' Φ' H' σ' st rl fr q => p α' Φ' H' σ' (s.trans st l.live) rl fr (q.trans e)
    | ret v => exact fun α' Φ' H' x st rl rv => p α' Φ' H' x (s.trans st l.live) rl rv
  | exc e' h' => exact fun α' Φ' H' cls d σ' st rl rx q => p α' Φ' H' cls d σ' (s.trans st l.live) rl rx (q.trans e)
  | stuck => exact p
theorem PF.bind {β ν : Type} {σ : St} {α : List Addr} {Φ H : Hp} {h : Hm} {m : M β} {f : β → M Flow} {RpA : List Addr → Hp → ν → β → Prop} {K : ν → Hp → Prop} {D : Ends} (p : PF sg W σ α Φ H (M.bind m f h) D)
    (q : ∀ v h1 α1 Φ1 H1 x, m h = .ok v h1 → Step α Φ H α1 Φ1 H1 → Rl α1 Φ1 h1 H1 → RpA α1 Φ1 x v → PF sg W σ α1 Φ1 H1 (f v h1) D → K x H1) : PG sg W σ α Φ H (m h) RpA K := by
  unfold M.bind at p
  cases e : m h with
  | ok v h1 => rw [e] at p; exact fun α1 Φ1 H1 x st rl rp => q v h1 α1 Φ1 H1 x e st rl rp (PF.step p st rl rfl)
  | exc e' h1 => rw [e] at p; exact fun α' Φ' H' cls d st rl rx => p α' Φ' H' cls d σ st rl rx rfl
  | stuck => rw [e] at p; exact p
def tSt (sg : Sg) (W : WX) (m : Frame → M Flow) : TS := fun D σ H => ∃ α Φ ρ h, Rl α Φ h H ∧ Fr α Φ ρ σ ∧ PF sg W σ α Φ H (m ρ h) D
theorem tSt.bind {β ν : Type} {m : Frame → M β} {f : Frame → β → M Flow} {RpA : List Addr → Hp → ν → β → Prop} {σ : St} {H : Hp} {K : ν → Hp → Prop} {D : Ends} (t : tSt sg W (fun ρ => M.bind (m ρ) (f ρ)) D σ H)
    (k : ∀ ρ v h1 α1 Φ1 H1 x, Rl α1 Φ1 h1 H1 → Fr α1 Φ1 ρ σ → RpA α1 Φ1 x v → PF sg W σ α1 Φ1 H1 (f ρ v h1) D → K x H1) : tM sg W m RpA σ H K := by
  obtain ⟨α, Φ, ρ, h, rl, fr, p⟩ := t
  exact ⟨α, Φ, ρ, h, rl, fr, PF.bind p fun v h1 α1 Φ1 H1 x _ st rl1 rp p1 => k ρ v h1 α1 Φ1 H1 x rl1 (fr.step st) rp p1⟩
abbrev tS (sg : Sg) (W : WX) (P : Prog) (G : Gc) (s : S) : TS := tSt sg W fun ρ => exS P G ρ s
abbrev tSs (sg : Sg) (W : WX) (P : Prog) (G : Gc) (ss : List S) : TS := tSt sg W fun ρ => exSs P G ρ ss
theorem PF.seq {σ : St} {α : List Addr} {Φ H : Hp} {h : Hm} {m : M Flow} {f : Frame → M Flow} {D : Ends} (p : PF sg W σ α Φ H (M.bind m (flowK f) h) D) : PF sg W σ α Φ H (m h) { D with nx := tSt sg W f D } := by
  unfold M.bind at p
  cases e : m h with
  | ok fl h1 =>
    rw [e] at p
    cases fl with
    | nx ρ' =>
      intro α' Φ' H' σ' st rl fr q
      exact ⟨α', Φ', ρ', h1, rl, fr, PF.step p st rl q⟩
    | brk ρ' => exact p
    | ct ρ' => exact p
    | ret v => exact p
  | exc e' h1 => rw [e] at p; exact p
  | stuck => rw [e] at p; exact p
theorem PF.loop {σ : St} {α : List Addr} {Φ H : Hp} {h : Hm} {m : M Flow} {f : Frame → M Flow} {D : Ends} {N : St → Hp → Prop} (p : PF sg W σ α Φ H (M.bind m (loopK f) h) D)
    (hN : ∀ α' Φ' H' σ' ρ' h', Step α Φ H α' Φ' H' → Rl α' Φ' h' H' → Fr α' Φ' ρ' σ' → σ'.length = σ.length → PF sg W σ' α' Φ' H' (f ρ' h') D → N σ' H') : PF sg W σ α Φ H (m h) { D with nx := N, ct := N, bk := D.nx } := by
  unfold M.bind at p
  cases e : m h with
  | ok fl h1 =>
    rw [e] at p
    cases fl with
    | nx ρ' => exact fun α' Φ' H' σ' st rl fr q => hN α' Φ' H' σ' ρ' h1 st rl fr q (PF.step p st rl q)
    | ct ρ' => exact fun α' Φ' H' σ' st rl fr q => hN α' Φ' H' σ' ρ' h1 st rl fr q (PF.step p st rl q)
    | brk ρ' => exact p
    | ret v => exact p
  | exc e' h1 => rw [e] at p; exact p
  | stuck => rw [e] at p; exact p
theorem s_ssNil : PSs X [] (tSs sg W P G []) := pss_nil.mono fun D σ H ⟨α, Φ, ρ, h, rl, fr, p⟩ => by
  have p : PF sg W σ α Φ H (.ok (.nx ρ) h) D := p
  exact p α Φ H σ .refl rl fr rfl
theorem s_ssCons (h1 : PS X st (tS sg W P G s)) (h2 : PSs X sts (tSs sg W P G ss)) : PSs X (st :: sts) (tSs sg W P G (s :: ss)) :=
  (pss_cons h1 h2).mono fun D σ H ⟨α, Φ, ρ, h, rl, fr, p⟩ => by
    exact ⟨α, Φ, ρ, h, rl, fr, PF.seq p⟩
theorem s_expr (ha : PE X ea (tE sg W G a)) (hs : swapsWith ea none pos.line X.env = pure false) : PS X (.Expr ea pos) (tS sg W P G (.expr a)) :=
  (ps_expr ha hs).mono fun D σ H t => tSt.bind (m := fun ρ => evE G ρ a) t fun ρ v h1 α1 Φ1 H1 x rl fr rx p => by
    have p : PF sg W σ α1 Φ1 H1 (.ok (.nx ρ) h1) D := p
    exact p α1 Φ1 H1 σ .refl rl fr rfl
theorem s_ret (ha : PE X ea (tE sg W G a)) : PS X (.Return (some ea) pos) (tS sg W P G (.ret a)) :=
  (ps_ret ha).mono fun D σ H t => tSt.bind (m := fun ρ => evE G ρ a) t fun ρ v h1 α1 Φ1 H1 x rl fr rx p => by
    have p : PF sg W σ α1 Φ1 H1 (.ok (.ret v) h1) D := p
    exact p α1 Φ1 H1 x .refl rl rx
theorem s_retN : PS X (.Return none pos) (tS sg W P G .retN) := ps_retN.mono fun D σ H ⟨α, Φ, ρ, h, rl, fr, p⟩ => by
  have p : PF sg W σ α Φ H (.ok (.ret (.d .none)) h) D := p
  exact p α Φ H .non .refl rl RepD.none
theorem s_pass : PS X (.Pass pos) (tS sg W P G .pass) := ps_pass.mono fun D σ H ⟨α, Φ, ρ, h, rl, fr, p⟩ => by
  have p : PF sg W σ α Φ H (.ok (.nx ρ) h) D := p
  exact p α Φ H σ .refl rl fr rfl
theorem s_brk : PS X (.Break pos) (tS sg W P G .brk) := ps_break.mono fun D σ H ⟨α, Φ, ρ, h, rl, fr, p⟩ => by
  have p : PF sg W σ α Φ H (.ok (.brk ρ) h) D := p
  exact p α Φ H σ .refl rl fr rfl
theorem s_ct : PS X (.Continue pos) (tS sg W P G .ct) := ps_continue.mono fun D σ H ⟨α, Φ, ρ, h, rl, fr, p⟩ => by
  have p : PF sg W σ α Φ H (.ok (.ct ρ) h) D := p
  exact p α Φ H σ .refl rl fr rfl
variable {tt uu : List S} {ta ua : List Stmt}
theorem s_if (hc : Snd X sg W G c ec) (ht : PSs X ta (tSs sg W P G tt)) (hu : PSs X ua (tSs sg W P G uu)) : PS X (.If ec ta ua pos) (tS sg W P G (.ite c tt uu)) :=
  (ps_if hc.pt ht hu).mono fun D σ H t => tSt.bind (m := fun ρ => M.bind (evE G ρ c) truthM) (f := fun ρ t => if t then exSs P G ρ tt else exSs P G ρ uu) (RpA := Rb) t fun ρ v h1 α1 Φ1 H1 x rl fr rx p => by
    subst rx
    cases x with
    | true => rw [if_pos rfl]; exact ⟨α1, Φ1, ρ, h1, rl, fr, p⟩
    | false => rw [if_neg Bool.false_ne_true]; exact ⟨α1, Φ1, ρ, h1, rl, fr, p⟩
theorem s_while (hp : PassesOwn (model X.prog X.w) X.A X.env X.xe) (hc : Snd X sg W G c ec) (hb : PSs X ta (tSs sg W P G tt)) : PS X (.While ec ta [] pos) (tS sg W P G (.wh c tt)) :=
  (ps_while hp hc.pt hb).mono fun D σ H t => by
    refine ⟨fun m σ' H' => σ'.length = σ.length ∧ tSt sg W (fun ρ => whL (fun ρ' => M.bind (evE G ρ' c) truthM) (fun ρ' => exSs P G ρ' tt) m ρ) D σ' H', ⟨loopFuel, rfl, t⟩, ?_⟩
    rintro m σ' H' ⟨hl, t⟩
    cases m with
    | zero => obtain ⟨α, Φ, ρ, h, rl, fr, p⟩ := t; exact p.elim
    | succ n =>
      refine tSt.bind (m := fun ρ => M.bind (evE G ρ c) truthM) (RpA := Rb) t fun ρ v h1 α1 Φ1 H1 x rl fr rx p => ?_
      subst rx
      cases x with
      | false =>
        rw [if_neg Bool.false_ne_true]
        have p : PF sg W σ' α1 Φ1 H1 (.ok (.nx ρ) h1) D := p
        exact p α1 Φ1 H1 σ' .refl rl fr rfl
      | true =>
        rw [if_pos rfl]
        refine ⟨fun σ2 H2 => σ2.length = σ.length ∧ tSt sg W (fun ρ => whL (fun ρ' => M.bind (evE G ρ' c) truthM) (fun ρ' => exSs P G ρ' tt) n ρ) D σ2 H2, fun σ2 H2 q => ⟨n, Nat.lt_succ_self n, q⟩, α1, Φ1, ρ, h1, rl, fr, ?_⟩
        exact PF.loop p fun α2 Φ2 H2 σ2 ρ2 h2 st rl2 fr2 q p2 => ⟨q.trans hl, α2, Φ2, ρ2, h2, rl2, fr2, p2⟩
theorem s_for {t : Tg} {it : I} {tg iter : Expr} (hp : PassesOwn (model X.prog X.w) X.A X.env X.xe) (sx : Sto C sS X) (hi : PI X tg iter (tIt sg W G it)) (htg : chkT C sS t tg = true) (hb : PSs X ta (tSs sg W P G tt))
    (hs : ∀ x, foldedSetIterable iter X.env x = pure x) : PS X (.For tg iter ta [] pos) (tS sg W P G (.for_ t it tt)) :=
  (ps_for hp sx.calm hi (sTg sx t htg) hb hs).mono fun D σ H u => by
    refine tSt.bind (m := fun ρ => evI G ρ it) u fun ρ xs h1 α1 Φ1 H1 J rl1 fr1 wk p => ?_
    refine for_it wk (fun i σ' H' => ∃ α' Φ' ρ' h', Step α1 Φ1 H1 α' Φ' H' ∧ Rl α' Φ' h' H' ∧ Fr α' Φ' ρ' σ' ∧ σ'.length = σ.length ∧ PF sg W σ' α' Φ' H' (forL t (fun ρ' => exSs P G ρ' tt) (xs.drop i) ρ' h') D)
      ⟨α1, Φ1, ρ, h1, .refl, rl1, fr1, rfl, by simpa using p⟩ (fun i σ' H' _ ⟨α', Φ', ρ', h', st, rl, _⟩ a u q => rl.sub a u (st.le a u q)) ?_ ?_
    · rintro i x σ' Hc H' hi ⟨α', Φ', ρ', h', st, rl, fr, hl, p⟩ ⟨d, ed, y⟩
      obtain ⟨Φ2, st2, s2, rl2, rx⟩ : ∃ Φ2, Step α1 Φ1 H1 α' Φ2 H' ∧ Step α' Φ' Hc α' Φ2 H' ∧ Rl α' Φ2 h' H' ∧ RepD Φ2 x d := by
        rcases y with ⟨rfl, y⟩ | ⟨T, ws, ds, hT, rfl, rfl, rfl, rd⟩
        · exact ⟨Φ', st, .refl, rl, RepD.le st.le y⟩
        · have s1 := Step.lay rl hT (.tup ws)
          exact ⟨_, st.trans s1 rl.live, s1, rl.lay hT (.tup ws), .tup upd_same (RepDs.le (st.le.trans s1.le) rd)⟩
      have ex : xs.drop i = .d d :: xs.drop (i + 1) := by
        obtain ⟨hi2, e2⟩ := List.getElem?_eq_some_iff.mp ed
        rw [List.drop_eq_getElem_cons hi2, e2]
      have p := PF.step p s2 rl2 rfl
      rw [ex] at p
      unfold forL at p
      cases eb : bindT t (.d d) ρ' with
      | none => simp only [eb] at p; exact p.elim
      | some ρ2 =>
        simp only [eb] at p
        refine ⟨α', Φ2, .d d, ρ', ρ2, rl2.sub, fr.step s2, rx, eb, fun σ2 fr2 off => ⟨α', Φ2, ρ2, h', rl2, fr2, ?_⟩⟩
        have hl2 : σ2.length = σ'.length := off.1.symm
        exact PF.loop (PF.step (σ1 := σ2) p .refl rl2 hl2) fun α3 Φ3 H3 σ3 ρ3 h3 st3 rl3 fr3 q p3 => ⟨α3, Φ3, ρ3, h3, st2.trans st3 rl2.live, rl3, fr3, (q.trans hl2).trans hl, p3⟩
    · rintro σ' Hc ⟨α', Φ', ρ', h', st, rl, fr, hl, p⟩
      rw [List.drop_length] at p
      have p : PF sg W σ' α' Φ' Hc (.ok (.nx ρ') h') D := p
      exact p α' Φ' Hc σ' .refl rl fr rfl
/-! ### assignments -/
def notComp : Expr → Bool
  | .ListComp _ _ _ _ => false
  | .SetComp _ _ _ _ => false
  | .DictComp _ _ _ _ _ => false
  | _ => true
theorem sw_no {e : Expr} (h : notComp e = true) (t : Option Expr) (l : Nat) (env : Env) : swapsWith e t l env = pure false := by
  cases e <;> first | rfl | cases h
theorem sws_no {e t : Expr} (h : notComp e = true) (l : Nat) (env : Env) : swapsWithSole [t] e l env = pure false := sw_no h (some t) l env
def notTup : Expr → Bool
  | .Tuple _ _ _ => false
  | .List _ _ => false
  | _ => true
theorem sst_no {e t : Expr} (h : notTup t = true ∨ notTup e = true) (env : Env) : swappedStores [t] e env = pure none := by
  rcases h with h | h
  · cases t <;> first | rfl | cases h
  · cases t <;> cases e <;> first | rfl | cases h
theorem PF_nx {σ σ' : St} {α α' : List Addr} {Φ H Φ' H' : Hp} {ρ' : Frame} {h' : Hm} {D : Ends} (p : PF sg W σ α Φ H (.ok (.nx ρ') h') D) (st : Step α Φ H α' Φ' H') (rl : Rl α' Φ' h' H') (fr : Fr α' Φ' ρ' σ') (e : σ'.length = σ.length) : D.nx σ' H' := p α' Φ' H' σ' st rl fr e
theorem bindT_gT {t : Tg} {σ : St} {α : List Addr} {Φ H : Hp} {h : Hm} {v : MV} {x : V} {ρ : Frame} {D : Ends} (rl : Rl α Φ h H) (fr : Fr α Φ ρ σ) (rx : RepV α Φ x v) (p : PF sg W σ α Φ H ((match bindT t v ρ with | some ρ' => M.pure (.nx ρ') | none => M.stuck : M Flow) h) D) : gT t x σ H D.nx := by
  cases e : bindT t v ρ with
  | none => rw [e] at p; exact p.elim
  | some ρ' =>
    rw [e] at p
    exact ⟨α, Φ, v, ρ, ρ', rl.sub, fr, rx, e, fun σ' fr' off => PF_nx p .refl rl fr' off.1.symm⟩
theorem s_asg {t : Tg} {tg : Expr} (sx : Sto C sS X) (htg : chkT C sS t tg = true) (ha : PE X ea (tE sg W G a)) (hc : notComp ea = true) (ht : notTup tg = true ∨ notTup ea = true) : PS X (.Assign [tg] ea pos) (tS sg W P G (.asg (.tg t) a)) :=
  (ps_asg ha (sTg sx t htg) (sws_no hc _ _) (sst_no ht _) (by rw [assign_cons (chkT_star htg)]; rfl)).mono fun D σ H u =>
    tSt.bind (m := fun ρ => evE G ρ a) u fun ρ v h1 α1 Φ1 H1 x rl fr rx p => bindT_gT rl fr rx p
theorem swl_true {elt : Expr} {gs : List Comprehension} {scope : Scope} {pos py : Pos} {y : Str} {l : Nat} {env : Env} (hk : env.scope.kind = .function) (hy : env.scope.names.lookup y = some .local) (hl : (py.line == pos.line) = true)
    (ha : (scope.names.any fun (n, k) => n == y && (k == .local || k == .cell)) = false) : swapsWith (.ListComp elt gs scope pos) (some (.Name y py)) l env = pure true := sw_true hk hy hl ha
/-- x = [..], x a plain local -/
theorem s_asgLc {m : Bool} {elt : E} {t : Tg} {it : I} {own : List Nat} {ee tg iter : Expr} {ifs : List Expr} {scope : Scope} {op : List (Str × Nat)} {i : Nat} {y : Str} {py lpos : Pos} (cx : Ctx sg W G C sc k X) (h : LcOk X sg W G C sc k elt t it cs own ee tg iter ifs scope op)
    (hk : sc.kind = .function) (hi : C.N[i]? = some y) (hy : sc.names.lookup y = some .local) (hl : (py.line == lpos.line) = true) (hown : (scope.names.any fun (n, k) => n == y && (k == .local || k == .cell)) = false) :
    PS X (.Assign [.Name y py] (.ListComp ee [⟨tg, iter, ifs, 0⟩] scope lpos) pos) (tS sg W P G (.asg (.tg (.nm i)) (.lc m elt t it cs own))) := by
  have ok : BlkOk X.N X.env.scope scope op := by rw [cx.N, cx.sc]; exact blkOk_by h.ok
  have hy' : X.env.scope.names.lookup y = some .local := by rw [cx.sc]; exact hy
  refine (ps_setLc (i := i) cx.calm cx.nd (by rw [cx.N]; exact hi) hy' (sw_true (by rw [cx.sc]; exact hk) hy' hl hown) h.hit ok (fun s H Cc cl fp => sTg (Sto.blk cx s H scope Cc cl fp) t h.htg) (fun s H Cc cl fp => h.hcs _ (cx.blk s H scope Cc cl fp))
    (fun s H Cc cl fp => h.hel _ (cx.blk s H scope Cc cl fp)) h.hfs).mono fun D σ H u => ?_
  rw [h.hown]
  refine v_lc h.sl (tSt.bind (m := fun ρ => evE G ρ (.lc m elt t it cs own)) u fun ρ v h1 α1 Φ1 H1 x rl fr rx p => ?_)
  have p : PF sg W σ α1 Φ1 H1 (.ok (.nx (ρ.set i (some v))) h1) D := p
  exact PF_nx p .refl rl (fr.set i rx) (by simp)
def notSlice : Expr → Bool
  | .Slice _ _ _ _ => false
  | _ => true
theorem plain_ix {e : Expr} (h : notSlice e = true) : PlainIx e := fun o i => by cases e <;> first | rfl | cases h
/-- o[i] = v -/
theorem s_setIx {o i : E} {eo ei : Expr} {spos : Pos} (ho : PE X eo (tE sg W G o)) (hi : PE X ei (tE sg W G i)) (ha : PE X ea (tE sg W G a)) (hc : notComp ea = true) (hns : notSlice ei = true) : PS X (.Assign [.Subscript eo ei spos] ea pos) (tS sg W P G (.asg (.ix o i) a)) := by
  have hsl : ∀ v, assign (.Subscript eo ei spos) X.env v = (do
      let ov ← holding [v] (eval eo X.env)
      let iv ← holding [v, ov] (eval ei X.env)
      standAt spos
      holding [v, ov, iv] (setItem ov iv v)
      release [v, ov, iv] []) := fun v => by cases ei <;> first | rfl | cases hns
  refine (ps_asg ha (pg_sub ho hi set_list hsl) (sws_no hc _ _) (sst_no (.inl rfl) _) rfl).mono fun D σ H u => ?_
  refine tSt.bind (m := fun ρ => evE G ρ a) u fun ρ v h1 α1 Φ1 H1 x rl fr rx p => ?_
  have p : PF sg W σ α1 Φ1 H1 (M.bind (evE G ρ o) (fun x => M.bind (evE G ρ i) fun j => M.bind (setIx x j v) fun _ => M.pure (.nx ρ)) h1) D := p
  refine ⟨α1, Φ1, ρ, h1, rl, fr, PF.bind p fun ov h2 α2 Φ2 H2 xo _ st2 rl2 ro p2 => ⟨α2, Φ2, ρ, h2, rl2, fr.step st2, PF.bind p2 fun iv h3 α3 Φ3 H3 xi _ st3 rl3 ri p3 => ?_⟩⟩
  cases ov with
  | d d => exact (show False from p3).elim
  | ref n =>
    cases iv with
    | ref _ => exact (show False from p3).elim
    | d di =>
      cases di with
      | int j =>
        unfold M.bind setIx at p3
        cases e3 : h3[n]? with
        | none => simp only [e3] at p3; exact p3.elim
        | some ob =>
          cases ob with
          | lst xs =>
            simp only [e3] at p3
            cases ej : Ip.ixN xs.length j with
            | none => simp only [ej] at p3; exact p3.elim
            | some jj =>
              simp only [ej] at p3
              obtain ⟨aa, ea', rfl⟩ := ro
              have ea2 := st3.at_ ea'
              obtain ⟨g1, vs, g2, g3⟩ := rl3.obj n aa _ ea2 e3
              cases RepD.iint ri
              have rv := (rx.step st2).step st3
              have rset : RepVs α3 Φ3 (vs.set jj x) (xs.set jj v) := by
                clear p3 ej e3 g2 g1
                induction xs generalizing vs jj with
                | nil => cases g3; exact .nil
                | cons z zs ih =>
                  cases g3 with
                  | cons q1 q2 =>
                    cases jj with
                    | zero => exact .cons rv q2
                    | succ jj => exact .cons q1 (ih jj _ q2)
              obtain ⟨r3, s3⟩ := rl3.write (vs0 := vs) ea2 e3 rset
              refine ⟨aa, vs, j, jj, rfl, rfl, g2, ?_, ?_⟩
              · have := ej
                rw [← g3.length] at this
                exact this
              · exact PF_nx p3 s3 r3 (((fr.step st2).step st3).step s3) rfl
          | _ => simp only [e3] at p3; exact p3.elim
      | _ => exact (show False from p3).elim
end Ip

namespace Ip
open PySem PySem.Spec PyProof.Rows L2
variable {sg : Sg} {W : WX} {P : Prog} {G : Gc} {C : CK} {sc sS : Scope} {k : Nat} {X : Cx} {a b c : E} {ea eb ec : Expr} {pos : Pos} {cs : List E} {es rest : List Expr} {s : S} {ss : List S} {st : Stmt} {sts : List Stmt}
/-! ### an exception's __init__: it stores its parameters -/
def spX (K : PySem.W.Frag) (Cl : Addr) (ns : List Str) : Sp := fun vs H Q _ => ∃ (e : Addr) (ws : List V), vs = .ref e :: ws ∧ ws.length = ns.length ∧ H e = some (exo e Cl none) ∧
  ∀ d H', H d = none → d ≠ e → (∀ b, b ≠ e → b ≠ d → H' b = H b) → H' e = some (exo e Cl (some d)) → H' d = some (exd d (ns.zip ws).reverse) → Q .non H'
theorem exd_put {d : Addr} {H : Hp} : ∀ b, b ≠ d → H b = H b := fun _ _ => rfl
/-- one field -/
def chkX1 (n : Str) : List Stmt → Bool
  | [.Assign [.Attribute (.Name s _) f _] (.Name v _) _] => decide (s = "self") && decide (f = n) && decide (v = n)
  | _ => false
theorem ok_init1 {Pg : Program} {w : World} {K : PySem.W.Frag} {mg : Str → Option Value} {base : Heap} {nm qual : Str} {params : Arguments} {body : List Stmt} {scope : Scope} {f Cl : Addr} {fd : FuncData} {n : Str}
    (F : FunD K nm qual params body scope [] [] f fd) (S : FnScope ["self", n] ["self", n] scope) (hb : chkX1 n body = true) (T : OexC K Cl) (no : PySem.W.findIn K (.ref Cl) n = some none) (hn : (n == ("__debug__" : Str)) = false ∧ (n == ("__classdict__" : Str)) = false) :
    FnOk Pg w K mg base CX0 1 f fd ["self", n] (spX K Cl [n]) := by
  refine F.ok S (fun vs H Q Ex h => ?_) fun cdv A outer s0 H vs Q Ex hr h => ?_
  · obtain ⟨e, ws, rfl, hl, _⟩ := h
    simp [hl]
  · obtain ⟨e, ws, rfl, hl, he, q⟩ := h
    obtain ⟨w1, rfl⟩ : ∃ w1, ws = [w1] := by
      match ws, hl with
      | [w1], _ => exact ⟨w1, rfl⟩
    unfold chkX1 at hb
    split at hb
    · rename_i s p1 f' p2 v p3 p4
      simp only [Bool.and_eq_true, decide_eq_true_eq] at hb
      obtain ⟨⟨rfl, rfl⟩, rfl⟩ := hb
      have vis : ∀ x ∈ (["self", v] : List Str), Vis scope x := fun x hx => (S.par x hx).elim (fun z => .inl z) fun z => .inr (.inl z)
      refine ⟨_, pss_one (ps_ost (pe_var (i := 0) rfl (vis _ List.mem_cons_self) (by decide) (by decide)) (pe_var (i := 1) rfl (vis _ (List.mem_cons_of_mem _ List.mem_cons_self)) hn.1 hn.2)), ?_⟩
      refine ⟨w1, rfl, .ref e, rfl, e, Cl, rfl, T, no, .inl ⟨he, fun dx hdx hne => ?_⟩⟩
      refine q dx _ hdx hne (fun b h1 h2 => ?_) upd_same ?_
      · rw [upd_ne h1, upd_ne h2]
      · rw [upd_ne hne, upd_same]; rfl
    · cases hb
/-! ### raise C(..) -/
structure ExAt (X : Cx) (sg : Sg) (P : Prog) (c : Nat) (x : Str) : Prop where
  mg : X.mg x = some (.ref (sg.cA c))
  oex : OexC X.K (sg.cA c)
  nd : ((P.exF c).map sg.aN).Nodup
  few : (P.exF c).length ≤ 900
  init : ∃ fI fd ps, PySem.W.findIn X.K (.ref (sg.cA c)) "__init__" = some (some (.ref fI)) ∧ PySem.W.typeIn X.K (.ref fI) = some (.type "function") ∧ Binds X.K fd ps [] ∧ FnOk X.prog X.w X.K X.mg X.base CX0 1 fI fd ps (spX X.K (sg.cA c) ((P.exF c).map sg.aN))
theorem lookup_of_mem {β : Type} : ∀ {l : List (Str × β)} {n : Str} {v : β}, (n, v) ∈ l → (l.map (·.1)).Nodup → l.lookup n = some v
  | (m, u) :: l, n, v, h, nd => by
    rw [List.map_cons, List.nodup_cons] at nd
    rw [List.lookup_cons]
    rcases List.mem_cons.mp h with e | h2
    · cases e; simp
    · have ne : n ≠ m := fun z => nd.1 (by rw [← z]; exact List.mem_map.mpr ⟨(n, v), h2, rfl⟩)
      rw [beq_eq_false_iff_ne.mpr ne]
      exact lookup_of_mem h2 nd.2
theorem mem_of_lookupN {β : Type} : ∀ {l : List (Nat × β)} {n : Nat} {v : β}, l.lookup n = some v → (n, v) ∈ l
  | (m, u) :: l, n, v, h => by
    rw [List.lookup_cons] at h
    split at h
    · rename_i e
      cases h
      have : n = m := by simpa using e
      subst this
      exact List.mem_cons_self
    · exact List.mem_cons_of_mem _ (mem_of_lookupN h)
theorem map_fst_zip' {β γ : Type} : ∀ {l : List β} {m : List γ}, l.length = m.length → (l.zip m).map (·.1) = l
  | [], [], _ => rfl
  | a :: l, b :: m, h => by simp only [List.zip_cons_cons, List.map_cons]; rw [map_fst_zip' (by simpa using h)]
/-- the fields, by their names -/
theorem fields_ok {Φ : Hp} {ids : List Nat} {vs : List V} {ds : List D} (r : RepDs Φ vs ds) (hl : ds.length = ids.length) (nd : (ids.map sg.aN).Nodup) {i : Nat} {x : D} (h : (ids.zip ds).lookup i = some x) :
    ∃ v, (((ids.map sg.aN).zip vs).reverse).lookup (sg.aN i) = some v ∧ RepD Φ v x := by
  have mem := mem_of_lookupN h
  obtain ⟨j, hj, e⟩ := List.getElem_of_mem mem
  have e' : (ids.zip ds)[j]? = some (i, x) := by rw [List.getElem?_eq_getElem hj, e]
  obtain ⟨e1, e2⟩ := List.getElem?_zip_eq_some.mp e'
  have lv := r.len
  have jl : j < vs.length := by rw [lv]; exact (List.getElem?_eq_some_iff.mp e2).1
  obtain ⟨d, q1, q2⟩ := r.at_ (v := vs[j]) (j := j) (by simp [jl])
  have e2 : ds[j]? = some x := e2
  rw [e2] at q1
  cases q1
  refine ⟨vs[j], lookup_of_mem (List.mem_reverse.mpr ?_) ?_, q2⟩
  · refine List.mem_of_getElem? (i := j) (List.getElem?_zip_eq_some.mpr ⟨?_, by simp [jl]⟩)
    have e1 : ids[j]? = some i := e1
    simp [e1]
  · rw [List.map_reverse, map_fst_zip' (by rw [List.length_map, lv, hl])]
    exact List.pairwise_reverse.mpr (List.Pairwise.imp (fun h z => h z.symm) nd)
/-- the heap with one more object and what was there -/
theorem Rl.ext {α : List Addr} {Φ H H' : Hp} {h : Hm} (r : Rl α Φ h H) (e : ∀ a u, H a = some u → H' a = some u) : Rl α Φ h H' ∧ Step α Φ H α Φ H' := by
  refine ⟨⟨fun a u q => ?_, r.len, r.inj, fun a ha => ?_, fun n a o q1 q2 => (r.obj n a o q1 q2).le .refl (e a) fun q => q⟩, ⟨[], by simp, by simp⟩, .refl, fun a u q _ => e a u q, fun a u q => .inl q⟩
  · exact (r.sub a u q).mono (e a)
  · cases q : H a with
    | none => exact absurd q (r.live a ha)
    | some u => rw [e a u q]; simp
theorem s_raise {cc : Nat} {x : Str} {p pos2 : Pos} (cx : Ctx sg W G C sc k X) (hk : 2 ≤ k) (hex : ExAt X sg P cc x) (hg : glB sc x = true) (hd : (x == ("__debug__" : Str)) = false) (ha : PA X (ea :: es) (tEs sg W G cs)) (hn : (ea :: es).all notStar = true) :
    PS X (.Raise (some (.Call (.Name x p) (ea :: es) [] pos2)) none pos) (tS sg W P G (.raise cc cs)) := by
  rw [List.all_cons, Bool.and_eq_true] at hn
  obtain ⟨fI, fd, ps, h1, h2, h3, h4⟩ := hex.init
  refine (ps_raise cx.calm cx.tk (pmk_oex hex.oex h1 h2 h4 (cx.room.mono hk) h3 .nil (fun _ _ _ _ _ _ _ z => z.elim) (glB_ok cx hg) hex.mg ha hd (star_cons hn.1 es X.env) (star_any _ _ hn.2))).mono fun D σ H t => ?_
  refine tSt.bind (m := fun ρ => evEs G ρ cs) t fun ρ ms h1 α1 Φ1 H1 vs rl fr rs p => ?_
  cases e : Ip.grs ms with
  | none => simp only [e] at p; exact p.elim
  | some ds =>
    simp only [e] at p
    split at p
    · rename_i hl
      have rd := RepVs.grs rs e
      refine ⟨?_, fun a ha => ⟨a, vs, by rw [List.append_nil], ?_, upd_same, fun d H' hd hne off ea' ed => ⟨rfl, d, _, ea', ed, ?_, ?_⟩⟩⟩
      · rw [rd.len, hl]; exact Nat.le_trans hex.few (by decide)
      · rw [rd.len, hl, List.length_map]
      · rw [upd_ne hne] at hd; exact hd
      · have hd1 : H1 d = none := by rw [upd_ne hne] at hd; exact hd
        have old : ∀ b u, H1 b = some u → upd (del H' a) d (.xd (((P.exF cc).map sg.aN).zip vs).reverse) b = some u := fun b u q => by
          have b1 : b ≠ a := fun z => by rw [z, ha] at q; cases q
          have b2 : b ≠ d := fun z => by rw [z, hd1] at q; cases q
          rw [upd_ne b2, del_ne b1, off b b1 b2, upd_ne b1]; exact q
        obtain ⟨r1, s1⟩ := rl.ext old
        obtain ⟨f1, f2⟩ := rl.free hd1
        have as : Aside α1 Φ1 (upd (del H' a) d (.xd (((P.exF cc).map sg.aN).zip vs).reverse)) d (.xd (((P.exF cc).map sg.aN).zip vs).reverse) := ⟨upd_same, f1, f2⟩
        refine p α1 _ _ _ _ σ (s1.frz (o := .xd (((P.exF cc).map sg.aN).zip vs).reverse) hd1 f1) (r1.frz as) ⟨cc, _, d, _, rfl, rfl, rfl, upd_same, fun i x hx => ?_⟩ rfl
        obtain ⟨v, g1, g2⟩ := fields_ok rd hl hex.nd hx
        exact ⟨v, g1, RepD.le (fun c u q => by rw [upd_ne (fun w => by rw [w, f1] at q; cases q)]; exact q) g2⟩
    · exact p.elim
end Ip

/-! isinstance of a caught exception that has its own dict -/
namespace IpIs
open PySem PySem.Spec PySem.Calls PyProof.Rows PySem.W
section
variable {prog : Program} {w : World} {A : Around} {Ex : Value → Shared → Prop} {s : Shared} {K : Frag} {x Cl : Addr} {ox : Obj} {od : Option Obj}
theorem dataFound (hc : (clsIn K Cl).isSome = true) {nm : Str} {av gv : Value} (h1 : findIn K (.ref Cl) nm = some (some av)) (h2 : specialIn K av "__get__" = some (some gv)) (h3 : takesIn K av = some true) : findObj K Cl od nm = some (.bind gv av) := by
  cases e : clsIn K Cl with
  | none => rw [e] at hc; cases hc
  | some cd =>
    unfold findObj
    rw [e, Option.bind_some, h1, Option.bind_some]
    simp only [h2, Option.bind_some, h3]
theorem askClass {Q : Option Value → Shared → Prop} (T : L2.ExcC K Cl) (kin : K.In s.heap) (inst : InstAt s.heap x ox Cl od) (fin : Q (some (.ref Cl)) { s with toks := s.toks + 1 }) :
    wpAny (model prog w) A (getAttr? (.ref x) "__class__") Q Ex s := by
  have some_cls : (clsIn K Cl).isSome = true := by obtain ⟨cd, e, _⟩ := any_some T.hd; rw [e]; rfl
  have found := dataFound (od := od) some_cls T.ha T.hn T.ht
  obtain ⟨hp, gs, dr, tk, os⟩ := s
  have ty := inst.type (M := model prog w)
  have look1 := looks_findIn (M := model prog w) kin T.hg
  have look2 := looks_findIn (M := model prog w) kin T.hk
  have look3 := looks_find (M := model prog w) kin inst found
  have isExc : Looks (model prog w) hp (isInstance (.ref x) (.type "BaseException")) true := ty.andThen (looks_subIn kin T.hs)
  have noObj : (Value.builtin "BaseException.__getattribute__" == Value.builtin "object.__getattribute__") = false := by decide +kernel
  have c1 : (onTheHeap (Value.ref Cl) && Value.builtin "BaseException.__getattribute__" == Value.builtin "object.__getattribute__") = false := by rw [noObj, Bool.and_false]
  unfold getAttr? getAttrBy? getAttrBy
  refine wpAny_bind (wpAny_mkText (wpAny_bind (wpAny_attempt (wpAny_holding (wpAny_bind (ty.at (wpAny_bind (look1.at ?_))))))))
  show wpAny _ _ (if (onTheHeap (Value.ref Cl) && Value.builtin "BaseException.__getattribute__" == Value.builtin "object.__getattribute__") = true then _ else _) _ _ _
  rw [c1, if_neg Bool.false_ne_true]
  unfold getAttrByItsOwn hookBefore
  refine wpAny_bind ?_
  rw [if_pos (show onTheHeap (Value.ref Cl) = true from rfl)]
  refine look2.at (wpAny_bind (wpAny_attempt (wpAny_holding ?_)))
  unfold callGetattribute
  rw [show (false && onTheHeap (Value.builtin "BaseException.__getattribute__")) = false from rfl, if_neg Bool.false_ne_true]
  unfold boundAndCalled
  rw [PySem.F.excAttr_ValueError.ga.bind (.ref x)]
  refine wpAny_bind (wpAny_pure ?_)
  show wpAny _ _ (call (.builtin "BaseException.__getattribute__") [.ref x, .str "__class__" tk]) _ _ _
  refine wpAny_call (codeAny_call_builtin PySem.F.excAttr_ValueError.ga.plain PySem.F.entry_bexc_ga ?_)
  refine @check_slot (model prog w) _ _ ⟨hp, gs, dr, tk + 1, os⟩ "BaseException.__getattribute__" "BaseException" "__getattribute__" (.ref x) [.str "__class__" tk] [] _ (by decide +kernel) (by decide +kernel) isExc (PySem.F.args_bexc_ga (.ref x) (.str "__class__" tk)) ?_
  unfold Builtin.«object.__getattribute__»
  refine wpAny_bind (wpAny_of_eq (a := ((Value.ref x : Value), [Value.str "__class__" tk])) (by first | rfl | (simp only [slotArgs]; rfl)) (wpAny_bind (wpAny_pure (wpAny_bind (ty.at (wpAny_bind (look3.at ?_)))))))
  show wpAny _ _ (holding [Value.builtin "object.__class__"] (call (.builtin "getset_descriptor.__get__") [.builtin "object.__class__", .ref x, .ref Cl]) >>= ret) _ _ _
  refine wpAny_bind (wpAny_holding (wpAny_call (class_get (s := ⟨hp, gs, dr, tk + 1, os⟩) (ox := ox) (od := od) kin inst T.hm ?_)))
  refine wpAny_pure ?_
  show wpAny _ _ (handedOut (.ref Cl)) _ _ _
  rw [handedOut_of (v := .ref Cl) rfl]
  first
    | exact wpAny_pure (wpAny_pure fin)
    | exact wpAny_pure fin
    | exact wpAny_pure (wpAny_bind (wpAny_pure (wpAny_pure fin)))
theorem kitExc (T : L2.ExcC K Cl) : KitX K (.ref x) (.ref Cl) (fun h => InstAt h x ox Cl od) where
  ty := fun _ _ _ inst => inst.type
  it := fun _ _ kin _ => by
    obtain ⟨cd, e, _⟩ := any_some T.hd
    unfold clsIn at e
    split at e
    · rename_i c d cd' sl lk
      exact fun A' Q' E' s' k q => by
        unfold isType loadHead
        exact wpAny_bind (wpAny_loadPart (k _ _ (kin _ _ lk)) (wpAny_pure q))
    · cases e
  ne := fun h tp dd its n sl kin at_ => by
    obtain ⟨cd, e, _⟩ := any_some T.hd
    cases q : (Value.ref Cl == Value.ref tp) with
    | false => rfl
    | true =>
      have z : Cl = tp := Value.ref.inj (beq_iff_eq.mp q)
      unfold clsIn at e
      split at e
      · rename_i c d cd' sl lk
        have two := (kin _ _ lk).symm.trans (z ▸ at_)
        cases two
      · cases e
  ca := fun kin inst fin => askClass T kin inst fin
end
end IpIs
namespace L2
open PySem PySem.Spec PyProof.Rows
/-- isinstance(e, c), e the exception that the suite holds, with or without a dict of its own -/
theorem call_isED {X : Cx} {a D : Addr} {cls : Value} {d : Option Addr} {oe : Obj} {pn : List (Addr × Obj)} (T : ExcC X.K D) (hz : Zc cls d oe) (hf : ∃ vs, oe.data = .fields vs) :
    CallR (X.suite a ((a, oe) :: pn)) (.builtin "isinstance") (fun xs H Q => ∃ (c : V) (cv : Value) (b : Bool), cls = .ref D ∧ xs = [.ref a, c] ∧ (∀ u, RelV c u → u = cv) ∧ PySem.W.kitOne X.K (.ref D) cv = some b ∧ (∀ dd, d = some dd → ∃ fs, H dd = some (.xd fs)) ∧ Q (.bl b) H) := by
  intro pins s σ H xs us Q I r ⟨c, cv, b, ecl, e0, hcv, e, hd, q⟩
  subst e0 ecl
  cases r with
  | cons rx rr =>
    cases rr with
    | cons rt rr =>
      cases rr
      cases rx
      cases hcv _ rt
      obtain ⟨got, _⟩ := I.pin (a, oe) (List.mem_append.mpr (.inl List.mem_cons_self))
      obtain ⟨vs, hv⟩ := hf
      have fin : ∀ od, PySem.W.InstAt s.heap a oe D od → wpAny (model (X.suite a ((a, oe) :: pn)).prog (X.suite a ((a, oe) :: pn)).w) (X.suite a ((a, oe) :: pn)).A (call (.builtin "isinstance") [.ref a, cv]) (EP (X.suite a ((a, oe) :: pn)) pins σ Q) (X.suite a ((a, oe) :: pn)).xe s := fun od J =>
        PySem.W.kia_one (IpIs.kitExc T) I.kIn J e (fun z => nomatch z) fun tk => ⟨.bl b, H, I.kept (t' := tk) fun _ _ z => z, rfl, q⟩
      cases d with
      | none =>
        refine fin none ⟨got, hz.1, by unfold PySem.W.notCls; rw [hv] <;> rfl, ?_⟩
        rw [hz.2]; trivial
      | some dd =>
        obtain ⟨fs, hx⟩ := hd dd rfl
        have ob : ObjOk X.prog X.w H s.heap dd (.xd fs) := I.hok dd _ hx
        obtain ⟨mA, hns, _⟩ := ob
        obtain ⟨od, ho, _⟩ := lookIn_ns hns
        exact fin (some od) ⟨got, hz.1, by unfold PySem.W.notCls; rw [hv] <;> rfl, by rw [hz.2]; exact ho⟩
end L2

namespace Ip
open PySem PySem.Spec PyProof.Rows L2
variable {sg : Sg} {W : WX} {P : Prog} {G : Gc} {C : CK} {sc sS : Scope} {k : Nat} {X : Cx} {a b c : E} {ea eb ec : Expr} {pos : Pos} {cs : List E} {es rest : List Expr} {s : S} {ss : List S} {st : Stmt} {sts : List Stmt}
/-! ### what a handler hands back -/
structure HCtx (sg : Sg) (P : Prog) (C : CK) (sc : Scope) (X : Cx) (cc i : Nat) (n : Str) : Prop where
  N : X.N = C.N
  sc : X.env.scope = sc
  free : ∀ x, x ∈ C.free → X.mg x = none
  slot : C.N[i]? = some n
  loc : X.env.scope.names.lookup n = some .local
  nn : (n == ("__debug__" : Str)) = false ∧ (n == ("__classdict__" : Str)) = false
  xf : XfC X.K (sg.cA cc)
  ec : ExcC X.K (sg.cA cc)
  kit : ∀ j x, (j, x) ∈ C.exs → PySem.W.kitOne X.K (.ref (sg.cA cc)) (.ref (sg.cA j)) = some (P.sub cc j)
  kitV : PySem.W.kitOne X.K (.ref (sg.cA cc)) (.type "ValueError") = some (P.sub cc 0)
  cls : ∀ j x, (j, x) ∈ C.exs → X.mg x = some (.ref (sg.cA j))
  noat : ∀ f, f ∈ P.exF cc → PySem.W.findIn X.K (.ref (sg.cA cc)) (sg.aN f) = some none
/-- the caught one: at e, its fields fs -/
def atX (sg : Sg) (i : Nat) (cc : Nat) (fs : List (Nat × D)) (e : Addr) (cls : Value) (d : Option Addr) (Φ H : Hp) (σ : St) : Prop :=
  σ[i]? = some (some (.ref e)) ∧ RepX sg Φ H (.obj cc fs) cls d
def tH (sg : Sg) (P : Prog) (i cc : Nat) (e : Addr) (cls : Value) (d : Option Addr) (hx : HE) : TE := fun σ H Q => ∃ α Φ h fs y, Rl α Φ h H ∧ atX sg i cc fs e cls d Φ H σ ∧ evH P.sub cc fs hx = some y ∧
  ∀ Φ' H' v, Step α Φ H α Φ' H' → Rl α Φ' h H' → RepD Φ' v y → Q v H'
def tHs (sg : Sg) (P : Prog) (i cc : Nat) (e : Addr) (cls : Value) (d : Option Addr) (hx : List HE) : TA := fun σ H Q => ∃ α Φ h fs ys, Rl α Φ h H ∧ atX sg i cc fs e cls d Φ H σ ∧ evHs P.sub cc fs hx = some ys ∧
  ∀ Φ' H' vs, Step α Φ H α Φ' H' → Rl α Φ' h H' → RepDs Φ' vs ys → Q vs H'
def isiCall : Expr → Option (Str × Str × Str)
  | .Call (.Name x _) [.Name y _, .Name z _] [] _ => some (x, y, z)
  | _ => none
theorem isiCall_eq {e : Expr} {x y z : Str} (h : isiCall e = some (x, y, z)) : ∃ p1 p2 p3 p4, e = .Call (.Name x p1) [.Name y p2, .Name z p3] [] p4 := by
  unfold isiCall at h
  split at h
  · cases h; exact ⟨_, _, _, _, rfl⟩
  · cases h
mutual
def chkH (aN : Nat → Str) (P : Prog) (C : CK) (sc : Scope) (n : Str) (cc : Nat) : HE → Expr → Bool
  | .fld f, .Attribute (.Name x _) m _ => decide (x = n) && decide (m = aN f) && decide (f ∈ P.exF cc)
  | .isin j, e => match isiCall e with
    | none => false
    | some (x, y, z) => decide (x = "isinstance") && glB sc "isinstance" && decide (("isinstance" : Str) ∈ C.free) && decide (y = n) && glB sc z &&
      ((decide (j = 0) && decide (z = "ValueError") && decide (("ValueError" : Str) ∈ C.free)) || (decide (j ≠ 0) && decide ((j, z) ∈ C.exs) && (z != "__debug__")))
  | .str s, .Constant (.str t) _ _ => decide (s = t)
  | .none, .Constant .none _ _ => true
  | .tup hs, .Tuple es _ _ => decide (hs.length ≤ 1000) && chkHs aN P C sc n cc hs es
  | _, _ => false
def chkHs (aN : Nat → Str) (P : Prog) (C : CK) (sc : Scope) (n : Str) (cc : Nat) : List HE → List Expr → Bool
  | [], [] => true
  | h :: hs, e :: es => chkH aN P C sc n cc h e && chkHs aN P C sc n cc hs es
  | _, _ => false
end
theorem chkH_star {n : Str} {cc : Nat} {hx : HE} {e : Expr} {aN : Nat → Str} (h : chkH aN P C sc n cc hx e = true) : notStar e = true := by
  cases hx <;> cases e <;> first | rfl | (simp [chkH] at h; done) | (simp [chkH, isiCall] at h; done)
theorem RepX.step {α α' : List Addr} {Φ H Φ' H' : Hp} (s : Step α Φ H α' Φ' H') {e : D} {cls : Value} {d : Option Addr} (r : RepX sg Φ H e cls d) : RepX sg Φ' H' e cls d := by
  obtain ⟨c, fs, dd, vs, e1, e2, e3, e4, e5⟩ := r
  exact ⟨c, fs, dd, vs, e1, e2, e3, s.le _ _ e4, fun i x h => let ⟨v, h1, h2⟩ := e5 i x h; ⟨v, h1, RepD.le s.le h2⟩⟩
theorem evHs_len {sub : Nat → Nat → Bool} {cc : Nat} {fs : List (Nat × D)} : ∀ (hs : List HE) {ys : List D}, evHs sub cc fs hs = some ys → ys.length = hs.length
  | [], _, h => by cases h; rfl
  | h :: hs, ys, e => by
    unfold evHs at e
    cases e1 : evH sub cc fs h with
    | none => rw [e1] at e; cases e
    | some y =>
      rw [e1] at e
      cases e2 : evHs sub cc fs hs with
      | none => rw [e2] at e; cases e
      | some zs => rw [e2] at e; cases e; simp [evHs_len hs e2]
mutual
theorem sH {cc i : Nat} {n : Str} (hc : HCtx sg P C sc X cc i n) {e : Addr} {oe : Obj} {cls : Value} {d : Option Addr} {pn : List (Addr × Obj)} (hz : Zc cls d oe) (hf : ∃ vs, oe.data = .fields vs) :
    ∀ (hx : HE) {ex : Expr}, chkH sg.aN P C sc n cc hx ex = true → PE (X.suite e ((e, oe) :: pn)) ex (tH sg P i cc e cls d hx)
  | .fld f, ex, h => by
    cases ex <;> first | (simp [chkH] at h; done) | skip
    rename_i o m pos
    cases o <;> first | (simp [chkH] at h; done) | skip
    rename_i x pos2
    simp only [chkH, Bool.and_eq_true, decide_eq_true_eq] at h
    obtain ⟨⟨rfl, rfl⟩, hm⟩ := h
    refine (pe_xf hc.xf (hc.noat f hm) hz hf (pe_var (i := i) (by show X.N[i]? = _; rw [hc.N]; exact hc.slot) (.inl hc.loc) hc.nn.1 hc.nn.2)).mono fun σ H Q ⟨α, Φ, h, fs, y, rl, ⟨s1, rx⟩, hy, q⟩ => ?_
    obtain ⟨c, fs', dd, vs, e1, e2, e3, e4, e5⟩ := rx
    cases e1
    obtain ⟨v, g1, g2⟩ := e5 f y hy
    exact ⟨.ref e, s1, rfl, e2, dd, vs, v, e3, rl.sub _ _ e4, g1, q Φ H v .refl rl g2⟩
  | .isin j, ex, h => by
    unfold chkH at h
    cases ei : isiCall ex with
    | none => rw [ei] at h; cases h
    | some w =>
      obtain ⟨x, y, z⟩ := w
      rw [ei] at h
      obtain ⟨p1, p2, p3, p4, rfl⟩ := isiCall_eq ei
      simp only [Bool.and_eq_true, Bool.or_eq_true, decide_eq_true_eq] at h
      obtain ⟨⟨⟨⟨⟨rfl, hg⟩, hf1⟩, rfl⟩, hgz⟩, hj⟩ := h
      have gl : ∀ w, glB sc w = true → Gl (X.suite e ((e, oe) :: pn)) w := fun w hw => by
        show X.env.scope.names.lookup w = _
        rw [hc.sc]
        unfold glB at hw
        split at hw
        · rename_i q; exact q
        · cases hw
      have fin : ∀ (c : V) (cv : Value), PE (X.suite e ((e, oe) :: pn)) (.Name z p3) (tC c) → (∀ u, RelV c u → u = cv) → PySem.W.kitOne X.K (.ref (sg.cA cc)) cv = some (P.sub cc j) → PE (X.suite e ((e, oe) :: pn)) (.Call (.Name "isinstance" p1) [.Name y p2, .Name z p3] [] p4) (tH sg P i cc e cls d (.isin j)) := fun c cv pz hcv hk => by
        refine (pe_callB (call_isED hc.ec hz hf) (gl _ hg) (hc.free _ hf1) (by decide +kernel) (pa_cons (pe_var (i := i) (by show X.N[i]? = _; rw [hc.N]; exact hc.slot) (.inl hc.loc) hc.nn.1 hc.nn.2) (pa_cons pz pa_nil)) (by decide) (by decide)).mono fun σ H Q ⟨α, Φ, h, fs, y, rl, ⟨s1, rx⟩, hy, q⟩ => ?_
        obtain ⟨c', fs', dd, vs, e1, e2, e3, e4, e5⟩ := rx
        cases e1
        cases hy
        exact ⟨.ref e, s1, c, cv, _, e2, rfl, hcv, hk, fun d' hd' => ⟨vs, by rw [e3] at hd'; cases hd'; exact rl.sub _ _ e4⟩, q Φ H _ .refl rl (.bool _)⟩
      rcases hj with ⟨⟨rfl, rfl⟩, hf2⟩ | ⟨⟨hj0, hj1⟩, hj2⟩
      · exact fin (.ty "ValueError") (.type "ValueError") (pe_bltn (gl _ hgz) (hc.free _ hf2) (by decide +kernel) rfl (by decide) (by decide)) (fun u r => r) hc.kitV
      · exact fin (.ref (sg.cA j)) (.ref (sg.cA j)) (pe_glob (gl _ hgz) (hc.cls j z hj1) rfl (by simpa using hj2)) (fun u r => r) (hc.kit j z hj1)
  | .str s, ex, h => by
    cases ex <;> first | (simp [chkH] at h; done) | skip
    rename_i cv j pos
    cases cv <;> first | (simp [chkH] at h; done) | skip
    simp only [chkH, decide_eq_true_eq] at h
    subst h
    exact pe_str.mono fun σ H Q ⟨α, Φ, h, fs, y, rl, _, hy, q⟩ => by cases hy; exact q Φ H _ .refl rl (.str _)
  | .none, ex, h => by
    cases ex <;> first | (simp [chkH] at h; done) | skip
    rename_i cv j pos
    cases cv <;> first | (simp [chkH] at h; done) | skip
    exact pe_non.mono fun σ H Q ⟨α, Φ, h, fs, y, rl, _, hy, q⟩ => by cases hy; exact q Φ H _ .refl rl .none
  | .tup hs, ex, h => by
    cases ex <;> first | (simp [chkH] at h; done) | skip
    rename_i es kk pos
    simp only [chkH, Bool.and_eq_true, decide_eq_true_eq] at h
    obtain ⟨hlen, h⟩ := h
    refine (pe_tup (sHs hc hz hf hs h)).mono fun σ H Q ⟨α, Φ, h, fs, y, rl, ax, hy, q⟩ => ?_
    unfold evH at hy
    cases ev : evHs P.sub cc fs hs with
    | none => rw [ev] at hy; cases hy
    | some ys =>
      rw [ev] at hy
      cases hy
      refine ⟨α, Φ, h, fs, ys, rl, ax, ev, fun Φ' H' vs st rl' rd => ⟨?_, fun p hp => ?_⟩⟩
      · rw [rd.len, evHs_len hs ev]; exact Nat.le_trans hlen (by rw [sizeLine_eq]; decide)
      · exact q (upd Φ' p (.tup vs)) _ _ (st.trans (.lay rl' hp _) rl'.live) (rl'.lay hp _) (.tup upd_same (RepDs.le (Step.lay rl' hp (.tup vs)).le rd))
theorem sHs {cc i : Nat} {n : Str} (hc : HCtx sg P C sc X cc i n) {e : Addr} {oe : Obj} {cls : Value} {d : Option Addr} {pn : List (Addr × Obj)} (hz : Zc cls d oe) (hf : ∃ vs, oe.data = .fields vs) :
    ∀ (hs : List HE) {es : List Expr}, chkHs sg.aN P C sc n cc hs es = true → PA (X.suite e ((e, oe) :: pn)) es (tHs sg P i cc e cls d hs)
  | [], [], _ => pa_nil.mono fun σ H Q ⟨α, Φ, h, fs, y, rl, _, hy, q⟩ => by cases hy; exact q Φ H _ .refl rl .nil
  | hx :: hs, ex :: es, h => by
    simp only [chkHs, Bool.and_eq_true] at h
    refine (pa_cons (sH hc hz hf hx h.1) (sHs hc hz hf hs h.2) (star_cons (chkH_star h.1) _ _)).mono fun σ H Q ⟨α, Φ, h, fs, y, rl, ⟨a1, a2⟩, hy, q⟩ => ?_
    unfold evHs at hy
    cases e1 : evH P.sub cc fs hx with
    | none => rw [e1] at hy; cases hy
    | some y1 =>
      rw [e1] at hy
      cases e2 : evHs P.sub cc fs hs with
      | none => rw [e2] at hy; cases hy
      | some ys =>
        rw [e2] at hy
        cases hy
        refine ⟨α, Φ, h, fs, y1, rl, ⟨a1, a2⟩, e1, fun Φ1 H1 v1 st1 rl1 r1 => ⟨α, Φ1, h, fs, ys, rl1, ⟨a1, a2.step st1⟩, e2, fun Φ2 H2 vs2 st2 rl2 r2 => ?_⟩⟩
        exact q Φ2 H2 _ (st1.trans st2 rl1.live) rl2 (.cons (RepD.le st2.le r1) r2)
  | [], _ :: _, h => by simp [chkHs] at h
  | _ :: _, [], h => by simp [chkHs] at h
end
/-! ### try: .. except C as n: return .. -/
structure TryAt (X : Cx) (sg : Sg) (P : Prog) (C : CK) (sc : Scope) (cc i : Nat) (n x : Str) : Prop where
  h : HCtx sg P C sc X cc i n
  nm : Names X x (.ref (sg.cA cc))
  exm : ∀ j, P.exs.contains j = true → PySem.W.exmOne X.K (.ref (sg.cA j)) (.ref (sg.cA cc)) = some (if j = cc then true else P.sub j cc)
theorem s_try {cc i : Nat} {n x : Str} {hx : HE} {body : List Stmt} {hr : Expr} {np rp pos' : Pos} (hs : X.stack = X.env :: X.outer) (hf : X.env.frame = some X.env.locals) (hN : X.N.Nodup) (tk : Takes X W) (ta : TryAt X sg P C sc cc i n x)
    (hb : ∀ (W' : WX) (pn : List (Addr × Obj)) (xe : Value → Shared → Prop), Takes (X.tr pn xe) W' → PassesOwn (model X.prog X.w) X.A X.env xe → PSs (X.tr pn xe) body (tSs sg W' P G ss)) (hh : chkH sg.aN P C sc n cc hx hr = true) :
    PS X (.Try body [.ExceptHandler (some (.Name x np)) (some n) [.Return (some hr) rp] pos'] [] [] pos) (tS sg W P G (.try_ ss cc i hx)) := by
  refine (ps_try_as (ts := fun e cls d => tRet (tH sg P i cc e cls d hx)) (tb := fun W' => tSs sg W' P G ss) hs hf hN (by rw [ta.h.N]; exact ta.h.slot) ta.h.loc ta.nm tk hb (fun e oe cls d pn hz hfl => pss_one (ps_ret (sH ta.h hz hfl hx hh)))).mono fun D σ H ⟨α, Φ, ρ, h, rl, fr, p⟩ => ?_
  refine ⟨α, Φ, ρ, h, rl, fr, ?_⟩
  have pp : PF sg W σ α Φ H (tryK P cc i hx ρ (exSs P G ρ ss h)) D := p
  clear p
  show PF sg _ σ α Φ H (exSs P G ρ ss h) D
  cases e : exSs P G ρ ss h with
  | ok fl h1 => rw [e] at pp; cases fl <;> exact pp
  | stuck => rw [e] at pp; exact pp
  | exc ed h1 =>
    rw [e] at pp
    cases ed with
    | obj j fs =>
      simp only [tryK] at pp
      by_cases hj2 : P.exs.contains j = true ∧ i < ρ.length
      case neg => rw [if_neg hj2] at pp; exact pp.elim
      rw [if_pos hj2] at pp
      obtain ⟨hj, hlen⟩ := hj2
      rw [fr.len] at hlen
      intro α1 Φ1 H1 cls d σ' st rl1 rx hl
      have em := ta.exm j hj
      obtain ⟨c', fs', dd, vs, e1, e2, e3, e4, e5⟩ := id rx
      cases e1
      refine ⟨_, by rw [e2]; exact em, fun hb a ha => ?_, fun hb => ?_⟩
      · by_cases hc : j = cc
        · rw [if_pos hc] at pp
          subst hc
          cases ev : evH P.sub j fs hx with
          | none => rw [ev] at pp; exact pp.elim
          | some y =>
            rw [ev] at pp
            have slotlen : i < σ'.length := by rw [hl]; exact hlen
            refine ⟨α1, Φ1, h1, fs, y, rl1, ⟨by rw [List.getElem?_set_self slotlen], rx⟩, ev, fun Φ2 H2 v st2 rl2 rv => ?_⟩
            exact pp α1 Φ2 H2 v (st.trans st2 rl1.live) rl2 rv
        · rw [if_neg hc] at hb pp
          rw [hb, if_pos rfl] at pp
          exact pp.elim
      · by_cases hc : j = cc
        · rw [if_pos hc] at hb; cases hb
        · rw [if_neg hc] at hb pp
          rw [hb, if_neg Bool.false_ne_true] at pp
          exact pp α1 Φ1 H1 cls d σ' st rl1 rx hl
    | _ => exact pp.elim
end Ip

namespace Ip
open PySem PySem.Spec PyProof.Rows L2
/-! ### the check of a code against the text -/
def vCall : Expr → Option (Str × List Expr)
  | .Call (.Name x _) es [] _ => some (x, es)
  | _ => none
theorem vCall_eq {e : Expr} {x : Str} {es : List Expr} (h : vCall e = some (x, es)) : ∃ p q, e = .Call (.Name x p) es [] q := by
  unfold vCall at h
  split at h
  · cases h; exact ⟨_, _, rfl⟩
  · cases h
def vMeth : Expr → Option (Expr × Str × List Expr × Bool)
  | .Call (.Attribute o m p) es [] q => some (o, m, es, p.endLine == q.line)
  | _ => none
theorem vMeth_eq {e o : Expr} {m : Str} {es : List Expr} {b : Bool} (h : vMeth e = some (o, m, es, b)) : ∃ p q, e = .Call (.Attribute o m p) es [] q ∧ (p.endLine == q.line) = b := by
  unfold vMeth at h
  split at h
  · cases h; exact ⟨_, _, rfl, rfl⟩
  · cases h
def vSlice : Expr → Option (Option Expr × Option Expr)
  | .Slice lo hi none _ => some (lo, hi)
  | _ => none
theorem vSlice_eq {e : Expr} {lo hi : Option Expr} (h : vSlice e = some (lo, hi)) : ∃ p, e = .Slice lo hi none p := by
  unfold vSlice at h
  split at h
  · cases h; exact ⟨_, rfl⟩
  · cases h
def vLc : Expr → Option (Expr × Expr × Expr × List Expr × Scope)
  | .ListComp ee [⟨tg, iter, ifs, 0⟩] scope _ => some (ee, tg, iter, ifs, scope)
  | _ => none
theorem vLc_eq {e ee tg iter : Expr} {ifs : List Expr} {scope : Scope} (h : vLc e = some (ee, tg, iter, ifs, scope)) : ∃ p, e = .ListComp ee [⟨tg, iter, ifs, 0⟩] scope p := by
  unfold vLc at h
  split at h
  · cases h; exact ⟨_, rfl⟩
  · cases h
def vRng : Expr → Option (Str × Str × Expr)
  | .Call (.Name x _) [.Call (.Name y _) [e] [] _] [] _ => some (x, y, e)
  | _ => none
theorem vRng_eq {e ea : Expr} {x y : Str} (h : vRng e = some (x, y, ea)) : ∃ p p2 pos2 pos, e = .Call (.Name x p) [.Call (.Name y p2) [ea] [] pos2] [] pos := by
  unfold vRng at h
  split at h
  · cases h; exact ⟨_, _, _, _, rfl⟩
  · cases h
def vName : Expr → Option Str
  | .Name x _ => some x
  | _ => none
theorem vName_eq {e : Expr} {x : Str} (h : vName e = some x) : ∃ p, e = .Name x p := by
  cases e <;> first | (cases h; done) | (cases h; exact ⟨_, rfl⟩)
def isNoneC : Expr → Bool
  | .Constant .none _ _ => true
  | _ => false
theorem isNoneC_eq {e : Expr} (h : isNoneC e = true) : ∃ j p, e = .Constant .none j p := by
  unfold isNoneC at h
  split at h
  · exact ⟨_, _, rfl⟩
  · cases h
def notSet : Expr → Bool
  | .Set _ _ _ => false
  | _ => true
theorem notSet_ok {e : Expr} (h : notSet e = true) (env : Env) : ∀ x, foldedSetIterable e env x = pure x := fun x => by
  cases e <;> first | rfl | cases h
def isTupE : Expr → Bool
  | .Tuple _ _ _ => true
  | _ => false
theorem isTupE_eq {e : Expr} (h : isTupE e = true) : ∃ es k p, e = .Tuple es k p := by
  cases e <;> first | (cases h; done) | exact ⟨_, _, _, rfl⟩
def opOf (N : List Str) (own : List Nat) : List (Str × Nat) := own.filterMap fun i => (N[i]?).map fun x => (x, i)
def cmOk (o : Cm) (p : CmpOp) : Bool := decide (cmC o = p)
mutual
def chkE (C : CK) (sc : Scope) : E → Expr → Bool
  | .var i, .Name x _ => decide (C.N[i]? = some x) && visB sc x && !(x == "__debug__") && !(x == "__classdict__")
  | .int i, .Constant (.int j) _ _ => decide (i = j)
  | .bool i, .Constant (.bool j) _ _ => decide (i = j)
  | .none, .Constant .none _ _ => true
  | .str i, .Constant (.str j) _ _ => decide (i = j)
  | .bin o a b, .BinOp l p r _ => decide (opC o = p) && chkE C sc a l && chkE C sc b r
  | .neg a, .UnaryOp .USub e _ => chkE C sc a e
  | .not a, .UnaryOp .Not e _ => chkE C sc a e
  | .and cs, .BoolOp .And es _ => !cs.isEmpty && chkEs C sc cs es
  | .or cs, .BoolOp .Or es _ => !cs.isEmpty && chkEs C sc cs es
  | .cmp o a b, .Compare l [p] [r] _ => cmOk o p && chkE C sc a l && chkE C sc b r
  | .cmp3 o o' a b c, .Compare l [p, p'] [r, r'] _ => cmOk o p && cmOk o' p' && chkE C sc a l && chkE C sc b r && chkE C sc c r'
  | .isN a, .Compare l [.Is] [r] _ => chkE C sc a l && isNoneC r
  | .notN a, .Compare l [.IsNot] [r] _ => chkE C sc a l && isNoneC r
  | .ite c a b, .IfExp t l r _ => chkE C sc c t && chkE C sc a l && chkE C sc b r
  | .tup cs, .Tuple es _ _ => chkEs C sc cs es && es.all notStar
  | .lst cs, .List es _ => chkEs C sc cs es && es.all notStar
  | .lstM cs, .List es _ => chkEs C sc cs es && es.all notStar
  | .call f cs, e => match vCall e with
    | some (x, es) => decide ((f, x) ∈ C.fns) && glB sc x && !(x == "__debug__") && chkEs C sc cs es && es.all notStar && !cs.isEmpty
    | none => false
  | .callM f cs, e => match vCall e with
    | some (x, es) => decide ((f, x) ∈ C.fns) && glB sc x && !(x == "__debug__") && chkEs C sc cs es && es.all notStar && !cs.isEmpty
    | none => false
  | .callB f cs, e => match vCall e with
    | some (x, es) => decide ((f, x) ∈ C.fns) && glB sc x && !(x == "__debug__") && chkEs C sc cs es && es.all notStar && !cs.isEmpty
    | none => false
  | .rngS k a, e => match vRng e with
    | some (x, y, ea) => decide (y = "range") && glB sc "range" && decide (("range" : Str) ∈ C.free) && chkE C sc a ea && notStar ea &&
      (if k < 2 then decide (x = "list") && glB sc "list" && decide (("list" : Str) ∈ C.free) else decide (x = "tuple") && glB sc "tuple" && decide (("tuple" : Str) ∈ C.free))
    | none => false
  | .bi b cs, e => match vCall e with
    | some (x, es) => if isIsi b then (match cs, es with
        | [a], [l, r] => decide (x = "isinstance") && glB sc "isinstance" && decide (("isinstance" : Str) ∈ C.free) && decide (vName r = some (Str.ofString (tyN b))) && glB sc (Str.ofString (tyN b)) && decide (Str.ofString (tyN b) ∈ C.free) && chkE C sc a l && notStar l
        | _, _ => false)
      else decide (x = bName b) && glB sc (bName b) && decide (bName b ∈ C.free) && chkEs C sc cs es && es.all notStar && !cs.isEmpty
    | none => false
  | .ix a b, .Subscript l i _ => notSlice i && chkE C sc a l && chkE C sc b i
  | .sl a lo hi, .Subscript l i _ => match vSlice i with
    | some (el, eh) => chkE C sc a l && chkO C sc lo el && chkO C sc hi eh
    | none => false
  | .lc _ elt t it cs own, e => match vLc e with
    | some (ee, tg, iter, ifs, scope) => blkC C.N sc scope (opOf C.N own) && decide ((opOf C.N own).map (·.2) = own) && chkT C scope t tg && (slots t).all (own.contains ·) &&
      notSet iter && chkI C sc it tg iter && chkCs C (relS scope sc) cs ifs && chkE C (relS scope sc) elt ee
    | none => false
  | .append l x, e => match vMeth e with
    | some (o, m, [y], b) => decide (m = "append") && b && notCall o && chkE C sc l o && chkE C sc x y && notStar y
    | _ => false
  | _, _ => false
def chkEs (C : CK) (sc : Scope) : List E → List Expr → Bool
  | [], [] => true
  | c :: cs, e :: es => chkE C sc c e && chkEs C sc cs es
  | _, _ => false
def chkO (C : CK) (sc : Scope) : Option E → Option Expr → Bool
  | none, none => true
  | some c, some e => chkE C sc c e
  | _, _ => false
def chkCs (C : CK) (sc : Scope) : List E → List Expr → Bool
  | [], [] => true
  | [c], [e] => chkE C sc c e
  | _, _ => false
def chkI (C : CK) (sc : Scope) : I → Expr → Expr → Bool
  | .seq a, _, e => chkE C sc a e
  | .rng1 a, _, e => match vCall e with
    | some (x, [l]) => decide (x = "range") && glB sc "range" && decide (("range" : Str) ∈ C.free) && chkE C sc a l && notStar l
    | _ => false
  | .rng2 a b, _, e => match vCall e with
    | some (x, [l, r]) => decide (x = "range") && glB sc "range" && decide (("range" : Str) ∈ C.free) && chkE C sc a l && notStar l && chkE C sc b r && notStar r
    | _ => false
  | .zip a b, tg, e => match vCall e with
    | some (x, [l, r]) => isTupE tg && decide (x = "zip") && glB sc "zip" && decide (("zip" : Str) ∈ C.free) && chkE C sc a l && notStar l && chkE C sc b r && notStar r
    | _ => false
  | .enum a, tg, e => match vCall e with
    | some (x, [l]) => isTupE tg && decide (x = "enumerate") && glB sc "enumerate" && decide (("enumerate" : Str) ∈ C.free) && chkE C sc a l && notStar l
    | _ => false
end
variable {sg : Sg} {P : Prog} {G : Gc} {C : CK} {k : Nat}
theorem isTrue_ifExp (c a b : Expr) (pos : Pos) (env : Env) (whole : Sem Value) : isTrue (.IfExp c a b pos) env whole = (do if ← isTrue c env (eval c env) then isTrue a env (eval a env) else isTrue b env (eval b env)) := by
  rfl
theorem pt_ifExp {X : Cx} {c a b : Expr} {pos : Pos} {tc ta tb : TT} (hc : PT X c tc) (ha : PT X a ta) (hb : PT X b tb) : PT X (.IfExp c a b pos) (fun σ H Q => tc σ H fun x H1 => if x = true then ta σ H1 Q else tb σ H1 Q) := by
  refine ⟨fun pins s σ H Q I h => ?_⟩
  rw [isTrue_ifExp]
  refine wpAny_bind (thn (hc.run pins s σ H _ I h) fun x s1 ⟨H1, I1, q1⟩ => ?_)
  cases x with
  | true => exact ha.run pins s1 σ H1 Q I1 q1
  | false => exact hb.run pins s1 σ H1 Q I1 q1
theorem Snd.pl {W : WX} {X : Cx} {c : E} {e : Expr} (h : PE X e (tE sg W G c)) (he : plainT e = true := by rfl) : Snd X sg W G c e := .of h he
mutual
theorem sE : ∀ (c : E) {W : WX} {sc : Scope} {X : Cx} {e : Expr}, Ctx sg W G C sc k X → chkE C sc c e = true → Snd X sg W G c e
  | .var i, W, sc, X, e, cx, h => by
    cases e <;> first | (simp [chkE] at h; done) | skip
    simp only [chkE, Bool.and_eq_true, decide_eq_true_eq, Bool.not_eq_true'] at h
    exact .pl (s_var cx h.1.1.1 h.1.1.2 h.1.2 h.2)
  | .int i, W, sc, X, e, cx, h => by
    cases e <;> first | (simp [chkE] at h; done) | skip
    rename_i cv _ _
    cases cv <;> first | (simp [chkE] at h; done) | skip
    simp only [chkE, decide_eq_true_eq] at h
    subst h
    exact .pl s_int
  | .bool i, W, sc, X, e, cx, h => by
    cases e <;> first | (simp [chkE] at h; done) | skip
    rename_i cv _ _
    cases cv <;> first | (simp [chkE] at h; done) | skip
    simp only [chkE, decide_eq_true_eq] at h
    subst h
    exact .pl s_bool
  | .none, W, sc, X, e, cx, h => by
    cases e <;> first | (simp [chkE] at h; done) | skip
    rename_i cv _ _
    cases cv <;> first | (simp [chkE] at h; done) | skip
    exact .pl s_none
  | .str i, W, sc, X, e, cx, h => by
    cases e <;> first | (simp [chkE] at h; done) | skip
    rename_i cv _ _
    cases cv <;> first | (simp [chkE] at h; done) | skip
    simp only [chkE, decide_eq_true_eq] at h
    subst h
    exact .pl s_str
  | .bin o a b, W, sc, X, e, cx, h => by
    cases e <;> first | (simp [chkE] at h; done) | skip
    simp only [chkE, Bool.and_eq_true, decide_eq_true_eq] at h
    obtain ⟨⟨rfl, h1⟩, h2⟩ := h
    exact .pl (s_bin (sE a cx h1).pe (sE b cx h2).pe)
  | .neg a, W, sc, X, e, cx, h => by
    cases e <;> first | (simp [chkE] at h; done) | skip
    rename_i op _ _
    cases op <;> first | (simp [chkE] at h; done) | skip
    exact .pl (s_neg (sE a cx (by simpa only [chkE] using h)).pe)
  | .not a, W, sc, X, e, cx, h => by
    cases e <;> first | (simp [chkE] at h; done) | skip
    rename_i op _ _
    cases op <;> first | (simp [chkE] at h; done) | skip
    exact s_not (sE a cx (by simpa only [chkE] using h))
  | .and cs, W, sc, X, e, cx, h => by
    cases e <;> first | (simp [chkE] at h; done) | skip
    rename_i op _ _
    cases op <;> first | (simp [chkE] at h; done) | skip
    simp only [chkE, Bool.and_eq_true, Bool.not_eq_true'] at h
    exact (sAnd cs cx h.1 h.2).snd
  | .or cs, W, sc, X, e, cx, h => by
    cases e <;> first | (simp [chkE] at h; done) | skip
    rename_i op _ _
    cases op <;> first | (simp [chkE] at h; done) | skip
    simp only [chkE, Bool.and_eq_true, Bool.not_eq_true'] at h
    exact (sOr cs cx h.1 h.2).snd
  | .cmp o a b, W, sc, X, e, cx, h => by
    cases e <;> first | (simp [chkE] at h; done) | skip
    rename_i l ops rs _
    match ops, rs, h with
    | [p], [r], h =>
      simp only [chkE, cmOk, Bool.and_eq_true, decide_eq_true_eq] at h
      obtain ⟨⟨rfl, h1⟩, h2⟩ := h
      exact s_cmp cx (sE a cx h1).pe (sE b cx h2).pe
    | [], _, h => simp [chkE] at h
    | [_], [], h => simp [chkE] at h
    | [_], _ :: _ :: _, h => simp [chkE] at h
    | _ :: _ :: _, _, h => simp [chkE] at h
  | .cmp3 o o' a b c, W, sc, X, e, cx, h => by
    cases e <;> first | (simp [chkE] at h; done) | skip
    rename_i l ops rs _
    match ops, rs, h with
    | [p, p'], [r, r'], h =>
      simp only [chkE, cmOk, Bool.and_eq_true, decide_eq_true_eq] at h
      obtain ⟨⟨⟨⟨rfl, rfl⟩, h1⟩, h2⟩, h3⟩ := h
      exact s_cmp3 cx (sE a cx h1).pe (sE b cx h2).pe (sE c cx h3).pe
    | [], _, h => simp [chkE] at h
    | [_], _, h => simp [chkE] at h
    | _ :: _ :: _ :: _, _, h => simp [chkE] at h
    | [_, _], [], h => simp [chkE] at h
    | [_, _], [_], h => simp [chkE] at h
    | [_, _], _ :: _ :: _ :: _, h => simp [chkE] at h
  | .isN a, W, sc, X, e, cx, h => by
    cases e <;> first | (simp [chkE] at h; done) | skip
    rename_i l ops rs _
    match ops, rs, h with
    | [p], [r], h =>
      cases p <;> first | (simp [chkE] at h; done) | skip
      simp only [chkE, Bool.and_eq_true] at h
      obtain ⟨j, q, rfl⟩ := isNoneC_eq h.2
      exact s_isN (sE a cx h.1).pe
    | [], _, h => simp [chkE] at h
    | [_], [], h => simp [chkE] at h
    | [_], _ :: _ :: _, h => simp [chkE] at h
    | _ :: _ :: _, _, h => simp [chkE] at h
  | .notN a, W, sc, X, e, cx, h => by
    cases e <;> first | (simp [chkE] at h; done) | skip
    rename_i l ops rs _
    match ops, rs, h with
    | [p], [r], h =>
      cases p <;> first | (simp [chkE] at h; done) | skip
      simp only [chkE, Bool.and_eq_true] at h
      obtain ⟨j, q, rfl⟩ := isNoneC_eq h.2
      exact s_notN (sE a cx h.1).pe
    | [], _, h => simp [chkE] at h
    | [_], [], h => simp [chkE] at h
    | [_], _ :: _ :: _, h => simp [chkE] at h
    | _ :: _ :: _, _, h => simp [chkE] at h
  | .ite c a b, W, sc, X, e, cx, h => by
    cases e <;> first | (simp [chkE] at h; done) | skip
    simp only [chkE, Bool.and_eq_true] at h
    refine ⟨s_ite (sE c cx h.1.1) (sE a cx h.1.2) (sE b cx h.2), (pt_ifExp (sE c cx h.1.1).pt (sE a cx h.1.2).pt (sE b cx h.2).pt).mono fun σ H Q ⟨α, Φ, ρ, h, rl, fr, p⟩ => ?_⟩
    have p : PG sg W σ α Φ H (M.bind (M.bind (evE G ρ c) fun v h => match Ip.truth h v with | some true => evE G ρ a h | some false => evE G ρ b h | none => .stuck) truthM h) (fun _ _ b b' => b = b') Q := p
    rw [bind_assoc'] at p
    refine ⟨α, Φ, ρ, h, rl, fr, ?_⟩
    refine PG.imp p fun v h1 _ q => ?_
    unfold truthM
    cases e2 : Ip.truth h1 v with
    | none => unfold M.bind at q; simp only [e2] at q; exact q.elim
    | some bb =>
      intro α1 Φ1 H1 x st rl1 rx
      subst rx
      cases x with
      | true => rw [if_pos rfl]; exact ⟨α1, Φ1, ρ, h1, rl1, fr.step st, PG.step (by unfold M.bind at q ⊢; simp only [e2] at q; exact q) st rl1⟩
      | false => rw [if_neg Bool.false_ne_true]; exact ⟨α1, Φ1, ρ, h1, rl1, fr.step st, PG.step (by unfold M.bind at q ⊢; simp only [e2] at q; exact q) st rl1⟩
  | .tup cs, W, sc, X, e, cx, h => by
    cases e <;> first | (simp [chkE] at h; done) | skip
    simp only [chkE, Bool.and_eq_true] at h
    exact .pl (s_tup (sEs cs cx h.1 h.2))
  | .lst cs, W, sc, X, e, cx, h => by
    cases e <;> first | (simp [chkE] at h; done) | skip
    simp only [chkE, Bool.and_eq_true] at h
    exact .pl (s_lst (sEs cs cx h.1 h.2))
  | .lstM cs, W, sc, X, e, cx, h => by
    cases e <;> first | (simp [chkE] at h; done) | skip
    simp only [chkE, Bool.and_eq_true] at h
    exact .pl (s_lstM (sEs cs cx h.1 h.2))
  | .call f cs, W, sc, X, e, cx, h => by
    unfold chkE at h
    cases ev : vCall e with
    | none => rw [ev] at h; cases h
    | some w =>
      obtain ⟨x, es⟩ := w
      rw [ev] at h
      simp only [Bool.and_eq_true, decide_eq_true_eq, Bool.not_eq_true'] at h
      obtain ⟨p, q, rfl⟩ := vCall_eq ev
      cases es with
      | nil => cases cs with
        | nil => simp at h
        | cons c cs => simp [chkEs] at h
      | cons e es => exact .pl (s_call cx h.1.1.1.1.1 h.1.1.1.1.2 h.1.1.1.2 (sEs cs cx h.1.1.2 h.1.2) h.1.2)
  | .callM f cs, W, sc, X, e, cx, h => by
    unfold chkE at h
    cases ev : vCall e with
    | none => rw [ev] at h; cases h
    | some w =>
      obtain ⟨x, es⟩ := w
      rw [ev] at h
      simp only [Bool.and_eq_true, decide_eq_true_eq, Bool.not_eq_true'] at h
      obtain ⟨p, q, rfl⟩ := vCall_eq ev
      cases es with
      | nil => cases cs with
        | nil => simp at h
        | cons c cs => simp [chkEs] at h
      | cons e es => exact .pl (s_callM cx h.1.1.1.1.1 h.1.1.1.1.2 h.1.1.1.2 (sEs cs cx h.1.1.2 h.1.2) h.1.2)
  | .callB f cs, W, sc, X, e, cx, h => by
    unfold chkE at h
    cases ev : vCall e with
    | none => rw [ev] at h; cases h
    | some w =>
      obtain ⟨x, es⟩ := w
      rw [ev] at h
      simp only [Bool.and_eq_true, decide_eq_true_eq, Bool.not_eq_true'] at h
      obtain ⟨p, q, rfl⟩ := vCall_eq ev
      cases es with
      | nil => cases cs with
        | nil => simp at h
        | cons c cs => simp [chkEs] at h
      | cons e es => exact .pl (s_callB cx h.1.1.1.1.1 h.1.1.1.1.2 h.1.1.1.2 (sEs cs cx h.1.1.2 h.1.2) h.1.2)
  | .rngS k a, W, sc, X, e, cx, h => by
    unfold chkE at h
    cases ev : vRng e with
    | none => rw [ev] at h; cases h
    | some w =>
      obtain ⟨x, y, ea⟩ := w
      rw [ev] at h
      obtain ⟨p, p2, q2, q, rfl⟩ := vRng_eq ev
      simp only [Bool.and_eq_true, decide_eq_true_eq] at h
      obtain ⟨⟨⟨⟨⟨rfl, h1⟩, h2⟩, h3⟩, h4⟩, h5⟩ := h
      by_cases hk : k < 2
      · rw [if_pos hk] at h5
        simp only [Bool.and_eq_true, decide_eq_true_eq] at h5
        obtain ⟨⟨rfl, h6⟩, h7⟩ := h5
        exact .pl ((s_rngS cx h1 h2 (sE a cx h3).pe h4).1 hk h6 h7)
      · rw [if_neg hk] at h5
        simp only [Bool.and_eq_true, decide_eq_true_eq] at h5
        obtain ⟨⟨rfl, h6⟩, h7⟩ := h5
        exact .pl ((s_rngS cx h1 h2 (sE a cx h3).pe h4).2 (by omega) h6 h7)
  | .rngS2 k a b, W, sc, X, e, cx, h => by
    simp [chkE] at h
  | .bi b cs, W, sc, X, e, cx, h => by
    unfold chkE at h
    cases ev : vCall e with
    | none => rw [ev] at h; cases h
    | some w =>
      obtain ⟨x, es⟩ := w
      rw [ev] at h
      obtain ⟨p, q, rfl⟩ := vCall_eq ev
      simp only at h
      by_cases hb : isIsi b = true
      · rw [if_pos hb] at h
        match cs, es, h with
        | [a], [l, r], h =>
          simp only [Bool.and_eq_true, decide_eq_true_eq] at h
          obtain ⟨⟨⟨⟨⟨⟨⟨rfl, h1⟩, h2⟩, h3⟩, h4⟩, h5⟩, h6⟩, h7⟩ := h
          obtain ⟨pr, rfl⟩ := vName_eq h3
          exact .pl (s_isi cx hb h1 h2 h4 h5 (sE a cx h6).pe h7)
        | [], _, h => simp at h
        | [_], [], h => simp at h
        | [_], [_], h => simp at h
        | [_], _ :: _ :: _ :: _, h => simp at h
        | _ :: _ :: _, _, h => simp at h
      · rw [if_neg hb] at h
        simp only [Bool.and_eq_true, decide_eq_true_eq, Bool.not_eq_true'] at h
        obtain ⟨⟨⟨⟨⟨rfl, h1⟩, h2⟩, h3⟩, h4⟩, h5⟩ := h
        cases es with
        | nil => cases cs with
          | nil => simp at h5
          | cons c cs => simp [chkEs] at h3
        | cons e es => exact .pl (s_bi cx (by simpa using hb) h1 h2 (sEs cs cx h3 h4) h4)
  | .ix a b, W, sc, X, e, cx, h => by
    cases e <;> first | (simp [chkE] at h; done) | skip
    simp only [chkE, Bool.and_eq_true] at h
    exact .pl (s_ix (sE a cx h.1.2).pe (sE b cx h.2).pe (plain_ix h.1.1))
  | .sl a lo hi, W, sc, X, e, cx, h => by
    cases e <;> first | (simp [chkE] at h; done) | skip
    rename_i l i _
    simp only [chkE] at h
    cases ev : vSlice i with
    | none => rw [ev] at h; cases h
    | some w =>
      obtain ⟨el, eh⟩ := w
      rw [ev] at h
      obtain ⟨p, rfl⟩ := vSlice_eq ev
      simp only [Bool.and_eq_true] at h
      exact .pl (s_sl (sE a cx h.1.1).pe (sO lo cx h.1.2) (sO hi cx h.2))
  | .lc m elt t it cs own, W, sc, X, e, cx, h => by
    unfold chkE at h
    cases ev : vLc e with
    | none => rw [ev] at h; cases h
    | some w =>
      obtain ⟨ee, tg, iter, ifs, scope⟩ := w
      rw [ev] at h
      obtain ⟨p, rfl⟩ := vLc_eq ev
      simp only [Bool.and_eq_true, decide_eq_true_eq] at h
      obtain ⟨⟨⟨⟨⟨⟨⟨h1, h2⟩, h3⟩, h4⟩, h5⟩, h6⟩, h7⟩, h8⟩ := h
      exact .pl (s_lc cx ⟨sI it cx h6, h1, h2, h3, fun i hi => by simpa using List.all_eq_true.mp h4 i hi, fun X' cx' => sCs cs cx' h7, fun X' cx' => (sE elt cx' h8).pe, notSet_ok h5 _⟩)
  | .append l x, W, sc, X, e, cx, h => by
    unfold chkE at h
    cases ev : vMeth e with
    | none => rw [ev] at h; cases h
    | some w =>
      obtain ⟨o, m, es, b⟩ := w
      rw [ev] at h
      obtain ⟨p, q, rfl, hb⟩ := vMeth_eq ev
      match es, h with
      | [y], h =>
        simp only [Bool.and_eq_true, decide_eq_true_eq] at h
        obtain ⟨⟨⟨⟨⟨rfl, h1⟩, h2⟩, h3⟩, h4⟩, h5⟩ := h
        exact .pl (s_append h2 (hb.trans h1) (sE l cx h3).pe (sE x cx h4).pe h5)
      | [], h => simp at h
      | _ :: _ :: _, h => simp at h
theorem sEs : ∀ (cs : List E) {W : WX} {sc : Scope} {X : Cx} {es : List Expr}, Ctx sg W G C sc k X → chkEs C sc cs es = true → es.all notStar = true → PA X es (tEs sg W G cs)
  | [], W, sc, X, es, cx, h, hn => by
    cases es with
    | nil => exact s_nil
    | cons e es => simp [chkEs] at h
  | c :: cs, W, sc, X, es, cx, h, hn => by
    cases es with
    | nil => simp [chkEs] at h
    | cons e es =>
      simp only [chkEs, Bool.and_eq_true] at h
      rw [List.all_cons, Bool.and_eq_true] at hn
      exact s_cons (sE c cx h.1).pe (sEs cs cx h.2 hn.2) hn.1
theorem sO : ∀ (o : Option E) {W : WX} {sc : Scope} {X : Cx} {eo : Option Expr}, Ctx sg W G C sc k X → chkO C sc o eo = true → PO X eo (tOi sg W G o)
  | none, W, sc, X, eo, cx, h => by
    cases eo with
    | none => exact s_onone
    | some e => simp [chkO] at h
  | some c, W, sc, X, eo, cx, h => by
    cases eo with
    | none => simp [chkO] at h
    | some e => exact s_osome (sE c cx (by simpa only [chkO] using h)).pe
theorem sAnd : ∀ (cs : List E) {W : WX} {sc : Scope} {X : Cx} {es : List Expr}, Ctx sg W G C sc k X → cs.isEmpty = false → chkEs C sc cs es = true → SAn X sg W G cs es
  | [], W, sc, X, es, cx, h0, h => by cases h0
  | [c], W, sc, X, es, cx, h0, h => by
    match es, h with
    | [e], h =>
      simp only [chkEs, Bool.and_eq_true] at h
      exact s_and1 (sE c cx h.1)
    | [], h => simp [chkEs] at h
    | _ :: _ :: _, h => simp [chkEs] at h
  | c :: d :: cs, W, sc, X, es, cx, h0, h => by
    match es, h with
    | e :: f :: es, h =>
      simp only [chkEs, Bool.and_eq_true] at h
      exact s_andC (sE c cx h.1) (sAnd (d :: cs) cx rfl (by simp only [chkEs, Bool.and_eq_true]; exact h.2))
    | [], h => simp [chkEs] at h
    | [_], h => simp [chkEs] at h
theorem sOr : ∀ (cs : List E) {W : WX} {sc : Scope} {X : Cx} {es : List Expr}, Ctx sg W G C sc k X → cs.isEmpty = false → chkEs C sc cs es = true → SOr X sg W G cs es
  | [], W, sc, X, es, cx, h0, h => by cases h0
  | [c], W, sc, X, es, cx, h0, h => by
    match es, h with
    | [e], h =>
      simp only [chkEs, Bool.and_eq_true] at h
      exact s_or1 (sE c cx h.1)
    | [], h => simp [chkEs] at h
    | _ :: _ :: _, h => simp [chkEs] at h
  | c :: d :: cs, W, sc, X, es, cx, h0, h => by
    match es, h with
    | e :: f :: es, h =>
      simp only [chkEs, Bool.and_eq_true] at h
      exact s_orC (sE c cx h.1) (sOr (d :: cs) cx rfl (by simp only [chkEs, Bool.and_eq_true]; exact h.2))
    | [], h => simp [chkEs] at h
    | [_], h => simp [chkEs] at h
theorem sCs : ∀ (cs : List E) {W : WX} {sc : Scope} {X : Cx} {es : List Expr}, Ctx sg W G C sc k X → chkCs C sc cs es = true → PTs X es (tM sg W (fun ρ => evCs G ρ cs) Rb)
  | [], W, sc, X, es, cx, h => by
    cases es with
    | nil => exact s_csNil
    | cons e es => simp [chkCs] at h
  | [c], W, sc, X, es, cx, h => by
    match es, h with
    | [e], h => exact s_csOne (sE c cx (by simpa only [chkCs] using h))
    | [], h => simp [chkCs] at h
    | _ :: _ :: _, h => simp [chkCs] at h
  | _ :: _ :: _, W, sc, X, es, cx, h => by simp [chkCs] at h
theorem sI : ∀ (it : I) {W : WX} {sc : Scope} {X : Cx} {tg e : Expr}, Ctx sg W G C sc k X → chkI C sc it tg e = true → PI X tg e (tIt sg W G it)
  | .seq a, W, sc, X, tg, e, cx, h => s_seq (sE a cx (by simpa only [chkI] using h)).pe
  | .rng1 a, W, sc, X, tg, e, cx, h => by
    unfold chkI at h
    cases ev : vCall e with
    | none => rw [ev] at h; cases h
    | some w =>
      obtain ⟨x, es⟩ := w
      rw [ev] at h
      obtain ⟨p, q, rfl⟩ := vCall_eq ev
      match es, h with
      | [l], h =>
        simp only [Bool.and_eq_true, decide_eq_true_eq] at h
        obtain ⟨⟨⟨⟨rfl, h1⟩, h2⟩, h3⟩, h4⟩ := h
        exact s_rng1 cx h1 h2 (s_cons (sE a cx h3).pe s_nil h4) h4
      | [], h => simp at h
      | _ :: _ :: _, h => simp at h
  | .rng2 a b, W, sc, X, tg, e, cx, h => by
    unfold chkI at h
    cases ev : vCall e with
    | none => rw [ev] at h; cases h
    | some w =>
      obtain ⟨x, es⟩ := w
      rw [ev] at h
      obtain ⟨p, q, rfl⟩ := vCall_eq ev
      match es, h with
      | [l, r], h =>
        simp only [Bool.and_eq_true, decide_eq_true_eq] at h
        obtain ⟨⟨⟨⟨⟨⟨rfl, h1⟩, h2⟩, h3⟩, h4⟩, h5⟩, h6⟩ := h
        exact s_rng2 cx h1 h2 (sE a cx h3).pe (sE b cx h5).pe h4 h6
      | [], h => simp at h
      | [_], h => simp at h
      | _ :: _ :: _ :: _, h => simp at h
  | .zip a b, W, sc, X, tg, e, cx, h => by
    unfold chkI at h
    cases ev : vCall e with
    | none => rw [ev] at h; cases h
    | some w =>
      obtain ⟨x, es⟩ := w
      rw [ev] at h
      obtain ⟨p, q, rfl⟩ := vCall_eq ev
      match es, h with
      | [l, r], h =>
        simp only [Bool.and_eq_true, decide_eq_true_eq] at h
        obtain ⟨⟨⟨⟨⟨⟨⟨h0, rfl⟩, h1⟩, h2⟩, h3⟩, h4⟩, h5⟩, h6⟩ := h
        obtain ⟨ts, kk, tp, rfl⟩ := isTupE_eq h0
        exact s_zip cx h1 h2 (sE a cx h3).pe (sE b cx h5).pe h4 h6
      | [], h => simp at h
      | [_], h => simp at h
      | _ :: _ :: _ :: _, h => simp at h
  | .enum a, W, sc, X, tg, e, cx, h => by
    unfold chkI at h
    cases ev : vCall e with
    | none => rw [ev] at h; cases h
    | some w =>
      obtain ⟨x, es⟩ := w
      rw [ev] at h
      obtain ⟨p, q, rfl⟩ := vCall_eq ev
      match es, h with
      | [l], h =>
        simp only [Bool.and_eq_true, decide_eq_true_eq] at h
        obtain ⟨⟨⟨⟨⟨h0, rfl⟩, h1⟩, h2⟩, h3⟩, h4⟩ := h
        obtain ⟨ts, kk, tp, rfl⟩ := isTupE_eq h0
        exact s_enum cx h1 h2 (sE a cx h3).pe h4
      | [], h => simp at h
      | _ :: _ :: _, h => simp at h
end
end Ip

namespace Ip
open PySem PySem.Spec PyProof.Rows L2
variable {sg : Sg} {W : WX} {P : Prog} {G : Gc} {C : CK} {sc : Scope} {k : Nat} {X : Cx} {a b c : E} {ea eb ec : Expr} {pos : Pos} {cs : List E} {es rest : List Expr} {s : S} {ss : List S} {st : Stmt} {sts : List Stmt}
/-! ### a list that is grown no more -/
theorem Rl.kill {α : List Addr} {Φ H : Hp} {h : Hm} (r : Rl α Φ h H) {n : Nat} {a : Addr} (ea : α[n]? = some a) {vs : List V} (hf : Φ a = none) (hH : H a = some (.lst vs)) :
    Rl α (upd Φ a (.lst vs)) (h.set n .dead) H ∧ Step α Φ H α (upd Φ a (.lst vs)) H := by
  have le : Le Φ (upd Φ a (.lst vs)) := fun c u q => by rw [upd_ne (fun w => by rw [w, hf] at q; cases q)]; exact q
  refine ⟨⟨fun b u q => ?_, by simp [r.len], r.inj, r.live, fun m b o q1 q2 => ?_⟩, ⟨[], by simp, by simp⟩, le, fun _ _ q _ => q, fun b u q => ?_⟩
  · by_cases z : b = a
    · subst z; rw [upd_same] at q; cases q; exact .of hH
    · rw [upd_ne z] at q; exact r.sub b u q
  · by_cases hm : m = n
    · subst hm
      by_cases hl : m < h.length
      · rw [List.getElem?_set_self hl] at q2; cases q2; trivial
      · rw [List.getElem?_eq_none (by simp; omega)] at q2; cases q2
    · rw [List.getElem?_set_ne (Ne.symm hm)] at q2
      have z : b ≠ a := fun z => by subst z; exact hm (r.inj _ _ _ q1 ea)
      exact (r.obj m b o q1 q2).le le (fun u q => q) fun q => by rw [upd_ne z]; exact q
  · by_cases z : b = a
    · subst z; exact .inr (.inr (List.mem_of_getElem? ea))
    · rw [upd_ne z] at q; exact .inl q
theorem s_frz {i : Nat} (h : PSs X sts (tSs sg W P G ss)) : PSs X sts (tSs sg W P G (.frz i :: ss)) := h.mono fun D σ H ⟨α, Φ, ρ, h, rl, fr, p⟩ => by
  have p : PF sg W σ α Φ H (M.bind (exS P G ρ (.frz i)) (flowK fun ρ' => exSs P G ρ' ss) h) D := p
  unfold M.bind exS at p
  cases e1 : ρ[i]? with
  | none => simp only [e1] at p; exact p.elim
  | some o =>
    cases o with
    | none => simp only [e1] at p; exact p.elim
    | some m =>
      cases m with
      | d _ => simp only [e1] at p; exact p.elim
      | ref n =>
        cases e2 : h[n]? with
        | none => simp only [e1, e2] at p; exact p.elim
        | some ob =>
          cases ob with
          | lst xs =>
            cases e3 : Ip.grs xs with
            | none => simp only [e1, e2, e3] at p; exact p.elim
            | some ds =>
              simp only [e1, e2, e3] at p
              obtain ⟨v, hv, aa, ha, rfl⟩ := fr.at_ i _ e1
              obtain ⟨g1, vs, g2, g3⟩ := rl.obj n aa _ ha e2
              obtain ⟨r2, s2⟩ := rl.kill ha g1 g2
              refine ⟨α, _, ρ.set i (some (.d (.lst ds))), h.set n .dead, r2, ?_, PF.step p s2 r2 rfl⟩
              have f2 := (fr.step s2).set i (v := .ref aa) (m := .d (.lst ds)) (RepD.lst upd_same (RepDs.le s2.le (RepVs.grs g3 e3)))
              have : σ.set i (some (.ref aa)) = σ := by
                apply List.ext_getElem?
                intro j
                by_cases hj : i = j
                · subst hj; rw [List.getElem?_set_self (List.getElem?_eq_some_iff.mp hv).1, hv]
                · rw [List.getElem?_set_ne hj]
              rw [this] at f2
              exact f2
          | _ => simp only [e1, e2] at p; exact p.elim
/-! ### the check of a statement -/
structure XAt1 (X : Cx) (sg : Sg) (P : Prog) (C : CK) (cc : Nat) (x : Str) : Prop where
  ex : ExAt X sg P cc x
  xf : XfC X.K (sg.cA cc)
  ec : ExcC X.K (sg.cA cc)
  kit : ∀ j x, (j, x) ∈ C.exs → PySem.W.kitOne X.K (.ref (sg.cA cc)) (.ref (sg.cA j)) = some (P.sub cc j)
  kitV : PySem.W.kitOne X.K (.ref (sg.cA cc)) (.type "ValueError") = some (P.sub cc 0)
  noat : ∀ f, f ∈ P.exF cc → PySem.W.findIn X.K (.ref (sg.cA cc)) (sg.aN f) = some none
  exm : ∀ j, P.exs.contains j = true → PySem.W.exmOne X.K (.ref (sg.cA j)) (.ref (sg.cA cc)) = some (if j = cc then true else P.sub j cc)
structure XAt (X : Cx) (sg : Sg) (P : Prog) (C : CK) (cc : Nat) (x : Str) : Prop where
  gl : X.mg x = some (.ref (sg.cA cc))
  own : P.exs.contains cc = true → XAt1 X sg P C cc x
structure SCx (sg : Sg) (W : WX) (P : Prog) (G : Gc) (C : CK) (sc : Scope) (k : Nat) (X : Cx) : Prop where
  cx : Ctx sg W G C sc k X
  sto : Sto C sc X
  pass : PassesOwn (model X.prog X.w) X.A X.env X.xe
  stk : X.stack = X.env :: X.outer
  frm : X.env.frame = some X.env.locals
  k2 : 2 ≤ k
  xs : ∀ cc x, (cc, x) ∈ C.exs → XAt X sg P C cc x
theorem SCx.tr (q : SCx sg W P G C sc k X) {W' : WX} {pn : List (Addr × Obj)} {xe : Value → Shared → Prop} (tk : Takes (X.tr pn xe) W') (hp : PassesOwn (model X.prog X.w) X.A X.env xe) : SCx sg W' P G C sc k (X.tr pn xe) where
  cx := ⟨q.cx.N, q.cx.nd, q.cx.sc, q.cx.calm, q.cx.free, q.cx.room, fun f x h => ⟨(q.cx.fns f x h).at_⟩, tk⟩
  sto := ⟨q.sto.1, q.sto.2, q.sto.3, q.sto.4⟩
  pass := hp
  stk := q.stk
  frm := q.frm
  k2 := q.k2
  xs := fun cc x h => ⟨(q.xs cc x h).gl, fun hc => let z := (q.xs cc x h).own hc; ⟨⟨z.ex.mg, z.ex.oex, z.ex.nd, z.ex.few, z.ex.init⟩, z.xf, z.ec, z.kit, z.kitV, z.noat, z.exm⟩⟩
def vSub : Expr → Option (Expr × Expr)
  | .Subscript o i _ => some (o, i)
  | _ => none
theorem vSub_eq {e o i : Expr} (h : vSub e = some (o, i)) : ∃ p, e = .Subscript o i p := by
  unfold vSub at h
  split at h
  · cases h; exact ⟨_, rfl⟩
  · cases h
def vTry : Stmt → Option (List Stmt × Str × Str × Expr)
  | .Try body [.ExceptHandler (some (.Name x _)) (some n) [.Return (some hr) _] _] [] [] _ => some (body, x, n, hr)
  | _ => none
theorem vTry_eq {s : Stmt} {body : List Stmt} {x n : Str} {hr : Expr} (h : vTry s = some (body, x, n, hr)) : ∃ np rp p' p, s = .Try body [.ExceptHandler (some (.Name x np)) (some n) [.Return (some hr) rp] p'] [] [] p := by
  unfold vTry at h
  split at h
  · cases h; exact ⟨_, _, _, _, rfl⟩
  · cases h
/-- x = [..] -/
def chkLc (C : CK) (sc : Scope) : Tg → E → Expr → Expr → Bool
  | .nm i, .lc _ elt t it cs own, .Name y py, .ListComp ee [⟨tg, iter, ifs, 0⟩] scope lpos => blkC C.N sc scope (opOf C.N own) && decide ((opOf C.N own).map (·.2) = own) && chkT C scope t tg && (slots t).all (own.contains ·) &&
      notSet iter && chkI C sc it tg iter && chkCs C (relS scope sc) cs ifs && chkE C (relS scope sc) elt ee &&
      decide (sc.kind = .function) && decide (C.N[i]? = some y) && decide (sc.names.lookup y = some .local) && (py.line == lpos.line) && !(scope.names.any fun (n, k) => n == y && (k == .local || k == .cell))
  | _, _, _, _ => false
theorem sAsgLc {t : Tg} {e : E} {tg ee : Expr} (cx : Ctx sg W G C sc k X) (h : chkLc C sc t e tg ee = true) : PS X (.Assign [tg] ee pos) (tS sg W P G (.asg (.tg t) e)) := by
  unfold chkLc at h
  split at h
  · simp only [Bool.and_eq_true, decide_eq_true_eq, Bool.not_eq_true'] at h
    obtain ⟨⟨⟨⟨⟨⟨⟨⟨⟨⟨⟨⟨h1, h2⟩, h3⟩, h4⟩, h5⟩, h6⟩, h7⟩, h8⟩, g1⟩, g2⟩, g3⟩, g4⟩, g5⟩ := h
    exact s_asgLc cx ⟨sI _ cx h6, h1, h2, h3, fun i hi => by simpa using List.all_eq_true.mp h4 i hi, fun X' cx' => sCs _ cx' h7, fun X' cx' => (sE _ cx' h8).pe, notSet_ok h5 _⟩ g1 g2 g3 g4 g5
  · cases h
mutual
def chkS (aN : Nat → Str) (P : Prog) (C : CK) (sc : Scope) : S → Stmt → Bool
  | .asg (.tg t) e, .Assign [tg] ee _ => (notComp ee && (notTup tg || notTup ee) && chkT C sc t tg && chkE C sc e ee) || chkLc C sc t e tg ee
  | .asg (.ix o i) e, .Assign [tg] ee _ => match vSub tg with
    | some (eo, ei) => notSlice ei && notComp ee && chkE C sc o eo && chkE C sc i ei && chkE C sc e ee
    | none => false
  | .expr e, .Expr ee _ => notComp ee && chkE C sc e ee
  | .ret e, .Return (some ee) _ => chkE C sc e ee
  | .retN, .Return none _ => true
  | .pass, .Pass _ => true
  | .brk, .Break _ => true
  | .ct, .Continue _ => true
  | .ite c a b, .If ec ta ua _ => chkE C sc c ec && chkSs aN P C sc a ta && chkSs aN P C sc b ua
  | .wh c b, .While ec ta [] _ => chkE C sc c ec && chkSs aN P C sc b ta
  | .for_ t it b, .For tg iter ta [] _ => notSet iter && chkI C sc it tg iter && chkT C sc t tg && chkSs aN P C sc b ta
  | .raise c es, .Raise (some ee) none _ => match vCall ee with
    | some (x, ees) => (decide ((c, x) ∈ C.exs) && P.exs.contains c) && glB sc x && !(x == "__debug__") && chkEs C sc es ees && ees.all notStar && !es.isEmpty
    | none => false
  | .try_ b c i x, st => match vTry st with
    | some (body, nx, n, hr) => (decide ((c, nx) ∈ C.exs) && P.exs.contains c) && glB sc nx && !(nx == "__debug__") && decide (C.N[i]? = some n) && decide (sc.names.lookup n = some .local) && !(n == "__debug__") && !(n == "__classdict__") &&
      chkSs aN P C sc b body && chkH aN P C sc n c x hr
    | none => false
  | _, _ => false
def chkSs (aN : Nat → Str) (P : Prog) (C : CK) (sc : Scope) : List S → List Stmt → Bool
  | [], [] => true
  | .frz _ :: ss, sts => chkSs aN P C sc ss sts
  | s :: ss, st :: sts => chkS aN P C sc s st && chkSs aN P C sc ss sts
  | _, _ => false
end
mutual
theorem sS : ∀ (s : S) {W : WX} {X : Cx} {st : Stmt}, SCx sg W P G C sc k X → chkS sg.aN P C sc s st = true → PS X st (tS sg W P G s)
  | .asg l e, W, X, st, q, h => by
    cases st <;> first | (cases l <;> simp [chkS] at h; done) | skip
    rename_i tgs ee pos
    match tgs, h with
    | [tg], h =>
      cases l with
      | tg t =>
        simp only [chkS, Bool.or_eq_true, Bool.and_eq_true] at h
        rcases h with ⟨⟨⟨h1, h2⟩, h3⟩, h4⟩ | h
        · exact s_asg q.sto h3 (sE e q.cx h4).pe h1 h2
        · exact sAsgLc q.cx h
      | ix o i =>
        simp only [chkS] at h
        cases ev : vSub tg with
        | none => rw [ev] at h; cases h
        | some w =>
          obtain ⟨eo, ei⟩ := w
          rw [ev] at h
          obtain ⟨p, rfl⟩ := vSub_eq ev
          simp only [Bool.and_eq_true] at h
          exact s_setIx (sE o q.cx h.1.1.2).pe (sE i q.cx h.1.2).pe (sE e q.cx h.2).pe h.1.1.1.2 h.1.1.1.1
      | at_ _ _ => simp [chkS] at h
    | [], h => cases l <;> simp [chkS] at h
    | _ :: _ :: _, h => cases l <;> simp [chkS] at h
  | .expr e, W, X, st, q, h => by
    cases st <;> first | (simp [chkS] at h; done) | skip
    simp only [chkS, Bool.and_eq_true] at h
    exact s_expr (sE e q.cx h.2).pe (sw_no h.1 _ _ _)
  | .ret e, W, X, st, q, h => by
    cases st <;> first | (simp [chkS] at h; done) | skip
    rename_i o _
    cases o <;> first | (simp [chkS] at h; done) | skip
    exact s_ret (sE e q.cx (by simpa only [chkS] using h)).pe
  | .retN, W, X, st, q, h => by
    cases st <;> first | (simp [chkS] at h; done) | skip
    rename_i o _
    cases o <;> first | (simp [chkS] at h; done) | skip
    exact s_retN
  | .pass, W, X, st, q, h => by
    cases st <;> first | (simp [chkS] at h; done) | exact s_pass
  | .brk, W, X, st, q, h => by
    cases st <;> first | (simp [chkS] at h; done) | exact s_brk
  | .ct, W, X, st, q, h => by
    cases st <;> first | (simp [chkS] at h; done) | exact s_ct
  | .ite c a b, W, X, st, q, h => by
    cases st <;> first | (simp [chkS] at h; done) | skip
    simp only [chkS, Bool.and_eq_true] at h
    exact s_if (sE c q.cx h.1.1) (sSs a q h.1.2) (sSs b q h.2)
  | .wh c b, W, X, st, q, h => by
    cases st <;> first | (simp [chkS] at h; done) | skip
    rename_i ec ta ua _
    cases ua <;> first | (simp [chkS] at h; done) | skip
    simp only [chkS, Bool.and_eq_true] at h
    exact s_while q.pass (sE c q.cx h.1) (sSs b q h.2)
  | .for_ t it b, W, X, st, q, h => by
    cases st <;> first | (simp [chkS] at h; done) | skip
    rename_i tg iter ta ua _
    cases ua <;> first | (simp [chkS] at h; done) | skip
    simp only [chkS, Bool.and_eq_true] at h
    exact s_for q.pass q.sto (sI it q.cx h.1.1.2) h.1.2 (sSs b q h.2) (notSet_ok h.1.1.1 _)
  | .raise c es, W, X, st, q, h => by
    cases st <;> first | (simp [chkS] at h; done) | skip
    rename_i eo fo _
    cases eo <;> first | (simp [chkS] at h; done) | skip
    cases fo <;> first | (simp [chkS] at h; done) | skip
    rename_i ee
    simp only [chkS] at h
    cases ev : vCall ee with
    | none => rw [ev] at h; cases h
    | some w =>
      obtain ⟨x, ees⟩ := w
      rw [ev] at h
      obtain ⟨p, p2, rfl⟩ := vCall_eq ev
      simp only [Bool.and_eq_true, decide_eq_true_eq, Bool.not_eq_true'] at h
      obtain ⟨⟨⟨⟨⟨h1, h2⟩, h3⟩, h4⟩, h5⟩, h6⟩ := h
      cases ees with
      | nil => cases es with
        | nil => simp at h6
        | cons c cs => simp [chkEs] at h4
      | cons e0 es0 => exact s_raise q.cx q.k2 ((q.xs c x h1.1).own h1.2).ex h2 h3 (sEs es q.cx h4 h5) h5
  | .try_ b c i x, W, X, st, q, h => by
    unfold chkS at h
    cases ev : vTry st with
    | none => rw [ev] at h; cases h
    | some w =>
      obtain ⟨body, nx, n, hr⟩ := w
      rw [ev] at h
      obtain ⟨np, rp, p', p, rfl⟩ := vTry_eq ev
      simp only [Bool.and_eq_true, decide_eq_true_eq, Bool.not_eq_true'] at h
      obtain ⟨⟨⟨⟨⟨⟨⟨⟨h1, h2⟩, h3⟩, h4⟩, h5⟩, h6⟩, h7⟩, h8⟩, h9⟩ := h
      have z := (q.xs c nx h1.1).own h1.2
      refine s_try q.stk q.frm q.cx.nd q.cx.tk ⟨⟨q.cx.N, q.cx.sc, q.cx.free, h4, by rw [q.cx.sc]; exact h5, ⟨h6, h7⟩, z.xf, z.ec, z.kit, z.kitV, fun j x hj => (q.xs j x hj).gl, z.noat⟩, ⟨glB_ok q.cx h2, h3, .inl z.ex.mg⟩, z.exm⟩ (fun W' pn xe tk hp => sSs b (q.tr tk hp) h8) h9
  | .frz i, W, X, st, q, h => by
    cases st <;> simp [chkS] at h
theorem sSs : ∀ (ss : List S) {W : WX} {X : Cx} {sts : List Stmt}, SCx sg W P G C sc k X → chkSs sg.aN P C sc ss sts = true → PSs X sts (tSs sg W P G ss)
  | [], W, X, sts, q, h => by
    cases sts with
    | nil => exact s_ssNil
    | cons st sts => simp [chkSs] at h
  | s :: ss, W, X, sts, q, h => by
    by_cases hf : ∃ i, s = .frz i
    · obtain ⟨i, rfl⟩ := hf
      exact s_frz (sSs ss q (by simpa only [chkSs] using h))
    · cases sts with
      | nil => cases s <;> first | (simp [chkSs] at h; done) | exact absurd ⟨_, rfl⟩ hf
      | cons st sts =>
        have h' : chkS sg.aN P C sc s st = true ∧ chkSs sg.aN P C sc ss sts = true := by
          cases s <;> first | exact absurd ⟨_, rfl⟩ hf | simpa only [chkSs, Bool.and_eq_true] using h
        exact s_ssCons (sS s q h'.1) (sSs ss q h'.2)
end
end Ip

namespace Ip
open PySem PySem.Spec PyProof.Rows L2
/-! ### a module: its functions, its exceptions -/
structure FI where
  f : Nat
  x : Str
  params : Arguments
  body : List Stmt
  scope : Scope
  N : List Str
  ps : List Str
structure XMd1 (K : PySem.W.Frag) (mg : Str → Option Value) (sg : Sg) (P : Prog) (Y : CK) (cc : Nat) (x : Str) : Prop where
  oex : OexC K (sg.cA cc)
  nd : ((P.exF cc).map sg.aN).Nodup
  few : (P.exF cc).length ≤ 900
  init : ∀ (Pg : Program) (w : World) (base : Heap), ∃ fI fd ps, PySem.W.findIn K (.ref (sg.cA cc)) "__init__" = some (some (.ref fI)) ∧ PySem.W.typeIn K (.ref fI) = some (.type "function") ∧ Binds K fd ps [] ∧ FnOk Pg w K mg base CX0 1 fI fd ps (spX K (sg.cA cc) ((P.exF cc).map sg.aN))
  xf : XfC K (sg.cA cc)
  ec : ExcC K (sg.cA cc)
  kit : ∀ j x, (j, x) ∈ Y.exs → PySem.W.kitOne K (.ref (sg.cA cc)) (.ref (sg.cA j)) = some (P.sub cc j)
  kitV : PySem.W.kitOne K (.ref (sg.cA cc)) (.type "ValueError") = some (P.sub cc 0)
  noat : ∀ f, f ∈ P.exF cc → PySem.W.findIn K (.ref (sg.cA cc)) (sg.aN f) = some none
  exm : ∀ j, P.exs.contains j = true → PySem.W.exmOne K (.ref (sg.cA j)) (.ref (sg.cA cc)) = some (if j = cc then true else P.sub j cc)
structure XMd (K : PySem.W.Frag) (mg : Str → Option Value) (sg : Sg) (P : Prog) (Y : CK) (cc : Nat) (x : Str) : Prop where
  gl : mg x = some (.ref (sg.cA cc))
  own : P.exs.contains cc = true → XMd1 K mg sg P Y cc x
def FI.ck (Y : CK) (t : FI) : CK := { Y with N := t.N }
structure FMd (K : PySem.W.Frag) (mg : Str → Option Value) (sg : Sg) (P : Prog) (Y : CK) (t : FI) : Prop where
  fn : ∃ a fd, mg t.x = some (.ref a) ∧ FunD K t.x t.x t.params t.body t.scope [] [] a fd ∧ Binds K fd t.ps []
  sc : FnScope t.N t.ps t.scope
  code : ∃ d, P.fn t.f = some d ∧ d.np = t.ps.length ∧ d.ns = t.N.length ∧ chkSs sg.aN P (t.ck Y) t.scope d.body t.body = true
structure Md (K : PySem.W.Frag) (mg : Str → Option Value) (sg : Sg) (P : Prog) (Y : CK) (T : List FI) : Prop where
  fns : ∀ f x, (f, x) ∈ Y.fns → ∃ t ∈ T, t.f = f ∧ t.x = x
  tab : ∀ t ∈ T, FMd K mg sg P Y t
  free : ∀ x, x ∈ Y.free → mg x = none
  exs : ∀ cc x, (cc, x) ∈ Y.exs → XMd K mg sg P Y cc x
variable {K : PySem.W.Frag} {mg : Str → Option Value} {sg : Sg} {P : Prog} {Y : CK} {T : List FI} {Pg : Program} {w : World} {base : Heap}
theorem start_fr {α : List Addr} {Φ : Hp} {ms : List MV} {vs : List V} (r : RepVs α Φ vs ms) (N : List Str) : Fr α Φ (startF N.length ms) (L2.start N vs) := by
  have hl := r.len
  refine ⟨by simp [startF, L2.start, hl], fun i m e => ?_⟩
  unfold startF at e
  unfold L2.start
  by_cases hi : i < ms.length
  · rw [List.getElem?_append_left (by simpa using hi)] at e
    rw [List.getElem?_append_left (by simpa [hl] using hi)]
    simp only [List.getElem?_map] at e ⊢
    cases q : ms[i]? with
    | none => rw [q] at e; cases e
    | some m' =>
      rw [q] at e
      cases e
      clear hi hl
      induction r generalizing i with
      | nil => cases q
      | cons a b ih =>
        cases i with
        | zero => cases q; exact ⟨_, rfl, a⟩
        | succ i => exact ih i q
  · rw [List.getElem?_append_right (by simpa using hi)] at e
    rw [List.getElem?_replicate] at e
    split at e <;> cases e
theorem fnOk (md : Md K mg sg P Y T) : ∀ (n : Nat) (t : FI), t ∈ T → ∃ a fd, mg t.x = some (.ref a) ∧ FunD K t.x t.x t.params t.body t.scope [] [] a fd ∧ Binds K fd t.ps [] ∧ FnOk Pg w K mg base (CX Pg w) (n + 2) a fd t.ps (spG sg (callF P n) t.f)
  | 0, t, ht => by
    obtain ⟨⟨a, fd, h1, h2, h3⟩, _, _⟩ := md.tab t ht
    refine ⟨a, fd, h1, h2, h3, ⟨fun vs H Q E h => ?_, fun A outer s H args us vs Q E hr e0 hb hv h => ?_⟩⟩
    · obtain ⟨α, Φ, h, ms, _, _, p⟩ := h; exact p.elim
    · obtain ⟨α, Φ, h, ms, _, _, p⟩ := h; exact p.elim
  | n + 1, t, ht => by
    obtain ⟨⟨a, fd, h1, h2, h3⟩, S, d, c1, c2, c3, c4⟩ := md.tab t ht
    refine ⟨a, fd, h1, h2, h3, ?_⟩
    have ev : ∀ ms h, callF P (n + 1) t.f ms h = if ms.length = d.np then M.bind (exSs P (callF P n) (startF d.ns ms) d.body) (fun fl => match fl with
      | .ret v => M.pure v
      | .nx _ => M.pure (.d .none)
      | _ => M.stuck) h else .stuck := fun ms h => by
        show (match P.fn t.f with | none => M.stuck | some d => if ms.length = d.np then M.bind (exSs P (callF P n) (startF d.ns ms) d.body) (fun fl => match fl with
          | .ret v => M.pure v
          | .nx _ => M.pure (.d .none)
          | _ => M.stuck) else M.stuck) h = _
        rw [c1]
        show (if ms.length = d.np then M.bind (exSs P (callF P n) (startF d.ns ms) d.body) (fun fl => match fl with
          | .ret v => M.pure v
          | .nx _ => M.pure (.d .none)
          | _ => M.stuck) else M.stuck) h = _
        by_cases hn : ms.length = d.np
        · rw [if_pos hn, if_pos hn]
        · rw [if_neg hn, if_neg hn]; rfl
    refine h2.ok (k := n + 2) S (fun vs H Q E h => ?_) fun cdv A outer s H vs Q E hr h => ?_
    · obtain ⟨α, Φ, h, ms, rl, rs, p⟩ := h
      rw [ev] at p
      by_cases hn : ms.length = d.np
      · rw [rs.len, hn, c2]
      · rw [if_neg hn] at p; exact p.elim
    · obtain ⟨α, Φ, h, ms, rl, rs, p⟩ := h
      rw [ev] at p
      by_cases hn : ms.length = d.np
      case neg => rw [if_neg hn] at p; exact p.elim
      rw [if_pos hn] at p
      have q : SCx sg (fun cls d _ H => E cls d H) P (callF P n) (t.ck Y) t.scope (n + 2) (cxOf (CX Pg w) Pg w K mg base t.N t.x t.scope a cdv A outer s H E) := by
        refine ⟨⟨rfl, S.nd, rfl, rfl, md.free, hr, fun f x hf => ?_, takes_of rfl rfl rfl rfl⟩, ⟨rfl, S.nd, rfl, fun x hx => ⟨hx, .inl rfl⟩⟩, passes_of rfl, rfl, rfl, by omega, fun cc x hx => ?_⟩
        · obtain ⟨t', ht', rfl, rfl⟩ := md.fns f x hf
          obtain ⟨a', fd', g1, g2, g3, g4⟩ := fnOk md n t' ht'
          exact ⟨a', fd', t'.ps, g1, g2.kp, g3, g4⟩
        · refine ⟨(md.exs cc x hx).gl, fun hc => ?_⟩
          have z := (md.exs cc x hx).own hc
          exact ⟨⟨(md.exs cc x hx).gl, z.oex, z.nd, z.few, z.init Pg w base⟩, z.xf, z.ec, z.kit, z.kitV, z.noat, z.exm⟩
      refine ⟨_, sSs d.body q c4, ?_⟩
      refine ⟨α, Φ, startF d.ns ms, h, rl, by rw [c3]; exact start_fr rs t.N, ?_⟩
      unfold M.bind at p
      show PF sg _ _ α Φ H (exSs P (callF P n) (startF d.ns ms) d.body h) _
      cases e : exSs P (callF P n) (startF d.ns ms) d.body h with
      | ok fl h' =>
        rw [e] at p
        cases fl with
        | ret v => exact fun α' Φ' H' x st rl' rv => p α' Φ' H' x st rl' rv
        | nx ρ' => exact fun α' Φ' H' σ' st rl' fr _ => p α' Φ' H' .non st rl' RepD.none
        | brk _ => exact p.elim
        | ct _ => exact p.elim
      | exc e' h' => rw [e] at p; exact fun α' Φ' H' cls d' σ' st rl' rx _ => p α' Φ' H' cls d' st rl' rx
      | stuck => rw [e] at p; exact p.elim
/-! ### the classes, by a look at K -/
def oexB (K : PySem.W.Frag) (C : Addr) : Bool := (match K.lookup C with
  | some ⟨.type "type", _, .cls cd, sl⟩ => (match cd.mro, sl.toList with
    | .ref C' :: bm, [_, _, _, _, some (.builtin n), _] => C' == C && n == "ValueError.__new__" && !cd.hasDel && cd.hasDict && PySem.HandSPX.refsVE bm
    | _, _ => false)
  | _ => false) && decide (PySem.W.findIn K (.ref C) "__setattr__" = some (some (.builtin "object.__setattr__"))) && decide (PySem.W.subIn K (.ref C) (.type "BaseException") = some true) && decide (PySem.W.typeIn K (.ref C) = some (.type "type")) && PySem.W.keepIn K (.ref C)
theorem oexB_ok {C : Addr} (h : oexB K C = true) : OexC K C := by
  unfold oexB at h
  simp only [Bool.and_eq_true, decide_eq_true_eq] at h
  obtain ⟨⟨⟨⟨q, h1⟩, h2⟩, h3⟩, h4⟩ := h
  refine ⟨?_, h1, h2, h3, h4⟩
  split at q
  · rename_i dd cd sl ho
    split at q
    · rename_i C' bm k0 k1 k2 k3 n k5 hm hs
      simp only [Bool.and_eq_true, beq_iff_eq, Bool.not_eq_true'] at q
      obtain ⟨⟨⟨⟨rfl, rfl⟩, hdel⟩, hdict⟩, ht⟩ := q
      obtain ⟨nm, bs, mro, ns, qn, hd, sn, sub, ab, col, del⟩ := cd
      dsimp only at hm hdel hdict
      subst hm hdel hdict
      have hsl : sl = #[k0, k1, k2, k3, some (.builtin "ValueError.__new__"), k5] := by
        obtain ⟨l⟩ := sl
        simp only at hs
        rw [hs]
      subst hsl
      exact ⟨nm, qn, ns, bs, bm, sn, sub, ab, col, dd, k0, k1, k2, k3, k5, ho, ht⟩
    · cases q
  · cases q
def ecB (K : PySem.W.Frag) (D : Addr) : Bool := decide (PySem.W.findIn K (.ref D) "__getattribute__" = some (some (.builtin "BaseException.__getattribute__"))) && decide (PySem.W.findIn K (.ref D) "__getattr__" = some none) && decide (PySem.W.subIn K (.ref D) (.type "BaseException") = some true) &&
  PySem.W.hasDictIn K D && decide (PySem.W.findIn K (.ref D) "__class__" = some (some (.builtin "object.__class__"))) && decide (PySem.W.specialIn K (.builtin "object.__class__") "__get__" = some (some (.builtin "getset_descriptor.__get__"))) && decide (PySem.W.takesIn K (.builtin "object.__class__") = some true) &&
  decide (PySem.W.mroIn K D (.type "object") = some true)
theorem ecB_ok {D : Addr} (h : ecB K D = true) : ExcC K D := by
  unfold ecB at h
  simp only [Bool.and_eq_true, decide_eq_true_eq] at h
  obtain ⟨⟨⟨⟨⟨⟨⟨h1, h2⟩, h3⟩, h4⟩, h5⟩, h6⟩, h7⟩, h8⟩ := h
  exact ⟨h1, h2, h3, h4, h5, h6, h7, h8⟩
end Ip

namespace Ip
open PySem PySem.Spec PyProof.Rows L2 He
/-! ### what the head shows of a module -/
structure XI where
  c : Nat
  x : Str
  own : Bool
  qual : Str
  params : Arguments
  body : List Stmt
  scope : Scope
  ps : List Str
structure MI where
  T : List FI
  Xs : List XI
  free : List Str
  P : Prog
  aN : Nat → Str
def MI.ck (m : MI) : CK := ⟨[], m.free, m.T.map fun t => (t.f, t.x), m.Xs.map fun t => (t.c, t.x)⟩
def MI.cA (m : MI) (K : PySem.W.Frag) (c : Nat) : Addr := match m.Xs.find? (fun t => t.c == c) with
  | some t => ga K t.x
  | none => 0
def MI.sg (m : MI) (K : PySem.W.Frag) : Sg := ⟨m.cA K, m.aN⟩
def FI.def_ (t : FI) : DefD := ⟨(t.x, none), t.x, t.x, t.params, t.body, t.scope, [], []⟩
def XI.def_ (t : XI) : DefD := ⟨(t.x, some "__init__"), "__init__", t.qual, t.params, t.body, t.scope, [], []⟩
def MI.defs (m : MI) : List DefD := (m.T.map FI.def_) ++ ((m.Xs.filter (·.own)).map XI.def_)
def XI.ok1 (m : MI) (K : PySem.W.Frag) (t : XI) : Bool := oexB K (ga K t.x) && xfB K (ga K t.x) && ecB K (ga K t.x) && eqO (PySem.W.findIn K (.ref (ga K t.x)) "__init__") (some (some (.ref (ma K (ga K t.x) "__init__")))) &&
  decide (PySem.W.typeIn K (.ref (ma K (ga K t.x) "__init__")) = some (.type "function")) && ((m.P.exF t.c).all fun f => eqO (PySem.W.findIn K (.ref (ga K t.x)) (m.aN f)) (some none)) &&
  (m.Xs.all fun u => decide (PySem.W.kitOne K (.ref (ga K t.x)) (.ref (ga K u.x)) = some (m.P.sub t.c u.c))) && decide (PySem.W.kitOne K (.ref (ga K t.x)) (.type "ValueError") = some (m.P.sub t.c 0)) &&
  (m.Xs.all fun u => !u.own || decide (PySem.W.exmOne K (.ref (ga K u.x)) (.ref (ga K t.x)) = some (if u.c = t.c then true else m.P.sub u.c t.c)))
def noL (K : PySem.W.Frag) : Bool := K.all fun p => p.2.cls != .type "list"
def MI.kb (m : MI) (K : PySem.W.Frag) : Bool := (m.T.all fun t => (Fa.glo t.x).ok K) && (m.free.all fun x => (Fa.free x).ok K) && (m.Xs.all fun t => (Fa.glo t.x).ok K && (!t.own || t.ok1 m K)) && noL K
abbrev AlI : Type := Bool × List FnW
def MI.obs (m : MI) (K : PySem.W.Frag) : AlI := (m.kb K && m.defs.all fun d => d.ok K, m.defs.map fun d => fnW K d.at_)
def MI.val (m : MI) : AlI := (true, m.defs.map DefD.val)
def MI.obsG (m : MI) (n : Nat) (g : Addr → Option Obj) : AlI := m.obs (frG g (asD g n))
def MI.Says (m : MI) (K : PySem.W.Frag) : Prop := m.obs K = m.val
def hookI (n : Nat) (m : MI) : PySem.W.Hook where
  α := AlI
  obs := fun s => m.obsG n s.heap.get?
  val := fun _ => m.val
  says := fun _ h => ∃ K : PySem.W.Frag, K.In h ∧ m.Says K
  of := fun _ _ e => ⟨_, frG_in, e⟩
  keeps := fun _ _ _ ⟨K, hK, c⟩ k => ⟨K, PySem.W.Frag.In.keeps hK k, c⟩
theorem obsG_eq {n : Nat} {m : MI} {g : Addr → Option Obj} {s : Shared} (h : ∀ a, g a = s.heap.get? a) : m.obsG n g = (hookI n m).obs s := by
  have e : g = s.heap.get? := funext h
  rw [e] <;> rfl
/-- the part that K does not tell: f's -/
structure FP (P : Prog) (aN : Nat → Str) (Y : CK) (t : FI) : Prop where
  bd : ∀ (kV doc pm : Value) (an : Option Addr) (cdv ct : Value) (us : List Value), us.length = t.ps.length → bindArgs (PySem.W.fnOf t.x t.x t.params t.body t.scope .none kV doc pm an cdv ct) ⟨us, []⟩ = pure (t.ps.zip us)
  sc : FnScope t.N t.ps t.scope
  code : ∃ d, P.fn t.f = some d ∧ d.np = t.ps.length ∧ d.ns = t.N.length ∧ chkSs aN P (t.ck Y) t.scope d.body t.body = true
/-- .. an exception's -/
structure XP (P : Prog) (aN : Nat → Str) (t : XI) : Prop where
  bd : ∀ (kV doc pm : Value) (an : Option Addr) (cdv ct : Value) (us : List Value), us.length = t.ps.length → bindArgs (PySem.W.fnOf "__init__" t.qual t.params t.body t.scope .none kV doc pm an cdv ct) ⟨us, []⟩ = pure (t.ps.zip us)
  sc : FnScope t.ps t.ps t.scope
  ps : t.ps = ("self" : Str) :: (P.exF t.c).map aN
  nd : ((P.exF t.c).map aN).Nodup
  few : (P.exF t.c).length ≤ 900
  init : ∀ (Pg : Program) (w : World) (K : PySem.W.Frag) (mg : Str → Option Value) (base : Heap) (f Cl : Addr) (fd : FuncData), FunD K "__init__" t.qual t.params t.body t.scope [] [] f fd → OexC K Cl → (∀ i ∈ P.exF t.c, PySem.W.findIn K (.ref Cl) (aN i) = some none) → FnOk Pg w K mg base CX0 1 f fd t.ps (spX K Cl ((P.exF t.c).map aN))
structure MOk (m : MI) : Prop where
  fp : ∀ t ∈ m.T, FP m.P m.aN m.ck t
  xp : ∀ t ∈ m.Xs, t.own = true → XP m.P m.aN t
  own : ∀ t ∈ m.Xs, m.P.exs.contains t.c = true → t.own = true
  uni : (m.Xs.map (·.c)).Nodup
  exs : ∀ j, m.P.exs.contains j = true → ∃ t ∈ m.Xs, t.c = j
theorem all_cons {α : Type} {Q : α → Prop} {a : α} {l : List α} (h : Q a) (t : ∀ x ∈ l, Q x) : ∀ x ∈ a :: l, Q x := fun x hx => by
  rcases List.mem_cons.mp hx with e | e
  · rw [e]; exact h
  · exact t x e
theorem all_nil {α : Type} {Q : α → Prop} : ∀ x ∈ ([] : List α), Q x := fun x hx => by cases hx
theorem MI.cA_of {m : MI} {K : PySem.W.Frag} (uni : (m.Xs.map (·.c)).Nodup) {t : XI} (ht : t ∈ m.Xs) : m.cA K t.c = ga K t.x := by
  unfold MI.cA
  have : m.Xs.find? (fun u => u.c == t.c) = some t := by
    generalize m.Xs = l at uni ht
    induction l with
    | nil => cases ht
    | cons u l ih =>
      rw [List.map_cons, List.nodup_cons] at uni
      rw [List.find?_cons]
      rcases List.mem_cons.mp ht with e | e
      · subst e; simp
      · have : u.c ≠ t.c := fun z => uni.1 (by rw [z]; exact List.mem_map.mpr ⟨t, e, rfl⟩)
        rw [beq_eq_false_iff_ne.mpr this]
        exact ih uni.2 e
  rw [this]
section
variable {m : MI} {K : PySem.W.Frag} {h : Heap} {mg : Str → Option Value}
theorem MI.Says.kb (c : m.Says K) : m.kb K = true := (ba (show (m.kb K && m.defs.all fun d => d.ok K) = true from congrArg (fun z : AlI => z.1) c)).1
theorem MI.Says.def_ (c : m.Says K) {d : DefD} (hd : d ∈ m.defs) : ∃ fd, FunD K d.name d.qual d.params d.body d.scope (d.dvs K) (d.kws K) (fAd K d.at_) fd := by
  have c2 := (ba (show (m.kb K && m.defs.all fun d => d.ok K) = true from congrArg (fun z : AlI => z.1) c)).2
  have e : m.defs.map (fun d => fnW K d.at_) = m.defs.map DefD.val := congrArg (fun z : AlI => z.2) c
  have e2 : fnW K d.at_ = d.val := by
    have := List.map_inj_left.mp e d hd
    exact this
  exact DefD.funD e2 (List.all_eq_true.mp c2 d hd)
theorem MI.md (ok : MOk m) (X : K.In h) (G : h.Ns mainGlobals mg) (c : m.Says K) : Md K mg (m.sg K) m.P m.ck m.T := by
  have kb := c.kb
  unfold MI.kb at kb
  simp only [Bool.and_eq_true] at kb
  obtain ⟨⟨⟨k1, k2⟩, k3⟩, k4⟩ := kb
  refine ⟨fun f x hf => ?_, fun t ht => ?_, fun x hx => free_ok X G (List.all_eq_true.mp k2 x hx), fun cc x hx => ?_⟩
  · obtain ⟨t, ht, e⟩ := List.mem_map.mp hf
    cases e
    exact ⟨t, ht, rfl, rfl⟩
  · obtain ⟨b, s, q⟩ := ok.fp t ht
    obtain ⟨fd, F⟩ := c.def_ (d := t.def_) (List.mem_append_left _ (List.mem_map.mpr ⟨t, ht, rfl⟩))
    have F : FunD K t.x t.x t.params t.body t.scope [] [] (ga K t.x) fd := F
    exact ⟨⟨ga K t.x, fd, glo_ok X G (List.all_eq_true.mp k1 t ht), F, F.bindsN b⟩, s, q⟩
  · obtain ⟨t, ht, e⟩ := List.mem_map.mp hx
    cases e
    have ct : (m.sg K).cA t.c = ga K t.x := MI.cA_of ok.uni ht
    have kt := List.all_eq_true.mp k3 t ht
    rw [Bool.and_eq_true] at kt
    refine ⟨by rw [ct]; exact glo_ok X G kt.1, fun hc => ?_⟩
    have ho := ok.own t ht hc
    have kt2 := kt.2
    rw [ho] at kt2
    have kt2 : t.ok1 m K = true := kt2
    obtain ⟨b, s, hps, nd, few, ini⟩ := ok.xp t ht ho
    unfold XI.ok1 at kt2
    simp only [Bool.and_eq_true, decide_eq_true_eq] at kt2
    obtain ⟨⟨⟨⟨⟨⟨⟨⟨q1, q2⟩, q3⟩, q4⟩, q5⟩, q6⟩, q7⟩, q8⟩, q9⟩ := kt2
    obtain ⟨fd, F⟩ := c.def_ (d := t.def_) (List.mem_append_right _ (List.mem_map.mpr ⟨t, List.mem_filter.mpr ⟨ht, ho⟩, rfl⟩))
    have F : FunD K "__init__" t.qual t.params t.body t.scope [] [] (ma K (ga K t.x) "__init__") fd := F
    have na : ∀ f ∈ m.P.exF t.c, PySem.W.findIn K (.ref (ga K t.x)) (m.aN f) = some none := fun f hf => eqO_ok (List.all_eq_true.mp q6 f hf)
    refine ⟨by rw [ct]; exact oexB_ok q1, nd, few, fun Pg w base => ⟨_, fd, t.ps, by rw [ct]; exact eqO_ok q4, q5, F.bindsN b, by rw [ct]; exact ini Pg w K mg base _ _ fd F (oexB_ok q1) na⟩, by rw [ct]; exact xfB_ok q2, by rw [ct]; exact ecB_ok q3, fun j x hj => ?_, by rw [ct]; exact q8, by rw [ct]; exact na, fun j hj => ?_⟩
    · obtain ⟨u, hu, e⟩ := List.mem_map.mp hj
      cases e
      rw [ct, show (m.sg K).cA u.c = ga K u.x from MI.cA_of ok.uni hu]
      exact of_decide_eq_true (List.all_eq_true.mp q7 u hu)
    · obtain ⟨u, hu, rfl⟩ := ok.exs j hj
      rw [ct, show (m.sg K).cA u.c = ga K u.x from MI.cA_of ok.uni hu]
      have z := List.all_eq_true.mp q9 u hu
      rw [ok.own u hu hj] at z
      exact of_decide_eq_true z
theorem noL_ok (c : noL K = true) {a : Addr} {o : Obj} (e : K.lookup a = some o) : o.cls ≠ .type "list" := fun z => by
  have : (a, o) ∈ K := by
    clear c z
    induction K with
    | nil => cases e
    | cons p K ih =>
      obtain ⟨b, u⟩ := p
      rw [List.lookup_cons] at e
      split at e
      · rename_i hb
        cases e
        rw [show a = b by simpa using hb]
        exact List.mem_cons_self
      · exact List.mem_cons_of_mem _ (ih e)
  have q := List.all_eq_true.mp c (a, o) this
  rw [z] at q
  cases q
/-- the law's promise -/
theorem MI.law (ok : MOk m) (c : m.Says K) {t : FI} (ht : t ∈ m.T) {n : Nat} {ns : List Int} {a : Addr} {H : Hp} (hS : SqL K H a (ns.map V.int)) (hl : ∃ h, callF m.P n t.f [.d (.lst (ns.map .int))] [] = .ok (.d (.bool true)) h) :
    spG (m.sg K) (callF m.P n) t.f [.ref a] H (fun v _ => v = .bl true) fun _ _ _ => False := by
  have rd : Rd H a (.lst (ns.map V.int)) := by
    rcases hS with z | ⟨o, its, k, e1, e2, _⟩
    · exact z
    · have kb := c.kb
      unfold MI.kb at kb
      rw [Bool.and_eq_true] at kb
      exact absurd e2 (noL_ok kb.2 e1)
  obtain ⟨h', e⟩ := hl
  refine ⟨[], upd (fun _ => none) a (.lst (ns.map V.int)), [], [.d (.lst (ns.map .int))], ⟨fun b u q => ?_, rfl, fun i j a h => by simp at h, fun a ha => by simp at ha, fun n a o h => by simp at h⟩, .cons ?_ .nil, ?_⟩
  · by_cases z : b = a
    · subst z; rw [upd_same] at q; cases q; exact rd
    · rw [upd_ne z] at q; cases q
  · refine RepD.lst upd_same ?_
    generalize upd (fun _ => none) a (HO.lst (ns.map V.int)) = Φ
    clear e rd hS
    induction ns with
    | nil => exact .nil
    | cons i ns ih => exact .cons (.int i) ih
  · rw [e]
    exact fun α' Φ' H' x st rl rx => RepV.isBool rx
end
end Ip

namespace Ip
open PySem PySem.Spec PyProof.Rows L2 He
theorem FunD_fd {K : PySem.W.Frag} {x q x' q' : Str} {pa pa' : Arguments} {b b' : List Stmt} {s s' : Scope} {d d' : List V} {k k' : List (Str × V)} {f : Addr} {fd fd' : FuncData} (F : FunD K x q pa b s d k f fd) (F' : FunD K x' q' pa' b' s' d' k' f fd') : fd = fd' := by
  obtain ⟨oc, od, dV, kV, doc, pm, an, cdv, ct, osl, e1, e2, _⟩ := F.ex
  obtain ⟨oc', od', dV', kV', doc', pm', an', cdv', ct', osl', e1', e2', _⟩ := F'.ex
  rw [e2] at e2'
  have := congrArg (fun o : Option Obj => match o with | some ⟨_, _, .func fd, _⟩ => some fd | _ => none) e2'
  exact Option.some.inj this
theorem law_walk {l : PySem.W.OpenLaw} {q : Program} {loose : List Str} {XP : (Str → Option Value) → Heap → Prop} {d : DefRec} {m : MI} {t : FI} {j N n : Nat} {x : Str} (hn : l.most = some N) (hN : N ≤ sizeLine) (hdf : d.params.defaults = []) (hr : Room (n + 2) callerA) (ok : MOk m) (ht : t ∈ m.T) (hd : d.name = t.x) (hps : t.ps = [x])
    (run : ∀ ns : List Int, ns.length ≤ N → ∃ h, callF m.P n t.f [.d (.lst (ns.map .int))] [] = .ok (.d (.bool true)) h) :
    PySem.W.WalkO q loose XP (hookI j m).says l.row.toRowW d [] (fun f vs => PySem.call f vs) := by
  refine LamX.walk_ofTsE (CX := fun w => CX l.prog w) (x := x) hn hN hdf hr (fun w mg fa h Y G hmg => ?_) fun w H s e s' h => ?_
  · obtain ⟨K, KX, c⟩ := Y
    have md := MI.md ok KX G c
    obtain ⟨⟨a, fd, h1, F, _⟩, _, _⟩ := md.tab t ht
    rw [hd, h1] at hmg
    cases hmg
    have bd := F.bindsA (ok.fp t ht).bd
    refine ⟨K, KX, fd, [], spG (m.sg K) (callF m.P n) t.f, by simp, by simp, by simp, fun s u => ?_, fun H a' ns hl _ _ hS => MI.law ok c ht hS (run ns hl), fun base _ _ _ => ?_⟩
    · have := bd s [u] (by rw [hps]; rfl)
      rw [hps] at this
      exact this
    · obtain ⟨a', fd', g1, F', _, q⟩ := fnOk (Pg := l.prog) (w := w) (base := base) md n t ht
      rw [h1] at g1
      cases g1
      cases FunD_fd F F'
      rw [hps] at q
      exact q
  · obtain ⟨_, _, _, _, _, _, _, _, _, _, _, _, z⟩ := h
    exact z
end Ip

/-! a calculus for the codes: what a run ends in -/
namespace Ip
open PySem (Str)
def Wp0 {α : Type} (r : R α) (Q : α → Hm → Prop) (E : D → Hm → Prop) : Prop := match r with
  | .ok a h => Q a h
  | .exc e h => E e h
  | .stuck => False
/-- (a structure, so that nobody unfolds it by chance) -/
structure Wp {α : Type} (r : R α) (Q : α → Hm → Prop) (E : D → Hm → Prop) : Prop where
  out : Wp0 r Q E
abbrev NE : D → Hm → Prop := fun _ _ => False
section
variable {α β : Type} {Q : α → Hm → Prop} {E : D → Hm → Prop}
theorem wpO {a : α} {h : Hm} : Wp (.ok a h) Q E ↔ Q a h := ⟨fun z => z.out, fun z => ⟨z⟩⟩
theorem wpX {e : D} {h : Hm} : Wp (.exc e h : R α) Q E ↔ E e h := ⟨fun z => z.out, fun z => ⟨z⟩⟩
theorem wpS : Wp (.stuck : R α) Q E ↔ False := ⟨fun z => z.out, fun z => ⟨z⟩⟩
theorem wpP {a : α} {h : Hm} : Wp (M.pure a h) Q E ↔ Q a h := wpO
theorem wpK {h : Hm} : Wp (M.stuck h : R α) Q E ↔ False := wpS
theorem wpB {m : M β} {f : β → M α} {h : Hm} : Wp (M.bind m f h) Q E ↔ Wp (m h) (fun a h' => Wp (f a h') Q E) E := by
  unfold M.bind
  cases m h with
  | ok a h' => rw [wpO]
  | exc e h' => simp only [wpX]
  | stuck => simp only [wpS]
theorem Wp.mono {r : R α} {Q' : α → Hm → Prop} {E' : D → Hm → Prop} (w : Wp r Q E) (q : ∀ a h, Q a h → Q' a h) (e : ∀ x h, E x h → E' x h) : Wp r Q' E' := by
  cases r with
  | ok a h => exact ⟨q a h w.out⟩
  | exc x h => exact ⟨e x h w.out⟩
  | stuck => exact ⟨w.out⟩
theorem Wp.to {r : R α} {Q' : α → Hm → Prop} {E' : D → Hm → Prop} (w : Wp r Q NE) (q : ∀ a h, Q a h → Q' a h) : Wp r Q' E' := w.mono q fun _ _ z => z.elim
theorem Wp.ofEq {r : R α} {a : α} {h : Hm} (e : r = .ok a h) (q : Q a h) : Wp r Q E := by rw [e]; exact ⟨q⟩
theorem Wp.eq {r : R α} {a : α} {h : Hm} (w : Wp r (fun b h' => b = a ∧ h' = h) NE) : r = .ok a h := by
  cases r with
  | ok b h' => obtain ⟨⟨rfl, rfl⟩⟩ := w; rfl
  | exc x h => exact w.out.elim
  | stuck => exact w.out.elim
theorem Wp.ex {r : R α} {Q : α → Hm → Prop} (w : Wp r Q NE) : ∃ a h, r = .ok a h ∧ Q a h := by
  cases r with
  | ok b h' => exact ⟨b, h', rfl, w.out⟩
  | exc x h => exact w.out.elim
  | stuck => exact w.out.elim
theorem wpIte {c : Prop} [Decidable c] {r s : R α} : Wp (if c then r else s) Q E ↔ if c then Wp r Q E else Wp s Q E := by
  split <;> rfl
theorem wpNX {m : M α} {h : Hm} : Wp (noX m h) Q E ↔ Wp (m h) Q NE := by
  unfold noX
  cases m h with
  | ok a h' => simp only [wpO]
  | exc e h' => simp only [wpS, wpX]
  | stuck => simp only [wpS]
theorem wpOf {o : Option α} {h : Hm} : Wp (M.ofO o h) Q E ↔ ∃ a, o = some a ∧ Q a h := by
  unfold M.ofO
  cases o with
  | none => simp [wpS]
  | some a => simp [wpO]
theorem wpLen {xs : List β} {Q : Unit → Hm → Prop} {h : Hm} : Wp (chkLen xs h) Q E ↔ xs.length ≤ big ∧ Q () h := by
  unfold chkLen
  split
  · rename_i hz; simp [wpP, hz]
  · rename_i hz; simp [wpK, hz]
end
section
variable {P : Prog} {G : Gc} {n f : Nat} {d : Fn} {vs : List MV} {h : Hm} {Q : MV → Hm → Prop} {E : D → Hm → Prop}
def endF (Q : MV → Hm → Prop) : Flow → Hm → Prop := fun fl h => match fl with
  | .ret v => Q v h
  | .nx _ => Q (.d .none) h
  | _ => False
theorem wpCall (e : P.fn f = some d) (hn : vs.length = d.np) : Wp (callF P (n + 1) f vs h) Q E ↔ Wp (exSs P (callF P n) (startF d.ns vs) d.body h) (endF Q) E := by
  have : callF P (n + 1) f vs h = M.bind (exSs P (callF P n) (startF d.ns vs) d.body) (fun fl => match fl with
      | .ret v => M.pure v
      | .nx _ => M.pure (.d .none)
      | _ => M.stuck) h := by
    show (match P.fn f with | none => M.stuck | some d => if vs.length = d.np then M.bind (exSs P (callF P n) (startF d.ns vs) d.body) (fun fl => match fl with
          | .ret v => M.pure v
          | .nx _ => M.pure (.d .none)
          | _ => M.stuck) else M.stuck) h = _
    rw [e]
    show (if vs.length = d.np then M.bind (exSs P (callF P n) (startF d.ns vs) d.body) (fun fl => match fl with
          | .ret v => M.pure v
          | .nx _ => M.pure (.d .none)
          | _ => M.stuck) else M.stuck) h = _
    rw [if_pos hn]
  rw [this, wpB]
  constructor
  · intro w
    refine w.mono (fun fl h' q => ?_) fun _ _ z => z
    cases fl <;> exact q.out
  · intro w
    refine w.mono (fun fl h' q => ?_) fun _ _ z => z
    cases fl <;> exact ⟨q⟩
theorem wpPc : Wp (pcall G f vs h) Q E ↔ ∃ ds, Ip.grs vs = some ds ∧ Wp (G f (ds.map .d) []) (fun v h' => ∃ x, hard1 h' v = some x ∧ Q (.d x) h) (fun e _ => E e h) := by
  unfold pcall
  cases e : Ip.grs vs with
  | none => simp [wpO, wpS, wpX]
  | some ds =>
    simp only [Option.some.injEq, exists_eq_left']
    cases q : G f (ds.map .d) [] with
    | ok v h' =>
      simp only [wpO]
      cases q2 : hard1 h' v <;> simp [wpO, wpS]
    | exc e h' => simp only [wpX]
    | stuck => simp only [wpS]
theorem wpBc : Wp (bcall G f vs h) Q E ↔ ∃ ds, hards h vs = some ds ∧ Wp (G f (ds.map .d) []) (fun v _ => ∃ x, v = .d x ∧ scal x = true ∧ Q (.d x) h) NE := by
  unfold bcall
  cases e : hards h vs with
  | none => simp [wpO, wpS, wpX]
  | some ds =>
    simp only [Option.some.injEq, exists_eq_left']
    cases q : G f (ds.map .d) [] with
    | ok v h' =>
      cases v with
      | d x =>
        simp only [wpIte]
        by_cases hs : scal x = true
        · simp [hs, wpO, wpS]
        · simp [hs, wpO, wpS]
      | ref n => simp [wpO, wpS, wpX]
    | exc e h' => simp [wpO, wpS, wpX]
    | stuck => simp [wpO, wpS, wpX]
def tryE (P : Prog) (c i : Nat) (x : HE) (ρ : Frame) (Q : Flow → Hm → Prop) (E : D → Hm → Prop) : D → Hm → Prop := fun e h => match e with
  | .obj k fs => (P.exs.contains k ∧ i < ρ.length) ∧ (if k = c then (∃ y, evH P.sub k fs x = some y ∧ Q (.ret (.d y)) h) else P.sub k c = false ∧ E (.obj k fs) h)
  | _ => False
theorem wpTry {c i : Nat} {x : HE} {ρ : Frame} {r : R Flow} {Q : Flow → Hm → Prop} : Wp (tryK P c i x ρ r) Q E ↔ Wp r Q (tryE P c i x ρ Q E) := by
  cases r with
  | ok a h => exact wpO.trans wpO.symm
  | stuck => exact wpS.trans wpS.symm
  | exc e h =>
    rw [wpX]
    cases e with
    | obj k fs =>
      show Wp (if P.exs.contains k ∧ i < ρ.length then (if k = c then (match evH P.sub k fs x with
        | some y => .ok (.ret (.d y)) h
        | none => .stuck) else if P.sub k c then .stuck else .exc (.obj k fs) h) else .stuck) Q E ↔ (P.exs.contains k ∧ i < ρ.length) ∧ (if k = c then (∃ y, evH P.sub k fs x = some y ∧ Q (.ret (.d y)) h) else P.sub k c = false ∧ E (.obj k fs) h)
      by_cases h1 : P.exs.contains k ∧ i < ρ.length
      · rw [if_pos h1]
        by_cases h2 : k = c
        · rw [if_pos h2, if_pos h2]
          cases evH P.sub k fs x with
          | none => simp [wpS, h1]
          | some y => simp only [wpO, Option.some.injEq, exists_eq_left']; exact ⟨fun z => ⟨h1, z⟩, fun z => z.2⟩
        · rw [if_neg h2, if_neg h2]
          cases h3 : P.sub k c with
          | true => simp [wpO, wpS, wpX]
          | false => simp only [Bool.false_eq_true, if_false, wpX, true_and]; exact ⟨fun z => ⟨h1, z⟩, fun z => z.2⟩
      · rw [if_neg h1]; simp only [wpS, false_iff]; exact fun z => h1 z.1
    | _ => exact wpS
end
/-! ### loops -/
theorem wp_mapF {F : MV → M (Option MV)} {xs : List MV} {Q : List MV → Hm → Prop} {E : D → Hm → Prop} (J : Nat → List MV → Hm → Prop) {h : Hm} (h0 : J 0 [] h)
    (hs : ∀ i x acc h, xs[i]? = some x → J i acc h → Wp (F x h) (fun o h' => J (i + 1) (match o with | some y => acc ++ [y] | none => acc) h') E) (hq : ∀ acc h, J xs.length acc h → Q acc h) : Wp (mapF F xs h) Q E := by
  have key : ∀ (ys : List MV) (i : Nat) (acc : List MV) (h : Hm), xs.drop i = ys → i ≤ xs.length → J i acc h → Wp (mapF F ys h) (fun r h' => Q (acc ++ r) h') E := by
    intro ys
    induction ys with
    | nil =>
      intro i acc h e hi j
      have : i = xs.length := by have := congrArg List.length e; simp at this; omega
      subst this
      show Wp (M.pure [] h) _ _
      rw [wpP, List.append_nil]; exact hq acc h j
    | cons y ys ih =>
      intro i acc h e hi j
      have hl : i < xs.length := by have := congrArg List.length e; simp at this; omega
      have e2 : xs[i]? = some y := by
        have : (xs.drop i)[0]? = some y := by rw [e]; rfl
        simpa using this
      show Wp (M.bind (F y) (fun o => M.bind (mapF F ys) fun r => M.pure (match o with | some y => y :: r | none => r)) h) _ E
      rw [wpB]
      refine (hs i y acc h e2 j).mono (fun o h' q => ?_) fun _ _ z => z
      rw [wpB]
      refine (ih (i + 1) _ h' (by rw [← List.drop_drop, e]; rfl) hl q).mono (fun r h2 q2 => ?_) fun _ _ z => z
      rw [wpP]
      cases o with
      | none => exact q2
      | some z => simpa using q2
  have := key xs 0 [] h (by simp) (Nat.zero_le _) h0
  simpa using this
/-- each turn only looks -/
theorem wp_mapFp {F : MV → M (Option MV)} {xs : List MV} {Q : List MV → Hm → Prop} {E : D → Hm → Prop} {h : Hm} (g : MV → Option MV) (hs : ∀ x, x ∈ xs → F x h = .ok (g x) h) (hq : Q (xs.filterMap g) h) : Wp (mapF F xs h) Q E := by
  have : mapF F xs h = .ok (xs.filterMap g) h := by
    clear hq
    induction xs with
    | nil => rfl
    | cons x xs ih =>
      show M.bind (F x) (fun o => M.bind (mapF F xs) fun r => M.pure (match o with | some y => y :: r | none => r)) h = _
      unfold M.bind
      rw [hs x List.mem_cons_self]
      simp only
      rw [ih fun y hy => hs y (List.mem_cons_of_mem _ hy)]
      simp only [M.pure, List.filterMap_cons]
      cases g x <;> rfl
  rw [this]; exact ⟨hq⟩
def loopE (J : Frame → Hm → Prop) (Q : Flow → Hm → Prop) : Flow → Hm → Prop := fun fl h => match fl with
  | .nx ρ => J ρ h
  | .ct ρ => J ρ h
  | .brk ρ => Q (.nx ρ) h
  | .ret v => Q (.ret v) h
theorem wp_loopK {m : M Flow} {h : Hm} {f : Frame → M Flow} {Q : Flow → Hm → Prop} {E : D → Hm → Prop} {J : Frame → Hm → Prop} (w : Wp (m h) (loopE J Q) E) (q : ∀ ρ h, J ρ h → Wp (f ρ h) Q E) : Wp (M.bind m (loopK f) h) Q E := by
  rw [wpB]
  refine w.mono (fun fl h z => ?_) fun _ _ z => z
  cases fl with
  | nx ρ => exact q ρ h z
  | ct ρ => exact q ρ h z
  | brk ρ => exact ⟨z⟩
  | ret v => exact ⟨z⟩
theorem wp_forL {t : Tg} {body : Frame → M Flow} {xs : List MV} {ρ : Frame} {h : Hm} {Q : Flow → Hm → Prop} {E : D → Hm → Prop} (J : Nat → Frame → Hm → Prop) (h0 : J 0 ρ h)
    (hs : ∀ i x ρ h, xs[i]? = some x → J i ρ h → ∃ ρ1, bindT t x ρ = some ρ1 ∧ Wp (body ρ1 h) (loopE (J (i + 1)) Q) E) (hq : ∀ ρ h, J xs.length ρ h → Q (.nx ρ) h) : Wp (forL t body xs ρ h) Q E := by
  have key : ∀ (ys : List MV) (i : Nat) (ρ : Frame) (h : Hm), xs.drop i = ys → i ≤ xs.length → J i ρ h → Wp (forL t body ys ρ h) Q E := by
    intro ys
    induction ys with
    | nil =>
      intro i ρ h e hi j
      have : i = xs.length := by have := congrArg List.length e; simp at this; omega
      subst this
      exact ⟨hq ρ h j⟩
    | cons y ys ih =>
      intro i ρ h e hi j
      have hl : i < xs.length := by have := congrArg List.length e; simp at this; omega
      have e2 : xs[i]? = some y := by
        have : (xs.drop i)[0]? = some y := by rw [e]; rfl
        simpa using this
      obtain ⟨ρ1, eb, w⟩ := hs i y ρ h e2 j
      unfold forL
      rw [eb]
      show Wp (M.bind (body ρ1) (loopK (forL t body ys)) h) Q E
      exact wp_loopK w fun ρ' h' j' => ih (i + 1) ρ' h' (by rw [← List.drop_drop, e]; rfl) hl j'
  exact key xs 0 ρ h (by simp) (Nat.zero_le _) h0
end Ip

/-! what the laws' own helpers do -/
namespace Ip
open PySem (Str)
section
variable {Q : MV → Hm → Prop} {E : D → Hm → Prop} {i j : Int} {h : Hm}
theorem wp_add : Wp (binop .add (.d (.int i)) (.d (.int j)) h) Q E ↔ Q (.d (.int (i + j))) h := wpO
theorem wp_sub : Wp (binop .sub (.d (.int i)) (.d (.int j)) h) Q E ↔ Q (.d (.int (i - j))) h := wpO
theorem wp_mul : Wp (binop .mul (.d (.int i)) (.d (.int j)) h) Q E ↔ mulOk i j = true ∧ Q (.d (.int (i * j))) h := by
  show Wp (M.ofO ((if mulOk i j then some (i * j) else none).map fun k => MV.d (.int k)) h) Q E ↔ _
  split
  · rename_i hz; simp [hz, M.ofO, wpO, wpS]
  · rename_i hz; simp [hz, M.ofO, wpO, wpS]
theorem wp_fdiv : Wp (binop .fdiv (.d (.int i)) (.d (.int j)) h) Q E ↔ (0 < j ∧ j.natAbs.log2 < 9000) ∧ Q (.d (.int (i / j))) h := by
  show Wp (M.ofO ((if 0 < j ∧ j.natAbs.log2 < 9000 then some (i / j) else none).map fun k => MV.d (.int k)) h) Q E ↔ _
  split
  · rename_i hz; simp [hz, M.ofO, wpO, wpS]
  · rename_i hz; simp only [Option.map_none, M.ofO, wpS, false_iff]; exact fun z => hz z.1
theorem wp_mod : Wp (binop .mod (.d (.int i)) (.d (.int j)) h) Q E ↔ 0 < j ∧ Q (.d (.int (i % j))) h := by
  show Wp (M.ofO ((if 0 < j then some (i % j) else none).map fun k => MV.d (.int k)) h) Q E ↔ _
  split
  · rename_i hz; simp [hz, M.ofO, wpO, wpS]
  · rename_i hz; simp [hz, M.ofO, wpO, wpS]
theorem wp_pow : Wp (binop .pow (.d (.int i)) (.d (.int j)) h) Q E ↔ (0 ≤ j ∧ j ≤ 1000 ∧ i.natAbs < 2 ^ 64) ∧ Q (.d (.int (i ^ j.toNat))) h := by
  show Wp (M.ofO ((if 0 ≤ j ∧ j ≤ 1000 ∧ i.natAbs < 2 ^ 64 then some (i ^ j.toNat) else none).map fun k => MV.d (.int k)) h) Q E ↔ _
  split
  · rename_i hz; simp [hz, M.ofO, wpO, wpS]
  · rename_i hz; simp only [Option.map_none, M.ofO, wpS, false_iff]; exact fun z => hz z.1
theorem wp_cmpI {o : Cm} : Wp (cmpop o (.d (.int i)) (.d (.int j)) h) Q E ↔ Q (.d (.bool (ci o i j))) h := wpO
theorem wp_ixd {xs : List D} : Wp (index (.d (.tup xs)) (.d (.int i)) h) Q E ↔ ∃ x, atI xs i = some x ∧ Q (.d x) h := by
  have e : atI (xs.map MV.d) i = (atI xs i).map .d := by
    unfold atI
    rw [List.length_map]
    cases ixN xs.length i with
    | none => rfl
    | some j => simp
  unfold index items
  simp only [e]
  cases atI xs i <;> simp [wpO, wpS]
theorem wp_ixl {xs : List D} : Wp (index (.d (.lst xs)) (.d (.int i)) h) Q E ↔ ∃ x, atI xs i = some x ∧ Q (.d x) h := wp_ixd
theorem wp_ixr {n : Nat} : Wp (index (.ref n) (.d (.int i)) h) Q E ↔ ∃ xs x, h[n]? = some (.lst xs) ∧ atI xs i = some x ∧ Q x h := by
  unfold index items
  cases e : h[n]? with
  | none => simp [e, wpS]
  | some o =>
    cases o with
    | lst xs =>
      simp only [e]
      cases e2 : atI xs i with
      | none => simp only [wpS, false_iff]; rintro ⟨ys, x, h1, h2, _⟩; cases h1; rw [e2] at h2; cases h2
      | some x => simp only [wpO]; exact ⟨fun q => ⟨xs, x, rfl, e2, q⟩, by rintro ⟨ys, y, h1, h2, q⟩; cases h1; rw [e2] at h2; cases h2; exact q⟩
    | _ => simp [e, wpS]
theorem wp_setIx {n : Nat} {x : MV} {Q : Unit → Hm → Prop} : Wp (setIx (.ref n) (.d (.int i)) x h) Q E ↔ ∃ xs j, h[n]? = some (.lst xs) ∧ ixN xs.length i = some j ∧ Q () (h.set n (.lst (xs.set j x))) := by
  unfold setIx
  cases e : h[n]? with
  | none => simp [e, wpS]
  | some o =>
    cases o with
    | lst xs =>
      simp only [e]
      cases e2 : ixN xs.length i with
      | none => simp only [wpS, false_iff]; rintro ⟨ys, x, h1, h2, _⟩; cases h1; rw [e2] at h2; cases h2
      | some x => simp only [wpO]; exact ⟨fun q => ⟨xs, x, rfl, e2, q⟩, by rintro ⟨ys, y, h1, h2, q⟩; cases h1; rw [e2] at h2; cases h2; exact q⟩
    | _ => simp [e, wpS]
end
def c_pool : Fn := ⟨2, 3, [.asg (.tg (.nm 2)) (.int 0),
  .ite (.cmp .lt (.var 1) (.bi .len [.var 0])) [.asg (.tg (.nm 2)) (.bi .abs [.bi .int [.ix (.var 0) (.var 1)]])] [],
  .ite (.cmp .ge (.var 2) (.bin .pow (.int 10) (.int 18))) [.ret (.lstM [.bin .sub (.var 2) (.bin .pow (.int 10) (.int 18)), .int 0, .bin .mod (.bi .int [.var 2]) (.int 999999937)])] [],
  .ret (.lstM [.int 0, .int 0, .bin .mod (.bi .int [.var 2]) (.int 999999937)])]⟩
def c_draw : Fn := ⟨2, 6, [.asg (.ix (.var 0) (.int 1)) (.bin .add (.ix (.var 0) (.int 1)) (.int 1)),
  .ite (.cmp .gt (.ix (.var 0) (.int 0)) (.int 0)) [.asg (.tg (.nm 2)) (.bin .mod (.bi .int [.ix (.var 0) (.int 0)]) (.var 1)),
  .asg (.ix (.var 0) (.int 0)) (.bin .fdiv (.ix (.var 0) (.int 0)) (.var 1)),
  .ret (.var 2)] [],
  .asg (.tg (.nm 3)) (.bin .mod (.bi .int [.bin .add (.bin .add (.bin .mul (.ix (.var 0) (.int 2)) (.int 7919)) (.bin .mul (.ix (.var 0) (.int 1)) (.int 104729))) (.int 12345)]) (.int 1000003)),
  .asg (.tg (.nm 4)) (.bin .mod (.bi .int [.bin .add (.bin .add (.bin .add (.bin .mul (.var 3) (.var 3)) (.bin .mul (.ix (.var 0) (.int 1)) (.int 31))) (.bin .fdiv (.ix (.var 0) (.int 2)) (.int 1000))) (.int 7)]) (.int 998244353)),
  .asg (.tg (.nm 5)) (.bin .mod (.bi .int [.bin .add (.bin .add (.bin .mul (.var 4) (.int 48271)) (.bin .fdiv (.var 4) (.int 1009))) (.bin .mul (.ix (.var 0) (.int 1)) (.ix (.var 0) (.int 1)))]) (.int 2147483647)),
  .ret (.bin .mod (.bi .int [.bin .fdiv (.var 5) (.int 7)]) (.var 1))]⟩
/-- a pool: what is left of its number, how often it was asked, its seed -/
structure Pool (p : Nat) (h : Hm) : Prop where
  at_ : ∃ a k c : Int, h[p]? = some (.lst [.d (.int a), .d (.int k), .d (.int c)]) ∧ 0 ≤ k ∧ k < 2 ^ 60 ∧ 0 ≤ c ∧ c < 2 ^ 30
def PoolK (p : Nat) (n : Nat) (h : Hm) : Prop := ∃ a k c : Int, h[p]? = some (.lst [.d (.int a), .d (.int k), .d (.int c)]) ∧ 0 ≤ k ∧ k ≤ (n : Int) ∧ 0 ≤ c ∧ c < 2 ^ 30
theorem mulOk_l {i j : Int} (h : i.natAbs < 2 ^ 64) : mulOk i j = true := by unfold mulOk; simp [h]
theorem mulOk_r {i j : Int} (h : j.natAbs < 2 ^ 64) : mulOk i j = true := by unfold mulOk; simp [h]
theorem set_at {h : Hm} {p : Nat} {o : MO} (e : h[p]? = some o) (x : MO) : (h.set p x)[p]? = some x := by
  rw [List.getElem?_set_self (List.getElem?_eq_some_iff.mp e).1]
theorem wp_draw {P : Prog} {f n : Nat} (e : P.fn f = some c_draw) {p c : Nat} {many : Int} {h : Hm} (hp : PoolK p c h) (hc : c < 2 ^ 60) (hm : 0 < many) (hm2 : many.natAbs.log2 < 9000) :
    Wp (callF P (n + 1) f [.ref p, .d (.int many)] h) (fun v h' => ∃ r : Int, v = .d (.int r) ∧ 0 ≤ r ∧ r < many ∧ PoolK p (c + 1) h' ∧ ∃ x, h' = h.set p x) NE := by
  obtain ⟨a, k, c', e1, k0, k1, c0, c1⟩ := hp
  rw [wpCall e rfl]
  simp [c_draw, exS, exSs, evE, evEs, evO, evCs, evI, evAnd, evOr, asgL, bindT, bindTs, startF, wpB, wpP, wpO, wpX, wpS, wpK, wpIte, wpOf, wp_add, wp_sub, wp_mul, wp_fdiv, wp_mod, wp_pow, wp_cmpI, wp_ixd, wp_ixr, wp_setIx, flowK, endF, loopE, truthM, truth, biF, items, Ip.isNone, ditems, dits, List.length_cons, List.length_nil, List.map_cons, List.map_nil, List.replicate, List.getElem?_cons_zero, List.getElem?_cons_succ, List.nil_append, List.cons_append, List.set_cons_zero, List.set_cons_succ, if_true, Nat.sub_self, e1, set_at e1, atI, ixN]
  by_cases ha : 0 < a
  · simp [ha, ci, exS, exSs, evE, evEs, evO, evCs, evI, evAnd, evOr, asgL, bindT, bindTs, startF, wpB, wpP, wpO, wpX, wpS, wpK, wpIte, wpOf, wp_add, wp_sub, wp_mul, wp_fdiv, wp_mod, wp_pow, wp_cmpI, wp_ixd, wp_ixr, wp_setIx, flowK, endF, loopE, truthM, truth, biF, items, Ip.isNone, ditems, dits, List.length_cons, List.length_nil, List.map_cons, List.map_nil, List.replicate, List.getElem?_cons_zero, List.getElem?_cons_succ, List.nil_append, List.cons_append, List.set_cons_zero, List.set_cons_succ, if_true, Nat.sub_self, e1, set_at e1, atI, ixN]
    refine ⟨hm, ⟨hm, hm2⟩, Int.emod_nonneg _ (by omega), Int.emod_lt_of_pos _ hm, ⟨_, _, _, set_at e1 _, by omega, by omega, c0, c1⟩, _, rfl⟩
  · simp [ha, ci, exS, exSs, evE, evEs, evO, evCs, evI, evAnd, evOr, asgL, bindT, bindTs, startF, wpB, wpP, wpO, wpX, wpS, wpK, wpIte, wpOf, wp_add, wp_sub, wp_mul, wp_fdiv, wp_mod, wp_pow, wp_cmpI, wp_ixd, wp_ixr, wp_setIx, flowK, endF, loopE, truthM, truth, biF, items, Ip.isNone, ditems, dits, List.length_cons, List.length_nil, List.map_cons, List.map_nil, List.replicate, List.getElem?_cons_zero, List.getElem?_cons_succ, List.nil_append, List.cons_append, List.set_cons_zero, List.set_cons_succ, if_true, Nat.sub_self, e1, set_at e1, atI, ixN]
    refine ⟨mulOk_r (by decide), mulOk_r (by decide), mulOk_l (by omega), mulOk_r (by decide), by decide +kernel, mulOk_r (by decide), by decide +kernel, mulOk_l (by omega), by decide +kernel, hm, Int.emod_nonneg _ (by omega), Int.emod_lt_of_pos _ hm, ⟨_, _, _, set_at e1 _, by omega, by omega, c0, c1⟩, _, rfl⟩
theorem poolK_new {h : Hm} {a c : Int} (h0 : 0 ≤ c) (h1 : c < 2 ^ 30) : PoolK h.length 0 (h ++ [.lst [.d (.int a), .d (.int 0), .d (.int c)]]) := ⟨a, 0, c, by simp, by omega, by omega, h0, h1⟩
theorem wp_pool {P : Prog} {f n : Nat} (e : P.fn f = some c_pool) {ns : List Int} {h : Hm} :
    Wp (callF P (n + 1) f [.d (.lst (ns.map .int)), .d (.int 0)] h) (fun v h' => ∃ o, v = .ref h.length ∧ h' = h ++ [o] ∧ PoolK h.length 0 h') NE := by
  rw [wpCall e rfl]
  cases ns with
  | nil =>
    simp [c_pool, ci, exS, exSs, evE, evEs, evO, evCs, evI, evAnd, evOr, asgL, bindT, bindTs, startF, wpB, wpP, wpO, wpX, wpS, wpK, wpIte, wpOf, wp_add, wp_sub, wp_mul, wp_fdiv, wp_mod, wp_pow, wp_cmpI, wp_ixd, wp_ixr, wp_setIx, flowK, endF, loopE, truthM, truth, biF, items, Ip.isNone, ditems, dits, List.length_cons, List.length_nil, List.map_cons, List.map_nil, List.replicate, List.getElem?_cons_zero, List.getElem?_cons_succ, List.nil_append, List.cons_append, List.set_cons_zero, List.set_cons_succ, if_true, Nat.sub_self, asLstM, big, alloc]
    exact poolK_new (by omega) (by omega)
  | cons i ns =>
    have h1 : (0 : Int) < (ns.length : Int) + 1 := by omega
    have ea : atI (D.int i :: ns.map D.int) 0 = some (.int i) := by unfold atI ixN; simp [h1]
    by_cases hi : i < 0
    · by_cases hz : (1000000000000000000 : Int) ≤ -i
      · simp [c_pool, ci, exS, exSs, evE, evEs, evO, evCs, evI, evAnd, evOr, asgL, bindT, bindTs, startF, wpB, wpP, wpO, wpX, wpS, wpK, wpIte, wpOf, wp_add, wp_sub, wp_mul, wp_fdiv, wp_mod, wp_pow, wp_cmpI, wp_ixd, wp_ixr, wp_setIx, flowK, endF, loopE, truthM, truth, biF, items, Ip.isNone, ditems, dits, List.length_cons, List.length_nil, List.map_cons, List.map_nil, List.replicate, List.getElem?_cons_zero, List.getElem?_cons_succ, List.nil_append, List.cons_append, List.set_cons_zero, List.set_cons_succ, if_true, Nat.sub_self, h1, wp_ixl, ea, hi, hz, asLstM, big, alloc]
        exact poolK_new (by omega) (by omega)
      · simp [c_pool, ci, exS, exSs, evE, evEs, evO, evCs, evI, evAnd, evOr, asgL, bindT, bindTs, startF, wpB, wpP, wpO, wpX, wpS, wpK, wpIte, wpOf, wp_add, wp_sub, wp_mul, wp_fdiv, wp_mod, wp_pow, wp_cmpI, wp_ixd, wp_ixr, wp_setIx, flowK, endF, loopE, truthM, truth, biF, items, Ip.isNone, ditems, dits, List.length_cons, List.length_nil, List.map_cons, List.map_nil, List.replicate, List.getElem?_cons_zero, List.getElem?_cons_succ, List.nil_append, List.cons_append, List.set_cons_zero, List.set_cons_succ, if_true, Nat.sub_self, h1, wp_ixl, ea, hi, hz, asLstM, big, alloc]
        exact poolK_new (by omega) (by omega)
    · by_cases hz : (1000000000000000000 : Int) ≤ i
      · simp [c_pool, ci, exS, exSs, evE, evEs, evO, evCs, evI, evAnd, evOr, asgL, bindT, bindTs, startF, wpB, wpP, wpO, wpX, wpS, wpK, wpIte, wpOf, wp_add, wp_sub, wp_mul, wp_fdiv, wp_mod, wp_pow, wp_cmpI, wp_ixd, wp_ixr, wp_setIx, flowK, endF, loopE, truthM, truth, biF, items, Ip.isNone, ditems, dits, List.length_cons, List.length_nil, List.map_cons, List.map_nil, List.replicate, List.getElem?_cons_zero, List.getElem?_cons_succ, List.nil_append, List.cons_append, List.set_cons_zero, List.set_cons_succ, if_true, Nat.sub_self, h1, wp_ixl, ea, hi, hz, asLstM, big, alloc]
        exact poolK_new (by omega) (by omega)
      · simp [c_pool, ci, exS, exSs, evE, evEs, evO, evCs, evI, evAnd, evOr, asgL, bindT, bindTs, startF, wpB, wpP, wpO, wpX, wpS, wpK, wpIte, wpOf, wp_add, wp_sub, wp_mul, wp_fdiv, wp_mod, wp_pow, wp_cmpI, wp_ixd, wp_ixr, wp_setIx, flowK, endF, loopE, truthM, truth, biF, items, Ip.isNone, ditems, dits, List.length_cons, List.length_nil, List.map_cons, List.map_nil, List.replicate, List.getElem?_cons_zero, List.getElem?_cons_succ, List.nil_append, List.cons_append, List.set_cons_zero, List.set_cons_succ, if_true, Nat.sub_self, h1, wp_ixl, ea, hi, hz, asLstM, big, alloc]
        exact poolK_new (by omega) (by omega)
end Ip

namespace Ip
open PySem (Str)
/-! ### _law_same -/
def c_same (s : Nat) : Fn := ⟨2, 3, [.ite (.isN (.var 1)) [.ret (.isN (.var 0))] [],
  .ite (.bi .isBool [.var 1]) [.ret (.and [.bi .isBool [.var 0], .cmp .eq (.var 0) (.var 1)])] [],
  .ite (.bi .isInt [.var 1]) [.ret (.and [.bi .isInt [.var 0], .not (.bi .isBool [.var 0]), .cmp .eq (.var 0) (.var 1)])] [],
  .ite (.bi .isStr [.var 1]) [.ret (.and [.bi .isStr [.var 0], .cmp .eq (.var 0) (.var 1)])] [],
  .ite (.bi .isTup [.var 1]) [.ite (.or [.not (.bi .isTup [.var 0]), .cmp .ne (.bi .len [.var 0]) (.bi .len [.var 1])]) [.ret (.bool false)] []] [.ite (.or [.not (.bi .isList [.var 0]), .cmp .ne (.bi .len [.var 0]) (.bi .len [.var 1])]) [.ret (.bool false)] []],
  .for_ (.nm 2) (.rng1 (.bi .len [.var 1])) [.ite (.not (.call s [.ix (.var 0) (.var 2), .ix (.var 1) (.var 2)])) [.ret (.bool false)] []],
  .ret (.bool true)]⟩
mutual
/-- data that _law_same compares, to a depth -/
def okD : Nat → D → Bool
  | _, .none => true
  | _, .bool _ => true
  | _, .int _ => true
  | _, .str x => x.cps.all (· < 0x110000)
  | n + 1, .tup xs => decide (xs.length ≤ big) && okDs n xs
  | n + 1, .lst xs => decide (xs.length ≤ big) && okDs n xs
  | _, _ => false
def okDs : Nat → List D → Bool
  | _, [] => true
  | n, x :: xs => okD n x && okDs n xs
end
theorem okDs_at : ∀ {n : Nat} {xs : List D} {i : Nat} {x : D}, okDs n xs = true → xs[i]? = some x → okD n x = true
  | n, [], i, x, h, e => by simp at e
  | n, y :: ys, 0, x, h, e => by
    simp only [okDs, Bool.and_eq_true] at h
    cases e; exact h.1
  | n, y :: ys, i + 1, x, h, e => by
    simp only [okDs, Bool.and_eq_true] at h
    exact okDs_at h.2 e
theorem atI_nat {α : Type} {xs : List α} {i : Nat} {x : α} (e : xs[i]? = some x) : atI xs (i : Int) = some x := by
  have hl := (List.getElem?_eq_some_iff.mp e).1
  unfold atI ixN
  have : (i : Int) < xs.length := by omega
  simp [this, e]
theorem same_loop {P : Prog} {n s : Nat} {h : Hm} {xs : List D} {v : MV} (hv : v = .d (.tup xs) ∨ v = .d (.lst xs)) (hl : xs.length ≤ big) (ih : ∀ (i : Nat) (x : D), xs[i]? = some x → callF P n s [.d x, .d x] [] = .ok (.d (.bool true)) []) :
    Wp (exSs P (callF P n) [some v, some v, none] [.for_ (.nm 2) (.rng1 (.bi .len [.var 1])) [.ite (.not (.call s [.ix (.var 0) (.var 2), .ix (.var 1) (.var 2)])) [.ret (.bool false)] []], .ret (.bool true)] h) (endF fun b h' => b = .d (.bool true) ∧ h' = h) NE := by
  have hi : items h v = some (xs.map .d) := by rcases hv with rfl | rfl <;> rfl
  have hi2 : ∀ (i : Nat) (x : D) {Q : MV → Hm → Prop}, xs[i]? = some x → (Wp (index v (.d (.int (i : Int))) h) Q NE ↔ Q (.d x) h) := fun i x Q e => by
    rcases hv with rfl | rfl
    · rw [wp_ixd]; simp [atI_nat e]
    · rw [wp_ixl]; simp [atI_nat e]
  have hs : small62 (xs.length : Int) = true := by unfold big at hl; unfold small62; simp; omega
  simp only [exSs, exS, evI, evE, evEs, wpB, wpP, wpO, biF, List.getElem?_cons_zero, List.getElem?_cons_succ, hi, List.length_map, hs, if_true]
  refine wp_forL (fun i ρ h' => h' = h ∧ ∃ w, ρ = [some v, some v, w]) ⟨rfl, _, rfl⟩ ?_ ?_
  · rintro i x ρ h' hx ⟨rfl, w, rfl⟩
    have hlt : i < xs.length := by
      have := (List.getElem?_eq_some_iff.mp hx).1
      simpa [rng] using this
    have ex : x = .d (.int (i : Int)) := by
      have := hx
      simp [rng, hlt] at this
      exact this.symm
    subst ex
    have ei : xs[i]? = some xs[i] := List.getElem?_eq_getElem hlt
    refine ⟨_, rfl, ?_⟩
    simp [exS, exSs, evE, evEs, evO, evCs, evI, evAnd, evOr, asgL, bindT, bindTs, startF, wpB, wpP, wpO, wpX, wpS, wpK, wpIte, wpOf, wp_add, wp_sub, wp_mul, wp_fdiv, wp_mod, wp_pow, wp_cmpI, wp_ixd, wp_ixr, wp_setIx, flowK, endF, loopE, truthM, truth, biF, items, Ip.isNone, ditems, dits, List.length_cons, List.length_nil, List.map_cons, List.map_nil, List.replicate, List.getElem?_cons_zero, List.getElem?_cons_succ, List.nil_append, List.cons_append, List.set_cons_zero, List.set_cons_succ, if_true, Nat.sub_self, hi2 i _ ei, wpPc, Ip.grs, ih i _ ei, hard1]
  · rintro ρ h' ⟨rfl, w, rfl⟩
    simp [exS, exSs, evE, evEs, evO, evCs, evI, evAnd, evOr, asgL, bindT, bindTs, startF, wpB, wpP, wpO, wpX, wpS, wpK, wpIte, wpOf, wp_add, wp_sub, wp_mul, wp_fdiv, wp_mod, wp_pow, wp_cmpI, wp_ixd, wp_ixr, wp_setIx, flowK, endF, loopE, truthM, truth, biF, items, Ip.isNone, ditems, dits, List.length_cons, List.length_nil, List.map_cons, List.map_nil, List.replicate, List.getElem?_cons_zero, List.getElem?_cons_succ, List.nil_append, List.cons_append, List.set_cons_zero, List.set_cons_succ, if_true, Nat.sub_self]
theorem same_refl {P : Prog} {s : Nat} (e : P.fn s = some (c_same s)) : ∀ (k n : Nat) (x : D) (h : Hm), okD k x = true → k < n → callF P n s [.d x, .d x] h = .ok (.d (.bool true)) h
  | k, 0, x, h, ho, hn => by omega
  | k, n + 1, x, h, ho, hn => by
    refine Wp.eq ?_
    rw [wpCall e rfl]
    cases x with
    | none => simp [c_same, exS, exSs, evE, evEs, evO, evCs, evI, evAnd, evOr, asgL, bindT, bindTs, startF, wpB, wpP, wpO, wpX, wpS, wpK, wpIte, wpOf, wp_add, wp_sub, wp_mul, wp_fdiv, wp_mod, wp_pow, wp_cmpI, wp_ixd, wp_ixr, wp_setIx, flowK, endF, loopE, truthM, truth, biF, items, Ip.isNone, ditems, dits, List.length_cons, List.length_nil, List.map_cons, List.map_nil, List.replicate, List.getElem?_cons_zero, List.getElem?_cons_succ, List.nil_append, List.cons_append, List.set_cons_zero, List.set_cons_succ, if_true, Nat.sub_self]
    | bool b => simp [c_same, exS, exSs, evE, evEs, evO, evCs, evI, evAnd, evOr, asgL, bindT, bindTs, startF, wpB, wpP, wpO, wpX, wpS, wpK, wpIte, wpOf, wp_add, wp_sub, wp_mul, wp_fdiv, wp_mod, wp_pow, wp_cmpI, wp_ixd, wp_ixr, wp_setIx, flowK, endF, loopE, truthM, truth, biF, items, Ip.isNone, ditems, dits, List.length_cons, List.length_nil, List.map_cons, List.map_nil, List.replicate, List.getElem?_cons_zero, List.getElem?_cons_succ, List.nil_append, List.cons_append, List.set_cons_zero, List.set_cons_succ, if_true, Nat.sub_self, cmpop, hdat, hard1, cmpD]
    | int i => simp [c_same, exS, exSs, evE, evEs, evO, evCs, evI, evAnd, evOr, asgL, bindT, bindTs, startF, wpB, wpP, wpO, wpX, wpS, wpK, wpIte, wpOf, wp_add, wp_sub, wp_mul, wp_fdiv, wp_mod, wp_pow, wp_cmpI, wp_ixd, wp_ixr, wp_setIx, flowK, endF, loopE, truthM, truth, biF, items, Ip.isNone, ditems, dits, List.length_cons, List.length_nil, List.map_cons, List.map_nil, List.replicate, List.getElem?_cons_zero, List.getElem?_cons_succ, List.nil_append, List.cons_append, List.set_cons_zero, List.set_cons_succ, if_true, Nat.sub_self, cmpop, hdat, hard1, cmpD, ci]
    | str x =>
      have hp : pl (.str x) 60 = true := by simpa [okD, pl] using ho
      simp [c_same, exS, exSs, evE, evEs, evO, evCs, evI, evAnd, evOr, asgL, bindT, bindTs, startF, wpB, wpP, wpO, wpX, wpS, wpK, wpIte, wpOf, wp_add, wp_sub, wp_mul, wp_fdiv, wp_mod, wp_pow, wp_cmpI, wp_ixd, wp_ixr, wp_setIx, flowK, endF, loopE, truthM, truth, biF, items, Ip.isNone, ditems, dits, List.length_cons, List.length_nil, List.map_cons, List.map_nil, List.replicate, List.getElem?_cons_zero, List.getElem?_cons_succ, List.nil_append, List.cons_append, List.set_cons_zero, List.set_cons_succ, if_true, Nat.sub_self, cmpop, hdat, hard1, cmpD, hp, deq]
    | tup xs =>
      cases k with
      | zero => simp [okD] at ho
      | succ k =>
        simp only [okD, Bool.and_eq_true, decide_eq_true_eq] at ho
        obtain ⟨ho1, ho2⟩ := ho
        have ih : ∀ (i : Nat) (x : D), xs[i]? = some x → callF P n s [.d x, .d x] [] = .ok (.d (.bool true)) [] := fun i x ei => same_refl e k n x [] (okDs_at ho2 ei) (by omega)
        have q := @same_loop P n s h xs (.d (.tup xs)) (.inl rfl) ho1 ih
        simp only [exSs] at q
        simp [c_same, exS, exSs, evE, evEs, evO, evCs, evI, evAnd, evOr, asgL, bindT, bindTs, startF, wpB, wpP, wpO, wpX, wpS, wpK, wpIte, wpOf, wp_add, wp_sub, wp_mul, wp_fdiv, wp_mod, wp_pow, wp_cmpI, wp_ixd, wp_ixr, wp_setIx, flowK, endF, loopE, truthM, truth, biF, items, Ip.isNone, ditems, dits, List.length_cons, List.length_nil, List.map_cons, List.map_nil, List.replicate, List.getElem?_cons_zero, List.getElem?_cons_succ, List.nil_append, List.cons_append, List.set_cons_zero, List.set_cons_succ, if_true, Nat.sub_self, ci] at q ⊢
        exact q
    | lst xs =>
      cases k with
      | zero => simp [okD] at ho
      | succ k =>
        simp only [okD, Bool.and_eq_true, decide_eq_true_eq] at ho
        obtain ⟨ho1, ho2⟩ := ho
        have ih : ∀ (i : Nat) (x : D), xs[i]? = some x → callF P n s [.d x, .d x] [] = .ok (.d (.bool true)) [] := fun i x ei => same_refl e k n x [] (okDs_at ho2 ei) (by omega)
        have q := @same_loop P n s h xs (.d (.lst xs)) (.inr rfl) ho1 ih
        simp only [exSs] at q
        simp [c_same, exS, exSs, evE, evEs, evO, evCs, evI, evAnd, evOr, asgL, bindT, bindTs, startF, wpB, wpP, wpO, wpX, wpS, wpK, wpIte, wpOf, wp_add, wp_sub, wp_mul, wp_fdiv, wp_mod, wp_pow, wp_cmpI, wp_ixd, wp_ixr, wp_setIx, flowK, endF, loopE, truthM, truth, biF, items, Ip.isNone, ditems, dits, List.length_cons, List.length_nil, List.map_cons, List.map_nil, List.replicate, List.getElem?_cons_zero, List.getElem?_cons_succ, List.nil_append, List.cons_append, List.set_cons_zero, List.set_cons_succ, if_true, Nat.sub_self, ci] at q ⊢
        exact q
    | dict _ => simp [okD] at ho
    | obj _ _ => simp [okD] at ho
end Ip

/-! comprehensions, displays, tuples of ints -/
namespace Ip
open PySem (Str)
theorem grs_map : ∀ ds : List D, Ip.grs (ds.map .d) = some ds
  | [] => rfl
  | x :: xs => by simp only [List.map_cons, Ip.grs, grs_map xs, Option.map_some]
theorem intsOf_map (xs : List Int) : intsOf ((xs.map D.int).map MV.d) = some xs := by
  induction xs with
  | nil => rfl
  | cons x xs ih => simp only [List.map_cons, intsOf, ih]; rfl
theorem intsOf_map' (xs : List Int) : intsOf (xs.map (MV.d ∘ D.int)) = some xs := by rw [← List.map_map]; exact intsOf_map xs
section
variable {Q : MV → Hm → Prop} {E : D → Hm → Prop} {i j : Int} {h : Hm}
theorem wp_bind_lc {F : MV → M (Option MV)} {xs : List MV} (g : MV → Option D) (hs : ∀ x, x ∈ xs → F x h = .ok ((g x).map .d) h) (hl : xs.length ≤ big) (q : Q (.d (.lst (xs.filterMap g))) h) :
    Wp (mapF F xs h) (fun a h' => Wp (asLst a h') Q E) NE := by
  refine wp_mapFp (fun x => (g x).map .d) hs ?_
  have e : xs.filterMap (fun x => (g x).map MV.d) = (xs.filterMap g).map .d := by
    clear hs hl q
    induction xs with
    | nil => rfl
    | cons x xs ih => simp only [List.filterMap_cons]; cases g x <;> simp [ih]
  have hl2 : (xs.filterMap g).length ≤ big := Nat.le_trans (List.length_filterMap_le _ _) hl
  rw [e]
  unfold asLst
  rw [grs_map]
  simp only [hl2, if_true]
  exact wpP.mpr q
theorem wp_bind_lcM {F : MV → M (Option MV)} {xs : List MV} (g : MV → Option D) (hs : ∀ x, x ∈ xs → F x h = .ok ((g x).map .d) h) (hl : xs.length ≤ big) (q : Q (.ref h.length) (h ++ [.lst ((xs.filterMap g).map .d)])) :
    Wp (mapF F xs h) (fun a h' => Wp (asLstM a h') Q E) NE := by
  refine wp_mapFp (fun x => (g x).map .d) hs ?_
  have e : xs.filterMap (fun x => (g x).map MV.d) = (xs.filterMap g).map .d := by
    clear hs hl q
    induction xs with
    | nil => rfl
    | cons x xs ih => simp only [List.filterMap_cons]; cases g x <;> simp [ih]
  have hl2 : (xs.filterMap g).length ≤ big := Nat.le_trans (List.length_filterMap_le _ _) hl
  rw [e]
  unfold asLstM
  simp only [List.length_map, hl2, if_true, alloc]
  exact wpO.mpr q
theorem wp_addT {a b : List D} : Wp (binop .add (.d (.tup a)) (.d (.tup b)) h) Q E ↔ a.length + b.length ≤ big ∧ Q (.d (.tup (a ++ b))) h := by
  unfold binop
  by_cases hz : a.length + b.length ≤ big
  · simp [hz, wpP]
  · simp [hz, wpK]
theorem wp_asTup {vs : List MV} : Wp (asTup vs h) Q E ↔ ∃ ds, Ip.grs vs = some ds ∧ ds.length ≤ big ∧ Q (.d (.tup ds)) h := by
  unfold asTup
  cases e : Ip.grs vs with
  | none => simp [wpK]
  | some ds =>
    by_cases hz : ds.length ≤ big
    · simp [hz, wpP]
    · simp [hz, wpK]
theorem wp_asLst {vs : List MV} : Wp (asLst vs h) Q E ↔ ∃ ds, Ip.grs vs = some ds ∧ ds.length ≤ big ∧ Q (.d (.lst ds)) h := by
  unfold asLst
  cases e : Ip.grs vs with
  | none => simp [wpK]
  | some ds =>
    by_cases hz : ds.length ≤ big
    · simp [hz, wpP]
    · simp [hz, wpK]
theorem wp_tupl {ds : List D} : Wp (biF .tuple [.d (.lst ds)] h) Q E ↔ Q (.d (.tup ds)) h := by
  have : biF .tuple [.d (.lst ds)] h = .ok (.d (.tup ds)) h := by
    unfold biF
    simp only [litems, Option.bind_some, grs_map]
  rw [this, wpO]
theorem wp_sumt {xs : List Int} : Wp (biF .sum [.d (.tup (xs.map .int))] h) Q E ↔ Q (.d (.int xs.sum)) h := by
  have : biF .sum [.d (.tup (xs.map .int))] h = .ok (.d (.int xs.sum)) h := by
    unfold biF
    simp only [items, Option.bind_some, intsOf_map]
  rw [this, wpO]
theorem wp_lent {ds : List D} : Wp (biF .len [.d (.tup ds)] h) Q E ↔ Q (.d (.int ds.length)) h := by
  have : biF .len [.d (.tup ds)] h = .ok (.d (.int ds.length)) h := by
    unfold biF; simp only [items, List.length_map]
  rw [this, wpO]
theorem wp_lenl {ds : List D} : Wp (biF .len [.d (.lst ds)] h) Q E ↔ Q (.d (.int ds.length)) h := by
  have : biF .len [.d (.lst ds)] h = .ok (.d (.int ds.length)) h := by
    unfold biF; simp only [items, List.length_map]
  rw [this, wpO]
end
section
variable {Q : MV → Hm → Prop} {E : D → Hm → Prop} {i j : Int} {h : Hm} {x : D}
theorem wp_lenr {n : Nat} : Wp (biF .len [.ref n] h) Q E ↔ ∃ xs, h[n]? = some (.lst xs) ∧ Q (.d (.int xs.length)) h := by
  unfold biF items
  cases e : h[n]? with
  | none => simp [e, wpS]
  | some o => cases o <;> simp [e, wpO, wpS]
theorem wp_min2 : Wp (biF .min2 [.d (.int i), .d (.int j)] h) Q E ↔ Q (.d (.int (min i j))) h := by
  have : biF .min2 [.d (.int i), .d (.int j)] h = .ok (.d (.int (min i j))) h := by
    show R.ok (MV.d (.int (if j < i then j else i))) h = _
    congr 3; omega
  rw [this, wpO]
theorem wp_max2 : Wp (biF .max2 [.d (.int i), .d (.int j)] h) Q E ↔ Q (.d (.int (max i j))) h := by
  have : biF .max2 [.d (.int i), .d (.int j)] h = .ok (.d (.int (max i j))) h := by
    show R.ok (MV.d (.int (if i < j then j else i))) h = _
    congr 3; omega
  rw [this, wpO]
theorem wp_abs : Wp (biF .abs [.d (.int i)] h) Q E ↔ Q (.d (.int (if i < 0 then -i else i))) h := wpO
theorem wp_int : Wp (biF .int [.d (.int i)] h) Q E ↔ Q (.d (.int i)) h := wpO
def isB : D → Bool | .bool _ => true | _ => false
def isI : D → Bool | .bool _ => true | .int _ => true | _ => false
def isS : D → Bool | .str _ => true | _ => false
def isT : D → Bool | .tup _ => true | _ => false
def isL : D → Bool | .lst _ => true | _ => false
theorem wp_isB : Wp (biF .isBool [.d x] h) Q E ↔ Q (.d (.bool (isB x))) h := by cases x <;> exact wpO
theorem wp_isI : Wp (biF .isInt [.d x] h) Q E ↔ Q (.d (.bool (isI x))) h := by cases x <;> exact wpO
theorem wp_isS : Wp (biF .isStr [.d x] h) Q E ↔ Q (.d (.bool (isS x))) h := by cases x <;> exact wpO
theorem wp_isT : Wp (biF .isTup [.d x] h) Q E ↔ Q (.d (.bool (isT x))) h := by cases x <;> exact wpO
theorem wp_isL : Wp (biF .isList [.d x] h) Q E ↔ Q (.d (.bool (isL x))) h := by cases x <;> exact wpO
end
theorem atI_int {xs : List Int} {i : Nat} (h : i < xs.length) : atI (xs.map D.int) (i : Int) = some (.int (xs.getD i 0)) := atI_nat (by rw [List.getElem?_map, List.getElem?_eq_getElem h]; simp [List.getD, h])
/-- a function of the place -/
def gI (f : Nat → Option D) : MV → Option D
  | .d (.int i) => f i.toNat
  | _ => none
theorem fm_rng (f : Nat → Option D) (m : Nat) : (rng 0 m).filterMap (gI f) = (List.range m).filterMap f := by
  unfold rng
  rw [List.filterMap_map]
  congr 1
  funext k
  simp [gI]
theorem fm_rngD (f : Nat → Option D) (m : Nat) : ((rngD 0 m).map MV.d).filterMap (gI f) = (List.range m).filterMap f := by
  unfold rngD
  rw [List.map_map, List.filterMap_map]
  congr 1
  funext k
  simp [gI]
theorem fm_some {α β : Type} (f : α → β) (l : List α) : l.filterMap (fun x => some (f x)) = l.map f := by
  induction l with
  | nil => rfl
  | cons x xs ih => simp [ih]
theorem range_zip (op : Int → Int → Int) {xs ys : List Int} {m : Nat} (h1 : xs.length = m) (h2 : ys.length = m) : (List.range m).map (fun i => D.int (op (xs.getD i 0) (ys.getD i 0))) = (List.zipWith op xs ys).map .int := by
  apply List.ext_getElem
  · simp [h1, h2]
  · intro i a b
    simp at a
    simp [List.getD, h1, h2, a]
theorem mem_rng {x : MV} {m : Nat} (h : x ∈ rng 0 m) : ∃ i : Nat, i < m ∧ x = .d (.int (i : Int)) := by
  unfold rng at h
  obtain ⟨k, hk, rfl⟩ := List.mem_map.mp h
  exact ⟨k, by simpa using hk, by simp⟩
theorem mem_rngD {x : MV} {m : Nat} (h : x ∈ (rngD 0 m).map MV.d) : ∃ i : Nat, i < m ∧ x = .d (.int (i : Int)) := by
  unfold rngD at h
  rw [List.map_map] at h
  obtain ⟨k, hk, rfl⟩ := List.mem_map.mp h
  exact ⟨k, by simpa using hk, by simp⟩
theorem len_rng (m : Nat) : (rng 0 m).length = m := by simp [rng]
theorem len_rngD (m : Nat) : (rngD 0 m).length = m := by simp [rngD]
/-- pairs of ints -/
def gP (f : Int → Int → Option D) : MV → Option D
  | .d (.tup [.int a, .int b]) => f a b
  | _ => none
theorem zip_int (xs ys : List Int) : ((xs.map D.int).zip (ys.map D.int)).map (fun p => MV.d (.tup [p.1, p.2])) = (xs.zip ys).map fun p => MV.d (.tup [.int p.1, .int p.2]) := by
  rw [List.zip_map, List.map_map]; rfl
theorem fm_zip (f : Int → Int → Option D) (xs ys : List Int) : ((xs.zip ys).map fun p => MV.d (.tup [.int p.1, .int p.2])).filterMap (gP f) = (xs.zip ys).filterMap fun p => f p.1 p.2 := by
  rw [List.filterMap_map]; rfl
theorem mem_zipI {x : MV} {xs ys : List Int} (h : x ∈ (xs.zip ys).map fun p => MV.d (.tup [.int p.1, .int p.2])) : ∃ a b, (a, b) ∈ xs.zip ys ∧ x = .d (.tup [.int a, .int b]) := by
  obtain ⟨⟨a, b⟩, hk, rfl⟩ := List.mem_map.mp h
  exact ⟨a, b, hk, rfl⟩
theorem fm_zipWith (op : Int → Int → Int) (xs ys : List Int) : ((xs.zip ys).filterMap fun p => some (D.int (op p.1 p.2))) = (List.zipWith op xs ys).map .int := by
  rw [fm_some]
  induction xs generalizing ys with
  | nil => simp
  | cons x xs ih => cases ys with
    | nil => simp
    | cons y ys => simp [ih]
theorem okDs_int (n : Nat) (xs : List Int) : okDs n (xs.map .int) = true := by
  induction xs with
  | nil => unfold okDs; rfl
  | cons x xs ih => rw [List.map_cons]; unfold okDs; rw [ih]; unfold okD; rfl
theorem okD_tup {n : Nat} {xs : List Int} (h : xs.length ≤ big) : okD (n + 1) (.tup (xs.map .int)) = true := by
  unfold okD; rw [okDs_int]; simp [h]
theorem okD_lst {n : Nat} {xs : List Int} (h : xs.length ≤ big) : okD (n + 1) (.lst (xs.map .int)) = true := by
  unfold okD; rw [okDs_int]; simp [h]
end Ip

namespace K00
open PySem PySem.Spec PyProof.Rows L2 Ip
abbrev prog : Program := PySem.Challenge.pw_fewchairs_k00_crowd_sums
def top (i : Nat) : Stmt := prog.main.body.getD i (.Pass ⟨0, 0, 0, 0⟩)
def mth (s : Stmt) (j : Nat) : Stmt := match s with
  | .ClassDef _ _ _ b _ _ _ _ _ _ _ => b.getD j (.Pass ⟨0, 0, 0, 0⟩)
  | s => s
def b_size_0 : List S := (.ret (.bi .sum [.var 0])) :: []
def c_size : Fn := ⟨1, 1, b_size_0⟩
def b_plus_0 : List S := (.ret (.bi .tuple [.lc false (.bin .add (.var 2) (.var 3)) (.tp [.nm 2, .nm 3]) (.zip (.var 0) (.var 1)) [] [2, 3]])) :: []
def c_plus : Fn := ⟨2, 4, b_plus_0⟩
def w1_within_0 : List S := (.ite (.cmp .gt (.var 2) (.var 3)) [.ret (.bool false)] []) :: []
def b_within_1 : List S := (.ret (.bool true)) :: []
def b_within_0 : List S := (.for_ (.tp [.nm 2, .nm 3]) (.zip (.var 0) (.var 1)) w1_within_0) :: b_within_1
def c_within : Fn := ⟨2, 4, b_within_0⟩
def b_minus_1 : List S := (.ret (.bi .tuple [.lc false (.bin .sub (.var 2) (.var 3)) (.tp [.nm 2, .nm 3]) (.zip (.var 0) (.var 1)) [] [2, 3]])) :: []
def b_minus_0 : List S := (.ite (.not (.call 2 [.var 1, .var 0])) [.raise 2 [.var 1]] []) :: b_minus_1
def c_minus : Fn := ⟨2, 4, b_minus_0⟩
def b_lesser_0 : List S := (.ret (.bi .tuple [.lc false (.bi .min2 [.var 2, .var 3]) (.tp [.nm 2, .nm 3]) (.zip (.var 0) (.var 1)) [] [2, 3]])) :: []
def c_lesser : Fn := ⟨2, 4, b_lesser_0⟩
def b_greater_0 : List S := (.ret (.bi .tuple [.lc false (.bi .max2 [.var 2, .var 3]) (.tp [.nm 2, .nm 3]) (.zip (.var 0) (.var 1)) [] [2, 3]])) :: []
def c_greater : Fn := ⟨2, 4, b_greater_0⟩
def b_kinds_in_0 : List S := (.ret (.lc true (.var 1) (.tp [.nm 1, .nm 2]) (.enum (.var 0)) [.cmp .gt (.var 2) (.int 0)] [1, 2])) :: []
def c_kinds_in : Fn := ⟨1, 3, b_kinds_in_0⟩
def b__law_pool_3 : List S := (.ret (.lstM [.int 0, .int 0, .bin .mod (.bi .int [.var 2]) (.int 999999937)])) :: []
def b__law_pool_2 : List S := (.ite (.cmp .ge (.var 2) (.bin .pow (.int 10) (.int 18))) [.ret (.lstM [.bin .sub (.var 2) (.bin .pow (.int 10) (.int 18)), .int 0, .bin .mod (.bi .int [.var 2]) (.int 999999937)])] []) :: b__law_pool_3
def b__law_pool_1 : List S := (.ite (.cmp .lt (.var 1) (.bi .len [.var 0])) [.asg (.tg (.nm 2)) (.bi .abs [.bi .int [.ix (.var 0) (.var 1)]])] []) :: b__law_pool_2
def b__law_pool_0 : List S := (.asg (.tg (.nm 2)) (.int 0)) :: b__law_pool_1
def c__law_pool : Fn := ⟨2, 3, b__law_pool_0⟩
def b__law_draw_5 : List S := (.ret (.bin .mod (.bi .int [.bin .fdiv (.var 5) (.int 7)]) (.var 1))) :: []
def b__law_draw_4 : List S := (.asg (.tg (.nm 5)) (.bin .mod (.bi .int [.bin .add (.bin .add (.bin .mul (.var 4) (.int 48271)) (.bin .fdiv (.var 4) (.int 1009))) (.bin .mul (.ix (.var 0) (.int 1)) (.ix (.var 0) (.int 1)))]) (.int 2147483647))) :: b__law_draw_5
def b__law_draw_3 : List S := (.asg (.tg (.nm 4)) (.bin .mod (.bi .int [.bin .add (.bin .add (.bin .add (.bin .mul (.var 3) (.var 3)) (.bin .mul (.ix (.var 0) (.int 1)) (.int 31))) (.bin .fdiv (.ix (.var 0) (.int 2)) (.int 1000))) (.int 7)]) (.int 998244353))) :: b__law_draw_4
def b__law_draw_2 : List S := (.asg (.tg (.nm 3)) (.bin .mod (.bi .int [.bin .add (.bin .add (.bin .mul (.ix (.var 0) (.int 2)) (.int 7919)) (.bin .mul (.ix (.var 0) (.int 1)) (.int 104729))) (.int 12345)]) (.int 1000003))) :: b__law_draw_3
def b__law_draw_1 : List S := (.ite (.cmp .gt (.ix (.var 0) (.int 0)) (.int 0)) [.asg (.tg (.nm 2)) (.bin .mod (.bi .int [.ix (.var 0) (.int 0)]) (.var 1)),
  .asg (.ix (.var 0) (.int 0)) (.bin .fdiv (.ix (.var 0) (.int 0)) (.var 1)),
  .ret (.var 2)] []) :: b__law_draw_2
def b__law_draw_0 : List S := (.asg (.ix (.var 0) (.int 1)) (.bin .add (.ix (.var 0) (.int 1)) (.int 1))) :: b__law_draw_1
def c__law_draw : Fn := ⟨2, 6, b__law_draw_0⟩
def b__law_more_0 : List S := (.ret (.bin .add (.bin .add (.sl (.var 0) none (some (.var 1))) (.tup [.bin .add (.ix (.var 0) (.var 1)) (.int 1)])) (.sl (.var 0) (some (.bin .add (.var 1) (.int 1))) none))) :: []
def c__law_more : Fn := ⟨2, 2, b__law_more_0⟩
def w1__law_same_0 : List S := (.ite (.not (.call 10 [.ix (.var 0) (.var 2), .ix (.var 1) (.var 2)])) [.ret (.bool false)] []) :: []
def b__law_same_6 : List S := (.ret (.bool true)) :: []
def b__law_same_5 : List S := (.for_ (.nm 2) (.rng1 (.bi .len [.var 1])) w1__law_same_0) :: b__law_same_6
def b__law_same_4 : List S := (.ite (.bi .isTup [.var 1]) [.ite (.or [.not (.bi .isTup [.var 0]), .cmp .ne (.bi .len [.var 0]) (.bi .len [.var 1])]) [.ret (.bool false)] []] [.ite (.or [.not (.bi .isList [.var 0]), .cmp .ne (.bi .len [.var 0]) (.bi .len [.var 1])]) [.ret (.bool false)] []]) :: b__law_same_5
def b__law_same_3 : List S := (.ite (.bi .isStr [.var 1]) [.ret (.and [.bi .isStr [.var 0], .cmp .eq (.var 0) (.var 1)])] []) :: b__law_same_4
def b__law_same_2 : List S := (.ite (.bi .isInt [.var 1]) [.ret (.and [.bi .isInt [.var 0], .not (.bi .isBool [.var 0]), .cmp .eq (.var 0) (.var 1)])] []) :: b__law_same_3
def b__law_same_1 : List S := (.ite (.bi .isBool [.var 1]) [.ret (.and [.bi .isBool [.var 0], .cmp .eq (.var 0) (.var 1)])] []) :: b__law_same_2
def b__law_same_0 : List S := (.ite (.isN (.var 1)) [.ret (.isN (.var 0))] []) :: b__law_same_1
def c__law_same : Fn := ⟨2, 3, b__law_same_0⟩
def b__law_count_4 : List S := (.ret (.bin .add (.bin .mul (.bin .add (.bin .mul (.var 1) (.bin .pow (.int 10) (.int 7))) (.var 2)) (.bin .pow (.int 10) (.int 6))) (.var 3))) :: []
def b__law_count_3 : List S := (.asg (.tg (.nm 3)) (.callM 8 [.var 0, .bin .pow (.int 10) (.int 6)])) :: b__law_count_4
def b__law_count_2 : List S := (.asg (.tg (.nm 2)) (.callM 8 [.var 0, .bin .pow (.int 10) (.int 7)])) :: b__law_count_3
def b__law_count_1 : List S := (.asg (.tg (.nm 1)) (.callM 8 [.var 0, .bin .pow (.int 10) (.int 7)])) :: b__law_count_2
def b__law_count_0 : List S := (.ite (.cmp .gt (.callM 8 [.var 0, .int 3]) (.int 0)) [.ret (.callM 8 [.var 0, .int 5])] []) :: b__law_count_1
def c__law_count : Fn := ⟨1, 4, b__law_count_0⟩
def b__law_refused_1 : List S := (.ret (.none)) :: []
def b__law_refused_0 : List S := (.try_ [.expr (.call 3 [.var 0, .var 1])] 2 2 (.tup [.fld 0, .isin 1, .isin 0, .isin 3])) :: b__law_refused_1
def c__law_refused : Fn := ⟨2, 3, b__law_refused_0⟩
def b__law_pair_holds_9 : List S := (.ret (.call 10 [.call 0 [.var 3], .bin .add (.bi .sum [.var 0]) (.bi .sum [.var 1])])) :: []
def b__law_pair_holds_8 : List S := (.ite (.not (.call 10 [.call 3 [.var 3, .var 1], .var 0])) [.ret (.bool false)] []) :: b__law_pair_holds_9
def b__law_pair_holds_7 : List S := (.ite (.cmp .gt (.bi .len [.var 4]) (.int 0)) [.ite (.not (.call 10 [.call 12 [.var 0, .var 1], .tup [.var 1, .bool true, .bool true, .bool false]])) [.ret (.bool false)] []] [.ite (.not (.call 10 [.call 3 [.var 0, .var 1], .bi .tuple [.lc false (.bin .sub (.ix (.var 0) (.var 5)) (.ix (.var 1) (.var 5))) (.nm 5) (.seq (.var 2)) [] [5]]])) [.ret (.bool false)] []]) :: b__law_pair_holds_8
def b__law_pair_holds_6 : List S := (.ite (.not (.call 10 [.call 2 [.var 1, .var 0], .cmp .eq (.bi .len [.var 4]) (.int 0)])) [.ret (.bool false)] []) :: b__law_pair_holds_7
def b__law_pair_holds_5 : List S := (.asg (.tg (.nm 4)) (.lc false (.var 5) (.nm 5) (.seq (.var 2)) [.cmp .gt (.ix (.var 1) (.var 5)) (.ix (.var 0) (.var 5))] [5])) :: b__law_pair_holds_6
def b__law_pair_holds_4 : List S := (.ite (.not (.call 10 [.call 5 [.var 0, .var 1], .bi .tuple [.lc false (.bi .max2 [.ix (.var 0) (.var 5), .ix (.var 1) (.var 5)]) (.nm 5) (.seq (.var 2)) [] [5]]])) [.ret (.bool false)] []) :: b__law_pair_holds_5
def b__law_pair_holds_3 : List S := (.ite (.not (.call 10 [.call 4 [.var 0, .var 1], .bi .tuple [.lc false (.bi .min2 [.ix (.var 0) (.var 5), .ix (.var 1) (.var 5)]) (.nm 5) (.seq (.var 2)) [] [5]]])) [.ret (.bool false)] []) :: b__law_pair_holds_4
def b__law_pair_holds_2 : List S := (.ite (.not (.call 10 [.call 1 [.var 0, .var 1], .var 3])) [.ret (.bool false)] []) :: b__law_pair_holds_3
def b__law_pair_holds_1 : List S := (.asg (.tg (.nm 3)) (.bi .tuple [.lc false (.bin .add (.ix (.var 0) (.var 5)) (.ix (.var 1) (.var 5))) (.nm 5) (.seq (.var 2)) [] [5]])) :: b__law_pair_holds_2
def b__law_pair_holds_0 : List S := (.asg (.tg (.nm 2)) (.rngS 0 (.bi .len [.var 0]))) :: b__law_pair_holds_1
def c__law_pair_holds : Fn := ⟨2, 6, b__law_pair_holds_0⟩
def b__law_alone_holds_5 : List S := (.ret (.and [.callB 10 [.callM 6 [.var 0], .var 1], .call 10 [.call 0 [.var 0], .bi .sum [.var 0]]])) :: []
def b__law_alone_holds_4 : List S := (.asg (.ix (.var 2) (.int 0)) (.int 9)) :: b__law_alone_holds_5
def b__law_alone_holds_3 : List S := (.expr (.append (.var 2) (.int 0))) :: b__law_alone_holds_4
def b__law_alone_holds_2 : List S := (.ite (.not (.callB 10 [.var 2, .var 1])) [.ret (.bool false)] []) :: b__law_alone_holds_3
def b__law_alone_holds_1 : List S := (.asg (.tg (.nm 2)) (.callM 6 [.var 0])) :: b__law_alone_holds_2
def b__law_alone_holds_0 : List S := (.asg (.tg (.nm 1)) (.lc false (.var 3) (.nm 3) (.rng1 (.bi .len [.var 0])) [.cmp .gt (.ix (.var 0) (.var 3)) (.int 0)] [3])) :: b__law_alone_holds_1
def c__law_alone_holds : Fn := ⟨1, 4, b__law_alone_holds_0⟩
def w1_law_0 : List S := (.ite (.not (.call 13 [.var 6, .var 7])) [.ret (.bool false)] []) :: []
def w2_law_0 : List S := (.ite (.not (.call 14 [.var 8])) [.ret (.bool false)] []) :: []
def b_law_8 : List S := (.ret (.call 13 [.var 3, .var 4])) :: []
def b_law_7 : List S := (.for_ (.nm 8) (.seq (.lst [.var 3, .var 4, .var 5])) w2_law_0) :: b_law_8
def b_law_6 : List S := (.for_ (.tp [.nm 6, .nm 7]) (.seq (.lst [.tup [.var 3, .var 4], .tup [.var 4, .var 3], .tup [.var 3, .var 5], .tup [.var 5, .var 3], .tup [.var 3, .var 3]])) w1_law_0) :: b_law_7
def b_law_5 : List S := (.asg (.tg (.nm 5)) (.call 9 [.var 3, .callM 8 [.var 1, .var 2]])) :: b_law_6
def b_law_4 : List S := (.ite (.cmp .eq (.callM 8 [.var 1, .int 2]) (.int 0)) [.asg (.tg (.nm 4)) (.bi .tuple [.lc false (.callM 8 [.var 1, .bin .add (.var 10) (.int 1)]) (.nm 10) (.seq (.var 3)) [] [10]])] [.asg (.tg (.nm 4)) (.bi .tuple [.lc false (.callM 11 [.var 1]) (.nm 9) (.rng1 (.var 2)) [] [9]])]) :: b_law_5
def b_law_3 : List S := (.asg (.tg (.nm 3)) (.bi .tuple [.lc false (.callM 11 [.var 1]) (.nm 9) (.rng1 (.var 2)) [] [9]])) :: b_law_4
def b_law_2 : List S := (.ite (.cmp .eq (.callM 8 [.var 1, .int 8]) (.int 0)) [.asg (.tg (.nm 2)) (.bin .add (.int 7) (.callM 8 [.var 1, .int 6]))] []) :: b_law_3
def b_law_1 : List S := (.asg (.tg (.nm 2)) (.bin .add (.int 1) (.callM 8 [.var 1, .int 6]))) :: b_law_2
def b_law_0 : List S := (.asg (.tg (.nm 1)) (.callM 7 [.var 0, .int 0])) :: b_law_1
def c_law : Fn := ⟨1, 11, b_law_0⟩
def fnT : Nat → Option Fn
  | 0 => some c_size
  | 1 => some c_plus
  | 2 => some c_within
  | 3 => some c_minus
  | 4 => some c_lesser
  | 5 => some c_greater
  | 6 => some c_kinds_in
  | 7 => some c__law_pool
  | 8 => some c__law_draw
  | 9 => some c__law_more
  | 10 => some c__law_same
  | 11 => some c__law_count
  | 12 => some c__law_refused
  | 13 => some c__law_pair_holds
  | 14 => some c__law_alone_holds
  | 15 => some c_law
  | _ => none
def subs : List (Nat × Nat) := [(1, 1), (2, 1), (2, 2), (3, 1), (3, 3), (1, 0), (2, 0), (3, 0)]
def exFT : Nat → List Nat
  | 2 => [0]
  | 3 => [1]
  | _ => []
def P : Prog := ⟨fnT, fun a b => decide ((a, b) ∈ subs), exFT, [2, 3]⟩
def aN (i : Nat) : Str := (["crowd", "kind"] : List Str).getD i ""
def i_size : FI := ⟨0, "size", defArgs (top 5), defBody (top 5), defScope (top 5), ["crowd"], ["crowd"]⟩
def i_plus : FI := ⟨1, "plus", defArgs (top 6), defBody (top 6), defScope (top 6), ["first", "second", "one", "other"], ["first", "second"]⟩
def i_within : FI := ⟨2, "within", defArgs (top 7), defBody (top 7), defScope (top 7), ["first", "second", "one", "other"], ["first", "second"]⟩
def i_minus : FI := ⟨3, "minus", defArgs (top 8), defBody (top 8), defScope (top 8), ["first", "second", "one", "other"], ["first", "second"]⟩
def i_lesser : FI := ⟨4, "lesser", defArgs (top 9), defBody (top 9), defScope (top 9), ["first", "second", "one", "other"], ["first", "second"]⟩
def i_greater : FI := ⟨5, "greater", defArgs (top 10), defBody (top 10), defScope (top 10), ["first", "second", "one", "other"], ["first", "second"]⟩
def i_kinds_in : FI := ⟨6, "kinds_in", defArgs (top 11), defBody (top 11), defScope (top 11), ["crowd", "kind", "count"], ["crowd"]⟩
def i__law_pool : FI := ⟨7, "_law_pool", defArgs (top 13), defBody (top 13), defScope (top 13), ["script", "at", "cell"], ["script", "at"]⟩
def i__law_draw : FI := ⟨8, "_law_draw", defArgs (top 14), defBody (top 14), defScope (top 14), ["pool", "many", "got", "first", "second", "third"], ["pool", "many"]⟩
def i__law_more : FI := ⟨9, "_law_more", defArgs (top 15), defBody (top 15), defScope (top 15), ["crowd", "kind"], ["crowd", "kind"]⟩
def i__law_same : FI := ⟨10, "_law_same", defArgs (top 16), defBody (top 16), defScope (top 16), ["got", "due", "k"], ["got", "due"]⟩
def i__law_count : FI := ⟨11, "_law_count", defArgs (top 17), defBody (top 17), defScope (top 17), ["pool", "high", "middle", "low"], ["pool"]⟩
def i__law_refused : FI := ⟨12, "_law_refused", defArgs (top 18), defBody (top 18), defScope (top 18), ["first", "second", "e"], ["first", "second"]⟩
def i__law_pair_holds : FI := ⟨13, "_law_pair_holds", defArgs (top 19), defBody (top 19), defScope (top 19), ["first", "second", "places", "total", "beyond", "x"], ["first", "second"]⟩
def i__law_alone_holds : FI := ⟨14, "_law_alone_holds", defArgs (top 20), defBody (top 20), defScope (top 20), ["crowd", "inside", "told", "x"], ["crowd"]⟩
def i_law : FI := ⟨15, "law", defArgs (top 21), defBody (top 21), defScope (top 21), ["script", "pool", "kinds", "first", "second", "third", "one", "other", "crowd", "x", "count"], ["script"]⟩
def x_HallError : XI := ⟨1, "HallError", false, "", defArgs (top 0), [], defScope (top 0), []⟩
def x_BadCrowd : XI := ⟨2, "BadCrowd", true, "BadCrowd.__init__", defArgs (mth (top 2) 0), defBody (mth (top 2) 0), defScope (mth (top 2) 0), ["self", "crowd"]⟩
def x_BadKind : XI := ⟨3, "BadKind", true, "BadKind.__init__", defArgs (mth (top 3) 0), defBody (mth (top 3) 0), defScope (mth (top 3) 0), ["self", "kind"]⟩
def mi : MI := ⟨[i_size, i_plus, i_within, i_minus, i_lesser, i_greater, i_kinds_in, i__law_pool, i__law_draw, i__law_more, i__law_same, i__law_count, i__law_refused, i__law_pair_holds, i__law_alone_holds, i_law], [x_HallError, x_BadCrowd, x_BadKind], ["sum", "tuple", "zip", "min", "max", "enumerate", "len", "abs", "int", "isinstance", "bool", "str", "list", "range", "ValueError"], P, aN⟩
theorem fp_size : FP P aN mi.ck i_size where
  bd := fun _ _ _ _ _ _ us hl => match us, hl with | [_], _ => rfl
  sc := ⟨rfl, rfl, rfl, by decide +kernel, rfl, by decide +kernel, by decide +kernel⟩
  code := ⟨c_size, rfl, rfl, rfl, by decide +kernel⟩
theorem fp_plus : FP P aN mi.ck i_plus where
  bd := fun _ _ _ _ _ _ us hl => match us, hl with | [_, _], _ => rfl
  sc := ⟨rfl, rfl, rfl, by decide +kernel, rfl, by decide +kernel, by decide +kernel⟩
  code := ⟨c_plus, rfl, rfl, rfl, by decide +kernel⟩
theorem fp_within : FP P aN mi.ck i_within where
  bd := fun _ _ _ _ _ _ us hl => match us, hl with | [_, _], _ => rfl
  sc := ⟨rfl, rfl, rfl, by decide +kernel, rfl, by decide +kernel, by decide +kernel⟩
  code := ⟨c_within, rfl, rfl, rfl, by decide +kernel⟩
theorem fp_minus : FP P aN mi.ck i_minus where
  bd := fun _ _ _ _ _ _ us hl => match us, hl with | [_, _], _ => rfl
  sc := ⟨rfl, rfl, rfl, by decide +kernel, rfl, by decide +kernel, by decide +kernel⟩
  code := ⟨c_minus, rfl, rfl, rfl, by decide +kernel⟩
theorem fp_lesser : FP P aN mi.ck i_lesser where
  bd := fun _ _ _ _ _ _ us hl => match us, hl with | [_, _], _ => rfl
  sc := ⟨rfl, rfl, rfl, by decide +kernel, rfl, by decide +kernel, by decide +kernel⟩
  code := ⟨c_lesser, rfl, rfl, rfl, by decide +kernel⟩
theorem fp_greater : FP P aN mi.ck i_greater where
  bd := fun _ _ _ _ _ _ us hl => match us, hl with | [_, _], _ => rfl
  sc := ⟨rfl, rfl, rfl, by decide +kernel, rfl, by decide +kernel, by decide +kernel⟩
  code := ⟨c_greater, rfl, rfl, rfl, by decide +kernel⟩
theorem fp_kinds_in : FP P aN mi.ck i_kinds_in where
  bd := fun _ _ _ _ _ _ us hl => match us, hl with | [_], _ => rfl
  sc := ⟨rfl, rfl, rfl, by decide +kernel, rfl, by decide +kernel, by decide +kernel⟩
  code := ⟨c_kinds_in, rfl, rfl, rfl, by decide +kernel⟩
theorem fp__law_pool : FP P aN mi.ck i__law_pool where
  bd := fun _ _ _ _ _ _ us hl => match us, hl with | [_, _], _ => rfl
  sc := ⟨rfl, rfl, rfl, by decide +kernel, rfl, by decide +kernel, by decide +kernel⟩
  code := ⟨c__law_pool, rfl, rfl, rfl, by decide +kernel⟩
theorem fp__law_draw : FP P aN mi.ck i__law_draw where
  bd := fun _ _ _ _ _ _ us hl => match us, hl with | [_, _], _ => rfl
  sc := ⟨rfl, rfl, rfl, by decide +kernel, rfl, by decide +kernel, by decide +kernel⟩
  code := ⟨c__law_draw, rfl, rfl, rfl, by decide +kernel⟩
theorem fp__law_more : FP P aN mi.ck i__law_more where
  bd := fun _ _ _ _ _ _ us hl => match us, hl with | [_, _], _ => rfl
  sc := ⟨rfl, rfl, rfl, by decide +kernel, rfl, by decide +kernel, by decide +kernel⟩
  code := ⟨c__law_more, rfl, rfl, rfl, by decide +kernel⟩
theorem fp__law_same : FP P aN mi.ck i__law_same where
  bd := fun _ _ _ _ _ _ us hl => match us, hl with | [_, _], _ => rfl
  sc := ⟨rfl, rfl, rfl, by decide +kernel, rfl, by decide +kernel, by decide +kernel⟩
  code := ⟨c__law_same, rfl, rfl, rfl, by decide +kernel⟩
theorem fp__law_count : FP P aN mi.ck i__law_count where
  bd := fun _ _ _ _ _ _ us hl => match us, hl with | [_], _ => rfl
  sc := ⟨rfl, rfl, rfl, by decide +kernel, rfl, by decide +kernel, by decide +kernel⟩
  code := ⟨c__law_count, rfl, rfl, rfl, by decide +kernel⟩
theorem fp__law_refused : FP P aN mi.ck i__law_refused where
  bd := fun _ _ _ _ _ _ us hl => match us, hl with | [_, _], _ => rfl
  sc := ⟨rfl, rfl, rfl, by decide +kernel, rfl, by decide +kernel, by decide +kernel⟩
  code := ⟨c__law_refused, rfl, rfl, rfl, by decide +kernel⟩
theorem fp__law_pair_holds : FP P aN mi.ck i__law_pair_holds where
  bd := fun _ _ _ _ _ _ us hl => match us, hl with | [_, _], _ => rfl
  sc := ⟨rfl, rfl, rfl, by decide +kernel, rfl, by decide +kernel, by decide +kernel⟩
  code := ⟨c__law_pair_holds, rfl, rfl, rfl, by decide +kernel⟩
theorem fp__law_alone_holds : FP P aN mi.ck i__law_alone_holds where
  bd := fun _ _ _ _ _ _ us hl => match us, hl with | [_], _ => rfl
  sc := ⟨rfl, rfl, rfl, by decide +kernel, rfl, by decide +kernel, by decide +kernel⟩
  code := ⟨c__law_alone_holds, rfl, rfl, rfl, by decide +kernel⟩
theorem fp_law : FP P aN mi.ck i_law where
  bd := fun _ _ _ _ _ _ us hl => match us, hl with | [_], _ => rfl
  sc := ⟨rfl, rfl, rfl, by decide +kernel, rfl, by decide +kernel, by decide +kernel⟩
  code := ⟨c_law, rfl, rfl, rfl, by decide +kernel⟩
theorem xp_BadCrowd : XP P aN x_BadCrowd where
  bd := fun _ _ _ _ _ _ us hl => match us, hl with | [_, _], _ => rfl
  sc := ⟨rfl, rfl, rfl, by decide +kernel, rfl, by decide +kernel, by decide +kernel⟩
  ps := rfl
  nd := by decide +kernel
  few := by decide +kernel
  init := fun Pg w K mg base f Cl fd F o na => ok_init1 F ⟨rfl, rfl, rfl, by decide +kernel, rfl, by decide +kernel, by decide +kernel⟩ (by decide +kernel) o (na 0 (by decide +kernel)) (by decide +kernel)
theorem xp_BadKind : XP P aN x_BadKind where
  bd := fun _ _ _ _ _ _ us hl => match us, hl with | [_, _], _ => rfl
  sc := ⟨rfl, rfl, rfl, by decide +kernel, rfl, by decide +kernel, by decide +kernel⟩
  ps := rfl
  nd := by decide +kernel
  few := by decide +kernel
  init := fun Pg w K mg base f Cl fd F o na => ok_init1 F ⟨rfl, rfl, rfl, by decide +kernel, rfl, by decide +kernel, by decide +kernel⟩ (by decide +kernel) o (na 1 (by decide +kernel)) (by decide +kernel)
theorem mok : MOk mi where
  fp := all_cons fp_size (all_cons fp_plus (all_cons fp_within (all_cons fp_minus (all_cons fp_lesser (all_cons fp_greater (all_cons fp_kinds_in (all_cons fp__law_pool (all_cons fp__law_draw (all_cons fp__law_more (all_cons fp__law_same (all_cons fp__law_count (all_cons fp__law_refused (all_cons fp__law_pair_holds (all_cons fp__law_alone_holds (all_cons fp_law (all_nil))))))))))))))))
  xp := all_cons (fun z => nomatch z) (all_cons (fun _ => xp_BadCrowd) (all_cons (fun _ => xp_BadKind) (all_nil)))
  own := all_cons (fun z => absurd z (by decide +kernel)) (all_cons (fun _ => rfl) (all_cons (fun _ => rfl) (all_nil)))
  uni := by decide +kernel
  exs := fun j hj => by
    have e : mi.P.exs = [2, 3] := rfl
    have h2 : j ∈ mi.P.exs := by simpa using hj
    rw [e] at h2
    simp only [List.mem_cons, List.not_mem_nil, or_false] at h2
    rcases h2 with rfl | rfl
    · exact ⟨x_BadCrowd, List.mem_of_getElem? (i := 1) rfl, rfl⟩
    · exact ⟨x_BadKind, List.mem_of_getElem? (i := 2) rfl, rfl⟩

-- law at 21
end K00

namespace K00
open PySem PySem.Spec PyProof.Rows L2 Ip
abbrev R : PySem.W.OpenRow := PySem.W.OpenLaw.row PySem.Challenge.rw_fewchairs_k00_crowd_sums
def ob (s : PySem.W.SharedT) : AlI := mi.obsG 5 (HandSHeadRun.getT s)
theorem ob_eq (s : PySem.W.SharedT) : ob s = (hookI 5 mi).obs s.abs := obsG_eq (HandSHeadRun.getT_eq s)
def loose : List Str := ["HallError", "BadCrowd", "BadKind", "size", "plus", "within", "minus", "lesser", "greater", "kinds_in", "_law_pool", "_law_draw", "_law_more", "_law_same", "_law_count", "_law_refused", "_law_pair_holds", "_law_alone_holds"]
theorem run (w : World) : HandSHeadRun.RunEq R (PySem.W.view R.prog [21]) (hookI 5 mi) ob 2000 loose w := by
  intro os
  kernel_rfl
end K00

namespace K00
open Ip
open PySem (Str)
abbrev I (xs : List Int) : MV := .d (.tup (xs.map .int))
section
variable {n : Nat} {xs ys : List Int} {h : Hm}
theorem q_size : callF P (n + 1) 0 [I xs] h = .ok (.d (.int xs.sum)) h := by
  refine Wp.eq ?_
  rw [wpCall rfl rfl]
  simp [c_size, b_size_0, exS, exSs, evE, evEs, evO, evCs, evI, evAnd, evOr, asgL, bindT, bindTs, startF, wpB, wpP, wpO, wpX, wpS, wpK, wpIte, wpOf, wp_add, wp_sub, wp_mul, wp_fdiv, wp_mod, wp_pow, wp_cmpI, wp_ixd, wp_ixr, wp_setIx, flowK, endF, loopE, truthM, truth, Ip.isNone, ditems, dits, List.length_cons, List.length_nil, List.map_cons, List.map_nil, List.replicate, List.getElem?_cons_zero, List.getElem?_cons_succ, List.nil_append, List.cons_append, List.set_cons_zero, List.set_cons_succ, if_true, Nat.sub_self, wp_lent, wp_lenl, wp_lenr, wp_sumt, wp_tupl, wp_min2, wp_max2, wp_abs, wp_int, wp_isB, wp_isI, wp_isS, wp_isT, wp_isL, isB, isI, isS, isT, isL, wp_ixl, wpNX, wpLen, Ip.wipe, Option.some.injEq, exists_eq_left', Option.map_some]
/-- a tuple over the two -/
theorem q_zip {f : Nat} {elt : E} (op : Int → Int → Int) (e : P.fn f = some ⟨2, 4, [.ret (.bi .tuple [.lc false elt (.tp [.nm 2, .nm 3]) (.zip (.var 0) (.var 1)) [] [2, 3]])]⟩)
    (he : ∀ a b, evE (callF P n) [some (I xs), some (I ys), some (.d (.int a)), some (.d (.int b))] elt h = .ok (.d (.int (op a b))) h) (hl : xs.length ≤ big) : callF P (n + 1) f [I xs, I ys] h = .ok (I (List.zipWith op xs ys)) h := by
  refine Wp.eq ?_
  rw [wpCall e rfl]
  simp only [exS, exSs, evE, evEs, evO, evCs, evI, evAnd, evOr, asgL, bindT, bindTs, startF, wpB, wpP, wpO, wpX, wpS, wpK, wpIte, wpOf, wp_add, wp_sub, wp_mul, wp_fdiv, wp_mod, wp_pow, wp_cmpI, wp_ixd, wp_ixr, wp_setIx, flowK, endF, loopE, truthM, truth, Ip.isNone, ditems, dits, List.length_cons, List.length_nil, List.map_cons, List.map_nil, List.replicate, List.getElem?_cons_zero, List.getElem?_cons_succ, List.nil_append, List.cons_append, List.set_cons_zero, List.set_cons_succ, if_true, Nat.sub_self, wp_lent, wp_lenl, wp_lenr, wp_sumt, wp_tupl, wp_min2, wp_max2, wp_abs, wp_int, wp_isB, wp_isI, wp_isS, wp_isT, wp_isL, isB, isI, isS, isT, isL, wp_ixl, wpNX, wpLen, Ip.wipe, Option.some.injEq, exists_eq_left', Option.map_some, zipI, zip_int]
  refine ⟨by simp; omega, ?_⟩
  refine wp_bind_lc (gP fun a b => some (.int (op a b))) ?_ (by simp; omega) ?_
  · intro x hx
    obtain ⟨a, b, hm, rfl⟩ := mem_zipI hx
    refine Wp.eq ?_
    simp [lcF, exS, exSs, evE, evEs, evO, evCs, evI, evAnd, evOr, asgL, bindT, bindTs, startF, wpB, wpP, wpO, wpX, wpS, wpK, wpIte, wpOf, wp_add, wp_sub, wp_mul, wp_fdiv, wp_mod, wp_pow, wp_cmpI, wp_ixd, wp_ixr, wp_setIx, flowK, endF, loopE, truthM, truth, Ip.isNone, ditems, dits, List.length_cons, List.length_nil, List.map_cons, List.map_nil, List.replicate, List.getElem?_cons_zero, List.getElem?_cons_succ, List.nil_append, List.cons_append, List.set_cons_zero, List.set_cons_succ, if_true, Nat.sub_self, wp_lent, wp_lenl, wp_lenr, wp_sumt, wp_tupl, wp_min2, wp_max2, wp_abs, wp_int, wp_isB, wp_isI, wp_isS, wp_isT, wp_isL, isB, isI, isS, isT, isL, wp_ixl, wpNX, wpLen, Ip.wipe, Option.some.injEq, exists_eq_left', Option.map_some, gP]
    rw [he]
    simp [wpO]
  · simp only [wp_tupl, exS, exSs, evE, evEs, evO, evCs, evI, evAnd, evOr, asgL, bindT, bindTs, startF, wpB, wpP, wpO, wpX, wpS, wpK, wpIte, wpOf, wp_add, wp_sub, wp_mul, wp_fdiv, wp_mod, wp_pow, wp_cmpI, wp_ixd, wp_ixr, wp_setIx, flowK, endF, loopE, truthM, truth, Ip.isNone, ditems, dits, List.length_cons, List.length_nil, List.map_cons, List.map_nil, List.replicate, List.getElem?_cons_zero, List.getElem?_cons_succ, List.nil_append, List.cons_append, List.set_cons_zero, List.set_cons_succ, if_true, Nat.sub_self, wp_lent, wp_lenl, wp_lenr, wp_sumt, wp_tupl, wp_min2, wp_max2, wp_abs, wp_int, wp_isB, wp_isI, wp_isS, wp_isT, wp_isL, isB, isI, isS, isT, isL, wp_ixl, wpNX, wpLen, Ip.wipe, Option.some.injEq, exists_eq_left', Option.map_some, fm_zip, fm_zipWith]
    exact ⟨trivial, trivial⟩
theorem q_plus (hl : xs.length ≤ big) : callF P (n + 1) 1 [I xs, I ys] h = .ok (I (List.zipWith (· + ·) xs ys)) h :=
  q_zip (· + ·) rfl (fun a b => Wp.eq (by simp [exS, exSs, evE, evEs, evO, evCs, evI, evAnd, evOr, asgL, bindT, bindTs, startF, wpB, wpP, wpO, wpX, wpS, wpK, wpIte, wpOf, wp_add, wp_sub, wp_mul, wp_fdiv, wp_mod, wp_pow, wp_cmpI, wp_ixd, wp_ixr, wp_setIx, flowK, endF, loopE, truthM, truth, Ip.isNone, ditems, dits, List.length_cons, List.length_nil, List.map_cons, List.map_nil, List.replicate, List.getElem?_cons_zero, List.getElem?_cons_succ, List.nil_append, List.cons_append, List.set_cons_zero, List.set_cons_succ, if_true, Nat.sub_self, wp_lent, wp_lenl, wp_lenr, wp_sumt, wp_tupl, wp_min2, wp_max2, wp_abs, wp_int, wp_isB, wp_isI, wp_isS, wp_isT, wp_isL, isB, isI, isS, isT, isL, wp_ixl, wpNX, wpLen, Ip.wipe, Option.some.injEq, exists_eq_left', Option.map_some])) hl
theorem q_lesser (hl : xs.length ≤ big) : callF P (n + 1) 4 [I xs, I ys] h = .ok (I (List.zipWith min xs ys)) h :=
  q_zip min rfl (fun a b => Wp.eq (by simp [exS, exSs, evE, evEs, evO, evCs, evI, evAnd, evOr, asgL, bindT, bindTs, startF, wpB, wpP, wpO, wpX, wpS, wpK, wpIte, wpOf, wp_add, wp_sub, wp_mul, wp_fdiv, wp_mod, wp_pow, wp_cmpI, wp_ixd, wp_ixr, wp_setIx, flowK, endF, loopE, truthM, truth, Ip.isNone, ditems, dits, List.length_cons, List.length_nil, List.map_cons, List.map_nil, List.replicate, List.getElem?_cons_zero, List.getElem?_cons_succ, List.nil_append, List.cons_append, List.set_cons_zero, List.set_cons_succ, if_true, Nat.sub_self, wp_lent, wp_lenl, wp_lenr, wp_sumt, wp_tupl, wp_min2, wp_max2, wp_abs, wp_int, wp_isB, wp_isI, wp_isS, wp_isT, wp_isL, isB, isI, isS, isT, isL, wp_ixl, wpNX, wpLen, Ip.wipe, Option.some.injEq, exists_eq_left', Option.map_some])) hl
theorem q_greater (hl : xs.length ≤ big) : callF P (n + 1) 5 [I xs, I ys] h = .ok (I (List.zipWith max xs ys)) h :=
  q_zip max rfl (fun a b => Wp.eq (by simp [exS, exSs, evE, evEs, evO, evCs, evI, evAnd, evOr, asgL, bindT, bindTs, startF, wpB, wpP, wpO, wpX, wpS, wpK, wpIte, wpOf, wp_add, wp_sub, wp_mul, wp_fdiv, wp_mod, wp_pow, wp_cmpI, wp_ixd, wp_ixr, wp_setIx, flowK, endF, loopE, truthM, truth, Ip.isNone, ditems, dits, List.length_cons, List.length_nil, List.map_cons, List.map_nil, List.replicate, List.getElem?_cons_zero, List.getElem?_cons_succ, List.nil_append, List.cons_append, List.set_cons_zero, List.set_cons_succ, if_true, Nat.sub_self, wp_lent, wp_lenl, wp_lenr, wp_sumt, wp_tupl, wp_min2, wp_max2, wp_abs, wp_int, wp_isB, wp_isI, wp_isS, wp_isT, wp_isL, isB, isI, isS, isT, isL, wp_ixl, wpNX, wpLen, Ip.wipe, Option.some.injEq, exists_eq_left', Option.map_some])) hl
def le (xs ys : List Int) : Bool := (xs.zip ys).all fun p => decide (p.1 ≤ p.2)
theorem q_within : callF P (n + 1) 2 [I xs, I ys] h = .ok (.d (.bool (le xs ys))) h := by
  refine Wp.eq ?_
  rw [wpCall rfl rfl]
  simp only [c_within, b_within_0, exS, exSs, evE, evEs, evO, evCs, evI, evAnd, evOr, asgL, bindT, bindTs, startF, wpB, wpP, wpO, wpX, wpS, wpK, wpIte, wpOf, wp_add, wp_sub, wp_mul, wp_fdiv, wp_mod, wp_pow, wp_cmpI, wp_ixd, wp_ixr, wp_setIx, flowK, endF, loopE, truthM, truth, Ip.isNone, ditems, dits, List.length_cons, List.length_nil, List.map_cons, List.map_nil, List.replicate, List.getElem?_cons_zero, List.getElem?_cons_succ, List.nil_append, List.cons_append, List.set_cons_zero, List.set_cons_succ, if_true, Nat.sub_self, wp_lent, wp_lenl, wp_lenr, wp_sumt, wp_tupl, wp_min2, wp_max2, wp_abs, wp_int, wp_isB, wp_isI, wp_isS, wp_isT, wp_isL, isB, isI, isS, isT, isL, wp_ixl, wpNX, wpLen, Ip.wipe, Option.some.injEq, exists_eq_left', Option.map_some, zipI, zip_int]
  refine wp_forL (fun i ρ h' => h' = h ∧ (∃ u v, ρ = [some (I xs), some (I ys), u, v]) ∧ ((xs.zip ys).take i).all (fun p => decide (p.1 ≤ p.2)) = true) ⟨rfl, ⟨_, _, rfl⟩, by simp⟩ ?_ ?_
  · rintro i x ρ h' hx ⟨rfl, ⟨u, v, rfl⟩, ha⟩
    rw [List.getElem?_map] at hx
    cases ez : (xs.zip ys)[i]? with
    | none => rw [ez] at hx; cases hx
    | some p =>
      rw [ez] at hx
      cases hx
      obtain ⟨a, b⟩ := p
      refine ⟨_, rfl, ?_⟩
      have hi := (List.getElem?_eq_some_iff.mp ez).1
      by_cases hab : b < a
      · simp [w1_within_0, exS, exSs, evE, evEs, evO, evCs, evI, evAnd, evOr, asgL, bindT, bindTs, startF, wpB, wpP, wpO, wpX, wpS, wpK, wpIte, wpOf, wp_add, wp_sub, wp_mul, wp_fdiv, wp_mod, wp_pow, wp_cmpI, wp_ixd, wp_ixr, wp_setIx, flowK, endF, loopE, truthM, truth, Ip.isNone, ditems, dits, List.length_cons, List.length_nil, List.map_cons, List.map_nil, List.replicate, List.getElem?_cons_zero, List.getElem?_cons_succ, List.nil_append, List.cons_append, List.set_cons_zero, List.set_cons_succ, if_true, Nat.sub_self, wp_lent, wp_lenl, wp_lenr, wp_sumt, wp_tupl, wp_min2, wp_max2, wp_abs, wp_int, wp_isB, wp_isI, wp_isS, wp_isT, wp_isL, isB, isI, isS, isT, isL, wp_ixl, wpNX, wpLen, Ip.wipe, Option.some.injEq, exists_eq_left', Option.map_some, ci, hab]
        refine List.all_eq_false.mpr ⟨(a, b), List.mem_of_getElem? ez, by simp; omega⟩
      · simp [w1_within_0, exS, exSs, evE, evEs, evO, evCs, evI, evAnd, evOr, asgL, bindT, bindTs, startF, wpB, wpP, wpO, wpX, wpS, wpK, wpIte, wpOf, wp_add, wp_sub, wp_mul, wp_fdiv, wp_mod, wp_pow, wp_cmpI, wp_ixd, wp_ixr, wp_setIx, flowK, endF, loopE, truthM, truth, Ip.isNone, ditems, dits, List.length_cons, List.length_nil, List.map_cons, List.map_nil, List.replicate, List.getElem?_cons_zero, List.getElem?_cons_succ, List.nil_append, List.cons_append, List.set_cons_zero, List.set_cons_succ, if_true, Nat.sub_self, wp_lent, wp_lenl, wp_lenr, wp_sumt, wp_tupl, wp_min2, wp_max2, wp_abs, wp_int, wp_isB, wp_isI, wp_isS, wp_isT, wp_isL, isB, isI, isS, isT, isL, wp_ixl, wpNX, wpLen, Ip.wipe, Option.some.injEq, exists_eq_left', Option.map_some, ci, hab]
        rw [List.take_add_one, ez]
        intro x y hxy
        rcases List.mem_append.mp hxy with z | z
        · have := List.all_eq_true.mp ha _ z; simpa using this
        · simp at z; obtain ⟨rfl, rfl⟩ := z; omega
  · rintro ρ h' ⟨rfl, ⟨u, v, rfl⟩, ha⟩
    rw [List.length_map, List.take_length] at ha
    simp [b_within_1, exS, exSs, evE, evEs, evO, evCs, evI, evAnd, evOr, asgL, bindT, bindTs, startF, wpB, wpP, wpO, wpX, wpS, wpK, wpIte, wpOf, wp_add, wp_sub, wp_mul, wp_fdiv, wp_mod, wp_pow, wp_cmpI, wp_ixd, wp_ixr, wp_setIx, flowK, endF, loopE, truthM, truth, Ip.isNone, ditems, dits, List.length_cons, List.length_nil, List.map_cons, List.map_nil, List.replicate, List.getElem?_cons_zero, List.getElem?_cons_succ, List.nil_append, List.cons_append, List.set_cons_zero, List.set_cons_succ, if_true, Nat.sub_self, wp_lent, wp_lenl, wp_lenr, wp_sumt, wp_tupl, wp_min2, wp_max2, wp_abs, wp_int, wp_isB, wp_isI, wp_isS, wp_isT, wp_isL, isB, isI, isS, isT, isL, wp_ixl, wpNX, wpLen, Ip.wipe, Option.some.injEq, exists_eq_left', Option.map_some]
    exact ha
theorem q_minus (hl : xs.length ≤ big) (hle : le ys xs = true) : callF P (n + 2) 3 [I xs, I ys] h = .ok (I (List.zipWith (· - ·) xs ys)) h := by
  refine Wp.eq ?_
  rw [wpCall rfl rfl]
  simp [c_minus, b_minus_0, b_minus_1, exS, exSs, evE, evEs, evO, evCs, evI, evAnd, evOr, asgL, bindT, bindTs, startF, wpB, wpP, wpO, wpX, wpS, wpK, wpIte, wpOf, wp_add, wp_sub, wp_mul, wp_fdiv, wp_mod, wp_pow, wp_cmpI, wp_ixd, wp_ixr, wp_setIx, flowK, endF, loopE, truthM, truth, Ip.isNone, ditems, dits, List.length_cons, List.length_nil, List.map_cons, List.map_nil, List.replicate, List.getElem?_cons_zero, List.getElem?_cons_succ, List.nil_append, List.cons_append, List.set_cons_zero, List.set_cons_succ, if_true, Nat.sub_self, wp_lent, wp_lenl, wp_lenr, wp_sumt, wp_tupl, wp_min2, wp_max2, wp_abs, wp_int, wp_isB, wp_isI, wp_isS, wp_isT, wp_isL, isB, isI, isS, isT, isL, wp_ixl, wpNX, wpLen, Ip.wipe, Option.some.injEq, exists_eq_left', Option.map_some, wpPc, Ip.grs, q_within, hard1, hle, zipI, zip_int]
  refine ⟨by omega, ?_⟩
  refine wp_bind_lc (gP fun a b => some (.int (a - b))) ?_ (by simp; omega) ?_
  · intro x hx
    obtain ⟨a, b, hm, rfl⟩ := mem_zipI hx
    refine Wp.eq ?_
    simp [lcF, exS, exSs, evE, evEs, evO, evCs, evI, evAnd, evOr, asgL, bindT, bindTs, startF, wpB, wpP, wpO, wpX, wpS, wpK, wpIte, wpOf, wp_add, wp_sub, wp_mul, wp_fdiv, wp_mod, wp_pow, wp_cmpI, wp_ixd, wp_ixr, wp_setIx, flowK, endF, loopE, truthM, truth, Ip.isNone, ditems, dits, List.length_cons, List.length_nil, List.map_cons, List.map_nil, List.replicate, List.getElem?_cons_zero, List.getElem?_cons_succ, List.nil_append, List.cons_append, List.set_cons_zero, List.set_cons_succ, if_true, Nat.sub_self, wp_lent, wp_lenl, wp_lenr, wp_sumt, wp_tupl, wp_min2, wp_max2, wp_abs, wp_int, wp_isB, wp_isI, wp_isS, wp_isT, wp_isL, isB, isI, isS, isT, isL, wp_ixl, wpNX, wpLen, Ip.wipe, Option.some.injEq, exists_eq_left', Option.map_some, gP]
  · simp only [wp_tupl, exS, exSs, evE, evEs, evO, evCs, evI, evAnd, evOr, asgL, bindT, bindTs, startF, wpB, wpP, wpO, wpX, wpS, wpK, wpIte, wpOf, wp_add, wp_sub, wp_mul, wp_fdiv, wp_mod, wp_pow, wp_cmpI, wp_ixd, wp_ixr, wp_setIx, flowK, endF, loopE, truthM, truth, Ip.isNone, ditems, dits, List.length_cons, List.length_nil, List.map_cons, List.map_nil, List.replicate, List.getElem?_cons_zero, List.getElem?_cons_succ, List.nil_append, List.cons_append, List.set_cons_zero, List.set_cons_succ, if_true, Nat.sub_self, wp_lent, wp_lenl, wp_lenr, wp_sumt, wp_tupl, wp_min2, wp_max2, wp_abs, wp_int, wp_isB, wp_isI, wp_isS, wp_isT, wp_isL, isB, isI, isS, isT, isL, wp_ixl, wpNX, wpLen, Ip.wipe, Option.some.injEq, exists_eq_left', Option.map_some, fm_zip, fm_zipWith (· - ·)]
    exact ⟨trivial, trivial⟩
theorem q_minusX (hle : le ys xs = false) {Q : MV → Hm → Prop} {E : D → Hm → Prop} (q : E (.obj 2 [(0, .tup (ys.map .int))]) h) : Wp (callF P (n + 2) 3 [I xs, I ys] h) Q E := by
  rw [wpCall rfl rfl]
  simp [c_minus, b_minus_0, b_minus_1, exS, exSs, evE, evEs, evO, evCs, evI, evAnd, evOr, asgL, bindT, bindTs, startF, wpB, wpP, wpO, wpX, wpS, wpK, wpIte, wpOf, wp_add, wp_sub, wp_mul, wp_fdiv, wp_mod, wp_pow, wp_cmpI, wp_ixd, wp_ixr, wp_setIx, flowK, endF, loopE, truthM, truth, Ip.isNone, ditems, dits, List.length_cons, List.length_nil, List.map_cons, List.map_nil, List.replicate, List.getElem?_cons_zero, List.getElem?_cons_succ, List.nil_append, List.cons_append, List.set_cons_zero, List.set_cons_succ, if_true, Nat.sub_self, wp_lent, wp_lenl, wp_lenr, wp_sumt, wp_tupl, wp_min2, wp_max2, wp_abs, wp_int, wp_isB, wp_isI, wp_isS, wp_isT, wp_isL, isB, isI, isS, isT, isL, wp_ixl, wpNX, wpLen, Ip.wipe, Option.some.injEq, exists_eq_left', Option.map_some, wpPc, Ip.grs, q_within, hard1, hle, show P.exF 2 = [0] from rfl]
  exact q
def ins (xs : List Int) : List D := (List.range xs.length).filterMap fun i => if 0 < xs.getD i 0 then some (D.int (i : Int)) else none
theorem zipIdx_range (xs : List Int) : (xs.map D.int).zipIdx = (List.range xs.length).map fun i => (D.int (xs.getD i 0), i) := by
  apply List.ext_getElem
  · simp
  · intro i a b
    simp at a b
    simp [List.getD, a]
theorem ins_len : (ins xs).length ≤ xs.length := Nat.le_trans (List.length_filterMap_le _ _) (by simp)
theorem ins_ok {k : Nat} : okDs k (ins xs) = true := by
  unfold ins
  generalize List.range xs.length = l
  induction l with
  | nil => unfold okDs; rfl
  | cons i l ih =>
    rw [List.filterMap_cons]
    split
    · exact ih
    · rename_i d e
      split at e
      · cases e; unfold okDs; rw [ih]; unfold okD; rfl
      · cases e
theorem q_kinds (hl : xs.length ≤ big) : callF P (n + 1) 6 [I xs] h = .ok (.ref h.length) (h ++ [.lst ((ins xs).map .d)]) := by
  refine Wp.eq ?_
  rw [wpCall rfl rfl]
  simp only [c_kinds_in, b_kinds_in_0, exS, exSs, evE, evEs, evO, evCs, evI, evAnd, evOr, asgL, bindT, bindTs, startF, wpB, wpP, wpO, wpX, wpS, wpK, wpIte, wpOf, wp_add, wp_sub, wp_mul, wp_fdiv, wp_mod, wp_pow, wp_cmpI, wp_ixd, wp_ixr, wp_setIx, flowK, endF, loopE, truthM, truth, Ip.isNone, ditems, dits, List.length_cons, List.length_nil, List.map_cons, List.map_nil, List.replicate, List.getElem?_cons_zero, List.getElem?_cons_succ, List.nil_append, List.cons_append, List.set_cons_zero, List.set_cons_succ, if_true, Nat.sub_self, wp_lent, wp_lenl, wp_lenr, wp_sumt, wp_tupl, wp_min2, wp_max2, wp_abs, wp_int, wp_isB, wp_isI, wp_isS, wp_isT, wp_isL, isB, isI, isS, isT, isL, wp_ixl, wpNX, wpLen, Ip.wipe, Option.some.injEq, exists_eq_left', Option.map_some]
  refine ⟨by simp; omega, ?_⟩
  rw [zipIdx_range, List.map_map]
  refine wp_bind_lcM (fun v => match v with | .d (.tup [.int i, .int c]) => if 0 < c then some (.int i) else none | _ => none) ?_ (by simp; omega) ?_
  · intro x hx
    obtain ⟨i, hi, rfl⟩ := List.mem_map.mp hx
    refine Wp.eq ?_
    by_cases hc : 0 < xs.getD i 0
    · have hc' := hc
      simp only [List.getD] at hc'
      simp [lcF, exS, exSs, evE, evEs, evO, evCs, evI, evAnd, evOr, asgL, bindT, bindTs, startF, wpB, wpP, wpO, wpX, wpS, wpK, wpIte, wpOf, wp_add, wp_sub, wp_mul, wp_fdiv, wp_mod, wp_pow, wp_cmpI, wp_ixd, wp_ixr, wp_setIx, flowK, endF, loopE, truthM, truth, Ip.isNone, ditems, dits, List.length_cons, List.length_nil, List.map_cons, List.map_nil, List.replicate, List.getElem?_cons_zero, List.getElem?_cons_succ, List.nil_append, List.cons_append, List.set_cons_zero, List.set_cons_succ, if_true, Nat.sub_self, wp_lent, wp_lenl, wp_lenr, wp_sumt, wp_tupl, wp_min2, wp_max2, wp_abs, wp_int, wp_isB, wp_isI, wp_isS, wp_isT, wp_isL, isB, isI, isS, isT, isL, wp_ixl, wpNX, wpLen, Ip.wipe, Option.some.injEq, exists_eq_left', Option.map_some, ci, hc']
    · have hc' := hc
      simp only [List.getD] at hc'
      simp [lcF, exS, exSs, evE, evEs, evO, evCs, evI, evAnd, evOr, asgL, bindT, bindTs, startF, wpB, wpP, wpO, wpX, wpS, wpK, wpIte, wpOf, wp_add, wp_sub, wp_mul, wp_fdiv, wp_mod, wp_pow, wp_cmpI, wp_ixd, wp_ixr, wp_setIx, flowK, endF, loopE, truthM, truth, Ip.isNone, ditems, dits, List.length_cons, List.length_nil, List.map_cons, List.map_nil, List.replicate, List.getElem?_cons_zero, List.getElem?_cons_succ, List.nil_append, List.cons_append, List.set_cons_zero, List.set_cons_succ, if_true, Nat.sub_self, wp_lent, wp_lenl, wp_lenr, wp_sumt, wp_tupl, wp_min2, wp_max2, wp_abs, wp_int, wp_isB, wp_isI, wp_isS, wp_isT, wp_isL, isB, isI, isS, isT, isL, wp_ixl, wpNX, wpLen, Ip.wipe, Option.some.injEq, exists_eq_left', Option.map_some, ci, hc']
  · rw [List.filterMap_map]
    exact ⟨rfl, rfl⟩
theorem same_ok {k : Nat} {x : D} (ho : okD k x = true) (hk : k < n) : callF P n 10 [.d x, .d x] h = .ok (.d (.bool true)) h := same_refl (s := 10) rfl k n x h ho hk
theorem q_alone (hl' : xs.length < big) : Wp (callF P (n + 5) 14 [I xs] []) (fun v _ => v = .d (.bool true)) NE := by
  have hl : xs.length ≤ big := by omega
  have oi : okD 3 (.lst (ins xs)) = true := by unfold okD; rw [ins_ok]; simp [Nat.le_trans ins_len hl]
  have li := Nat.le_trans (ins_len (xs := xs)) hl
  have oz : okD 3 (.int xs.sum) = true := by unfold okD; rfl
  rw [wpCall rfl rfl]
  have hs : small62 (xs.length : Int) = true := by unfold big at hl; unfold small62; simp; omega
  simp only [c__law_alone_holds, b__law_alone_holds_0, exS, exSs, evE, evEs, evO, evCs, evI, evAnd, evOr, asgL, bindT, bindTs, startF, wpB, wpP, wpO, wpX, wpS, wpK, wpIte, wpOf, wp_add, wp_sub, wp_mul, wp_fdiv, wp_mod, wp_pow, wp_cmpI, wp_ixd, wp_ixr, wp_setIx, flowK, endF, loopE, truthM, truth, Ip.isNone, ditems, dits, List.length_cons, List.length_nil, List.map_cons, List.map_nil, List.replicate, List.getElem?_cons_zero, List.getElem?_cons_succ, List.nil_append, List.cons_append, List.set_cons_zero, List.set_cons_succ, if_true, Nat.sub_self, wp_lent, wp_lenl, wp_lenr, wp_sumt, wp_tupl, wp_min2, wp_max2, wp_abs, wp_int, wp_isB, wp_isI, wp_isS, wp_isT, wp_isL, isB, isI, isS, isT, isL, wp_ixl, wpNX, wpLen, Ip.wipe, Option.some.injEq, exists_eq_left', Option.map_some, hs, List.length_map]
  refine ⟨by rw [len_rng]; simpa using hl, ?_⟩
  refine wp_bind_lc (gI fun i => if 0 < xs.getD i 0 then some (.int (i : Int)) else none) ?_ (by rw [len_rng]; simpa using hl) ?_
  · intro x hx
    obtain ⟨i, hi, rfl⟩ := mem_rng hx
    have hi : i < xs.length := by simpa using hi
    refine Wp.eq ?_
    have ea := atI_int hi
    by_cases hc : 0 < xs.getD i 0
    · have hc' := hc
      simp only [List.getD] at hc' ea
      simp [lcF, exS, exSs, evE, evEs, evO, evCs, evI, evAnd, evOr, asgL, bindT, bindTs, startF, wpB, wpP, wpO, wpX, wpS, wpK, wpIte, wpOf, wp_add, wp_sub, wp_mul, wp_fdiv, wp_mod, wp_pow, wp_cmpI, wp_ixd, wp_ixr, wp_setIx, flowK, endF, loopE, truthM, truth, Ip.isNone, ditems, dits, List.length_cons, List.length_nil, List.map_cons, List.map_nil, List.replicate, List.getElem?_cons_zero, List.getElem?_cons_succ, List.nil_append, List.cons_append, List.set_cons_zero, List.set_cons_succ, if_true, Nat.sub_self, wp_lent, wp_lenl, wp_lenr, wp_sumt, wp_tupl, wp_min2, wp_max2, wp_abs, wp_int, wp_isB, wp_isI, wp_isS, wp_isT, wp_isL, isB, isI, isS, isT, isL, wp_ixl, wpNX, wpLen, Ip.wipe, Option.some.injEq, exists_eq_left', Option.map_some, ci, gI, ea, hc']
    · have hc' := hc
      simp only [List.getD] at hc' ea
      simp [lcF, exS, exSs, evE, evEs, evO, evCs, evI, evAnd, evOr, asgL, bindT, bindTs, startF, wpB, wpP, wpO, wpX, wpS, wpK, wpIte, wpOf, wp_add, wp_sub, wp_mul, wp_fdiv, wp_mod, wp_pow, wp_cmpI, wp_ixd, wp_ixr, wp_setIx, flowK, endF, loopE, truthM, truth, Ip.isNone, ditems, dits, List.length_cons, List.length_nil, List.map_cons, List.map_nil, List.replicate, List.getElem?_cons_zero, List.getElem?_cons_succ, List.nil_append, List.cons_append, List.set_cons_zero, List.set_cons_succ, if_true, Nat.sub_self, wp_lent, wp_lenl, wp_lenr, wp_sumt, wp_tupl, wp_min2, wp_max2, wp_abs, wp_int, wp_isB, wp_isI, wp_isS, wp_isT, wp_isL, isB, isI, isS, isT, isL, wp_ixl, wpNX, wpLen, Ip.wipe, Option.some.injEq, exists_eq_left', Option.map_some, ci, gI, ea, hc']
  · have ei : (rng 0 (xs.length : Int).toNat).filterMap (gI fun i => if 0 < xs.getD i 0 then some (.int (i : Int)) else none) = ins xs := by
      rw [fm_rng]; rfl
    rw [ei]
    have l2 : (ins xs).length < big := Nat.lt_of_le_of_lt ins_len hl'
    have l3 : ixN ((ins xs).length + 1) 0 = some 0 := by
      unfold ixN
      have : (0 : Int) < ((ins xs).length + 1 : Nat) := by omega
      simp [this]
    simp [b__law_alone_holds_1, b__law_alone_holds_2, b__law_alone_holds_3, b__law_alone_holds_4, b__law_alone_holds_5, exS, exSs, evE, evEs, evO, evCs, evI, evAnd, evOr, asgL, bindT, bindTs, startF, wpB, wpP, wpO, wpX, wpS, wpK, wpIte, wpOf, wp_add, wp_sub, wp_mul, wp_fdiv, wp_mod, wp_pow, wp_cmpI, wp_ixd, wp_ixr, wp_setIx, flowK, endF, loopE, truthM, truth, Ip.isNone, ditems, dits, List.length_cons, List.length_nil, List.map_cons, List.map_nil, List.replicate, List.getElem?_cons_zero, List.getElem?_cons_succ, List.nil_append, List.cons_append, List.set_cons_zero, List.set_cons_succ, if_true, Nat.sub_self, wp_lent, wp_lenl, wp_lenr, wp_sumt, wp_tupl, wp_min2, wp_max2, wp_abs, wp_int, wp_isB, wp_isI, wp_isS, wp_isT, wp_isL, isB, isI, isS, isT, isL, wp_ixl, wpNX, wpLen, Ip.wipe, Option.some.injEq, exists_eq_left', Option.map_some, q_kinds hl, wpBc, hards, hard1, grs_map, same_ok oi, scal, appendM, isLst, l2, l3, wpPc, Ip.grs, q_size, same_ok oz]
theorem wp_pw {xs ys : List Int} {m : Nat} {F : MV → M (Option MV)} {h : Hm} {Q : MV → Hm → Prop} {E : D → Hm → Prop} (op : Int → Int → Int) (h1 : xs.length = m) (h2 : ys.length = m) (hm : m ≤ big)
    (hs : ∀ i : Nat, i < m → F (.d (.int (i : Int))) h = .ok (some (.d (.int (op (xs.getD i 0) (ys.getD i 0))))) h) (q : Q (.d (.lst ((List.zipWith op xs ys).map .int))) h) :
    Wp (mapF F ((rngD 0 m).map .d) h) (fun a h' => Wp (asLst a h') Q E) NE := by
  refine wp_bind_lc (gI fun i => some (.int (op (xs.getD i 0) (ys.getD i 0)))) ?_ (by simp [len_rngD]; omega) ?_
  · intro x hx
    obtain ⟨i, hi, rfl⟩ := mem_rngD hx
    rw [hs i hi]
    simp [gI]
  · rw [fm_rngD, fm_some, range_zip op h1 h2]
    exact q
theorem le_iff {xs ys : List Int} {m : Nat} (h1 : xs.length = m) (h2 : ys.length = m) : le xs ys = true ↔ ∀ i, i < m → xs.getD i 0 ≤ ys.getD i 0 := by
  unfold le
  rw [List.all_eq_true]
  constructor
  · intro a i hi
    have := a (xs[i]'(by omega), ys[i]'(by omega)) (List.mem_of_getElem? (i := i) (by rw [List.getElem?_zip_eq_some]; simp [hi, h1, h2]))
    have hx : i < xs.length := by omega
    have hy : i < ys.length := by omega
    simpa [List.getD, List.getElem?_eq_getElem hx, List.getElem?_eq_getElem hy] using this
  · rintro a ⟨x, y⟩ hxy
    obtain ⟨i, hi, e⟩ := List.getElem_of_mem hxy
    simp at hi
    have := a i (by omega)
    simp at e
    obtain ⟨rfl, rfl⟩ := e
    have hx : i < xs.length := by omega
    have hy : i < ys.length := by omega
    simpa [List.getD, List.getElem?_eq_getElem hx, List.getElem?_eq_getElem hy] using this
/-- the places where the second has more -/
def bey (xs ys : List Int) (m : Nat) : List D := (List.range m).filterMap fun i => if xs.getD i 0 < ys.getD i 0 then some (D.int (i : Int)) else none
theorem bey_nil {xs ys : List Int} {m : Nat} (h1 : xs.length = m) (h2 : ys.length = m) : (bey xs ys m = []) ↔ le ys xs = true := by
  rw [le_iff h2 h1]
  unfold bey
  rw [List.filterMap_eq_nil_iff]
  constructor
  · intro a i hi
    have := a i (by simpa using hi)
    split at this
    · cases this
    · omega
  · intro a i hi
    have := a i (by simpa using hi)
    rw [if_neg (by omega)]
theorem q_refused (hle : le ys xs = false) : callF P (n + 5) 12 [I xs, I ys] h = .ok (.d (.tup [.tup (ys.map .int), .bool true, .bool true, .bool false])) h := by
  refine Wp.eq ?_
  rw [wpCall rfl rfl]
  simp only [c__law_refused, b__law_refused_0, exSs, exS, wpB, wpTry]
  simp only [startF, evE, evEs, exS, exSs, evE, evEs, evO, evCs, evI, evAnd, evOr, asgL, bindT, bindTs, startF, wpB, wpP, wpO, wpX, wpS, wpK, wpIte, wpOf, wp_add, wp_sub, wp_mul, wp_fdiv, wp_mod, wp_pow, wp_cmpI, wp_ixd, wp_ixr, wp_setIx, flowK, endF, loopE, truthM, truth, Ip.isNone, ditems, dits, List.length_cons, List.length_nil, List.map_cons, List.map_nil, List.replicate, List.getElem?_cons_zero, List.getElem?_cons_succ, List.nil_append, List.cons_append, List.set_cons_zero, List.set_cons_succ, if_true, Nat.sub_self, wp_lent, wp_lenl, wp_lenr, wp_sumt, wp_tupl, wp_min2, wp_max2, wp_abs, wp_int, wp_isB, wp_isI, wp_isS, wp_isT, wp_isL, isB, isI, isS, isT, isL, wp_ixl, wpNX, wpLen, Ip.wipe, Option.some.injEq, exists_eq_left', Option.map_some, wpPc]
  refine ⟨_, rfl, ?_⟩
  refine q_minusX hle ?_
  simp [tryE]
  exact ⟨by decide, _, rfl, wpP.mpr ⟨rfl, rfl⟩⟩
theorem wp_rng0 {m : Nat} {Q : MV → Hm → Prop} {E : D → Hm → Prop} (hm : m ≤ big) : Wp (rngK 0 0 (m : Int) h) Q E ↔ Q (.d (.lst (rngD 0 m))) h := by
  have : rngK 0 0 (m : Int) h = .ok (.d (.lst (rngD 0 m))) h := by
    unfold rngK
    rw [if_pos]
    · simp [M.pure]
    · unfold big at hm
      unfold small62 big
      simp; omega
  rw [this, wpO]
theorem sum_zip : ∀ {xs ys : List Int}, xs.length = ys.length → (List.zipWith (· + ·) xs ys).sum = xs.sum + ys.sum
  | [], [], _ => rfl
  | x :: xs, y :: ys, h => by
    simp only [List.zipWith_cons_cons, List.sum_cons]
    rw [sum_zip (by simpa using h)]; omega
theorem sub_zip : ∀ {xs ys : List Int}, xs.length = ys.length → List.zipWith (· - ·) (List.zipWith (· + ·) xs ys) ys = xs
  | [], [], _ => rfl
  | x :: xs, y :: ys, h => by
    simp only [List.zipWith_cons_cons]
    rw [sub_zip (by simpa using h)]; congr 1; omega
theorem le_sum {xs ys : List Int} {m : Nat} (h1 : xs.length = m) (h2 : ys.length = m) (h0 : ∀ x ∈ xs, 0 ≤ x) : le ys (List.zipWith (· + ·) xs ys) = true := by
  rw [le_iff h2 (by simp [h1, h2])]
  intro i hi
  have hx : i < xs.length := by omega
  have hy : i < ys.length := by omega
  have := h0 _ (List.getElem_mem hx)
  have hz : i < (List.zipWith (· + ·) xs ys).length := by simp; omega
  rw [List.getD, List.getD, List.getElem?_eq_getElem hz, List.getElem?_eq_getElem hy, List.getElem_zipWith]
  simp only [Option.getD_some]
  omega
theorem q_pair {m : Nat} (h1 : xs.length = m) (h2 : ys.length = m) (hm : m ≤ 1000) (h0 : ∀ x ∈ xs, 0 ≤ x) : Wp (callF P (n + 7) 13 [I xs, I ys] []) (fun v _ => v = .d (.bool true)) NE := by
  have hb : m ≤ big := by unfold big; omega
  have x1 : xs.length ≤ big := by omega
  have at1 : ∀ i : Nat, i < m → atI (xs.map D.int) (i : Int) = some (.int (xs.getD i 0)) := fun i hi => atI_int (by omega)
  have at2 : ∀ i : Nat, i < m → atI (ys.map D.int) (i : Int) = some (.int (ys.getD i 0)) := fun i hi => atI_int (by omega)
  have zl : ∀ op : Int → Int → Int, (List.zipWith op xs ys).length ≤ big := fun op => by simp; omega
  have oz : ∀ op : Int → Int → Int, okD 3 (.tup ((List.zipWith op xs ys).map .int)) = true := fun op => okD_tup (zl op)
  have ox : okD 3 (.tup (xs.map .int)) = true := okD_tup x1
  have oi : ∀ i : Int, okD 3 (.int i) = true := fun i => by unfold okD; rfl
  have ob : ∀ i : Bool, okD 3 (.bool i) = true := fun i => by unfold okD; rfl
  rw [wpCall rfl rfl]
  have sm : ∀ (x : D) (h : Hm), okD 3 x = true → callF P (n + 6) 10 [.d x, .d x] h = .ok (.d (.bool true)) h := fun x h z => same_ok z (by omega)
  simp only [c__law_pair_holds, b__law_pair_holds_0, exS, exSs, evE, evEs, evO, evCs, evI, evAnd, evOr, asgL, bindT, bindTs, startF, wpB, wpP, wpO, wpX, wpS, wpK, wpIte, wpOf, wp_add, wp_sub, wp_mul, wp_fdiv, wp_mod, wp_pow, wp_cmpI, wp_ixd, wp_ixr, wp_setIx, flowK, endF, loopE, truthM, truth, Ip.isNone, ditems, dits, List.length_cons, List.length_nil, List.map_cons, List.map_nil, List.replicate, List.getElem?_cons_zero, List.getElem?_cons_succ, List.nil_append, List.cons_append, List.set_cons_zero, List.set_cons_succ, if_true, Nat.sub_self, wp_lent, wp_lenl, wp_lenr, wp_sumt, wp_tupl, wp_min2, wp_max2, wp_abs, wp_int, wp_isB, wp_isI, wp_isS, wp_isT, wp_isL, isB, isI, isS, isT, isL, wp_ixl, wpNX, wpLen, Ip.wipe, Option.some.injEq, exists_eq_left', Option.map_some, List.length_map, h1, wp_rng0 hb]
  simp only [b__law_pair_holds_1, exS, exSs, evE, evEs, evO, evCs, evI, evAnd, evOr, asgL, bindT, bindTs, startF, wpB, wpP, wpO, wpX, wpS, wpK, wpIte, wpOf, wp_add, wp_sub, wp_mul, wp_fdiv, wp_mod, wp_pow, wp_cmpI, wp_ixd, wp_ixr, wp_setIx, flowK, endF, loopE, truthM, truth, Ip.isNone, ditems, dits, List.length_cons, List.length_nil, List.map_cons, List.map_nil, List.replicate, List.getElem?_cons_zero, List.getElem?_cons_succ, List.nil_append, List.cons_append, List.set_cons_zero, List.set_cons_succ, if_true, Nat.sub_self, wp_lent, wp_lenl, wp_lenr, wp_sumt, wp_tupl, wp_min2, wp_max2, wp_abs, wp_int, wp_isB, wp_isI, wp_isS, wp_isT, wp_isL, isB, isI, isS, isT, isL, wp_ixl, wpNX, wpLen, Ip.wipe, Option.some.injEq, exists_eq_left', Option.map_some, List.length_map]
  refine ⟨by rw [len_rngD]; exact hb, ?_⟩
  refine wp_pw (· + ·) h1 h2 hb (fun i hi => Wp.eq ?_) ?_
  · simp [lcF, exS, exSs, evE, evEs, evO, evCs, evI, evAnd, evOr, asgL, bindT, bindTs, startF, wpB, wpP, wpO, wpX, wpS, wpK, wpIte, wpOf, wp_add, wp_sub, wp_mul, wp_fdiv, wp_mod, wp_pow, wp_cmpI, wp_ixd, wp_ixr, wp_setIx, flowK, endF, loopE, truthM, truth, Ip.isNone, ditems, dits, List.length_cons, List.length_nil, List.map_cons, List.map_nil, List.replicate, List.getElem?_cons_zero, List.getElem?_cons_succ, List.nil_append, List.cons_append, List.set_cons_zero, List.set_cons_succ, if_true, Nat.sub_self, wp_lent, wp_lenl, wp_lenr, wp_sumt, wp_tupl, wp_min2, wp_max2, wp_abs, wp_int, wp_isB, wp_isI, wp_isS, wp_isT, wp_isL, isB, isI, isS, isT, isL, wp_ixl, wpNX, wpLen, Ip.wipe, Option.some.injEq, exists_eq_left', Option.map_some, at1 i hi, at2 i hi]
  simp only [exS, exSs, evE, evEs, evO, evCs, evI, evAnd, evOr, asgL, bindT, bindTs, startF, wpB, wpP, wpO, wpX, wpS, wpK, wpIte, wpOf, wp_add, wp_sub, wp_mul, wp_fdiv, wp_mod, wp_pow, wp_cmpI, wp_ixd, wp_ixr, wp_setIx, flowK, endF, loopE, truthM, truth, Ip.isNone, ditems, dits, List.length_cons, List.length_nil, List.map_cons, List.map_nil, List.replicate, List.getElem?_cons_zero, List.getElem?_cons_succ, List.nil_append, List.cons_append, List.set_cons_zero, List.set_cons_succ, if_true, Nat.sub_self, wp_lent, wp_lenl, wp_lenr, wp_sumt, wp_tupl, wp_min2, wp_max2, wp_abs, wp_int, wp_isB, wp_isI, wp_isS, wp_isT, wp_isL, isB, isI, isS, isT, isL, wp_ixl, wpNX, wpLen, Ip.wipe, Option.some.injEq, exists_eq_left', Option.map_some]
  simp [-List.map_zipWith, b__law_pair_holds_2, exS, exSs, evE, evEs, evO, evCs, evI, evAnd, evOr, asgL, bindT, bindTs, startF, wpB, wpP, wpO, wpX, wpS, wpK, wpIte, wpOf, wp_add, wp_sub, wp_mul, wp_fdiv, wp_mod, wp_pow, wp_cmpI, wp_ixd, wp_ixr, wp_setIx, flowK, endF, loopE, truthM, truth, Ip.isNone, ditems, dits, List.length_cons, List.length_nil, List.map_cons, List.map_nil, List.replicate, List.getElem?_cons_zero, List.getElem?_cons_succ, List.nil_append, List.cons_append, List.set_cons_zero, List.set_cons_succ, if_true, Nat.sub_self, wp_lent, wp_lenl, wp_lenr, wp_sumt, wp_tupl, wp_min2, wp_max2, wp_abs, wp_int, wp_isB, wp_isI, wp_isS, wp_isT, wp_isL, isB, isI, isS, isT, isL, wp_ixl, wpNX, wpLen, Ip.wipe, Option.some.injEq, exists_eq_left', Option.map_some, wpPc, Ip.grs, q_plus x1, hard1, sm _ _ (oz _)]
  simp [-List.map_zipWith, b__law_pair_holds_3, exS, exSs, evE, evEs, evO, evCs, evI, evAnd, evOr, asgL, bindT, bindTs, startF, wpB, wpP, wpO, wpX, wpS, wpK, wpIte, wpOf, wp_add, wp_sub, wp_mul, wp_fdiv, wp_mod, wp_pow, wp_cmpI, wp_ixd, wp_ixr, wp_setIx, flowK, endF, loopE, truthM, truth, Ip.isNone, ditems, dits, List.length_cons, List.length_nil, List.map_cons, List.map_nil, List.replicate, List.getElem?_cons_zero, List.getElem?_cons_succ, List.nil_append, List.cons_append, List.set_cons_zero, List.set_cons_succ, if_true, Nat.sub_self, wp_lent, wp_lenl, wp_lenr, wp_sumt, wp_tupl, wp_min2, wp_max2, wp_abs, wp_int, wp_isB, wp_isI, wp_isS, wp_isT, wp_isL, isB, isI, isS, isT, isL, wp_ixl, wpNX, wpLen, Ip.wipe, Option.some.injEq, exists_eq_left', Option.map_some, wpPc, Ip.grs, q_lesser x1, hard1]
  refine ⟨by rw [len_rngD]; exact hb, ?_⟩
  refine wp_pw min h1 h2 hb (fun i hi => Wp.eq ?_) ?_
  · simp [lcF, exS, exSs, evE, evEs, evO, evCs, evI, evAnd, evOr, asgL, bindT, bindTs, startF, wpB, wpP, wpO, wpX, wpS, wpK, wpIte, wpOf, wp_add, wp_sub, wp_mul, wp_fdiv, wp_mod, wp_pow, wp_cmpI, wp_ixd, wp_ixr, wp_setIx, flowK, endF, loopE, truthM, truth, Ip.isNone, ditems, dits, List.length_cons, List.length_nil, List.map_cons, List.map_nil, List.replicate, List.getElem?_cons_zero, List.getElem?_cons_succ, List.nil_append, List.cons_append, List.set_cons_zero, List.set_cons_succ, if_true, Nat.sub_self, wp_lent, wp_lenl, wp_lenr, wp_sumt, wp_tupl, wp_min2, wp_max2, wp_abs, wp_int, wp_isB, wp_isI, wp_isS, wp_isT, wp_isL, isB, isI, isS, isT, isL, wp_ixl, wpNX, wpLen, Ip.wipe, Option.some.injEq, exists_eq_left', Option.map_some, at1 i hi, at2 i hi]
  simp [-List.map_zipWith, exS, exSs, evE, evEs, evO, evCs, evI, evAnd, evOr, asgL, bindT, bindTs, startF, wpB, wpP, wpO, wpX, wpS, wpK, wpIte, wpOf, wp_add, wp_sub, wp_mul, wp_fdiv, wp_mod, wp_pow, wp_cmpI, wp_ixd, wp_ixr, wp_setIx, flowK, endF, loopE, truthM, truth, Ip.isNone, ditems, dits, List.length_cons, List.length_nil, List.map_cons, List.map_nil, List.replicate, List.getElem?_cons_zero, List.getElem?_cons_succ, List.nil_append, List.cons_append, List.set_cons_zero, List.set_cons_succ, if_true, Nat.sub_self, wp_lent, wp_lenl, wp_lenr, wp_sumt, wp_tupl, wp_min2, wp_max2, wp_abs, wp_int, wp_isB, wp_isI, wp_isS, wp_isT, wp_isL, isB, isI, isS, isT, isL, wp_ixl, wpNX, wpLen, Ip.wipe, Option.some.injEq, exists_eq_left', Option.map_some, wpPc, Ip.grs, hard1, sm _ _ (oz _)]
  simp [-List.map_zipWith, b__law_pair_holds_4, exS, exSs, evE, evEs, evO, evCs, evI, evAnd, evOr, asgL, bindT, bindTs, startF, wpB, wpP, wpO, wpX, wpS, wpK, wpIte, wpOf, wp_add, wp_sub, wp_mul, wp_fdiv, wp_mod, wp_pow, wp_cmpI, wp_ixd, wp_ixr, wp_setIx, flowK, endF, loopE, truthM, truth, Ip.isNone, ditems, dits, List.length_cons, List.length_nil, List.map_cons, List.map_nil, List.replicate, List.getElem?_cons_zero, List.getElem?_cons_succ, List.nil_append, List.cons_append, List.set_cons_zero, List.set_cons_succ, if_true, Nat.sub_self, wp_lent, wp_lenl, wp_lenr, wp_sumt, wp_tupl, wp_min2, wp_max2, wp_abs, wp_int, wp_isB, wp_isI, wp_isS, wp_isT, wp_isL, isB, isI, isS, isT, isL, wp_ixl, wpNX, wpLen, Ip.wipe, Option.some.injEq, exists_eq_left', Option.map_some, wpPc, Ip.grs, q_greater x1, hard1]
  refine ⟨by rw [len_rngD]; exact hb, ?_⟩
  refine wp_pw max h1 h2 hb (fun i hi => Wp.eq ?_) ?_
  · simp [lcF, exS, exSs, evE, evEs, evO, evCs, evI, evAnd, evOr, asgL, bindT, bindTs, startF, wpB, wpP, wpO, wpX, wpS, wpK, wpIte, wpOf, wp_add, wp_sub, wp_mul, wp_fdiv, wp_mod, wp_pow, wp_cmpI, wp_ixd, wp_ixr, wp_setIx, flowK, endF, loopE, truthM, truth, Ip.isNone, ditems, dits, List.length_cons, List.length_nil, List.map_cons, List.map_nil, List.replicate, List.getElem?_cons_zero, List.getElem?_cons_succ, List.nil_append, List.cons_append, List.set_cons_zero, List.set_cons_succ, if_true, Nat.sub_self, wp_lent, wp_lenl, wp_lenr, wp_sumt, wp_tupl, wp_min2, wp_max2, wp_abs, wp_int, wp_isB, wp_isI, wp_isS, wp_isT, wp_isL, isB, isI, isS, isT, isL, wp_ixl, wpNX, wpLen, Ip.wipe, Option.some.injEq, exists_eq_left', Option.map_some, at1 i hi, at2 i hi]
  simp [-List.map_zipWith, exS, exSs, evE, evEs, evO, evCs, evI, evAnd, evOr, asgL, bindT, bindTs, startF, wpB, wpP, wpO, wpX, wpS, wpK, wpIte, wpOf, wp_add, wp_sub, wp_mul, wp_fdiv, wp_mod, wp_pow, wp_cmpI, wp_ixd, wp_ixr, wp_setIx, flowK, endF, loopE, truthM, truth, Ip.isNone, ditems, dits, List.length_cons, List.length_nil, List.map_cons, List.map_nil, List.replicate, List.getElem?_cons_zero, List.getElem?_cons_succ, List.nil_append, List.cons_append, List.set_cons_zero, List.set_cons_succ, if_true, Nat.sub_self, wp_lent, wp_lenl, wp_lenr, wp_sumt, wp_tupl, wp_min2, wp_max2, wp_abs, wp_int, wp_isB, wp_isI, wp_isS, wp_isT, wp_isL, isB, isI, isS, isT, isL, wp_ixl, wpNX, wpLen, Ip.wipe, Option.some.injEq, exists_eq_left', Option.map_some, wpPc, Ip.grs, hard1, sm _ _ (oz _)]
  simp [-List.map_zipWith, b__law_pair_holds_5, exS, exSs, evE, evEs, evO, evCs, evI, evAnd, evOr, asgL, bindT, bindTs, startF, wpB, wpP, wpO, wpX, wpS, wpK, wpIte, wpOf, wp_add, wp_sub, wp_mul, wp_fdiv, wp_mod, wp_pow, wp_cmpI, wp_ixd, wp_ixr, wp_setIx, flowK, endF, loopE, truthM, truth, Ip.isNone, ditems, dits, List.length_cons, List.length_nil, List.map_cons, List.map_nil, List.replicate, List.getElem?_cons_zero, List.getElem?_cons_succ, List.nil_append, List.cons_append, List.set_cons_zero, List.set_cons_succ, if_true, Nat.sub_self, wp_lent, wp_lenl, wp_lenr, wp_sumt, wp_tupl, wp_min2, wp_max2, wp_abs, wp_int, wp_isB, wp_isI, wp_isS, wp_isT, wp_isL, isB, isI, isS, isT, isL, wp_ixl, wpNX, wpLen, Ip.wipe, Option.some.injEq, exists_eq_left', Option.map_some]
  refine ⟨by rw [len_rngD]; exact hb, ?_⟩
  refine wp_bind_lc (gI fun i => if xs.getD i 0 < ys.getD i 0 then some (.int (i : Int)) else none) ?_ (by simp [len_rngD]; omega) ?_
  · intro x hx
    obtain ⟨i, hi, rfl⟩ := mem_rngD hx
    refine Wp.eq ?_
    by_cases hc : xs.getD i 0 < ys.getD i 0
    · simp only [List.getD] at hc
      simp [lcF, exS, exSs, evE, evEs, evO, evCs, evI, evAnd, evOr, asgL, bindT, bindTs, startF, wpB, wpP, wpO, wpX, wpS, wpK, wpIte, wpOf, wp_add, wp_sub, wp_mul, wp_fdiv, wp_mod, wp_pow, wp_cmpI, wp_ixd, wp_ixr, wp_setIx, flowK, endF, loopE, truthM, truth, Ip.isNone, ditems, dits, List.length_cons, List.length_nil, List.map_cons, List.map_nil, List.replicate, List.getElem?_cons_zero, List.getElem?_cons_succ, List.nil_append, List.cons_append, List.set_cons_zero, List.set_cons_succ, if_true, Nat.sub_self, wp_lent, wp_lenl, wp_lenr, wp_sumt, wp_tupl, wp_min2, wp_max2, wp_abs, wp_int, wp_isB, wp_isI, wp_isS, wp_isT, wp_isL, isB, isI, isS, isT, isL, wp_ixl, wpNX, wpLen, Ip.wipe, Option.some.injEq, exists_eq_left', Option.map_some, at1 i hi, at2 i hi, ci, gI, hc]
    · simp only [List.getD] at hc
      simp [lcF, exS, exSs, evE, evEs, evO, evCs, evI, evAnd, evOr, asgL, bindT, bindTs, startF, wpB, wpP, wpO, wpX, wpS, wpK, wpIte, wpOf, wp_add, wp_sub, wp_mul, wp_fdiv, wp_mod, wp_pow, wp_cmpI, wp_ixd, wp_ixr, wp_setIx, flowK, endF, loopE, truthM, truth, Ip.isNone, ditems, dits, List.length_cons, List.length_nil, List.map_cons, List.map_nil, List.replicate, List.getElem?_cons_zero, List.getElem?_cons_succ, List.nil_append, List.cons_append, List.set_cons_zero, List.set_cons_succ, if_true, Nat.sub_self, wp_lent, wp_lenl, wp_lenr, wp_sumt, wp_tupl, wp_min2, wp_max2, wp_abs, wp_int, wp_isB, wp_isI, wp_isS, wp_isT, wp_isL, isB, isI, isS, isT, isL, wp_ixl, wpNX, wpLen, Ip.wipe, Option.some.injEq, exists_eq_left', Option.map_some, at1 i hi, at2 i hi, ci, gI, hc]
  have eb : ((rngD 0 m).map MV.d).filterMap (gI fun i => if xs.getD i 0 < ys.getD i 0 then some (.int (i : Int)) else none) = bey xs ys m := by
    rw [fm_rngD]; rfl
  rw [eb]
  have bn := bey_nil (xs := xs) (ys := ys) h1 h2
  have wz : decide (bey xs ys m = []) = le ys xs := by
    rw [Bool.eq_iff_iff, decide_eq_true_eq, bn]
  simp [-List.map_zipWith, b__law_pair_holds_6, exS, exSs, evE, evEs, evO, evCs, evI, evAnd, evOr, asgL, bindT, bindTs, startF, wpB, wpP, wpO, wpX, wpS, wpK, wpIte, wpOf, wp_add, wp_sub, wp_mul, wp_fdiv, wp_mod, wp_pow, wp_cmpI, wp_ixd, wp_ixr, wp_setIx, flowK, endF, loopE, truthM, truth, Ip.isNone, ditems, dits, List.length_cons, List.length_nil, List.map_cons, List.map_nil, List.replicate, List.getElem?_cons_zero, List.getElem?_cons_succ, List.nil_append, List.cons_append, List.set_cons_zero, List.set_cons_succ, if_true, Nat.sub_self, wp_lent, wp_lenl, wp_lenr, wp_sumt, wp_tupl, wp_min2, wp_max2, wp_abs, wp_int, wp_isB, wp_isI, wp_isS, wp_isT, wp_isL, isB, isI, isS, isT, isL, wp_ixl, wpNX, wpLen, Ip.wipe, Option.some.injEq, exists_eq_left', Option.map_some, wpPc, Ip.grs, hard1, q_within, ci, wz, sm _ _ (ob _)]
  have x2 : (List.zipWith (· + ·) xs ys).length ≤ big := zl _
  have fin : Wp (exSs P (callF P (n + 6)) [some (I xs), some (I ys), some (.d (.lst (rngD 0 m))), some (.d (.tup ((List.zipWith (· + ·) xs ys).map .int))), some (.d (.lst (bey xs ys m))), none] b__law_pair_holds_8 []) (endF fun v _ => v = .d (.bool true)) NE := by
    have hd := le_sum h1 h2 h0
    have hs : List.zipWith (· - ·) (List.zipWith (· + ·) xs ys) ys = xs := sub_zip (by omega)
    have hz := sum_zip (xs := xs) (ys := ys) (by omega)
    have qm : callF P (n + 6) 3 [.d (.tup ((List.zipWith (· + ·) xs ys).map .int)), I ys] [] = .ok (I xs) [] := by
      have := q_minus (n := n + 4) (h := []) x2 hd
      rw [hs] at this
      exact this
    have qs : callF P (n + 6) 0 [.d (.tup ((List.zipWith (· + ·) xs ys).map .int))] [] = .ok (.d (.int (xs.sum + ys.sum))) [] := by
      rw [← hz]; exact q_size
    simp [-List.map_zipWith, b__law_pair_holds_8, exS, exSs, evE, evEs, evO, evCs, evI, evAnd, evOr, asgL, bindT, bindTs, startF, wpB, wpP, wpO, wpX, wpS, wpK, wpIte, wpOf, wp_add, wp_sub, wp_mul, wp_fdiv, wp_mod, wp_pow, wp_cmpI, wp_ixd, wp_ixr, wp_setIx, flowK, endF, loopE, truthM, truth, Ip.isNone, ditems, dits, List.length_cons, List.length_nil, List.map_cons, List.map_nil, List.replicate, List.getElem?_cons_zero, List.getElem?_cons_succ, List.nil_append, List.cons_append, List.set_cons_zero, List.set_cons_succ, if_true, Nat.sub_self, wp_lent, wp_lenl, wp_lenr, wp_sumt, wp_tupl, wp_min2, wp_max2, wp_abs, wp_int, wp_isB, wp_isI, wp_isS, wp_isT, wp_isL, isB, isI, isS, isT, isL, wp_ixl, wpNX, wpLen, Ip.wipe, Option.some.injEq, exists_eq_left', Option.map_some, wpPc, Ip.grs, hard1, qm, sm _ _ ox]
    simp [-List.map_zipWith, b__law_pair_holds_9, exS, exSs, evE, evEs, evO, evCs, evI, evAnd, evOr, asgL, bindT, bindTs, startF, wpB, wpP, wpO, wpX, wpS, wpK, wpIte, wpOf, wp_add, wp_sub, wp_mul, wp_fdiv, wp_mod, wp_pow, wp_cmpI, wp_ixd, wp_ixr, wp_setIx, flowK, endF, loopE, truthM, truth, Ip.isNone, ditems, dits, List.length_cons, List.length_nil, List.map_cons, List.map_nil, List.replicate, List.getElem?_cons_zero, List.getElem?_cons_succ, List.nil_append, List.cons_append, List.set_cons_zero, List.set_cons_succ, if_true, Nat.sub_self, wp_lent, wp_lenl, wp_lenr, wp_sumt, wp_tupl, wp_min2, wp_max2, wp_abs, wp_int, wp_isB, wp_isI, wp_isS, wp_isT, wp_isL, isB, isI, isS, isT, isL, wp_ixl, wpNX, wpLen, Ip.wipe, Option.some.injEq, exists_eq_left', Option.map_some, wpPc, Ip.grs, hard1, qs, sm _ _ (oi _)]
  by_cases hle : le ys xs = true
  · have hn : bey xs ys m = [] := bn.mpr hle
    simp [-List.map_zipWith, b__law_pair_holds_7, exS, exSs, evE, evEs, evO, evCs, evI, evAnd, evOr, asgL, bindT, bindTs, startF, wpB, wpP, wpO, wpX, wpS, wpK, wpIte, wpOf, wp_add, wp_sub, wp_mul, wp_fdiv, wp_mod, wp_pow, wp_cmpI, wp_ixd, wp_ixr, wp_setIx, flowK, endF, loopE, truthM, truth, Ip.isNone, ditems, dits, List.length_cons, List.length_nil, List.map_cons, List.map_nil, List.replicate, List.getElem?_cons_zero, List.getElem?_cons_succ, List.nil_append, List.cons_append, List.set_cons_zero, List.set_cons_succ, if_true, Nat.sub_self, wp_lent, wp_lenl, wp_lenr, wp_sumt, wp_tupl, wp_min2, wp_max2, wp_abs, wp_int, wp_isB, wp_isI, wp_isS, wp_isT, wp_isL, isB, isI, isS, isT, isL, wp_ixl, wpNX, wpLen, Ip.wipe, Option.some.injEq, exists_eq_left', Option.map_some, wpPc, Ip.grs, hard1, hn, ci, q_minus x1 hle]
    rw [hn] at fin
    refine ⟨by rw [len_rngD]; exact hb, ?_⟩
    refine wp_pw (· - ·) h1 h2 hb (fun i hi => Wp.eq ?_) ?_
    · simp [lcF, exS, exSs, evE, evEs, evO, evCs, evI, evAnd, evOr, asgL, bindT, bindTs, startF, wpB, wpP, wpO, wpX, wpS, wpK, wpIte, wpOf, wp_add, wp_sub, wp_mul, wp_fdiv, wp_mod, wp_pow, wp_cmpI, wp_ixd, wp_ixr, wp_setIx, flowK, endF, loopE, truthM, truth, Ip.isNone, ditems, dits, List.length_cons, List.length_nil, List.map_cons, List.map_nil, List.replicate, List.getElem?_cons_zero, List.getElem?_cons_succ, List.nil_append, List.cons_append, List.set_cons_zero, List.set_cons_succ, if_true, Nat.sub_self, wp_lent, wp_lenl, wp_lenr, wp_sumt, wp_tupl, wp_min2, wp_max2, wp_abs, wp_int, wp_isB, wp_isI, wp_isS, wp_isT, wp_isL, isB, isI, isS, isT, isL, wp_ixl, wpNX, wpLen, Ip.wipe, Option.some.injEq, exists_eq_left', Option.map_some, at1 i hi, at2 i hi]
    simp [-List.map_zipWith, exS, exSs, evE, evEs, evO, evCs, evI, evAnd, evOr, asgL, bindT, bindTs, startF, wpB, wpP, wpO, wpX, wpS, wpK, wpIte, wpOf, wp_add, wp_sub, wp_mul, wp_fdiv, wp_mod, wp_pow, wp_cmpI, wp_ixd, wp_ixr, wp_setIx, flowK, endF, loopE, truthM, truth, Ip.isNone, ditems, dits, List.length_cons, List.length_nil, List.map_cons, List.map_nil, List.replicate, List.getElem?_cons_zero, List.getElem?_cons_succ, List.nil_append, List.cons_append, List.set_cons_zero, List.set_cons_succ, if_true, Nat.sub_self, wp_lent, wp_lenl, wp_lenr, wp_sumt, wp_tupl, wp_min2, wp_max2, wp_abs, wp_int, wp_isB, wp_isI, wp_isS, wp_isT, wp_isL, isB, isI, isS, isT, isL, wp_ixl, wpNX, wpLen, Ip.wipe, Option.some.injEq, exists_eq_left', Option.map_some, wpPc, Ip.grs, hard1, sm _ _ (oz _)]
    exact fin
  · have hf : le ys xs = false := by simpa using hle
    have hn : 0 < (bey xs ys m).length := by
      rcases Nat.eq_zero_or_pos (bey xs ys m).length with z | z
      · exact absurd (bn.mp (List.eq_nil_of_length_eq_zero z)) hle
      · exact z
    have ot : okD 3 (.tup [.tup (ys.map .int), .bool true, .bool true, .bool false]) = true := by
      have : okD 2 (.tup (ys.map .int)) = true := okD_tup (by omega)
      unfold okD
      have l2 : ys.length ≤ big := by omega
      simp [okDs, okD, big, okDs_int]
      unfold big at l2
      exact l2
    have hbg : (4 : Nat) ≤ big := by decide
    simp [-List.map_zipWith, b__law_pair_holds_7, exS, exSs, evE, evEs, evO, evCs, evI, evAnd, evOr, asgL, bindT, bindTs, startF, wpB, wpP, wpO, wpX, wpS, wpK, wpIte, wpOf, wp_add, wp_sub, wp_mul, wp_fdiv, wp_mod, wp_pow, wp_cmpI, wp_ixd, wp_ixr, wp_setIx, flowK, endF, loopE, truthM, truth, Ip.isNone, ditems, dits, List.length_cons, List.length_nil, List.map_cons, List.map_nil, List.replicate, List.getElem?_cons_zero, List.getElem?_cons_succ, List.nil_append, List.cons_append, List.set_cons_zero, List.set_cons_succ, if_true, Nat.sub_self, wp_lent, wp_lenl, wp_lenr, wp_sumt, wp_tupl, wp_min2, wp_max2, wp_abs, wp_int, wp_isB, wp_isI, wp_isS, wp_isT, wp_isL, isB, isI, isS, isT, isL, wp_ixl, wpNX, wpLen, Ip.wipe, Option.some.injEq, exists_eq_left', Option.map_some, wpPc, Ip.grs, hard1, hn, ci, q_refused hf, wp_asTup, hbg, sm _ _ ot]
    exact fin
end
end K00

namespace Ip
theorem log_ok {m : Int} (h0 : 0 < m) (h1 : m < 2 ^ 80) : m.natAbs.log2 < 9000 := by
  have : m.natAbs.log2 < 80 := (Nat.log2_lt (by omega)).mpr (by omega)
  omega
theorem PoolK.mono {p a b : Nat} {h : Hm} (q : PoolK p a h) (l : a ≤ b) : PoolK p b h := by
  obtain ⟨x, y, z, h1, h2, h3, h4⟩ := q
  exact ⟨x, y, z, h1, h2, by omega, h4⟩
theorem pc_of {P : Prog} {n f : Nat} {ds : List D} {x : D} {h : Hm} (w : Wp (callF P n f (ds.map .d) []) (fun v _ => v = .d x) NE) : pcall (callF P n) f (ds.map .d) h = .ok (.d x) h := by
  refine Wp.eq ?_
  rw [wpPc]
  refine ⟨ds, grs_map ds, w.mono (fun v h' e => ?_) fun _ _ z => z.elim⟩
  subst e
  exact ⟨x, rfl, rfl, rfl⟩
end Ip
namespace K00
open Ip
open PySem (Str)
section
variable {n : Nat} {xs ys : List Int} {h : Hm}
theorem q_count {p c : Nat} (hp : PoolK p c h) (hc : c + 4 < 2 ^ 60) : Wp (callF P (n + 3) 11 [.ref p] h) (fun v h' => ∃ r : Int, v = .d (.int r) ∧ 0 ≤ r ∧ r < 10 ^ 20 ∧ PoolK p (c + 4) h') NE := by
  rw [wpCall rfl rfl]
  simp only [c__law_count, b__law_count_0, exS, exSs, evE, evEs, evO, evCs, evI, evAnd, evOr, asgL, bindT, bindTs, startF, wpB, wpP, wpO, wpX, wpS, wpK, wpIte, wpOf, wp_add, wp_sub, wp_mul, wp_fdiv, wp_mod, wp_pow, wp_cmpI, wp_ixd, wp_ixr, wp_setIx, flowK, endF, loopE, truthM, truth, Ip.isNone, ditems, dits, List.length_cons, List.length_nil, List.map_cons, List.map_nil, List.replicate, List.getElem?_cons_zero, List.getElem?_cons_succ, List.nil_append, List.cons_append, List.set_cons_zero, List.set_cons_succ, if_true, Nat.sub_self, wp_lent, wp_lenl, wp_lenr, wp_sumt, wp_tupl, wp_min2, wp_max2, wp_abs, wp_int, wp_isB, wp_isI, wp_isS, wp_isT, wp_isL, isB, isI, isS, isT, isL, wp_ixl, wpNX, wpLen, Ip.wipe, Option.some.injEq, exists_eq_left', Option.map_some]
  refine (wp_draw rfl hp (by omega) (by decide) (by decide +kernel)).to ?_
  rintro _ h1 ⟨r, rfl, r0, r1, hp1, _⟩
  by_cases hr : 0 < r
  · simp [exS, exSs, evE, evEs, evO, evCs, evI, evAnd, evOr, asgL, bindT, bindTs, startF, wpB, wpP, wpO, wpX, wpS, wpK, wpIte, wpOf, wp_add, wp_sub, wp_mul, wp_fdiv, wp_mod, wp_pow, wp_cmpI, wp_ixd, wp_ixr, wp_setIx, flowK, endF, loopE, truthM, truth, Ip.isNone, ditems, dits, List.length_cons, List.length_nil, List.map_cons, List.map_nil, List.replicate, List.getElem?_cons_zero, List.getElem?_cons_succ, List.nil_append, List.cons_append, List.set_cons_zero, List.set_cons_succ, if_true, Nat.sub_self, wp_lent, wp_lenl, wp_lenr, wp_sumt, wp_tupl, wp_min2, wp_max2, wp_abs, wp_int, wp_isB, wp_isI, wp_isS, wp_isT, wp_isL, isB, isI, isS, isT, isL, wp_ixl, wpNX, wpLen, Ip.wipe, Option.some.injEq, exists_eq_left', Option.map_some, ci, hr]
    refine (wp_draw rfl hp1 (by omega) (by decide) (by decide +kernel)).to ?_
    rintro _ h2 ⟨r2, rfl, r20, r21, hp2, _⟩
    simp [exS, exSs, evE, evEs, evO, evCs, evI, evAnd, evOr, asgL, bindT, bindTs, startF, wpB, wpP, wpO, wpX, wpS, wpK, wpIte, wpOf, wp_add, wp_sub, wp_mul, wp_fdiv, wp_mod, wp_pow, wp_cmpI, wp_ixd, wp_ixr, wp_setIx, flowK, endF, loopE, truthM, truth, Ip.isNone, ditems, dits, List.length_cons, List.length_nil, List.map_cons, List.map_nil, List.replicate, List.getElem?_cons_zero, List.getElem?_cons_succ, List.nil_append, List.cons_append, List.set_cons_zero, List.set_cons_succ, if_true, Nat.sub_self, wp_lent, wp_lenl, wp_lenr, wp_sumt, wp_tupl, wp_min2, wp_max2, wp_abs, wp_int, wp_isB, wp_isI, wp_isS, wp_isT, wp_isL, isB, isI, isS, isT, isL, wp_ixl, wpNX, wpLen, Ip.wipe, Option.some.injEq, exists_eq_left', Option.map_some]
    exact ⟨r20, by omega, hp2.mono (by omega)⟩
  · simp [exS, exSs, evE, evEs, evO, evCs, evI, evAnd, evOr, asgL, bindT, bindTs, startF, wpB, wpP, wpO, wpX, wpS, wpK, wpIte, wpOf, wp_add, wp_sub, wp_mul, wp_fdiv, wp_mod, wp_pow, wp_cmpI, wp_ixd, wp_ixr, wp_setIx, flowK, endF, loopE, truthM, truth, Ip.isNone, ditems, dits, List.length_cons, List.length_nil, List.map_cons, List.map_nil, List.replicate, List.getElem?_cons_zero, List.getElem?_cons_succ, List.nil_append, List.cons_append, List.set_cons_zero, List.set_cons_succ, if_true, Nat.sub_self, wp_lent, wp_lenl, wp_lenr, wp_sumt, wp_tupl, wp_min2, wp_max2, wp_abs, wp_int, wp_isB, wp_isI, wp_isS, wp_isT, wp_isL, isB, isI, isS, isT, isL, wp_ixl, wpNX, wpLen, Ip.wipe, Option.some.injEq, exists_eq_left', Option.map_some, ci, hr]
    simp [b__law_count_1, exS, exSs, evE, evEs, evO, evCs, evI, evAnd, evOr, asgL, bindT, bindTs, startF, wpB, wpP, wpO, wpX, wpS, wpK, wpIte, wpOf, wp_add, wp_sub, wp_mul, wp_fdiv, wp_mod, wp_pow, wp_cmpI, wp_ixd, wp_ixr, wp_setIx, flowK, endF, loopE, truthM, truth, Ip.isNone, ditems, dits, List.length_cons, List.length_nil, List.map_cons, List.map_nil, List.replicate, List.getElem?_cons_zero, List.getElem?_cons_succ, List.nil_append, List.cons_append, List.set_cons_zero, List.set_cons_succ, if_true, Nat.sub_self, wp_lent, wp_lenl, wp_lenr, wp_sumt, wp_tupl, wp_min2, wp_max2, wp_abs, wp_int, wp_isB, wp_isI, wp_isS, wp_isT, wp_isL, isB, isI, isS, isT, isL, wp_ixl, wpNX, wpLen, Ip.wipe, Option.some.injEq, exists_eq_left', Option.map_some]
    refine (wp_draw rfl hp1 (by omega) (by decide) (by decide +kernel)).to ?_
    rintro _ h2 ⟨a, rfl, a0, a1, hp2, _⟩
    simp [b__law_count_2, exS, exSs, evE, evEs, evO, evCs, evI, evAnd, evOr, asgL, bindT, bindTs, startF, wpB, wpP, wpO, wpX, wpS, wpK, wpIte, wpOf, wp_add, wp_sub, wp_mul, wp_fdiv, wp_mod, wp_pow, wp_cmpI, wp_ixd, wp_ixr, wp_setIx, flowK, endF, loopE, truthM, truth, Ip.isNone, ditems, dits, List.length_cons, List.length_nil, List.map_cons, List.map_nil, List.replicate, List.getElem?_cons_zero, List.getElem?_cons_succ, List.nil_append, List.cons_append, List.set_cons_zero, List.set_cons_succ, if_true, Nat.sub_self, wp_lent, wp_lenl, wp_lenr, wp_sumt, wp_tupl, wp_min2, wp_max2, wp_abs, wp_int, wp_isB, wp_isI, wp_isS, wp_isT, wp_isL, isB, isI, isS, isT, isL, wp_ixl, wpNX, wpLen, Ip.wipe, Option.some.injEq, exists_eq_left', Option.map_some]
    refine (wp_draw rfl hp2 (by omega) (by decide) (by decide +kernel)).to ?_
    rintro _ h3 ⟨b, rfl, b0, b1, hp3, _⟩
    simp [b__law_count_3, exS, exSs, evE, evEs, evO, evCs, evI, evAnd, evOr, asgL, bindT, bindTs, startF, wpB, wpP, wpO, wpX, wpS, wpK, wpIte, wpOf, wp_add, wp_sub, wp_mul, wp_fdiv, wp_mod, wp_pow, wp_cmpI, wp_ixd, wp_ixr, wp_setIx, flowK, endF, loopE, truthM, truth, Ip.isNone, ditems, dits, List.length_cons, List.length_nil, List.map_cons, List.map_nil, List.replicate, List.getElem?_cons_zero, List.getElem?_cons_succ, List.nil_append, List.cons_append, List.set_cons_zero, List.set_cons_succ, if_true, Nat.sub_self, wp_lent, wp_lenl, wp_lenr, wp_sumt, wp_tupl, wp_min2, wp_max2, wp_abs, wp_int, wp_isB, wp_isI, wp_isS, wp_isT, wp_isL, isB, isI, isS, isT, isL, wp_ixl, wpNX, wpLen, Ip.wipe, Option.some.injEq, exists_eq_left', Option.map_some]
    refine (wp_draw rfl hp3 (by omega) (by decide) (by decide +kernel)).to ?_
    rintro _ h4 ⟨d, rfl, d0, d1, hp4, _⟩
    simp [b__law_count_4, exS, exSs, evE, evEs, evO, evCs, evI, evAnd, evOr, asgL, bindT, bindTs, startF, wpB, wpP, wpO, wpX, wpS, wpK, wpIte, wpOf, wp_add, wp_sub, wp_mul, wp_fdiv, wp_mod, wp_pow, wp_cmpI, wp_ixd, wp_ixr, wp_setIx, flowK, endF, loopE, truthM, truth, Ip.isNone, ditems, dits, List.length_cons, List.length_nil, List.map_cons, List.map_nil, List.replicate, List.getElem?_cons_zero, List.getElem?_cons_succ, List.nil_append, List.cons_append, List.set_cons_zero, List.set_cons_succ, if_true, Nat.sub_self, wp_lent, wp_lenl, wp_lenr, wp_sumt, wp_tupl, wp_min2, wp_max2, wp_abs, wp_int, wp_isB, wp_isI, wp_isS, wp_isT, wp_isL, isB, isI, isS, isT, isL, wp_ixl, wpNX, wpLen, Ip.wipe, Option.some.injEq, exists_eq_left', Option.map_some]
    exact ⟨mulOk_r (by decide), mulOk_r (by decide), by omega, by omega, hp4⟩
theorem q_more {k : Int} (hl : xs.length ≤ 1000) (h0 : ∀ x ∈ xs, 0 ≤ x) (k0 : 0 ≤ k) (k1 : k < xs.length) : ∃ ws : List Int, ws.length = xs.length ∧ (∀ x ∈ ws, 0 ≤ x) ∧ callF P (n + 1) 9 [I xs, .d (.int k)] h = .ok (I ws) h := by
  obtain ⟨i, rfl⟩ := Int.eq_ofNat_of_zero_le k0
  have hi : i < xs.length := by omega
  refine ⟨xs.take i ++ [xs.getD i 0 + 1] ++ xs.drop (i + 1), by simp; omega, ?_, Wp.eq ?_⟩
  · intro x hx
    simp only [List.mem_append, List.mem_singleton] at hx
    rcases hx with (hx | hx) | hx
    · exact h0 x (List.mem_of_mem_take hx)
    · have := h0 _ (List.getElem_mem hi)
      simp only [List.getD, List.getElem?_eq_getElem hi, Option.getD_some] at hx
      omega
    · exact h0 x (List.mem_of_mem_drop hx)
  · rw [wpCall rfl rfl]
    have n0 : ¬ (i : Int) < 0 := by omega
    have n1 : ¬ (i : Int) + 1 < 0 := by omega
    have m0 : min i xs.length = i := by omega
    have m1 : min (i + 1) xs.length = i + 1 := by omega
    have e1 : cut (xs.map D.int) none (some (i : Int)) = (xs.map D.int).take i := by
      unfold cut sIx
      simp only [n0, if_false, Int.toNat_natCast, List.length_map, m0, List.drop_zero, Nat.sub_zero]
    have e2 : cut (xs.map D.int) (some ((i : Int) + 1)) none = (xs.map D.int).drop (i + 1) := by
      unfold cut sIx
      simp only [n1, if_false, List.length_map, show ((i : Int) + 1).toNat = i + 1 by omega, m1]
      exact List.take_of_length_le (by simp)
    simp [c__law_more, b__law_more_0, exS, exSs, evE, evEs, evO, evCs, evI, evAnd, evOr, asgL, bindT, bindTs, startF, wpB, wpP, wpO, wpX, wpS, wpK, wpIte, wpOf, wp_add, wp_sub, wp_mul, wp_fdiv, wp_mod, wp_pow, wp_cmpI, wp_ixd, wp_ixr, wp_setIx, flowK, endF, loopE, truthM, truth, Ip.isNone, ditems, dits, List.length_cons, List.length_nil, List.map_cons, List.map_nil, List.replicate, List.getElem?_cons_zero, List.getElem?_cons_succ, List.nil_append, List.cons_append, List.set_cons_zero, List.set_cons_succ, if_true, Nat.sub_self, wp_lent, wp_lenl, wp_lenr, wp_sumt, wp_tupl, wp_min2, wp_max2, wp_abs, wp_int, wp_isB, wp_isI, wp_isS, wp_isT, wp_isL, isB, isI, isS, isT, isL, wp_ixl, wpNX, wpLen, Ip.wipe, Option.some.injEq, exists_eq_left', Option.map_some, slice, e1, e2, atI_int hi, wp_asTup, wp_addT, Ip.grs]
    refine ⟨by unfold big; omega, by unfold big; omega, by unfold big; omega⟩
end
end K00

namespace Ip
/-- a comprehension whose items are drawn -/
theorem wp_drawn {F : MV → M (Option MV)} {xs : List MV} {k c p s : Nat} {b : Int} {h : Hm} {Q : MV → Hm → Prop} {E : D → Hm → Prop} (hk : xs.length = k) (hk2 : k ≤ big) (hp : PoolK p c h)
    (hF : ∀ (i : Nat) (x : MV) (c' : Nat) (h' : Hm), xs[i]? = some x → c' ≤ c + s * k → PoolK p c' h' → Wp (F x h') (fun o h'' => ∃ r : Int, o = some (.d (.int r)) ∧ 0 ≤ r ∧ r < b ∧ PoolK p (c' + s) h'') NE)
    (hq : ∀ (zs : List Int) h', zs.length = k → (∀ z ∈ zs, 0 ≤ z ∧ z < b) → PoolK p (c + s * k) h' → Q (.d (.lst (zs.map .int))) h') : Wp (mapF F xs h) (fun a h' => Wp (asLst a h') Q E) NE := by
  refine wp_mapF (fun i acc h' => i ≤ k ∧ ∃ zs : List Int, acc = (zs.map D.int).map .d ∧ zs.length = i ∧ (∀ z ∈ zs, 0 ≤ z ∧ z < b) ∧ PoolK p (c + s * i) h') ⟨Nat.zero_le _, [], rfl, rfl, by simp, by simpa using hp⟩ ?_ ?_
  · rintro i x acc h' hx ⟨hi, zs, rfl, hl, hz, hp'⟩
    have hi2 : i < k := by rw [← hk]; exact (List.getElem?_eq_some_iff.mp hx).1
    have hs : s * i ≤ s * k := Nat.mul_le_mul_left _ hi
    refine (hF i x _ h' hx (by omega) hp').mono ?_ fun _ _ z => z
    rintro _ h'' ⟨r, rfl, r0, r1, hp''⟩
    refine ⟨hi2, zs ++ [r], by simp, by simp [hl], ?_, by rw [Nat.mul_succ, ← Nat.add_assoc]; exact hp''⟩
    intro z hz'
    rcases List.mem_append.mp hz' with q | q
    · exact hz z q
    · rw [List.mem_singleton.mp q]; exact ⟨r0, r1⟩
  · rintro acc h' ⟨_, zs, rfl, hl, hz, hp'⟩
    rw [wp_asLst]
    refine ⟨_, grs_map _, by simp; omega, hq zs h' (by omega) hz (by rw [hk] at hp'; exact hp')⟩
end Ip
namespace K00
open Ip
open PySem (Str)
section
variable {n : Nat} {xs ys : List Int} {h : Hm}
theorem pc_pair (h1 : xs.length = ys.length) (hm : xs.length ≤ 1000) (h0 : ∀ x ∈ xs, 0 ≤ x) : pcall (callF P (n + 7)) 13 [I xs, I ys] h = .ok (.d (.bool true)) h :=
  pc_of (ds := [.tup (xs.map .int), .tup (ys.map .int)]) (q_pair rfl h1.symm hm h0)
theorem pc_alone (hm : xs.length ≤ 1000) : pcall (callF P (n + 7)) 14 [I xs] h = .ok (.d (.bool true)) h :=
  pc_of (ds := [.tup (xs.map .int)]) (q_alone (n := n + 2) (by unfold big; omega))
abbrev fin (v : MV) (_ : Hm) : Prop := v = .d (.bool true)
/-- behind the drawing -/
theorem l_end {ws : List Int} {s p kd a b : Option MV} {u x9 x10 : Option MV} {k : Nat} (hx : xs.length = k) (hy : ys.length = k) (hw : ws.length = k) (hk : k ≤ 1000) (x0 : ∀ x ∈ xs, 0 ≤ x) (y0 : ∀ x ∈ ys, 0 ≤ x) (w0 : ∀ x ∈ ws, 0 ≤ x) :
    Wp (exSs P (callF P (n + 7)) [s, p, kd, some (I xs), some (I ys), some (I ws), a, b, u, x9, x10] b_law_6 h) (endF fin) NE := by
  have e1 := pc_pair (n := n) (h := h) (xs := xs) (ys := ys) (by omega) (by omega) x0
  have e2 := pc_pair (n := n) (h := h) (xs := ys) (ys := xs) (by omega) (by omega) y0
  have e3 := pc_pair (n := n) (h := h) (xs := xs) (ys := ws) (by omega) (by omega) x0
  have e4 := pc_pair (n := n) (h := h) (xs := ws) (ys := xs) (by omega) (by omega) w0
  have e5 := pc_pair (n := n) (h := h) (xs := xs) (ys := xs) (by omega) (by omega) x0
  have a1 := pc_alone (n := n) (h := h) (xs := xs) (by omega)
  have a2 := pc_alone (n := n) (h := h) (xs := ys) (by omega)
  have a3 := pc_alone (n := n) (h := h) (xs := ws) (by omega)
  have l2 : (2 : Nat) ≤ big := by decide
  have l5 : (5 : Nat) ≤ big := by decide
  have l3 : (3 : Nat) ≤ big := by decide
  simp [b_law_6, exS, exSs, evE, evEs, evO, evCs, evI, evAnd, evOr, asgL, bindT, bindTs, startF, wpB, wpP, wpO, wpX, wpS, wpK, wpIte, wpOf, wp_add, wp_sub, wp_mul, wp_fdiv, wp_mod, wp_pow, wp_cmpI, wp_ixd, wp_ixr, wp_setIx, flowK, endF, loopE, truthM, truth, Ip.isNone, ditems, dits, List.length_cons, List.length_nil, List.map_cons, List.map_nil, List.replicate, List.getElem?_cons_zero, List.getElem?_cons_succ, List.nil_append, List.cons_append, List.set_cons_zero, List.set_cons_succ, if_true, Nat.sub_self, wp_lent, wp_lenl, wp_lenr, wp_sumt, wp_tupl, wp_min2, wp_max2, wp_abs, wp_int, wp_isB, wp_isI, wp_isS, wp_isT, wp_isL, isB, isI, isS, isT, isL, wp_ixl, wpNX, wpLen, Ip.wipe, Option.some.injEq, exists_eq_left', Option.map_some, wp_asTup, wp_asLst, Ip.grs, l2, l3, l5, forL, loopK, w1_law_0, e1, e2, e3, e4, e5]
  simp [b_law_7, exS, exSs, evE, evEs, evO, evCs, evI, evAnd, evOr, asgL, bindT, bindTs, startF, wpB, wpP, wpO, wpX, wpS, wpK, wpIte, wpOf, wp_add, wp_sub, wp_mul, wp_fdiv, wp_mod, wp_pow, wp_cmpI, wp_ixd, wp_ixr, wp_setIx, flowK, endF, loopE, truthM, truth, Ip.isNone, ditems, dits, List.length_cons, List.length_nil, List.map_cons, List.map_nil, List.replicate, List.getElem?_cons_zero, List.getElem?_cons_succ, List.nil_append, List.cons_append, List.set_cons_zero, List.set_cons_succ, if_true, Nat.sub_self, wp_lent, wp_lenl, wp_lenr, wp_sumt, wp_tupl, wp_min2, wp_max2, wp_abs, wp_int, wp_isB, wp_isI, wp_isS, wp_isT, wp_isL, isB, isI, isS, isT, isL, wp_ixl, wpNX, wpLen, Ip.wipe, Option.some.injEq, exists_eq_left', Option.map_some, wp_asTup, wp_asLst, Ip.grs, l2, l3, l5, forL, loopK, w2_law_0, a1, a2, a3]
  simp [b_law_8, exS, exSs, evE, evEs, evO, evCs, evI, evAnd, evOr, asgL, bindT, bindTs, startF, wpB, wpP, wpO, wpX, wpS, wpK, wpIte, wpOf, wp_add, wp_sub, wp_mul, wp_fdiv, wp_mod, wp_pow, wp_cmpI, wp_ixd, wp_ixr, wp_setIx, flowK, endF, loopE, truthM, truth, Ip.isNone, ditems, dits, List.length_cons, List.length_nil, List.map_cons, List.map_nil, List.replicate, List.getElem?_cons_zero, List.getElem?_cons_succ, List.nil_append, List.cons_append, List.set_cons_zero, List.set_cons_succ, if_true, Nat.sub_self, wp_lent, wp_lenl, wp_lenr, wp_sumt, wp_tupl, wp_min2, wp_max2, wp_abs, wp_int, wp_isB, wp_isI, wp_isS, wp_isT, wp_isL, isB, isI, isS, isT, isL, wp_ixl, wpNX, wpLen, Ip.wipe, Option.some.injEq, exists_eq_left', Option.map_some, e1]
theorem l_third {s x5 x6 x7 x8 x9 x10 : Option MV} {k c : Nat} (hx : xs.length = k) (hy : ys.length = k) (hk : k ≤ 1000) (hk0 : 0 < k) (x0 : ∀ x ∈ xs, 0 ≤ x) (y0 : ∀ x ∈ ys, 0 ≤ x) (hp : PoolK 0 c h) (hc : c < 2 ^ 40) :
    Wp (exSs P (callF P (n + 7)) [s, some (.ref 0), some (.d (.int (k : Int))), some (I xs), some (I ys), x5, x6, x7, x8, x9, x10] b_law_5 h) (endF fin) NE := by
  simp [b_law_5, exS, exSs, evE, evEs, evO, evCs, evI, evAnd, evOr, asgL, bindT, bindTs, startF, wpB, wpP, wpO, wpX, wpS, wpK, wpIte, wpOf, wp_add, wp_sub, wp_mul, wp_fdiv, wp_mod, wp_pow, wp_cmpI, wp_ixd, wp_ixr, wp_setIx, flowK, endF, loopE, truthM, truth, Ip.isNone, ditems, dits, List.length_cons, List.length_nil, List.map_cons, List.map_nil, List.replicate, List.getElem?_cons_zero, List.getElem?_cons_succ, List.nil_append, List.cons_append, List.set_cons_zero, List.set_cons_succ, if_true, Nat.sub_self, wp_lent, wp_lenl, wp_lenr, wp_sumt, wp_tupl, wp_min2, wp_max2, wp_abs, wp_int, wp_isB, wp_isI, wp_isS, wp_isT, wp_isL, isB, isI, isS, isT, isL, wp_ixl, wpNX, wpLen, Ip.wipe, Option.some.injEq, exists_eq_left', Option.map_some]
  refine (wp_draw rfl hp (by omega) (by omega) (log_ok (by omega) (by omega))).to ?_
  rintro _ h1 ⟨r, rfl, r0, r1, hp1, _⟩
  obtain ⟨ws, w1, w2, w3⟩ := q_more (n := n + 6) (h := []) (xs := xs) (k := r) (by omega) x0 r0 (by omega)
  simp [exS, exSs, evE, evEs, evO, evCs, evI, evAnd, evOr, asgL, bindT, bindTs, startF, wpB, wpP, wpO, wpX, wpS, wpK, wpIte, wpOf, wp_add, wp_sub, wp_mul, wp_fdiv, wp_mod, wp_pow, wp_cmpI, wp_ixd, wp_ixr, wp_setIx, flowK, endF, loopE, truthM, truth, Ip.isNone, ditems, dits, List.length_cons, List.length_nil, List.map_cons, List.map_nil, List.replicate, List.getElem?_cons_zero, List.getElem?_cons_succ, List.nil_append, List.cons_append, List.set_cons_zero, List.set_cons_succ, if_true, Nat.sub_self, wp_lent, wp_lenl, wp_lenr, wp_sumt, wp_tupl, wp_min2, wp_max2, wp_abs, wp_int, wp_isB, wp_isI, wp_isS, wp_isT, wp_isL, isB, isI, isS, isT, isL, wp_ixl, wpNX, wpLen, Ip.wipe, Option.some.injEq, exists_eq_left', Option.map_some, wpPc, Ip.grs, w3, hard1]
  exact l_end hx hy (by omega) hk x0 y0 w2
theorem l_second {s x4 x5 x6 x7 x8 x9 x10 : Option MV} {k c : Nat} (hx : xs.length = k) (hk : k ≤ 1000) (hk0 : 0 < k) (x0 : ∀ x ∈ xs, 0 ≤ x ∧ x < 10 ^ 20) (hp : PoolK 0 c h) (hc : c < 2 ^ 30) :
    Wp (exSs P (callF P (n + 7)) [s, some (.ref 0), some (.d (.int (k : Int))), some (I xs), x4, x5, x6, x7, x8, x9, x10] b_law_4 h) (endF fin) NE := by
  have hb : k ≤ big := by unfold big; omega
  simp [b_law_4, exS, exSs, evE, evEs, evO, evCs, evI, evAnd, evOr, asgL, bindT, bindTs, startF, wpB, wpP, wpO, wpX, wpS, wpK, wpIte, wpOf, wp_add, wp_sub, wp_mul, wp_fdiv, wp_mod, wp_pow, wp_cmpI, wp_ixd, wp_ixr, wp_setIx, flowK, endF, loopE, truthM, truth, Ip.isNone, ditems, dits, List.length_cons, List.length_nil, List.map_cons, List.map_nil, List.replicate, List.getElem?_cons_zero, List.getElem?_cons_succ, List.nil_append, List.cons_append, List.set_cons_zero, List.set_cons_succ, if_true, Nat.sub_self, wp_lent, wp_lenl, wp_lenr, wp_sumt, wp_tupl, wp_min2, wp_max2, wp_abs, wp_int, wp_isB, wp_isI, wp_isS, wp_isT, wp_isL, isB, isI, isS, isT, isL, wp_ixl, wpNX, wpLen, Ip.wipe, Option.some.injEq, exists_eq_left', Option.map_some]
  refine (wp_draw rfl hp (by omega) (by omega) (by decide +kernel)).to ?_
  rintro _ h1 ⟨r, rfl, r0, r1, hp1, _⟩
  by_cases hr : r = 0
  · simp [exS, exSs, evE, evEs, evO, evCs, evI, evAnd, evOr, asgL, bindT, bindTs, startF, wpB, wpP, wpO, wpX, wpS, wpK, wpIte, wpOf, wp_add, wp_sub, wp_mul, wp_fdiv, wp_mod, wp_pow, wp_cmpI, wp_ixd, wp_ixr, wp_setIx, flowK, endF, loopE, truthM, truth, Ip.isNone, ditems, dits, List.length_cons, List.length_nil, List.map_cons, List.map_nil, List.replicate, List.getElem?_cons_zero, List.getElem?_cons_succ, List.nil_append, List.cons_append, List.set_cons_zero, List.set_cons_succ, if_true, Nat.sub_self, wp_lent, wp_lenl, wp_lenr, wp_sumt, wp_tupl, wp_min2, wp_max2, wp_abs, wp_int, wp_isB, wp_isI, wp_isS, wp_isT, wp_isL, isB, isI, isS, isT, isL, wp_ixl, wpNX, wpLen, Ip.wipe, Option.some.injEq, exists_eq_left', Option.map_some, ci, hr]
    refine ⟨by omega, ?_⟩
    refine wp_drawn (p := 0) (c := c + 1) (s := 1) (k := k) (b := 10 ^ 21) (by simp [hx]) hb hp1 ?_ ?_
    · intro i x c' h' hxi hc' hp'
      rw [List.getElem?_map] at hxi
      cases ez : xs[i]? with
      | none => simp [ez] at hxi
      | some z =>
        simp [ez] at hxi
        subst hxi
        have zb := x0 z (List.mem_of_getElem? ez)
        simp [lcF, exS, exSs, evE, evEs, evO, evCs, evI, evAnd, evOr, asgL, bindT, bindTs, startF, wpB, wpP, wpO, wpX, wpS, wpK, wpIte, wpOf, wp_add, wp_sub, wp_mul, wp_fdiv, wp_mod, wp_pow, wp_cmpI, wp_ixd, wp_ixr, wp_setIx, flowK, endF, loopE, truthM, truth, Ip.isNone, ditems, dits, List.length_cons, List.length_nil, List.map_cons, List.map_nil, List.replicate, List.getElem?_cons_zero, List.getElem?_cons_succ, List.nil_append, List.cons_append, List.set_cons_zero, List.set_cons_succ, if_true, Nat.sub_self, wp_lent, wp_lenl, wp_lenr, wp_sumt, wp_tupl, wp_min2, wp_max2, wp_abs, wp_int, wp_isB, wp_isI, wp_isS, wp_isT, wp_isL, isB, isI, isS, isT, isL, wp_ixl, wpNX, wpLen, Ip.wipe, Option.some.injEq, exists_eq_left', Option.map_some]
        refine (wp_draw rfl hp' (by omega) (by omega) (log_ok (by omega) (by omega))).to ?_
        rintro _ h2 ⟨q, rfl, q0, q1, hp2, _⟩
        simp [exS, exSs, evE, evEs, evO, evCs, evI, evAnd, evOr, asgL, bindT, bindTs, startF, wpB, wpP, wpO, wpX, wpS, wpK, wpIte, wpOf, wp_add, wp_sub, wp_mul, wp_fdiv, wp_mod, wp_pow, wp_cmpI, wp_ixd, wp_ixr, wp_setIx, flowK, endF, loopE, truthM, truth, Ip.isNone, ditems, dits, List.length_cons, List.length_nil, List.map_cons, List.map_nil, List.replicate, List.getElem?_cons_zero, List.getElem?_cons_succ, List.nil_append, List.cons_append, List.set_cons_zero, List.set_cons_succ, if_true, Nat.sub_self, wp_lent, wp_lenl, wp_lenr, wp_sumt, wp_tupl, wp_min2, wp_max2, wp_abs, wp_int, wp_isB, wp_isI, wp_isS, wp_isT, wp_isL, isB, isI, isS, isT, isL, wp_ixl, wpNX, wpLen, Ip.wipe, Option.some.injEq, exists_eq_left', Option.map_some]
        exact ⟨q0, by omega, hp2⟩
    · intro zs h' hz1 hz2 hp'
      simp only [exS, exSs, evE, evEs, evO, evCs, evI, evAnd, evOr, asgL, bindT, bindTs, startF, wpB, wpP, wpO, wpX, wpS, wpK, wpIte, wpOf, wp_add, wp_sub, wp_mul, wp_fdiv, wp_mod, wp_pow, wp_cmpI, wp_ixd, wp_ixr, wp_setIx, flowK, endF, loopE, truthM, truth, Ip.isNone, ditems, dits, List.length_cons, List.length_nil, List.map_cons, List.map_nil, List.replicate, List.getElem?_cons_zero, List.getElem?_cons_succ, List.nil_append, List.cons_append, List.set_cons_zero, List.set_cons_succ, if_true, Nat.sub_self, wp_lent, wp_lenl, wp_lenr, wp_sumt, wp_tupl, wp_min2, wp_max2, wp_abs, wp_int, wp_isB, wp_isI, wp_isS, wp_isT, wp_isL, isB, isI, isS, isT, isL, wp_ixl, wpNX, wpLen, Ip.wipe, Option.some.injEq, exists_eq_left', Option.map_some]
      exact l_third hx hz1 hk hk0 (fun x hx => (x0 x hx).1) (fun x hx => (hz2 x hx).1) hp' (by omega)
  · simp [exS, exSs, evE, evEs, evO, evCs, evI, evAnd, evOr, asgL, bindT, bindTs, startF, wpB, wpP, wpO, wpX, wpS, wpK, wpIte, wpOf, wp_add, wp_sub, wp_mul, wp_fdiv, wp_mod, wp_pow, wp_cmpI, wp_ixd, wp_ixr, wp_setIx, flowK, endF, loopE, truthM, truth, Ip.isNone, ditems, dits, List.length_cons, List.length_nil, List.map_cons, List.map_nil, List.replicate, List.getElem?_cons_zero, List.getElem?_cons_succ, List.nil_append, List.cons_append, List.set_cons_zero, List.set_cons_succ, if_true, Nat.sub_self, wp_lent, wp_lenl, wp_lenr, wp_sumt, wp_tupl, wp_min2, wp_max2, wp_abs, wp_int, wp_isB, wp_isI, wp_isS, wp_isT, wp_isL, isB, isI, isS, isT, isL, wp_ixl, wpNX, wpLen, Ip.wipe, Option.some.injEq, exists_eq_left', Option.map_some, ci, hr]
    have hs : small62 (k : Int) = true := by unfold small62; simp; omega
    simp only [hs, if_true, wpP, len_rng]
    refine ⟨hb, wp_drawn (p := 0) (c := c + 1) (s := 4) (k := k) (b := 10 ^ 20) (len_rng k) hb hp1 ?_ ?_⟩
    · intro i x c' h' hxi hc' hp'
      simp [lcF, exS, exSs, evE, evEs, evO, evCs, evI, evAnd, evOr, asgL, bindT, bindTs, startF, wpB, wpP, wpO, wpX, wpS, wpK, wpIte, wpOf, wp_add, wp_sub, wp_mul, wp_fdiv, wp_mod, wp_pow, wp_cmpI, wp_ixd, wp_ixr, wp_setIx, flowK, endF, loopE, truthM, truth, Ip.isNone, ditems, dits, List.length_cons, List.length_nil, List.map_cons, List.map_nil, List.replicate, List.getElem?_cons_zero, List.getElem?_cons_succ, List.nil_append, List.cons_append, List.set_cons_zero, List.set_cons_succ, if_true, Nat.sub_self, wp_lent, wp_lenl, wp_lenr, wp_sumt, wp_tupl, wp_min2, wp_max2, wp_abs, wp_int, wp_isB, wp_isI, wp_isS, wp_isT, wp_isL, isB, isI, isS, isT, isL, wp_ixl, wpNX, wpLen, Ip.wipe, Option.some.injEq, exists_eq_left', Option.map_some]
      refine (q_count (n := n + 4) hp' (by omega)).to ?_
      rintro _ h2 ⟨q, rfl, q0, q1, hp2⟩
      simp [exS, exSs, evE, evEs, evO, evCs, evI, evAnd, evOr, asgL, bindT, bindTs, startF, wpB, wpP, wpO, wpX, wpS, wpK, wpIte, wpOf, wp_add, wp_sub, wp_mul, wp_fdiv, wp_mod, wp_pow, wp_cmpI, wp_ixd, wp_ixr, wp_setIx, flowK, endF, loopE, truthM, truth, Ip.isNone, ditems, dits, List.length_cons, List.length_nil, List.map_cons, List.map_nil, List.replicate, List.getElem?_cons_zero, List.getElem?_cons_succ, List.nil_append, List.cons_append, List.set_cons_zero, List.set_cons_succ, if_true, Nat.sub_self, wp_lent, wp_lenl, wp_lenr, wp_sumt, wp_tupl, wp_min2, wp_max2, wp_abs, wp_int, wp_isB, wp_isI, wp_isS, wp_isT, wp_isL, isB, isI, isS, isT, isL, wp_ixl, wpNX, wpLen, Ip.wipe, Option.some.injEq, exists_eq_left', Option.map_some]
      exact ⟨q0, by omega, hp2⟩
    · intro zs h' hz1 hz2 hp'
      simp only [exS, exSs, evE, evEs, evO, evCs, evI, evAnd, evOr, asgL, bindT, bindTs, startF, wpB, wpP, wpO, wpX, wpS, wpK, wpIte, wpOf, wp_add, wp_sub, wp_mul, wp_fdiv, wp_mod, wp_pow, wp_cmpI, wp_ixd, wp_ixr, wp_setIx, flowK, endF, loopE, truthM, truth, Ip.isNone, ditems, dits, List.length_cons, List.length_nil, List.map_cons, List.map_nil, List.replicate, List.getElem?_cons_zero, List.getElem?_cons_succ, List.nil_append, List.cons_append, List.set_cons_zero, List.set_cons_succ, if_true, Nat.sub_self, wp_lent, wp_lenl, wp_lenr, wp_sumt, wp_tupl, wp_min2, wp_max2, wp_abs, wp_int, wp_isB, wp_isI, wp_isS, wp_isT, wp_isL, isB, isI, isS, isT, isL, wp_ixl, wpNX, wpLen, Ip.wipe, Option.some.injEq, exists_eq_left', Option.map_some]
      exact l_third hx hz1 hk hk0 (fun x hx => (x0 x hx).1) (fun x hx => (hz2 x hx).1) hp' (by omega)
theorem l_first {s x3 x4 x5 x6 x7 x8 x9 x10 : Option MV} {k c : Nat} (hk : k ≤ 1000) (hk0 : 0 < k) (hp : PoolK 0 c h) (hc : c < 2 ^ 20) :
    Wp (exSs P (callF P (n + 7)) [s, some (.ref 0), some (.d (.int (k : Int))), x3, x4, x5, x6, x7, x8, x9, x10] b_law_3 h) (endF fin) NE := by
  have hb : k ≤ big := by unfold big; omega
  have hs : small62 (k : Int) = true := by unfold small62; simp; omega
  simp [b_law_3, exS, exSs, evE, evEs, evO, evCs, evI, evAnd, evOr, asgL, bindT, bindTs, startF, wpB, wpP, wpO, wpX, wpS, wpK, wpIte, wpOf, wp_add, wp_sub, wp_mul, wp_fdiv, wp_mod, wp_pow, wp_cmpI, wp_ixd, wp_ixr, wp_setIx, flowK, endF, loopE, truthM, truth, Ip.isNone, ditems, dits, List.length_cons, List.length_nil, List.map_cons, List.map_nil, List.replicate, List.getElem?_cons_zero, List.getElem?_cons_succ, List.nil_append, List.cons_append, List.set_cons_zero, List.set_cons_succ, if_true, Nat.sub_self, wp_lent, wp_lenl, wp_lenr, wp_sumt, wp_tupl, wp_min2, wp_max2, wp_abs, wp_int, wp_isB, wp_isI, wp_isS, wp_isT, wp_isL, isB, isI, isS, isT, isL, wp_ixl, wpNX, wpLen, Ip.wipe, Option.some.injEq, exists_eq_left', Option.map_some]
  simp only [hs, if_true, wpP, len_rng]
  refine ⟨hb, wp_drawn (p := 0) (c := c) (s := 4) (k := k) (b := 10 ^ 20) (len_rng k) hb hp ?_ ?_⟩
  · intro i x c' h' hxi hc' hp'
    simp [lcF, exS, exSs, evE, evEs, evO, evCs, evI, evAnd, evOr, asgL, bindT, bindTs, startF, wpB, wpP, wpO, wpX, wpS, wpK, wpIte, wpOf, wp_add, wp_sub, wp_mul, wp_fdiv, wp_mod, wp_pow, wp_cmpI, wp_ixd, wp_ixr, wp_setIx, flowK, endF, loopE, truthM, truth, Ip.isNone, ditems, dits, List.length_cons, List.length_nil, List.map_cons, List.map_nil, List.replicate, List.getElem?_cons_zero, List.getElem?_cons_succ, List.nil_append, List.cons_append, List.set_cons_zero, List.set_cons_succ, if_true, Nat.sub_self, wp_lent, wp_lenl, wp_lenr, wp_sumt, wp_tupl, wp_min2, wp_max2, wp_abs, wp_int, wp_isB, wp_isI, wp_isS, wp_isT, wp_isL, isB, isI, isS, isT, isL, wp_ixl, wpNX, wpLen, Ip.wipe, Option.some.injEq, exists_eq_left', Option.map_some]
    refine (q_count (n := n + 4) hp' (by omega)).to ?_
    rintro _ h2 ⟨q, rfl, q0, q1, hp2⟩
    simp [exS, exSs, evE, evEs, evO, evCs, evI, evAnd, evOr, asgL, bindT, bindTs, startF, wpB, wpP, wpO, wpX, wpS, wpK, wpIte, wpOf, wp_add, wp_sub, wp_mul, wp_fdiv, wp_mod, wp_pow, wp_cmpI, wp_ixd, wp_ixr, wp_setIx, flowK, endF, loopE, truthM, truth, Ip.isNone, ditems, dits, List.length_cons, List.length_nil, List.map_cons, List.map_nil, List.replicate, List.getElem?_cons_zero, List.getElem?_cons_succ, List.nil_append, List.cons_append, List.set_cons_zero, List.set_cons_succ, if_true, Nat.sub_self, wp_lent, wp_lenl, wp_lenr, wp_sumt, wp_tupl, wp_min2, wp_max2, wp_abs, wp_int, wp_isB, wp_isI, wp_isS, wp_isT, wp_isL, isB, isI, isS, isT, isL, wp_ixl, wpNX, wpLen, Ip.wipe, Option.some.injEq, exists_eq_left', Option.map_some]
    exact ⟨q0, by omega, hp2⟩
  · intro zs h' hz1 hz2 hp'
    simp only [exS, exSs, evE, evEs, evO, evCs, evI, evAnd, evOr, asgL, bindT, bindTs, startF, wpB, wpP, wpO, wpX, wpS, wpK, wpIte, wpOf, wp_add, wp_sub, wp_mul, wp_fdiv, wp_mod, wp_pow, wp_cmpI, wp_ixd, wp_ixr, wp_setIx, flowK, endF, loopE, truthM, truth, Ip.isNone, ditems, dits, List.length_cons, List.length_nil, List.map_cons, List.map_nil, List.replicate, List.getElem?_cons_zero, List.getElem?_cons_succ, List.nil_append, List.cons_append, List.set_cons_zero, List.set_cons_succ, if_true, Nat.sub_self, wp_lent, wp_lenl, wp_lenr, wp_sumt, wp_tupl, wp_min2, wp_max2, wp_abs, wp_int, wp_isB, wp_isI, wp_isS, wp_isT, wp_isL, isB, isI, isS, isT, isL, wp_ixl, wpNX, wpLen, Ip.wipe, Option.some.injEq, exists_eq_left', Option.map_some]
    exact l_second hz1 hk hk0 hz2 hp' (by omega)
theorem q_law (ns : List Int) : Wp (callF P (n + 8) 15 [.d (.lst (ns.map .int))] []) fin NE := by
  rw [wpCall rfl rfl]
  simp only [c_law, b_law_0, exS, exSs, evE, evEs, evO, evCs, evI, evAnd, evOr, asgL, bindT, bindTs, startF, wpB, wpP, wpO, wpX, wpS, wpK, wpIte, wpOf, wp_add, wp_sub, wp_mul, wp_fdiv, wp_mod, wp_pow, wp_cmpI, wp_ixd, wp_ixr, wp_setIx, flowK, endF, loopE, truthM, truth, Ip.isNone, ditems, dits, List.length_cons, List.length_nil, List.map_cons, List.map_nil, List.replicate, List.getElem?_cons_zero, List.getElem?_cons_succ, List.nil_append, List.cons_append, List.set_cons_zero, List.set_cons_succ, if_true, Nat.sub_self, wp_lent, wp_lenl, wp_lenr, wp_sumt, wp_tupl, wp_min2, wp_max2, wp_abs, wp_int, wp_isB, wp_isI, wp_isS, wp_isT, wp_isL, isB, isI, isS, isT, isL, wp_ixl, wpNX, wpLen, Ip.wipe, Option.some.injEq, exists_eq_left', Option.map_some]
  refine (wp_pool (n := n + 6) (f := 7) rfl).to ?_
  rintro _ h1 ⟨o, rfl, rfl, hp⟩
  simp [b_law_1, exS, exSs, evE, evEs, evO, evCs, evI, evAnd, evOr, asgL, bindT, bindTs, startF, wpB, wpP, wpO, wpX, wpS, wpK, wpIte, wpOf, wp_add, wp_sub, wp_mul, wp_fdiv, wp_mod, wp_pow, wp_cmpI, wp_ixd, wp_ixr, wp_setIx, flowK, endF, loopE, truthM, truth, Ip.isNone, ditems, dits, List.length_cons, List.length_nil, List.map_cons, List.map_nil, List.replicate, List.getElem?_cons_zero, List.getElem?_cons_succ, List.nil_append, List.cons_append, List.set_cons_zero, List.set_cons_succ, if_true, Nat.sub_self, wp_lent, wp_lenl, wp_lenr, wp_sumt, wp_tupl, wp_min2, wp_max2, wp_abs, wp_int, wp_isB, wp_isI, wp_isS, wp_isT, wp_isL, isB, isI, isS, isT, isL, wp_ixl, wpNX, wpLen, Ip.wipe, Option.some.injEq, exists_eq_left', Option.map_some]
  refine (wp_draw rfl hp (by omega) (by omega) (by decide +kernel)).to ?_
  rintro _ h2 ⟨r, rfl, r0, r1, hp2, _⟩
  simp [b_law_2, exS, exSs, evE, evEs, evO, evCs, evI, evAnd, evOr, asgL, bindT, bindTs, startF, wpB, wpP, wpO, wpX, wpS, wpK, wpIte, wpOf, wp_add, wp_sub, wp_mul, wp_fdiv, wp_mod, wp_pow, wp_cmpI, wp_ixd, wp_ixr, wp_setIx, flowK, endF, loopE, truthM, truth, Ip.isNone, ditems, dits, List.length_cons, List.length_nil, List.map_cons, List.map_nil, List.replicate, List.getElem?_cons_zero, List.getElem?_cons_succ, List.nil_append, List.cons_append, List.set_cons_zero, List.set_cons_succ, if_true, Nat.sub_self, wp_lent, wp_lenl, wp_lenr, wp_sumt, wp_tupl, wp_min2, wp_max2, wp_abs, wp_int, wp_isB, wp_isI, wp_isS, wp_isT, wp_isL, isB, isI, isS, isT, isL, wp_ixl, wpNX, wpLen, Ip.wipe, Option.some.injEq, exists_eq_left', Option.map_some]
  refine (wp_draw rfl hp2 (by omega) (by omega) (by decide +kernel)).to ?_
  rintro _ h3 ⟨q, rfl, q0, q1, hp3, _⟩
  by_cases hq : q = 0
  · simp [exS, exSs, evE, evEs, evO, evCs, evI, evAnd, evOr, asgL, bindT, bindTs, startF, wpB, wpP, wpO, wpX, wpS, wpK, wpIte, wpOf, wp_add, wp_sub, wp_mul, wp_fdiv, wp_mod, wp_pow, wp_cmpI, wp_ixd, wp_ixr, wp_setIx, flowK, endF, loopE, truthM, truth, Ip.isNone, ditems, dits, List.length_cons, List.length_nil, List.map_cons, List.map_nil, List.replicate, List.getElem?_cons_zero, List.getElem?_cons_succ, List.nil_append, List.cons_append, List.set_cons_zero, List.set_cons_succ, if_true, Nat.sub_self, wp_lent, wp_lenl, wp_lenr, wp_sumt, wp_tupl, wp_min2, wp_max2, wp_abs, wp_int, wp_isB, wp_isI, wp_isS, wp_isT, wp_isL, isB, isI, isS, isT, isL, wp_ixl, wpNX, wpLen, Ip.wipe, Option.some.injEq, exists_eq_left', Option.map_some, ci, hq]
    refine (wp_draw rfl hp3 (by omega) (by omega) (by decide +kernel)).to ?_
    rintro _ h4 ⟨t, rfl, t0, t1, hp4, _⟩
    obtain ⟨i, rfl⟩ := Int.eq_ofNat_of_zero_le t0
    simp [exS, exSs, evE, evEs, evO, evCs, evI, evAnd, evOr, asgL, bindT, bindTs, startF, wpB, wpP, wpO, wpX, wpS, wpK, wpIte, wpOf, wp_add, wp_sub, wp_mul, wp_fdiv, wp_mod, wp_pow, wp_cmpI, wp_ixd, wp_ixr, wp_setIx, flowK, endF, loopE, truthM, truth, Ip.isNone, ditems, dits, List.length_cons, List.length_nil, List.map_cons, List.map_nil, List.replicate, List.getElem?_cons_zero, List.getElem?_cons_succ, List.nil_append, List.cons_append, List.set_cons_zero, List.set_cons_succ, if_true, Nat.sub_self, wp_lent, wp_lenl, wp_lenr, wp_sumt, wp_tupl, wp_min2, wp_max2, wp_abs, wp_int, wp_isB, wp_isI, wp_isS, wp_isT, wp_isL, isB, isI, isS, isT, isL, wp_ixl, wpNX, wpLen, Ip.wipe, Option.some.injEq, exists_eq_left', Option.map_some]
    exact l_first (k := 7 + i) (by omega) (by omega) hp4 (by omega)
  · obtain ⟨i, rfl⟩ := Int.eq_ofNat_of_zero_le r0
    simp [exS, exSs, evE, evEs, evO, evCs, evI, evAnd, evOr, asgL, bindT, bindTs, startF, wpB, wpP, wpO, wpX, wpS, wpK, wpIte, wpOf, wp_add, wp_sub, wp_mul, wp_fdiv, wp_mod, wp_pow, wp_cmpI, wp_ixd, wp_ixr, wp_setIx, flowK, endF, loopE, truthM, truth, Ip.isNone, ditems, dits, List.length_cons, List.length_nil, List.map_cons, List.map_nil, List.replicate, List.getElem?_cons_zero, List.getElem?_cons_succ, List.nil_append, List.cons_append, List.set_cons_zero, List.set_cons_succ, if_true, Nat.sub_self, wp_lent, wp_lenl, wp_lenr, wp_sumt, wp_tupl, wp_min2, wp_max2, wp_abs, wp_int, wp_isB, wp_isI, wp_isS, wp_isT, wp_isL, isB, isI, isS, isT, isL, wp_ixl, wpNX, wpLen, Ip.wipe, Option.some.injEq, exists_eq_left', Option.map_some, ci, hq]
    exact l_first (k := 1 + i) (by omega) (by omega) hp3 (by omega)
theorem plain (ns : List Int) (hl : ns.length ≤ 63) : ∃ h, callF P 40 15 [.d (.lst (ns.map .int))] [] = .ok (.d (.bool true)) h := by
  obtain ⟨v, h, e, rfl⟩ := (q_law (n := 32) ns).ex
  exact ⟨h, e⟩
end
end K00

open PySem PySem.W PySem.Calls PyProof.Rows
theorem PySem.Challenge.cw_fewchairs_k00_crowd_sums_holds : PySem.Challenge.rw_fewchairs_k00_crowd_sums.Holds := by
  w_on; o_law
  refine HandSHeadRun.head_any (r := OpenLaw.row PySem.Challenge.rw_fewchairs_k00_crowd_sums) (q := view (OpenLaw.row PySem.Challenge.rw_fewchairs_k00_crowd_sums).prog [21]) (H := Ip.hookI 5 K00.mi) (ob := K00.ob) (M := 2000) (loose := K00.loose) (d := HandSHeadRun.topDef (OpenLaw.row PySem.Challenge.rw_fewchairs_k00_crowd_sums).prog 21) (kwd := []) K00.ob_eq
    (by kernel_rfl) (fun s => by kernel_rfl) K00.run (by kernel_rfl) (by kernel_rfl) (by kernel_rfl) (by rfl) (by first | assumption | decide +kernel) (by decide +kernel) ⟨rfl, rfl, rfl, rfl, rfl, by decide +kernel⟩ ?hw ?hc
  case hw => w_witness2
  case hc => exact Ip.law_walk (l := PySem.Challenge.rw_fewchairs_k00_crowd_sums) (t := K00.i_law) (N := 63) (n := 40) (x := "script") rfl (by decide) (by kernel_rfl) ⟨rfl, by decide, by decide⟩ K00.mok (List.mem_of_getElem? (i := 15) rfl) (by kernel_rfl) rfl K00.plain
