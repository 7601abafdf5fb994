import PyProof.Rows.All
import Wide.All
import OpenK.AllK
import Wide.FinOn
import HandS.ForMost
import HandS.TupAny
import HandS.TupMul
import KE.DataEq
import KE.SortData
import KE.KDictKeyed
import HandS.IsInst
import HandS.Text
import HandS.Walk
import HandS.WordsExc
import PySem.Challenge.RW_lateturns_k01_houses_recognized
set_option Elab.async false
set_option linter.all false
set_option maxRecDepth 100000
set_option autoImplicit false
set_option maxHeartbeats 4000000
/-! MiA: a small pure language, its values, its store, and what its texts compute (own work). -/
namespace MI
open PySem

abbrev D := PyData

/-- a value at a name: a datum, or a thing of the store that may change -/
inductive W where
  | d (x : D)
  | r (i : Nat)

/-- what stands in the store -/
inductive SO where
  | list (xs : List D)
  | dK (kvs : List (L2.Key × D))
  | dT (kvs : List (D × D))
  | dead

abbrev Store := List SO
abbrev Loc := List (Option W)

inductive Res (α : Type) where
  | ok (a : α) (S : Store)
  | ex (c : Nat) (S : Store)
  | stuck

def Res.bind {α β : Type} (r : Res α) (f : α → Store → Res β) : Res β :=
  match r with
  | .ok a S => f a S
  | .ex c S => .ex c S
  | .stuck => .stuck

@[simp] theorem Res.bind_ok {α β : Type} (a : α) (S : Store) (f : α → Store → Res β) : (Res.ok a S).bind f = f a S := rfl
@[simp] theorem Res.bind_ex {α β : Type} (c : Nat) (S : Store) (f : α → Store → Res β) : (Res.ex c S : Res α).bind f = .ex c S := rfl
@[simp] theorem Res.bind_stuck {α β : Type} (f : α → Store → Res β) : (Res.stuck : Res α).bind f = .stuck := rfl
theorem Res.bind_assoc {α β γ : Type} (r : Res α) (f : α → Store → Res β) (g : β → Store → Res γ) : (r.bind f).bind g = r.bind fun a S => (f a S).bind g := by
  cases r <;> rfl

/-- no exception here -/
def Res.noex {α : Type} : Res α → Res α
  | .ok a S => .ok a S
  | _ => .stuck
@[simp] theorem Res.noex_ok {α : Type} (a : α) (S : Store) : (Res.ok a S).noex = .ok a S := rfl

/-! ### operations on data -/
inductive BOp where
  | add | sub | mul | fdiv | mod | pow | rep
  deriving DecidableEq
inductive COp where
  | eq | ne | lt | le | gt | ge | isin | notin | is | isnot
  deriving DecidableEq
inductive Ty where
  | int | bool | str | tuple | list
  deriving DecidableEq

def small (i : Int) : Bool := decide (-(2 ^ 64) < i) && decide (i < 2 ^ 64)

def fits (n : Nat) : Bool := decide (n ≤ sizeLine)

def repD (xs : List D) (j : Int) : List D := (List.replicate j.toNat xs).flatten

def binD : BOp → D → D → Option D
  | .add, .int i, .int j => some (.int (i + j))
  | .add, .str x, .str y => if fits (x.length + y.length) then some (.str (x ++ y)) else none
  | .add, .tuple xs, .tuple ys => if fits (xs.length + ys.length) then some (.tuple (xs ++ ys)) else none
  | .add, .list xs, .list ys => if fits (xs.length + ys.length) then some (.list (xs ++ ys)) else none
  | .sub, .int i, .int j => some (.int (i - j))
  | .mul, .int i, .int j => if small i || small j then some (.int (i * j)) else none
  | .rep, .tuple xs, .int j => if decide (0 ≤ j) && decide (j ≤ 1000) && fits (xs.length * j.toNat) then some (.tuple (repD xs j)) else none
  | .rep, .list xs, .int j => if decide (0 ≤ j) && decide (j ≤ 1000) && fits (xs.length * j.toNat) then some (.list (repD xs j)) else none
  | .fdiv, .int i, .int j => if decide (0 < j) && decide (j < 1073741824) then some (.int (i / j)) else none
  | .mod, .int i, .int j => if decide (0 < j) then some (.int (i % j)) else none
  | .pow, .int i, .int j => if decide (0 ≤ j) && decide (j ≤ 1000000) && decide (i.natAbs < 2 ^ 64) then some (.int (i ^ j.toNat)) else none
  | _, _, _ => none

mutual
/-- two data are the same -/
def sameD : D → D → Bool
  | .none, .none => true
  | .bool a, .bool b => a == b
  | .int a, .int b => a == b
  | .str a, .str b => decide (a = b)
  | .list a, .list b => sameDs a b
  | .tuple a, .tuple b => sameDs a b
  | _, _ => false
def sameDs : List D → List D → Bool
  | [], [] => true
  | a :: as, b :: bs => sameD a b && sameDs as bs
  | _, _ => false
end
mutual
theorem sameD_eq : ∀ (a b : D), sameD a b = true → a = b
  | .none, b, h => by cases b <;> first | rfl | exact absurd h (by simp [sameD])
  | .bool x, b, h => by cases b <;> first | (simp only [sameD, beq_iff_eq] at h; rw [h]; done) | (simp [sameD] at h; done)
  | .int x, b, h => by cases b <;> first | (simp only [sameD, beq_iff_eq] at h; rw [h]; done) | (simp [sameD] at h; done)
  | .str x, b, h => by cases b <;> first | (simp only [sameD, decide_eq_true_eq] at h; rw [h]; done) | (simp [sameD] at h; done)
  | .list x, b, h => by cases b <;> first | (simp only [sameD] at h; rw [sameDs_eq _ _ h]; done) | (simp [sameD] at h; done)
  | .tuple x, b, h => by cases b <;> first | (simp only [sameD] at h; rw [sameDs_eq _ _ h]; done) | (simp [sameD] at h; done)
  | .dict x, b, h => by cases b <;> exact absurd h (by simp [sameD])
theorem sameDs_eq : ∀ (a b : List D), sameDs a b = true → a = b
  | [], [], _ => rfl
  | [], _ :: _, h => absurd h (by simp [sameDs])
  | _ :: _, [], h => absurd h (by simp [sameDs])
  | x :: xs, y :: ys, h => by
    simp only [sameDs, Bool.and_eq_true] at h
    rw [sameD_eq _ _ h.1, sameDs_eq _ _ h.2]
end

/-- shallow enough for the machine's own stack -/
def flat (x : D) : Bool := decide (x.depth ≤ 60)

def memD (x : D) (ys : List D) : Bool := ys.any fun y => PyData.eqv y x

/-- the items of a list or a tuple -/
def seqD : D → Option (List D)
  | .list xs => some xs
  | .tuple xs => some xs
  | _ => none

def isNoneD : D → Bool
  | .none => true
  | _ => false

def cmpD : COp → D → D → Option Bool
  | .eq, x, y => if flat x then some (PyData.eqv x y) else none
  | .ne, x, y => if flat x then some (!PyData.eqv x y) else none
  | .lt, .int i, .int j => some (decide (i < j))
  | .le, .int i, .int j => some (decide (i ≤ j))
  | .gt, .int i, .int j => some (decide (j < i))
  | .ge, .int i, .int j => some (decide (j ≤ i))
  | .isin, x, .list ys => if flat x then some (memD x ys) else none
  | .isin, x, .tuple ys => if flat x then some (memD x ys) else none
  | .notin, x, .list ys => if flat x then some (!memD x ys) else none
  | .notin, x, .tuple ys => if flat x then some (!memD x ys) else none
  | .is, x, .none => some (isNoneD x)
  | .isnot, x, .none => some (!isNoneD x)
  | _, _, _ => none

def tyD : Ty → D → Bool
  | .int, .int _ => true
  | .int, .bool _ => true
  | .bool, .bool _ => true
  | .str, .str _ => true
  | .tuple, .tuple _ => true
  | .list, .list _ => true
  | _, _ => false

/-- the place of an index -/
abbrev placeD (n : Nat) (i : Int) : Option Nat := L2.ixN n i

def cutD (xs : List D) (lo hi : Option Int) : List D := (xs.drop (HT.sIx xs.length 0 lo)).take (HT.sIx xs.length xs.length hi - HT.sIx xs.length 0 lo)

/-- what a value is as a datum, where it is one, or a list that stands -/
def toD (S : Store) : W → Option D
  | .d x => some x
  | .r i => match S[i]? with
    | some (.list xs) => some (.list xs)
    | _ => none

@[simp] theorem toD_d (S : Store) (x : D) : toD S (.d x) = some x := rfl

def optR {α : Type} (o : Option α) (S : Store) : Res α := match o with
  | some a => .ok a S
  | none => .stuck
@[simp] theorem optR_some {α : Type} (a : α) (S : Store) : optR (some a) S = .ok a S := rfl
@[simp] theorem optR_none {α : Type} (S : Store) : optR (none : Option α) S = .stuck := rfl

/-- the key of a datum: an int (or a bool), a text -/
def keyD : D → Option L2.Key
  | .int i => some (.inl i)
  | .str x => some (.inr x)
  | _ => none
def keyOfD : L2.Key → D
  | .inl i => .int i
  | .inr x => .str x

mutual
/-- a datum as a key of nested tuples -/
def nk : D → NestedKey
  | .none => .none
  | .bool b => .num (if b = true then 1 else 0)
  | .int i => .num i
  | .str x => .text x
  | .tuple xs => .tup (nks xs)
  | .list _ => .none
  | .dict _ => .none
def nks : List D → List NestedKey
  | [] => []
  | x :: xs => nk x :: nks xs
end
mutual
/-- hashable, of nested tuples -/
def keyable : D → Bool
  | .list _ => false
  | .dict _ => false
  | .tuple xs => keyableAll xs
  | _ => true
def keyableAll : List D → Bool
  | [] => true
  | x :: xs => keyable x && keyableAll xs
end
/-- a tuple that may be a key -/
def isKey (x : D) : Bool := (match x with | .tuple _ => true | _ => false) && keyable x && decide ((nk x).depth ≤ 8)

def getT (kvs : List (D × D)) (k : D) : Option D := (kvs.find? fun p => decide (nk p.1 = nk k)).map (·.2)
def putT (kvs : List (D × D)) (k v : D) : List (D × D) :=
  if kvs.any fun p => decide (nk p.1 = nk k) then kvs.map fun p => if nk p.1 = nk k then (p.1, v) else p else kvs ++ [(k, v)]
def getK (kvs : List (L2.Key × D)) (k : L2.Key) : Option D := (kvs.find? fun p => decide (p.1 = k)).map (·.2)
def putK (kvs : List (L2.Key × D)) (k : L2.Key) (v : D) : List (L2.Key × D) :=
  if kvs.any fun p => decide (p.1 = k) then kvs.map fun p => if p.1 = k then (p.1, v) else p else kvs ++ [(k, v)]

end MI

/-! MiB: the small language and its run (own work). -/
namespace MI
open PySem

inductive Blt where
  | len | abs | int | max2 | min2 | maxL | tuple | sorted | all | any | lenset | str | bool
  deriving DecidableEq

inductive Tg where
  | nm (j : Nat)
  | tp (js : List Nat)
  deriving DecidableEq

inductive E where
  | var (j : Nat)
  | frz (a : E)
  | cst (x : D)
  | glb (x : Str) (v : D)
  | bin (op : BOp) (a b : E)
  | neg (a : E)
  | nt (a : E)
  | and (a b : E)
  | or (a b : E)
  | cmp (op : COp) (a b : E)
  | chn (o p : COp) (a b c : E)
  | ife (t a b : E)
  | nil
  | cons (e es : E)
  | tup (es : E)
  | lst (m : Bool) (es : E)
  | idx (a i : E)
  | omit
  | slc (bl bh : Bool) (a lo hi : E)
  | rev (a : E)
  | call (f : Nat) (es : E)
  | blt (b : Blt) (es : E)
  | cpy (m : Bool) (a : E)
  | isi (ty : Ty) (a : E)
  | app (a x : E)
  | pop (a : E)
  | indx (a x : E)
  | dget (a k x : E)
  | ind (neg : Bool) (a b : E)
  | didx (a i : E)
  | dlen (a : E)
  | dkey (m : Bool) (a : E)
  | dnew (t : Bool)
  | ddsp (t : Bool) (ks vs : E)
  | comp (m : Bool) (elt : E) (tg : Tg) (src cond : E) (own : List Nat)
  | iseq (a : E)
  | irng1 (a : E)
  | irng2 (a b : E)
  | ienum (a : E)
  | izip (a b : E)
  | ikey (a : E)
  | iitm (a : E)

inductive LV where
  | nm (j : Nat)
  | ix (a i : E)

inductive M where
  | skip
  | seq (a b : M)
  | asg (tg : Tg) (e : E)
  | par (lv : List LV) (es : E)
  | setx (a i e : E)
  | setd (a i e : E)
  | iff (c : E) (a b : M)
  | for (tg : Tg) (src : E) (body : M)
  | whl (c : E) (body : M)
  | ret (e : E)
  | exp (e : E)
  | never

/-- how a statement ends -/
inductive Fl where
  | nx (ls : Loc)
  | rt (w : W)

/-! ### operations on values -/
def binW (op : BOp) (x y : W) (S : Store) : Res W :=
  match toD S x, toD S y with
  | some a, some b => optR ((binD op a b).map .d) S
  | _, _ => .stuck
def hasT (kvs : List (D × D)) (k : D) : Bool := (getT kvs k).isSome
def hasK (kvs : List (L2.Key × D)) (k : L2.Key) : Bool := (getK kvs k).isSome
def cmpW (op : COp) (x y : W) (S : Store) : Res W :=
  match toD S x, toD S y with
  | some a, some b => optR ((cmpD op a b).map fun b => .d (.bool b)) S
  | _, _ => .stuck
/-- a dict of the store: whether it has a key -/
def indW (neg : Bool) (x y : W) (S : Store) : Res W := match x, y with
  | .d k, .r i => match S[i]? with
    | some (.dT kvs) => if isKey k then .ok (.d (.bool (if neg then !hasT kvs k else hasT kvs k))) S else .stuck
    | some (.dK kvs) => optR ((keyD k).map fun c => .d (.bool (if neg then !hasK kvs c else hasK kvs c))) S
    | _ => .stuck
  | _, _ => .stuck
def didxW (x y : W) (S : Store) : Res W := match x, y with
  | .r i, .d k => match S[i]? with
    | some (.dT kvs) => if isKey k then optR ((getT kvs k).map .d) S else .stuck
    | some (.dK kvs) => optR (((keyD k).bind (getK kvs)).map .d) S
    | _ => .stuck
  | _, _ => .stuck
def dlenW (x : W) (S : Store) : Res W := match x with
  | .r i => match S[i]? with
    | some (.dT kvs) => .ok (.d (.int kvs.length)) S
    | some (.dK kvs) => .ok (.d (.int kvs.length)) S
    | _ => .stuck
  | _ => .stuck
def negW (x : W) (S : Store) : Res W := match x with
  | .d (.int i) => .ok (.d (.int (-i))) S
  | _ => .stuck
def boolW (x : W) : Option Bool := match x with
  | .d (.bool b) => some b
  | _ => none
def notW (x : W) (S : Store) : Res W := optR ((boolW x).map fun b => .d (.bool !b)) S
/-- go on by a truth value -/
def Res.test {α : Type} (r : Res W) (f : Bool → Store → Res α) : Res α := r.bind fun w S => match boolW w with
  | some b => f b S
  | none => .stuck
@[simp] theorem Res.test_ok {α : Type} (b : Bool) (S : Store) (f : Bool → Store → Res α) : (Res.ok (.d (.bool b)) S).test f = f b S := rfl
@[simp] theorem Res.test_ex {α : Type} (c : Nat) (S : Store) (f : Bool → Store → Res α) : (Res.ex c S : Res W).test f = .ex c S := rfl
@[simp] theorem Res.test_stuck {α : Type} (f : Bool → Store → Res α) : (Res.stuck : Res W).test f = .stuck := rfl

/-- data all of them -/
def dataOf : List W → Option (List D)
  | [] => some []
  | .d x :: ws => (dataOf ws).map (x :: ·)
  | .r _ :: _ => none
def tupW (ws : List W) (S : Store) : Res W := match dataOf ws with
  | some xs => if fits xs.length then .ok (.d (.tuple xs)) S else .stuck
  | none => .stuck
/-- a new list: one that stays as it is, or a thing of the store -/
def newL (m : Bool) (xs : List D) (S : Store) : Res W := if m then .ok (.r S.length) (S ++ [.list xs]) else .ok (.d (.list xs)) S
def lstW (m : Bool) (ws : List W) (S : Store) : Res W := match dataOf ws with
  | some xs => if fits xs.length then newL m xs S else .stuck
  | none => .stuck
def frzW (x : W) (S : Store) : Res W := match x with
  | .r i => match S[i]? with
    | some (.list xs) => .ok (.d (.list xs)) (S.set i .dead)
    | _ => .stuck
  | _ => .stuck
def idxW (x y : W) (S : Store) : Res W :=
  match (toD S x).bind seqD, y with
  | some xs, .d (.int i) => optR ((L2.atI xs i).map .d) S
  | _, _ => .stuck
def partW (x : W) (S : Store) : Res (Option Int) := match x with
  | .d (.int i) => .ok (some i) S
  | _ => .stuck
def slcW (x : W) (a b : Option Int) (S : Store) : Res W :=
  match toD S x with
  | some (.list xs) => .ok (.d (.list (cutD xs a b))) S
  | some (.tuple xs) => .ok (.d (.tuple (cutD xs a b))) S
  | some (.str z) => if fits z.length then .ok (.d (.str (L2.cutS z a b))) S else .stuck
  | _ => .stuck
def revW (x : W) (S : Store) : Res W := match toD S x with
  | some (.list xs) => .ok (.d (.list xs.reverse)) S
  | _ => .stuck
def intsOf : List D → Option (List Int)
  | [] => some []
  | .int i :: xs => (intsOf xs).map (i :: ·)
  | _ :: _ => none
def boolsOf : List D → Option (List Bool)
  | [] => some []
  | .bool i :: xs => (boolsOf xs).map (i :: ·)
  | _ :: _ => none
def maxI : List Int → Int
  | [] => 0
  | [x] => x
  | x :: xs => if x ≥ maxI xs then x else maxI xs
/-- may be sorted by this language -/
def sortOk (xs : List D) : Bool :=
  (xs.all fun x => xs.all fun y => PySem.W.alike x y) && (xs.all fun x => flat x) &&
    ((xs.all fun x => match x with | .tuple (_ :: _) => true | _ => false) || (xs.all fun x => match x with | .tuple _ => false | .none => false | _ => true) ||
      (match xs with | .tuple [] :: _ => true | _ => false))
def lenW (x : W) (S : Store) : Res W := match toD S x with
  | some (.list xs) => .ok (.d (.int xs.length)) S
  | some (.tuple xs) => .ok (.d (.int xs.length)) S
  | some (.str z) => if fits z.length then .ok (.d (.int z.length)) S else .stuck
  | _ => .stuck
def bltW (b : Blt) (ws : List W) (S : Store) : Res W :=
  match b, ws with
  | .len, [x] => lenW x S
  | .abs, [.d (.int i)] => .ok (.d (.int (if i < 0 then -i else i))) S
  | .int, [.d (.int i)] => .ok (.d (.int i)) S
  | .int, [.d (.bool b)] => .ok (.d (.int (if b then 1 else 0))) S
  | .max2, [.d (.int i), .d (.int j)] => .ok (.d (.int (if j > i then j else i))) S
  | .min2, [.d (.int i), .d (.int j)] => .ok (.d (.int (if j < i then j else i))) S
  | .maxL, [x] => match (toD S x) with
    | some (.list xs) => match intsOf xs with
      | some (i :: is) => .ok (.d (.int (maxI (i :: is)))) S
      | _ => .stuck
    | _ => .stuck
  | .tuple, [x] => match toD S x with
    | some (.list xs) => .ok (.d (.tuple xs)) S
    | some (.tuple xs) => .ok (.d (.tuple xs)) S
    | _ => .stuck
  | .sorted, [x] => match toD S x with
    | some (.list xs) => if sortOk xs then .ok (.d (.list (xs.mergeSort (PySem.W.dataLe false id)))) S else .stuck
    | _ => .stuck
  | .all, [x] => match toD S x with
    | some (.list xs) => optR ((boolsOf xs).map fun bs => .d (.bool (bs.all id))) S
    | _ => .stuck
  | .any, [x] => match toD S x with
    | some (.list xs) => optR ((boolsOf xs).map fun bs => .d (.bool (bs.any id))) S
    | _ => .stuck
  | .lenset, [x] => match toD S x with
    | some (.list xs) => match intsOf xs with
      | some is => if decide is.Nodup && decide (is.length ≤ 4000) then .ok (.d (.int is.length)) S else .stuck
      | none => .stuck
    | _ => .stuck
  | .str, [.d (.int i)] => if decide (i.natAbs.log2 < 1920) then .ok (.d (.str (toString i))) S else .stuck
  | .bool, [.d (.bool b)] => .ok (.d (.bool b)) S
  | _, _ => .stuck
/-- a new list of the same items -/
def cpyW (m : Bool) (x : W) (S : Store) : Res W := match (toD S x).bind seqD with
  | some xs => newL m xs S
  | none => .stuck
/-- a new list of the keys of a dict -/
def dkeyW (m : Bool) (x : W) (S : Store) : Res W := match x with
  | .r i => match S[i]? with
    | some (.dT kvs) => newL m (kvs.map (·.1)) S
    | some (.dK kvs) => newL m (kvs.map fun p => keyOfD p.1) S
    | _ => .stuck
  | _ => .stuck
def isiW (ty : Ty) (x : W) (S : Store) : Res W := match toD S x with
  | some a => .ok (.d (.bool (tyD ty a))) S
  | none => .stuck
def appW (x y : W) (S : Store) : Res W := match x, y with
  | .r i, .d v => match S[i]? with
    | some (.list xs) => if decide (xs.length < sizeLine) then .ok (.d .none) (S.set i (.list (xs ++ [v]))) else .stuck
    | _ => .stuck
  | _, _ => .stuck
/-- the receiver is a list of the store -/
def lstR (x : W) (S : Store) : Res Unit := match x with
  | .r i => match S[i]? with
    | some (.list _) => .ok () S
    | _ => .stuck
  | _ => .stuck
def popW (x : W) (S : Store) : Res W := match x with
  | .r i => match S[i]? with
    | some (.list xs) => match xs[xs.length - 1]? with
      | some v => .ok (.d v) (S.set i (.list xs.dropLast))
      | none => .stuck
    | _ => .stuck
  | _ => .stuck
def indxW (x y : W) (S : Store) : Res W := match (toD S x).bind seqD, y with
  | some xs, .d v => if flat v then optR ((xs.findIdx? fun z => PyData.eqv z v).map fun k => .d (.int k)) S else .stuck
  | _, _ => .stuck
def dgetW (x k y : W) (S : Store) : Res W := match x, k, y with
  | .r i, .d a, .d v => match S[i]? with
    | some (.dT kvs) => if isKey a then .ok (.d ((getT kvs a).getD v)) S else .stuck
    | some (.dK kvs) => match keyD a with
      | some c => .ok (.d ((getK kvs c).getD v)) S
      | none => .stuck
    | _ => .stuck
  | _, _, _ => .stuck
def setW (x k y : W) (S : Store) : Res Unit := match x, k, y with
  | .r i, .d (.int j), .d v => match S[i]? with
    | some (.list xs) => match placeD xs.length j with
        | some p => .ok () (S.set i (.list (xs.set p v)))
        | none => .stuck
    | _ => .stuck
  | _, _, _ => .stuck
def dsetW (x k y : W) (S : Store) : Res Unit := match x, k, y with
  | .r i, .d a, .d v => match S[i]? with
    | some (.dT kvs) => if isKey a && decide (kvs.length < sizeLine) then .ok () (S.set i (.dT (putT kvs a v))) else .stuck
    | some (.dK kvs) => match keyD a with
      | some c => if decide (kvs.length < sizeLine) then .ok () (S.set i (.dK (putK kvs c v))) else .stuck
      | none => .stuck
    | _ => .stuck
  | _, _, _ => .stuck
def putAllT : List (D × D) → List D → List D → Option (List (D × D))
  | kvs, [], [] => some kvs
  | kvs, k :: ks, v :: vs => if isKey k then putAllT (putT kvs k v) ks vs else none
  | _, _, _ => none
def putAllK : List (L2.Key × D) → List D → List D → Option (List (L2.Key × D))
  | kvs, [], [] => some kvs
  | kvs, k :: ks, v :: vs => match keyD k with
    | some c => putAllK (putK kvs c v) ks vs
    | none => none
  | _, _, _ => none

/-! ### targets -/
def wipeL (ls : Loc) : List Nat → Loc
  | [] => ls
  | v :: vs => (wipeL ls vs).set v none
def setAll (ls : Loc) : List Nat → List D → Option Loc
  | [], [] => some ls
  | j :: js, x :: xs => setAll (ls.set j (some (.d x))) js xs
  | _, _ => none
def bindD (tg : Tg) (x : D) (ls : Loc) : Option Loc := match tg with
  | .nm j => some (ls.set j (some (.d x)))
  | .tp js => match x with
    | .tuple xs => setAll ls js xs
    | _ => none
def bindW (tg : Tg) (w : W) (ls : Loc) : Option Loc := match tg, w with
  | .nm j, w => some (ls.set j (some w))
  | tg, .d x => bindD tg x ls
  | _, _ => none

/-! ### loops -/
def compL (bnd : D → Option Loc) (test : Loc → Store → Res W) (elt : Loc → Store → Res W) : List D → List D → Store → Res (List D)
  | [], acc, S => .ok acc S
  | x :: xs, acc, S => match bnd x with
    | none => .stuck
    | some l => (test l S).test fun b S1 => if b then (elt l S1).bind fun w S2 => match w with
        | .d y => if decide (acc.length < sizeLine) then compL bnd test elt xs (acc ++ [y]) S2 else .stuck
        | .r _ => .stuck
      else compL bnd test elt xs acc S1
def forL (bnd : D → Loc → Option Loc) (body : Loc → Store → Res Fl) : List D → Loc → Store → Res Fl
  | [], ls, S => .ok (.nx ls) S
  | x :: xs, ls, S => match bnd x ls with
    | none => .stuck
    | some l => (body l S).bind fun f S1 => match f with
      | .nx l1 => forL bnd body xs l1 S1
      | .rt w => .ok (.rt w) S1
def whlL (test : Loc → Store → Res W) (body : Loc → Store → Res Fl) : Nat → Loc → Store → Res Fl
  | 0, _, _ => .stuck
  | n + 1, ls, S => (test ls S).test fun b S1 => if b then (body ls S1).bind fun f S2 => match f with
      | .nx l1 => whlL test body n l1 S2
      | .rt w => .ok (.rt w) S2
    else .ok (.nx ls) S1

abbrev Call := Nat → List W → Store → Res W

def enumD (xs : List D) : List D := (List.range xs.length).zipWith (fun i x => .tuple [.int (i : Nat), x]) xs
def zipD (xs ys : List D) : List D := xs.zipWith (fun x y => .tuple [x, y]) ys

mutual
/-- the value of an expression -/
def evE (call : Call) : E → Loc → Store → Res W
  | .var j, ls, S => match ls[j]? with
    | some (some w) => .ok w S
    | _ => .stuck
  | .frz a, ls, S => (evE call a ls S).bind frzW
  | .cst x, _, S => .ok (.d x) S
  | .glb _ v, _, S => .ok (.d v) S
  | .bin op a b, ls, S => (evE call a ls S).bind fun x S1 => (evE call b ls S1).bind fun y S2 => binW op x y S2
  | .neg a, ls, S => (evE call a ls S).bind negW
  | .nt a, ls, S => (evE call a ls S).bind notW
  | .and a b, ls, S => (evE call a ls S).test fun c S1 => if c then evE call b ls S1 else .ok (.d (.bool false)) S1
  | .or a b, ls, S => (evE call a ls S).test fun c S1 => if c then .ok (.d (.bool true)) S1 else evE call b ls S1
  | .cmp op a b, ls, S => (evE call a ls S).bind fun x S1 => (evE call b ls S1).bind fun y S2 => cmpW op x y S2
  | .chn o p a b c, ls, S => (evE call a ls S).bind fun x S1 => (evE call b ls S1).bind fun y S2 => (cmpW o x y S2).test fun k S3 =>
      if k then (evE call c ls S3).bind fun z S4 => cmpW p y z S4 else .ok (.d (.bool false)) S3
  | .ife t a b, ls, S => (evE call t ls S).test fun k S1 => if k then evE call a ls S1 else evE call b ls S1
  | .tup es, ls, S => (evL call es ls S).bind tupW
  | .lst m es, ls, S => (evL call es ls S).bind (lstW m)
  | .idx a i, ls, S => (evE call a ls S).bind fun x S1 => (evE call i ls S1).bind fun y S2 => idxW x y S2
  | .slc bl bh a lo hi, ls, S => (evE call a ls S).bind fun x S1 => (if bl then (evE call lo ls S1).bind partW else .ok none S1).bind fun y S2 =>
      (if bh then (evE call hi ls S2).bind partW else .ok none S2).bind fun z S3 => slcW x y z S3
  | .omit, _, S => .ok (.d .none) S
  | .rev a, ls, S => (evE call a ls S).bind revW
  | .call f es, ls, S => (evL call es ls S).bind fun ws S1 => call f ws S1
  | .blt b es, ls, S => (evL call es ls S).bind (bltW b)
  | .cpy m a, ls, S => (evE call a ls S).bind (cpyW m)
  | .isi ty a, ls, S => (evE call a ls S).bind (isiW ty)
  | .app a x, ls, S => (evE call a ls S).bind fun v S1 => (lstR v S1).bind fun _ S2 => (evE call x ls S2).bind fun y S3 => appW v y S3
  | .pop a, ls, S => (evE call a ls S).bind popW
  | .indx a x, ls, S => (evE call a ls S).bind fun v S1 => (evE call x ls S1).bind fun y S2 => indxW v y S2
  | .dget a k x, ls, S => (evE call a ls S).bind fun v S1 => (evE call k ls S1).bind fun y S2 => (evE call x ls S2).bind fun z S3 => dgetW v y z S3
  | .ind neg a b, ls, S => (evE call a ls S).bind fun v S1 => (evE call b ls S1).bind fun y S2 => indW neg v y S2
  | .didx a i, ls, S => (evE call a ls S).bind fun v S1 => (evE call i ls S1).bind fun y S2 => didxW v y S2
  | .dlen a, ls, S => (evE call a ls S).bind dlenW
  | .dkey m a, ls, S => (evE call a ls S).bind (dkeyW m)
  | .dnew t, _, S => .ok (.r S.length) (S ++ [if t then .dT [] else .dK []])
  | .ddsp t ks vs, ls, S => (evL call ks ls S).bind fun as S1 => (evL call vs ls S1).bind fun bs S2 => match dataOf as, dataOf bs with
      | some xs, some ys => if t then match putAllT [] xs ys with
          | some kvs => .ok (.r S2.length) (S2 ++ [.dT kvs])
          | none => .stuck
        else match putAllK [] xs ys with
          | some kvs => .ok (.r S2.length) (S2 ++ [.dK kvs])
          | none => .stuck
      | _, _ => .stuck
  | .comp m elt tg src cond own, ls, S => (evI call src ls S).bind fun xs S1 =>
      ((compL (fun x => bindD tg x (wipeL ls own)) (fun l S => evC call cond l S) (fun l S => evE call elt l S) xs [] S1).noex).bind fun ys S2 => newL m ys S2
  | _, _, _ => .stuck
/-- the values of several, from the left -/
def evL (call : Call) : E → Loc → Store → Res (List W)
  | .nil, _, S => .ok [] S
  | .cons e es, ls, S => (evE call e ls S).bind fun w S1 => (evL call es ls S1).bind fun ws S2 => .ok (w :: ws) S2
  | _, _, _ => .stuck
/-- a comprehension's test, or none -/
def evC (call : Call) : E → Loc → Store → Res W
  | .omit, _, S => .ok (.d (.bool true)) S
  | .cons e .nil, ls, S => evE call e ls S
  | _, _, _ => .stuck
/-- what is walked -/
def evI (call : Call) : E → Loc → Store → Res (List D)
  | .iseq a, ls, S => (evE call a ls S).bind fun w S1 => match w with
    | .d x => optR (seqD x) S1
    | .r _ => .stuck
  | .irng1 a, ls, S => (evE call a ls S).bind fun w S1 => match w with
    | .d (.int j) => if decide (-(2 ^ 62) ≤ j) && decide (j < 2 ^ 62) then .ok ((List.range j.toNat).map fun i => .int (i : Nat)) S1 else .stuck
    | _ => .stuck
  | .irng2 a b, ls, S => (evE call a ls S).bind fun w S1 => (evE call b ls S1).bind fun u S2 => match w, u with
    | .d (.int i), .d (.int j) => if decide (-(2 ^ 62) ≤ i) && decide (i < 2 ^ 62) && decide (-(2 ^ 62) ≤ j) && decide (j < 2 ^ 62) then .ok ((List.range (j - i).toNat).map fun k => .int (i + (k : Nat))) S2 else .stuck
    | _, _ => .stuck
  | .ienum a, ls, S => (evE call a ls S).bind fun w S1 => match w with
    | .d x => optR ((seqD x).map enumD) S1
    | .r _ => .stuck
  | .izip a b, ls, S => (evE call a ls S).bind fun w S1 => (evE call b ls S1).bind fun u S2 => match w, u with
    | .d (.tuple xs), .d (.tuple ys) => .ok (zipD xs ys) S2
    | .d (.list xs), .d (.list ys) => .ok (zipD xs ys) S2
    | _, _ => .stuck
  | _, _, _ => .stuck
end

def asgLV (call : Call) (lv : LV) (w : W) (ls : Loc) (S : Store) : Res Loc := match lv with
  | .nm j => .ok (ls.set j (some w)) S
  | .ix a i => (evE call a ls S).bind fun x S1 => (evE call i ls S1).bind fun y S2 => (setW x y w S2).bind fun _ S3 => .ok ls S3
def asgAll (call : Call) : List LV → List W → Loc → Store → Res Loc
  | [], [], ls, S => .ok ls S
  | lv :: lvs, w :: ws, ls, S => (asgLV call lv w ls S).bind fun l S1 => asgAll call lvs ws l S1
  | _, _, _, _ => .stuck

/-- a statement's run; F: the most turns of a while -/
def exM (call : Call) (F : Nat) : M → Loc → Store → Res Fl
  | .skip, ls, S => .ok (.nx ls) S
  | .seq a b, ls, S => (exM call F a ls S).bind fun f S1 => match f with
    | .nx l1 => exM call F b l1 S1
    | .rt w => .ok (.rt w) S1
  | .asg tg e, ls, S => (evE call e ls S).bind fun w S1 => optR ((bindW tg w ls).map .nx) S1
  | .par lvs es, ls, S => (evL call es ls S).bind fun ws S1 => (asgAll call lvs ws ls S1).bind fun l S2 => .ok (.nx l) S2
  | .setx a i e, ls, S => (evE call e ls S).bind fun w S1 => (evE call a ls S1).bind fun x S2 => (evE call i ls S2).bind fun y S3 => (setW x y w S3).bind fun _ S4 => .ok (.nx ls) S4
  | .setd a i e, ls, S => (evE call e ls S).bind fun w S1 => (evE call a ls S1).bind fun x S2 => (evE call i ls S2).bind fun y S3 => (dsetW x y w S3).bind fun _ S4 => .ok (.nx ls) S4
  | .iff c a b, ls, S => (evE call c ls S).test fun k S1 => if k then exM call F a ls S1 else exM call F b ls S1
  | .for tg src body, ls, S => ((evI call src ls S).bind fun xs S1 => forL (fun x l => bindD tg x l) (fun l S => exM call F body l S) xs ls S1).noex
  | .whl c body, ls, S => (whlL (fun l S => evE call c l S) (fun l S => exM call F body l S) F ls S).noex
  | .ret e, ls, S => (evE call e ls S).bind fun w S1 => .ok (.rt w) S1
  | .exp e, ls, S => (evE call e ls S).bind fun _ S1 => .ok (.nx ls) S1
  | .never, _, _ => .stuck

/-- a def: how many parameters, how many names, the body -/
structure Def where
  ps : Nat
  n : Nat
  body : M

/-- what a call leaves: the things that were there, and a new one that is handed back -/
def leave (n : Nat) : Res Fl → Res W
  | .ok (.nx _) S => .ok (.d .none) (S.take n)
  | .ok (.rt (.d x)) S => .ok (.d x) (S.take n)
  | .ok (.rt (.r i)) S => if i < n then .ok (.r i) (S.take n) else match S[i]? with
    | some o => .ok (.r n) (S.take n ++ [o])
    | none => .stuck
  | .ex c S => .ex c (S.take n)
  | .stuck => .stuck

def startL (n : Nat) (ws : List W) : Loc := ws.map some ++ List.replicate (n - ws.length) none

/-- a call by its number; k: how deep calls may be nested -/
def callP (P : List Def) (F : Nat) : Nat → Call
  | 0, _, _, _ => .stuck
  | k + 1, f, ws, S => match P[f]? with
    | some d => if ws.length = d.ps then leave S.length (exM (callP P F k) F d.body (startL d.n ws) S) else .stuck
    | none => .stuck

end MI

/-! MiC: how values, locals and the store lie in the abstract heap (own work). -/
namespace MI
open PySem PySem.Spec PyProof.Rows L2

structure Gx where
  P : Program
  w : World
  K : PySem.W.Frag

abbrev _root_.L2.Cx.gx (X : Cx) : Gx := ⟨X.prog, X.w, X.K⟩

/-- a list that stays as it is -/
def FzL (K : PySem.W.Frag) (H : Hp) (a : Addr) (xs : List V) : Prop :=
  (∃ o, H a = some (.frz o (.lst xs))) ∨
    ∃ (o : Obj) (its : Array Value) (n : Nat), K.lookup a = some o ∧ o.cls = .type "list" ∧ o.dict = none ∧ o.data = .seq its n ∧ its.size ≤ sizeLine ∧ Vals xs its.toList
theorem FzL.sq {K : PySem.W.Frag} {H : Hp} {a : Addr} {xs : List V} (h : FzL K H a xs) : SqL K H a xs := by
  rcases h with h | h
  · exact .inl (.inr h)
  · exact .inr h

mutual
inductive DR (K : PySem.W.Frag) (H : Hp) : V → D → Prop where
  | non : DR K H .non .none
  | bl (b : Bool) : DR K H (.bl b) (.bool b)
  | int (i : Int) : DR K H (.int i) (.int i)
  | str (x : Str) : DR K H (.str x) (.str x)
  | lst {a : Addr} {xs : List V} {ds : List D} : FzL K H a xs → DRs K H xs ds → DR K H (.ref a) (.list ds)
  | tup {a : Addr} {xs : List V} {ds : List D} : SqT K H a xs → DRs K H xs ds → DR K H (.ref a) (.tuple ds)
inductive DRs (K : PySem.W.Frag) (H : Hp) : List V → List D → Prop where
  | nil : DRs K H [] []
  | cons {v : V} {vs : List V} {d : D} {ds : List D} : DR K H v d → DRs K H vs ds → DRs K H (v :: vs) (d :: ds)
end

/-- what stays: tuples, locked things -/
def Grow (H H' : Hp) : Prop := (∀ a xs, H a = some (.tup xs) → H' a = some (.tup xs)) ∧ ∀ a o u, H a = some (.frz o u) → H' a = some (.frz o u)
theorem Grow.refl (H : Hp) : Grow H H := ⟨fun _ _ h => h, fun _ _ _ h => h⟩
theorem Grow.trans {H H1 H2 : Hp} (a : Grow H H1) (b : Grow H1 H2) : Grow H H2 := ⟨fun c xs h => b.1 c xs (a.1 c xs h), fun c o u h => b.2 c o u (a.2 c o u h)⟩
theorem Grow.new {H : Hp} {p : Addr} {o : HO} (hp : H p = none) : Grow H (upd H p o) :=
  ⟨fun a xs h => by rw [upd_ne (ne_of_none h hp)]; exact h, fun a ob u h => by rw [upd_ne (ne_of_none h hp)]; exact h⟩
/-- a thing that is neither a tuple nor locked is written, or locked -/
theorem Grow.put {H : Hp} {p : Addr} {o u : HO} (hp : H p = some o) (h1 : ∀ xs, o ≠ .tup xs) (h2 : ∀ b v, o ≠ .frz b v) : Grow H (upd H p u) :=
  ⟨fun a xs h => by rw [upd_ne (ne_of h hp fun e => h1 xs e.symm)]; exact h, fun a ob v h => by rw [upd_ne (ne_of h hp fun e => h2 ob v e.symm)]; exact h⟩
theorem FzL.mono {K : PySem.W.Frag} {H H' : Hp} {a : Addr} {xs : List V} (g : Grow H H') (h : FzL K H a xs) : FzL K H' a xs := by
  rcases h with ⟨o, h⟩ | h
  · exact .inl ⟨o, g.2 _ _ _ h⟩
  · exact .inr h
theorem SqT_mono {K : PySem.W.Frag} {H H' : Hp} {a : Addr} {xs : List V} (g : Grow H H') (h : SqT K H a xs) : SqT K H' a xs := by
  rcases h with (h | ⟨o, h⟩) | h
  · exact .inl (.inl (g.1 _ _ h))
  · exact .inl (.inr ⟨o, g.2 _ _ _ h⟩)
  · exact .inr h
mutual
theorem DR.mono {K : PySem.W.Frag} {H H' : Hp} (g : Grow H H') : ∀ (d : D) (v : V), DR K H v d → DR K H' v d
  | .none, _, h => by cases h; exact .non
  | .bool _, _, h => by cases h; exact .bl _
  | .int _, _, h => by cases h; exact .int _
  | .str _, _, h => by cases h; exact .str _
  | .list ds, _, h => by
    cases h with
    | lst h1 h2 => exact .lst (h1.mono g) (DRs.mono g ds _ h2)
  | .tuple ds, _, h => by
    cases h with
    | tup h1 h2 => exact .tup (SqT_mono g h1) (DRs.mono g ds _ h2)
  | .dict _, _, h => nomatch h
theorem DRs.mono {K : PySem.W.Frag} {H H' : Hp} (g : Grow H H') : ∀ (ds : List D) (vs : List V), DRs K H vs ds → DRs K H' vs ds
  | [], _, h => by cases h; exact .nil
  | d :: ds, _, h => by
    cases h with
    | cons h1 h2 => exact .cons (DR.mono g d _ h1) (DRs.mono g ds _ h2)
end
theorem DRs.length {K : PySem.W.Frag} {H : Hp} : ∀ {vs : List V} {ds : List D}, DRs K H vs ds → vs.length = ds.length
  | _, _, .nil => rfl
  | _, _, .cons _ t => by rw [List.length_cons, List.length_cons, DRs.length t]
theorem DRs.append {K : PySem.W.Frag} {H : Hp} : ∀ {vs ws : List V} {ds es : List D}, DRs K H vs ds → DRs K H ws es → DRs K H (vs ++ ws) (ds ++ es)
  | _, _, _, _, .nil, s => s
  | _, _, _, _, .cons h t, s => .cons h (DRs.append t s)
theorem DRs.take {K : PySem.W.Frag} {H : Hp} : ∀ (n : Nat) {vs : List V} {ds : List D}, DRs K H vs ds → DRs K H (vs.take n) (ds.take n)
  | 0, _, _, _ => .nil
  | _ + 1, _, _, .nil => .nil
  | n + 1, _, _, .cons h t => .cons h (DRs.take n t)
theorem DRs.drop {K : PySem.W.Frag} {H : Hp} : ∀ (n : Nat) {vs : List V} {ds : List D}, DRs K H vs ds → DRs K H (vs.drop n) (ds.drop n)
  | 0, _, _, h => h
  | _ + 1, _, _, .nil => .nil
  | n + 1, _, _, .cons _ t => DRs.drop n t
theorem DRs.get {K : PySem.W.Frag} {H : Hp} : ∀ {vs : List V} {ds : List D} {i : Nat} {d : D}, DRs K H vs ds → ds[i]? = some d → ∃ v, vs[i]? = some v ∧ DR K H v d
  | _, _, _, _, .nil, e => by simp at e
  | _, _, 0, _, .cons h _, e => by simp at e; subst e; exact ⟨_, rfl, h⟩
  | _, _, i + 1, _, .cons _ t, e => by
    obtain ⟨v, h1, h2⟩ := DRs.get (i := i) t (by simpa using e)
    exact ⟨v, by simpa using h1, h2⟩
theorem DRs.set {K : PySem.W.Frag} {H : Hp} {v : V} {d : D} (r : DR K H v d) : ∀ {vs : List V} {ds : List D} (i : Nat), DRs K H vs ds → DRs K H (vs.set i v) (ds.set i d)
  | _, _, _, .nil => .nil
  | _, _, 0, .cons _ t => .cons r t
  | _, _, i + 1, .cons q t => .cons q (DRs.set r i t)
theorem DRs.reverse {K : PySem.W.Frag} {H : Hp} : ∀ {vs : List V} {ds : List D}, DRs K H vs ds → DRs K H vs.reverse ds.reverse
  | _, _, .nil => .nil
  | _, _, .cons h t => by
    rw [List.reverse_cons, List.reverse_cons]
    exact (DRs.reverse t).append (.cons h .nil)
mutual
theorem DR.dp {K : PySem.W.Frag} {H : Hp} : ∀ (d : D) (v : V), DR K H v d → Dp K H v d
  | .none, _, h => by cases h; exact .non
  | .bool _, _, h => by cases h; exact .bl _
  | .int _, _, h => by cases h; exact .int _
  | .str _, _, h => by cases h; exact .str _
  | .list ds, _, h => by
    cases h with
    | lst h1 h2 => exact .lst h1.sq (DRs.dp ds _ h2)
  | .tuple ds, _, h => by
    cases h with
    | tup h1 h2 => exact .tup h1 (DRs.dp ds _ h2)
  | .dict _, _, h => nomatch h
theorem DRs.dp {K : PySem.W.Frag} {H : Hp} : ∀ (ds : List D) (vs : List V), DRs K H vs ds → DpAll K H vs ds
  | [], _, h => by cases h; exact .nil
  | d :: ds, _, h => by
    cases h with
    | cons h1 h2 => exact .cons (DR.dp d _ h1) (DRs.dp ds _ h2)
end
mutual
theorem DR.plain {K : PySem.W.Frag} {H : Hp} : ∀ (d : D) (v : V), DR K H v d → d.plain = true
  | .none, _, _ => rfl
  | .bool _, _, _ => rfl
  | .int _, _, _ => rfl
  | .str _, _, _ => rfl
  | .list ds, _, h => by
    cases h with
    | lst h1 h2 => exact DRs.plain ds _ h2
  | .tuple ds, _, h => by
    cases h with
    | tup h1 h2 => exact DRs.plain ds _ h2
  | .dict _, _, h => nomatch h
theorem DRs.plain {K : PySem.W.Frag} {H : Hp} : ∀ (ds : List D) (vs : List V), DRs K H vs ds → PyData.plainAll ds = true
  | [], _, _ => rfl
  | d :: ds, _, h => by
    cases h with
    | cons h1 h2 => rw [PyData.plainAll, DR.plain d _ h1, DRs.plain ds _ h2]; rfl
end

/-- at the top a list may be one that changes -/
inductive Vw (K : PySem.W.Frag) (H : Hp) : V → D → Prop where
  | dr {v : V} {d : D} : DR K H v d → Vw K H v d
  | lst {a : Addr} {xs : List V} {ds : List D} : SqL K H a xs → DRs K H xs ds → Vw K H (.ref a) (.list ds)
theorem Vw.dp {K : PySem.W.Frag} {H : Hp} {v : V} {d : D} (h : Vw K H v d) : Dp K H v d := by
  cases h with
  | dr h => exact h.dp
  | lst h1 h2 => exact .lst h1 (DRs.dp _ _ h2)
theorem Vw.plain {K : PySem.W.Frag} {H : Hp} {v : V} {d : D} (h : Vw K H v d) : d.plain = true := by
  cases h with
  | dr h => exact h.plain
  | lst h1 h2 => exact DRs.plain _ _ h2
theorem Vw.list {K : PySem.W.Frag} {H : Hp} {v : V} {ds : List D} (h : Vw K H v (.list ds)) : ∃ a xs, v = .ref a ∧ SqL K H a xs ∧ DRs K H xs ds := by
  cases h with
  | dr h => cases h with | lst h1 h2 => exact ⟨_, _, rfl, h1.sq, h2⟩
  | lst h1 h2 => exact ⟨_, _, rfl, h1, h2⟩
theorem Vw.tuple {K : PySem.W.Frag} {H : Hp} {v : V} {ds : List D} (h : Vw K H v (.tuple ds)) : ∃ a xs, v = .ref a ∧ SqT K H a xs ∧ DRs K H xs ds := by
  cases h with
  | dr h => cases h with | tup h1 h2 => exact ⟨_, _, rfl, h1, h2⟩

/-! ### values, things, locals -/
def WR (K : PySem.W.Frag) (M : List Addr) (H : Hp) (v : V) : W → Prop
  | .d x => DR K H v x
  | .r i => ∃ a, M[i]? = some a ∧ v = .ref a
/-- the entries of a dict whose keys are tuples -/
def RawT (G : Gx) (a : Addr) (xs : List (NestedKey × Addr × Value)) (h : Heap) : Prop :=
  ∃ o es ep, h.get? a = some o ∧ o.ExactDict ∧ o.data = .dict es ep ∧ es.toList = xs.map (entryOfKey (nestedKind G.P G.w))
def ObR (G : Gx) (H : Hp) (a : Addr) : SO → Prop
  | .list ds => ∃ vs, H a = some (.lst vs) ∧ DRs G.K H vs ds
  | .dK kvs => ∃ kws, H a = some (.dK kws) ∧ Paired (fun p q => p.1 = q.1 ∧ DR G.K H p.2 q.2) kws kvs
  | .dT kvs => kvs.length ≤ sizeLine ∧ ∃ xs : List (NestedKey × Addr × Value), H a = some (.ext (RawT G a xs)) ∧ (a == sysModules) = false ∧ (xs.map (·.1)).Nodup ∧
      Paired (fun x q => x.1 = nk q.1 ∧ isKey q.1 = true ∧ DR G.K H (.ref x.2.1) q.1 ∧ ∃ v, RelV v x.2.2 ∧ DR G.K H v q.2) xs kvs
  | .dead => True
structure Rel (G : Gx) (M : List Addr) (S : Store) (H : Hp) : Prop where
  len : M.length = S.length
  nd : M.Nodup
  on : ∀ a ∈ M, H a ≠ none
  ob : ∀ (i : Nat) (o : SO) (a : Addr), S[i]? = some o → M[i]? = some a → ObR G H a o
structure LR (G : Gx) (M : List Addr) (H : Hp) (σ : L2.St) (ls : Loc) : Prop where
  len : σ.length = ls.length
  at_ : ∀ (j : Nat) (w : W), ls[j]? = some (some w) → ∃ v, σ[j]? = some (some v) ∧ WR G.K M H v w

def Pre (M M' : List Addr) : Prop := ∃ t, M' = M ++ t
theorem Pre.refl (M : List Addr) : Pre M M := ⟨[], by simp⟩
theorem Pre.trans {M M1 M2 : List Addr} (a : Pre M M1) (b : Pre M1 M2) : Pre M M2 := by
  obtain ⟨t, rfl⟩ := a
  obtain ⟨u, rfl⟩ := b
  exact ⟨t ++ u, by rw [List.append_assoc]⟩
theorem Pre.get {M M' : List Addr} (p : Pre M M') {i : Nat} {a : Addr} (h : M[i]? = some a) : M'[i]? = some a := by
  obtain ⟨t, rfl⟩ := p
  rw [List.getElem?_append_left (List.getElem?_eq_some_iff.mp h).1]
  exact h
theorem WR.mono {K : PySem.W.Frag} {M M' : List Addr} {H H' : Hp} (g : Grow H H') (p : Pre M M') {v : V} {w : W} (h : WR K M H v w) : WR K M' H' v w := by
  cases w with
  | d x => exact DR.mono g _ _ h
  | r i =>
    obtain ⟨a, h1, h2⟩ := h
    exact ⟨a, p.get h1, h2⟩
theorem LR.mono {G : Gx} {M M' : List Addr} {H H' : Hp} (g : Grow H H') (p : Pre M M') {σ : L2.St} {ls : Loc} (h : LR G M H σ ls) : LR G M' H' σ ls :=
  ⟨h.len, fun j w e => let ⟨v, e1, r⟩ := h.at_ j w e; ⟨v, e1, r.mono g p⟩⟩
theorem LR.set {G : Gx} {M : List Addr} {H : Hp} {σ : L2.St} {ls : Loc} (h : LR G M H σ ls) {v : V} {w : W} (r : WR G.K M H v w) (j : Nat) : LR G M H (σ.set j (some v)) (ls.set j (some w)) := by
  refine ⟨by rw [List.length_set, List.length_set]; exact h.len, fun k u e => ?_⟩
  by_cases hk : j = k
  · subst hk
    have hj : j < ls.length := by
      have := (List.getElem?_eq_some_iff.mp e).1
      rwa [List.length_set] at this
    rw [List.getElem?_set_self hj] at e
    cases e
    exact ⟨v, List.getElem?_set_self (by rw [h.len]; exact hj), r⟩
  · rw [List.getElem?_set_ne hk] at e ⊢
    exact h.at_ k u e
theorem paired_mapP {α β : Type} {F G : α → β → Prop} {l₁ : List α} {l₂ : List β} (h : Paired F l₁ l₂) (f : ∀ a b, F a b → G a b) : Paired G l₁ l₂ := Paired.mapP h f
theorem ObR.mono {G : Gx} {H H' : Hp} {a : Addr} {o : SO} (g : Grow H H') (e : H' a = H a) (h : ObR G H a o) : ObR G H' a o := by
  cases o with
  | list ds =>
    obtain ⟨vs, h1, h2⟩ := h
    exact ⟨vs, e.trans h1, DRs.mono g _ _ h2⟩
  | dK kvs =>
    obtain ⟨kws, h1, h2⟩ := h
    exact ⟨kws, e.trans h1, paired_mapP h2 fun _ _ z => ⟨z.1, DR.mono g _ _ z.2⟩⟩
  | dT kvs =>
    obtain ⟨h0, xs, h1, h2, h3, h4⟩ := h
    exact ⟨h0, xs, e.trans h1, h2, h3, paired_mapP h4 fun _ _ z => ⟨z.1, z.2.1, DR.mono g _ _ z.2.2.1, let ⟨v, r, d⟩ := z.2.2.2; ⟨v, r, DR.mono g _ _ d⟩⟩⟩
  | dead => trivial
/-- a new object that is no thing of the store -/
theorem Rel.new {G : Gx} {M : List Addr} {S : Store} {H : Hp} {p : Addr} {o : HO} (R : Rel G M S H) (hp : H p = none) : Rel G M S (upd H p o) := by
  have ne : ∀ a ∈ M, a ≠ p := fun a ha e => R.on a ha (by rw [e]; exact hp)
  refine ⟨R.len, R.nd, fun a ha => by rw [upd_ne (ne a ha)]; exact R.on a ha, fun i so a h1 h2 => ?_⟩
  exact (R.ob i so a h1 h2).mono (Grow.new hp) (upd_ne (ne a (List.mem_of_getElem? h2)))
/-- a new thing -/
theorem Rel.push {G : Gx} {M : List Addr} {S : Store} {H : Hp} {p : Addr} {o : HO} {so : SO} (R : Rel G M S H) (hp : H p = none) (h : ObR G (upd H p o) p so) : Rel G (M ++ [p]) (S ++ [so]) (upd H p o) := by
  have ne : ∀ a ∈ M, a ≠ p := fun a ha e => R.on a ha (by rw [e]; exact hp)
  have R1 := R.new (o := o) hp
  refine ⟨by rw [List.length_append, List.length_append, R.len]; rfl, ?_, fun a ha => ?_, fun i so' a h1 h2 => ?_⟩
  · rw [List.nodup_append]
    refine ⟨R.nd, by simp, fun a ha b hb => ?_⟩
    have : b = p := by simpa using hb
    rw [this]
    exact ne a ha
  · rcases List.mem_append.mp ha with ha | ha
    · exact R1.on a ha
    · have : a = p := by simpa using ha
      rw [this, upd_same]
      simp
  · by_cases hi : i < S.length
    · rw [List.getElem?_append_left hi] at h1
      rw [List.getElem?_append_left (by rw [R.len]; exact hi)] at h2
      exact R1.ob i so' a h1 h2
    · have hi' : i = S.length := by
        have := (List.getElem?_eq_some_iff.mp h1).1
        rw [List.length_append, List.length_singleton] at this
        omega
      subst hi'
      rw [List.getElem?_append_right (Nat.le_refl _)] at h1
      rw [List.getElem?_append_right (by rw [R.len]; exact Nat.le_refl _), R.len] at h2
      simp at h1 h2
      subst h1 h2
      exact h
/-- the thing at i is changed -/
theorem Rel.put {G : Gx} {M : List Addr} {S : Store} {H : Hp} {i : Nat} {a : Addr} {o u : HO} {so : SO} (R : Rel G M S H) (hm : M[i]? = some a) (ho : H a = some o) (h1 : ∀ xs, o ≠ .tup xs) (h2 : ∀ b v, o ≠ .frz b v)
    (h : ObR G (upd H a u) a so) : Rel G M (S.set i so) (upd H a u) := by
  have g : Grow H (upd H a u) := Grow.put ho h1 h2
  refine ⟨by rw [List.length_set]; exact R.len, R.nd, fun b hb => ?_, fun j so' b e1 e2 => ?_⟩
  · by_cases e : b = a
    · rw [e, upd_same]; simp
    · rw [upd_ne e]; exact R.on b hb
  · by_cases hj : i = j
    · subst hj
      rw [hm] at e2
      cases e2
      have hl : i < S.length := by rw [← R.len]; exact (List.getElem?_eq_some_iff.mp hm).1
      rw [List.getElem?_set_self hl] at e1
      cases e1
      exact h
    · rw [List.getElem?_set_ne hj] at e1
      have ne : b ≠ a := fun e => by
        subst e
        obtain ⟨l1, q1⟩ := List.getElem?_eq_some_iff.mp hm
        obtain ⟨l2, q2⟩ := List.getElem?_eq_some_iff.mp e2
        exact hj ((List.getElem_inj R.nd).mp (q1.trans q2.symm))
      exact (R.ob j so' b e1 e2).mono g (upd_ne ne)
theorem Rel.take {G : Gx} {M : List Addr} {S : Store} {H : Hp} (R : Rel G M S H) (n : Nat) : Rel G (M.take n) (S.take n) H := by
  refine ⟨by rw [List.length_take, List.length_take, R.len], R.nd.sublist (List.take_sublist _ _), fun a ha => R.on a (List.mem_of_mem_take ha), fun i o a h1 h2 => ?_⟩
  have hi : i < n := by
    have := (List.getElem?_eq_some_iff.mp h1).1
    rw [List.length_take] at this
    omega
  rw [List.getElem?_take_of_lt hi] at h1 h2
  exact R.ob i o a h1 h2

/-- how the heap may go on: tuples and locked things stay, and all that is no thing of the store; new things are new -/
structure Ext (M : List Addr) (H : Hp) (M' : List Addr) (H' : Hp) : Prop where
  g : Grow H H'
  p : Pre M M'
  fr : ∀ a o, H a = some o → a ∉ M → H' a = some o
  nw : ∀ a ∈ M', a ∉ M → H a = none
theorem Ext.refl (M : List Addr) (H : Hp) : Ext M H M H := ⟨Grow.refl _, Pre.refl _, fun _ _ h _ => h, fun a h1 h2 => absurd h1 h2⟩
theorem Ext.trans {M M1 M2 : List Addr} {H H1 H2 : Hp} (x : Ext M H M1 H1) (y : Ext M1 H1 M2 H2) : Ext M H M2 H2 := by
  have sub : ∀ a ∈ M, a ∈ M1 := fun a h => by
    obtain ⟨t, rfl⟩ := x.p
    exact List.mem_append_left _ h
  refine ⟨x.g.trans y.g, x.p.trans y.p, fun a o h n => y.fr a o (x.fr a o h n) fun m => ?_, fun a m n => ?_⟩
  · have := x.nw a m n
    rw [this] at h
    cases h
  · cases e : H a with
    | none => rfl
    | some o =>
      by_cases m1 : a ∈ M1
      · exact absurd (x.nw a m1 n) (by rw [e]; simp)
      · have := y.nw a m m1
        rw [x.fr a o e n] at this
        cases this
theorem Ext.new {M : List Addr} {H : Hp} {p : Addr} {o : HO} (hp : H p = none) : Ext M H M (upd H p o) :=
  ⟨Grow.new hp, Pre.refl _, fun a u h _ => by rw [upd_ne (ne_of_none h hp)]; exact h, fun a h1 h2 => absurd h1 h2⟩
theorem Ext.push {M : List Addr} {H : Hp} {p : Addr} {o : HO} (hp : H p = none) : Ext M H (M ++ [p]) (upd H p o) :=
  ⟨Grow.new hp, ⟨[p], rfl⟩, fun a u h _ => by rw [upd_ne (ne_of_none h hp)]; exact h, fun a h1 h2 => by
    rcases List.mem_append.mp h1 with h | h
    · exact absurd h h2
    · have : a = p := by simpa using h
      rw [this]; exact hp⟩
theorem Ext.put {M : List Addr} {H : Hp} {i : Nat} {p : Addr} {o u : HO} (hm : M[i]? = some p) (hp : H p = some o) (h1 : ∀ xs, o ≠ .tup xs) (h2 : ∀ b v, o ≠ .frz b v) : Ext M H M (upd H p u) :=
  ⟨Grow.put hp h1 h2, Pre.refl _, fun a v h n => by
    rw [upd_ne fun e => n (by rw [e]; exact List.mem_of_getElem? hm)]
    exact h, fun a h1 h2 => absurd h1 h2⟩

/-- what is wanted of a result -/
def OK {α β : Type} (R : List Addr → Hp → β → α → Prop) (G : Gx) (E : Nat → Hp → Prop) (M : List Addr) (H : Hp) (r : Res α) (Q : β → Hp → Prop) : Prop :=
  match r with
  | .ok a S => ∀ M' H' b, Ext M H M' H' → Rel G M' S H' → R M' H' b a → Q b H'
  | .ex c S => ∀ M' H', Ext M H M' H' → Rel G M' S H' → E c H'
  | .stuck => False
section
variable {α β α' β' : Type} {R : List Addr → Hp → β → α → Prop} {R' : List Addr → Hp → β' → α' → Prop} {G : Gx} {E : Nat → Hp → Prop} {M M1 : List Addr} {H H1 : Hp}
theorem OK.at (x : Ext M H M1 H1) {r : Res α} {Q : β → Hp → Prop} (h : OK R G E M H r Q) : OK R G E M1 H1 r Q := by
  cases r with
  | ok a S => exact fun M' H' b y => h M' H' b (x.trans y)
  | ex c S => exact fun M' H' y => h M' H' (x.trans y)
  | stuck => exact h
theorem OK.bind {r : Res α} {f : α → Store → Res α'} {Q : β' → Hp → Prop} {Q1 : β → Hp → Prop} (h : OK R' G E M H (r.bind f) Q)
    (k : ∀ a S1 M1 H1 b, r = .ok a S1 → Grow H H1 → Pre M M1 → Rel G M1 S1 H1 → R M1 H1 b a → OK R' G E M1 H1 (f a S1) Q → Q1 b H1) : OK R G E M H r Q1 := by
  cases r with
  | ok a S => exact fun M' H' b x rel rr => k a S M' H' b rfl x.g x.p rel rr (OK.at (r := f a S) x h)
  | ex c S => exact h
  | stuck => exact h
/-- the same with all that is known of the heap -/
theorem OK.bindX {r : Res α} {f : α → Store → Res α'} {Q : β' → Hp → Prop} {Q1 : β → Hp → Prop} (h : OK R' G E M H (r.bind f) Q)
    (k : ∀ a S1 M1 H1 b, r = .ok a S1 → Ext M H M1 H1 → Rel G M1 S1 H1 → R M1 H1 b a → OK R' G E M1 H1 (f a S1) Q → Q1 b H1) : OK R G E M H r Q1 := by
  cases r with
  | ok a S => exact fun M' H' b x rel rr => k a S M' H' b rfl x rel rr (OK.at (r := f a S) x h)
  | ex c S => exact h
  | stuck => exact h
theorem OK.imp {r : Res α} {Q Q1 : β → Hp → Prop} (h : OK R G E M H r Q) (k : ∀ b H, Q b H → Q1 b H) : OK R G E M H r Q1 := by
  cases r with
  | ok a S => exact fun M' H' b x rel rr => k _ _ (h M' H' b x rel rr)
  | ex c S => exact h
  | stuck => exact h
theorem OK.testX {r : Res W} {f : Bool → Store → Res α'} {Q : β' → Hp → Prop} {Q1 : V → Hp → Prop} (h : OK R' G E M H (r.test f) Q)
    (k : ∀ c S1 M1 H1, Ext M H M1 H1 → Rel G M1 S1 H1 → OK R' G E M1 H1 (f c S1) Q → Q1 (.bl c) H1) : OK (WR G.K) G E M H r Q1 := by
  unfold Res.test at h
  refine h.bindX fun w S1 M1 H1 v _ x rel wr h' => ?_
  cases w with
  | r i => exact h'.elim
  | d y =>
    cases y with
    | bool b => cases wr; exact k b S1 M1 H1 x rel h'
    | _ => exact h'.elim
theorem OK.test {r : Res W} {f : Bool → Store → Res α'} {Q : β' → Hp → Prop} {Q1 : V → Hp → Prop} (h : OK R' G E M H (r.test f) Q)
    (k : ∀ c S1 M1 H1, Grow H H1 → Pre M M1 → Rel G M1 S1 H1 → OK R' G E M1 H1 (f c S1) Q → Q1 (.bl c) H1) : OK (WR G.K) G E M H r Q1 :=
  h.testX fun c S1 M1 H1 x rel h => k c S1 M1 H1 x.g x.p rel h
theorem OK.noex {r : Res α} {Q : β → Hp → Prop} {E' : Nat → Hp → Prop} (h : OK R G E' M H r.noex Q) : OK R G E M H r Q := by
  cases r with
  | ok a S => exact h
  | ex c S => exact h.elim
  | stuck => exact h
theorem OK.fin {a : α} {S : Store} {Q : β → Hp → Prop} {b : β} (h : OK R G E M H (.ok a S) Q) (rel : Rel G M S H) (r : R M H b a) : Q b H := h M H b (Ext.refl _ _) rel r
theorem OK.fin' {a : α} {S : Store} {Q : β → Hp → Prop} {b : β} {M' : List Addr} {H' : Hp} (h : OK R G E M H (.ok a S) Q) (x : Ext M H M' H') (rel : Rel G M' S H') (r : R M' H' b a) : Q b H' := h M' H' b x rel r
end

/-- an expression's reading by what it computes -/
def tE {α β : Type} (R : List Addr → Hp → β → α → Prop) (G : Gx) (E : Nat → Hp → Prop) (F : Loc → Store → Res α) : L2.St → Hp → (β → Hp → Prop) → Prop := fun σ H Q =>
  ∃ M ls S, Rel G M S H ∧ LR G M H σ ls ∧ OK R G E M H (F ls S) Q
theorem tE.of {α β : Type} {R : List Addr → Hp → β → α → Prop} {G : Gx} {E : Nat → Hp → Prop} {F : Loc → Store → Res α} {σ : L2.St} {H : Hp} {Q : β → Hp → Prop} {M : List Addr} {ls : Loc} {S : Store}
    (rel : Rel G M S H) (lr : LR G M H σ ls) (h : OK R G E M H (F ls S) Q) : tE R G E F σ H Q := ⟨M, ls, S, rel, lr, h⟩

/-- a test's end -/
def BR (M : List Addr) (H : Hp) (c : Bool) (k : Bool) : Prop := c = k
inductive WRs (K : PySem.W.Frag) (M : List Addr) (H : Hp) : List V → List W → Prop where
  | nil : WRs K M H [] []
  | cons {v : V} {vs : List V} {w : W} {ws : List W} : WR K M H v w → WRs K M H vs ws → WRs K M H (v :: vs) (w :: ws)
theorem WRs.mono {K : PySem.W.Frag} {M M' : List Addr} {H H' : Hp} (g : Grow H H') (p : Pre M M') : ∀ {vs : List V} {ws : List W}, WRs K M H vs ws → WRs K M' H' vs ws
  | _, _, .nil => .nil
  | _, _, .cons h t => .cons (h.mono g p) (WRs.mono g p t)
theorem WRs.length {K : PySem.W.Frag} {M : List Addr} {H : Hp} : ∀ {vs : List V} {ws : List W}, WRs K M H vs ws → vs.length = ws.length
  | _, _, .nil => rfl
  | _, _, .cons _ t => by rw [List.length_cons, List.length_cons, WRs.length t]
theorem WRs.data {K : PySem.W.Frag} {M : List Addr} {H : Hp} : ∀ {vs : List V} {ws : List W} {xs : List D}, WRs K M H vs ws → dataOf ws = some xs → DRs K H vs xs
  | _, _, _, .nil, e => by cases e; exact .nil
  | _, _, _, .cons (w := w) (ws := ws) h t, e => by
    cases w with
    | r i => cases e
    | d x =>
      have e' : (dataOf ws).map (x :: ·) = some _ := e
      obtain ⟨ys, e1, e2⟩ := Option.map_eq_some_iff.mp e'
      subst e2
      exact .cons h (WRs.data t e1)
/-- a value as a datum -/
theorem view {G : Gx} {M : List Addr} {H : Hp} {S : Store} {v : V} {w : W} {x : D} (rel : Rel G M S H) (h : WR G.K M H v w) (e : toD S w = some x) : Vw G.K H v x := by
  cases w with
  | d y => cases e; exact .dr h
  | r i =>
    obtain ⟨a, hm, rfl⟩ := h
    unfold toD at e
    cases q : S[i]? with
    | none => simp [q] at e
    | some o =>
      simp only [q] at e
      cases o with
      | list xs =>
        cases e
        obtain ⟨vs, h1, h2⟩ := rel.ob i _ a q hm
        exact .lst (SqL.of h1) h2
      | _ => cases e
end MI

/-! MiD: rules by values that the small language needs beside the hand layer's (own work). -/
namespace MI
open PySem PySem.Spec PyProof.Rows L2

section
open PySem.SeqAt
open PySem.AutoSeq1 (wpAny_loadPart')
open PySem.MeetsSeq PySem.MeetsSeq2 PySem.MeetsSeq3
theorem list_add_any (l : Addr) (items : Array Value) (n : Nat) (b : Addr) (items2 : Array Value) (n2 : Nat) (dd dd2 : Option Addr) (sl sl2 : Array (Option Value)) (hc0 : items.size + items2.size ≤ sizeLine) :
    Meets (Builtin.«list.__add__» ⟨[.ref l, .ref b], []⟩) (fun _ R s => s.heap.get? l = some { cls := .type "list", dict := dd, data := .seq items n, slots := sl } ∧ s.heap.get? b = some { cls := .type "list", dict := dd2, data := .seq items2 n2, slots := sl2 } ∧
      R (.ok (.ret (Value.ref s.heap.objs.size))) { s with heap := s.heap.push { cls := Value.type "list", data := Data.seq (items ++ items2) }, toks := s.toks }) :=
  .of_wp fun prog w A R s h => by
    obtain ⟨hp, g, d, tk, os⟩ := s
    obtain ⟨hl, hb, h⟩ := h
    have f1 := PySem.AutoSeq1.idx_int
    have f2 := PySem.AutoSeq1.sub_tuple_tuple
    have f3 := PySem.AutoSeq1.sub_list_list
    have f4 := PySem.AutoSeq1.sub_tuple_list
    have f5 := PySem.AutoSeq1.sub_list_tuple
    wp_walk using wpAny_loadPart' hl, wpAny_loadPart' hb
    exact ⟨_, rfl, h⟩
end

section
variable {X : Cx}
theorem PE.mono {e : Expr} {t t' : TE} (h : PE X e t) (k : ∀ σ H Q, t' σ H Q → t σ H Q) : PE X e t' := ⟨fun pins s σ H Q I hw => h.run pins s σ H Q I (k σ H Q hw)⟩
theorem PT.mono {e : Expr} {t t' : TT} (h : PT X e t) (k : ∀ σ H Q, t' σ H Q → t σ H Q) : PT X e t' := ⟨fun pins s σ H Q I hw => h.run pins s σ H Q I (k σ H Q hw)⟩
theorem PW.mono {e : Expr} {t t' : TT} (h : PW X e t) (k : ∀ σ H Q, t' σ H Q → t σ H Q) : PW X e t' := ⟨fun wh pins s σ H Q I hw => h.run wh pins s σ H Q I (k σ H Q hw)⟩
theorem PA.mono {es : List Expr} {t t' : TA} (h : PA X es t) (k : ∀ σ H Q, t' σ H Q → t σ H Q) : PA X es t' := ⟨fun pos pins s σ H Q I hw => h.run pos pins s σ H Q I (k σ H Q hw)⟩
theorem PS.mono {st : Stmt} {t t' : TS} (h : PS X st t) (k : ∀ D σ H, t' D σ H → t D σ H) : PS X st t' := ⟨fun pins s σ H D I hw => h.run pins s σ H D I (k D σ H hw)⟩
theorem PSs.mono {st : List Stmt} {t t' : TS} (h : PSs X st t) (k : ∀ D σ H, t' D σ H → t D σ H) : PSs X st t' := ⟨fun pins s σ H D I hw => h.run pins s σ H D I (k D σ H hw)⟩
theorem PI.mono {tg iter : Expr} {t t' : TI} (h : PI X tg iter t) (k : ∀ σ H R, t' σ H R → t σ H R) : PI X tg iter t' := ⟨fun pins s σ H R I hw => h.run pins s σ H R I (k σ H R hw)⟩
theorem PG.mono {tg : Expr} {t t' : TG} (h : PG X tg t) (k : ∀ v σ H Q, t' v σ H Q → t v σ H Q) : PG X tg t' := ⟨fun pins s σ H v u Q I r hw => h.run pins s σ H v u Q I r (k v σ H Q hw)⟩

/-- an expression's new list is locked for good -/
def tLk (t : TE) : TE := fun σ H Q => t σ H fun v H1 => ∃ a xs, v = .ref a ∧ H1 a = some (.lst xs) ∧ ∀ o, Q v (upd H1 a (.frz o (.lst xs)))
theorem pe_lk {e : Expr} {t : TE} (h : PE X e t) : PE X e (tLk t) := by
  refine ⟨fun pins s σ H Q I hw => ?_⟩
  refine thn (h.run pins s σ H _ I hw) fun u s1 ⟨v, H1, I1, r, q⟩ => ?_
  obtain ⟨a, xs, rfl, ha, q⟩ := q
  obtain ⟨o, I2⟩ := I1.lock ha trivial
  exact ⟨_, _, I2, r, q o⟩

/-! ### data: ==, in -/
theorem room60 {A : Around} {d e : D} (hu : A.units + 64 < cLine) (h : d.depth ≤ 60) : A.units + min d.depth e.depth < cLine := by
  have := Nat.min_le_left d.depth e.depth
  omega
theorem op_eqP (hu : X.A.units + 64 < cLine) : OpR X (compareOp .Eq) (fun x y H Q => ∃ d e, Dp X.K H x d ∧ Dp X.K H y e ∧ d.plain = true ∧ e.plain = true ∧ d.depth ≤ 60 ∧ Q (.bl (PyData.eqv d e)) H) := by
  intro pins s σ H x y v u Q I rx ry h
  obtain ⟨d, e, hd, he, pd, pe, hz, q⟩ := h
  obtain ⟨as, r1⟩ := Dp.reads I d x v hd rx
  obtain ⟨bs, r2⟩ := Dp.reads I e y u he ry
  exact SeqAt.eq_plain r1 r2 pd pe (room60 hu hz) ⟨.bl _, H, I, rfl, q⟩
theorem op_neP (hu : X.A.units + 64 < cLine) : OpR X (compareOp .NotEq) (fun x y H Q => ∃ d e, Dp X.K H x d ∧ Dp X.K H y e ∧ d.plain = true ∧ e.plain = true ∧ d.depth ≤ 60 ∧ Q (.bl (!PyData.eqv d e)) H) := by
  intro pins s σ H x y v u Q I rx ry h
  obtain ⟨d, e, hd, he, pd, pe, hz, q⟩ := h
  obtain ⟨as, r1⟩ := Dp.reads I d x v hd rx
  obtain ⟨bs, r2⟩ := Dp.reads I e y u he ry
  exact SeqAt.ne_plain r1 r2 pd pe (room60 hu hz) ⟨.bl _, H, I, rfl, q⟩
theorem op_inP (hu : X.A.units + 64 < cLine) : OpR X (compareOp .In) (fun x y H Q => ∃ d ys, Dp X.K H x d ∧ (Dp X.K H y (.list ys) ∨ Dp X.K H y (.tuple ys)) ∧ d.plain = true ∧ PyData.plainAll ys = true ∧ d.depth ≤ 60 ∧ Q (.bl (memD d ys)) H) := by
  intro pins s σ H x y v u Q I rx ry h
  obtain ⟨d, ys, hd, he, pd, pe, hz, q⟩ := h
  have room : X.A.units + 1 + min (PyData.depthAll ys) d.depth < cLine := by
    have := Nat.min_le_right (PyData.depthAll ys) d.depth
    omega
  obtain ⟨as, r1⟩ := Dp.reads I d x v hd rx
  rcases he with he | he
  · obtain ⟨bs, r2⟩ := Dp.reads I _ y u he ry
    exact SeqAt.in_list_data r2 r1 pe pd room ⟨.bl _, H, I, rfl, q⟩
  · obtain ⟨bs, r2⟩ := Dp.reads I _ y u he ry
    exact SeqAt.in_tuple_data r2 r1 pe pd room ⟨.bl _, H, I, rfl, q⟩
theorem op_notinP (hu : X.A.units + 64 < cLine) : OpR X (compareOp .NotIn) (fun x y H Q => ∃ d ys, Dp X.K H x d ∧ (Dp X.K H y (.list ys) ∨ Dp X.K H y (.tuple ys)) ∧ d.plain = true ∧ PyData.plainAll ys = true ∧ d.depth ≤ 60 ∧ Q (.bl (!memD d ys)) H) := by
  intro pins s σ H x y v u Q I rx ry h
  obtain ⟨d, ys, hd, he, pd, pe, hz, q⟩ := h
  have room : X.A.units + 1 + min (PyData.depthAll ys) d.depth < cLine := by
    have := Nat.min_le_right (PyData.depthAll ys) d.depth
    omega
  obtain ⟨as, r1⟩ := Dp.reads I d x v hd rx
  rcases he with he | he
  · obtain ⟨bs, r2⟩ := Dp.reads I _ y u he ry
    exact SeqAt.notIn_list_data r2 r1 pe pd room ⟨.bl _, H, I, rfl, q⟩
  · obtain ⟨bs, r2⟩ := Dp.reads I _ y u he ry
    exact SeqAt.notIn_tuple_data r2 r1 pe pd room ⟨.bl _, H, I, rfl, q⟩

/-! ### lists that may be locked: + -/
theorem op_catL : OpR X (binaryOp .Add) (fun x y H Q => ∃ l b xs zs, x = .ref l ∧ y = .ref b ∧ SqL X.K H l xs ∧ SqL X.K H b zs ∧ xs.length + zs.length ≤ sizeLine ∧ ∀ p, H p = none → Q (.ref p) (upd H p (.lst (xs ++ zs)))) := by
  intro pins s σ H x y v u Q I rx ry h
  obtain ⟨l, b, xs, zs, rfl, rfl, hH, hB, hz, q⟩ := h
  cases rx
  cases ry
  obtain ⟨its, r, ⟨⟨c1, d1, dt1, s1⟩, n1, e1, k1, _, t1⟩, _⟩ := I.list hH
  obtain ⟨its2, r2, ⟨⟨c2, d2, dt2, s2⟩, n2, e2, k2, _, t2⟩, _⟩ := I.list hB
  simp only at k1 t1 k2 t2
  subst k1 t1 k2 t2
  have z1 := r.length
  have z2 := r2.length
  refine concat_meets ⟨_, e1, rfl⟩ ⟨_, e2, rfl⟩ noFill_list_add seq_list_add F.slot_list_add F.entry_list_add (F.args_list_add_2 _ _)
    (list_add_any l its.toArray n1 b its2.toArray n2 _ _ _ _ (by rw [List.size_toArray, List.size_toArray]; omega)) ⟨e1, e2, ?_⟩
  have ea : its.toArray ++ its2.toArray = (its ++ its2).toArray := by simp
  rw [ea]
  exact ⟨.ref _, _, I.lnew (t' := s.toks) (r.append r2) (by rw [List.length_append]; omega), rfl, q _ I.fresh⟩
end
end MI

/-! MiE: each operation of the small language is kept by the machine (own work). -/
namespace MI
open PySem PySem.Spec PyProof.Rows L2

section
variable {K : PySem.W.Frag} {H : Hp} {v : V}
theorem Vw.int {i : Int} (h : Vw K H v (.int i)) : v = .int i := by cases h with | dr h => cases h; rfl
theorem Vw.bool {b : Bool} (h : Vw K H v (.bool b)) : v = .bl b := by cases h with | dr h => cases h; rfl
theorem Vw.str {x : Str} (h : Vw K H v (.str x)) : v = .str x := by cases h with | dr h => cases h; rfl
theorem Vw.none (h : Vw K H v .none) : v = .non := by cases h with | dr h => cases h; rfl
end

/-- a rule whose new list is locked for good -/
def lkQ (Q : VK) : VK := fun v H1 => ∃ a xs, v = .ref a ∧ H1 a = some (.lst xs) ∧ ∀ o, Q v (upd H1 a (.frz o (.lst xs)))
theorem lk_run {X : Cx} {pins : List (Addr × Obj)} {σ : L2.St} {Q : VK} {u : Value} {s : Shared} (h : EP X pins σ (lkQ Q) u s) : EP X pins σ Q u s := by
  obtain ⟨v, H1, I1, r, a, xs, rfl, ha, q⟩ := h
  obtain ⟨o, I2⟩ := I1.lock ha trivial
  exact ⟨_, _, I2, r, q o⟩
theorem OpR.lk {X : Cx} {f : Value → Value → Sem Value} {r : R2} (h : OpR X f r) : OpR X f (fun x y H Q => r x y H (lkQ Q)) := by
  intro pins s σ H x y v u Q I rx ry q
  exact thn (h pins s σ H x y v u _ I rx ry q) fun _ _ z => lk_run z
theorem OpR.mono {X : Cx} {f : Value → Value → Sem Value} {r r' : R2} (h : OpR X f r) (k : ∀ x y H Q, r' x y H Q → r x y H Q) : OpR X f r' := by
  intro pins s σ H x y v u Q I rx ry q
  exact h pins s σ H x y v u Q I rx ry (k x y H Q q)

section
variable {G : Gx} {E : Nat → Hp → Prop} {M : List Addr} {S : Store} {H : Hp}

/-- the new list at p, locked -/
theorem newFz {ds : List D} {xs : List V} {p : Addr} {o : Obj} (rel : Rel G M S H) (hp : H p = none) (hd : DRs G.K H xs ds) :
    Ext M H M (upd (upd H p (.lst xs)) p (.frz o (.lst xs))) ∧ Rel G M S (upd (upd H p (.lst xs)) p (.frz o (.lst xs))) ∧ DR G.K (upd (upd H p (.lst xs)) p (.frz o (.lst xs))) (.ref p) (.list ds) := by
  rw [upd_upd]
  have g : Grow H (upd H p (.frz o (.lst xs))) := Grow.new hp
  exact ⟨Ext.new hp, rel.new hp, .lst (.inl ⟨o, upd_same⟩) (DRs.mono g _ _ hd)⟩
theorem newTup {ds : List D} {xs : List V} {p : Addr} (rel : Rel G M S H) (hp : H p = none) (hd : DRs G.K H xs ds) :
    Ext M H M (upd H p (.tup xs)) ∧ Rel G M S (upd H p (.tup xs)) ∧ DR G.K (upd H p (.tup xs)) (.ref p) (.tuple ds) := by
  have g : Grow H (upd H p (.tup xs)) := Grow.new hp
  exact ⟨Ext.new hp, rel.new hp, .tup (SqT.of upd_same) (DRs.mono g _ _ hd)⟩
/-- a result that is a datum of this heap -/
theorem OK.datum {x : D} {v : V} {Q : VK} (h : OK (WR G.K) G E M H (.ok (.d x) S) Q) (rel : Rel G M S H) (r : DR G.K H v x) : Q v H := h.fin (b := v) rel r
theorem fitsT {n : Nat} (h : fits n = true) : n ≤ sizeLine := of_decide_eq_true h
theorem ok_if {α β : Type} {R : List Addr → Hp → β → α → Prop} {c : Bool} {o : Option α} {f : Store} {Q : β → Hp → Prop} (h : OK R G E M H (optR (if c = true then o else none) f) Q) : c = true ∧ OK R G E M H (optR o f) Q := by
  cases c with
  | true => exact ⟨rfl, h⟩
  | false => exact h.elim

/-! ### + -/
def rAddA (K : PySem.W.Frag) : R2 := fun x y H Q =>
  (rI0 (fun i j => .int (i + j)) x y H Q ∨ (∃ i j, x = .str i ∧ y = .str j ∧ i.length + j.length ≤ sizeLine ∧ Q (.str (i ++ j)) H)) ∨ (rCatA K x y H Q ∨
    (∃ l b xs zs, x = .ref l ∧ y = .ref b ∧ SqL K H l xs ∧ SqL K H b zs ∧ xs.length + zs.length ≤ sizeLine ∧ ∀ p, H p = none → lkQ Q (.ref p) (upd H p (.lst (xs ++ zs)))))
theorem op_addA {X : Cx} : OpR X (binaryOp .Add) (rAddA X.K) := (op_add.or op_add_str).or (op_catA.or (MI.OpR.lk op_catL))
theorem bin_some {op : BOp} {x y : W} {Q : VK} {R : List Addr → Hp → V → W → Prop} (h : OK R G E M H (binW op x y S) Q) : ∃ a b, toD S x = some a ∧ toD S y = some b ∧ OK R G E M H (optR ((binD op a b).map .d) S) Q := by
  unfold binW at h
  cases hx : toD S x with
  | none => simp only [hx] at h; exact h.elim
  | some a =>
    cases hy : toD S y with
    | none => simp only [hx, hy] at h; exact h.elim
    | some b =>
      simp only [hx, hy] at h
      exact ⟨a, b, rfl, rfl, h⟩
theorem map_if {c : Bool} {o : D} : ((if c = true then some o else none : Option D).map W.d) = (if c = true then some (W.d o) else none) := by cases c <;> rfl

theorem add_ok {x y : W} {v u : V} {Q : VK} (rel : Rel G M S H) (wx : WR G.K M H v x) (wy : WR G.K M H u y) (h : OK (WR G.K) G E M H (binW .add x y S) Q) : rAddA G.K v u H Q := by
  obtain ⟨a, b, ea, eb, h⟩ := bin_some h
  have va := view rel wx ea
  have vb := view rel wy eb
  cases a with
  | int i =>
    cases b with
    | int j => exact .inl (.inl ⟨i, j, va.int, vb.int, h.datum rel (.int _)⟩)
    | _ => exact h.elim
  | str i =>
    cases b with
    | str j =>
      unfold binD at h
      rw [map_if] at h
      obtain ⟨c, h⟩ := ok_if h
      exact .inl (.inr ⟨i, j, va.str, vb.str, fitsT c, h.datum rel (.str _)⟩)
    | _ => exact h.elim
  | tuple ds =>
    cases b with
    | tuple es =>
      unfold binD at h
      rw [map_if] at h
      obtain ⟨c, h⟩ := ok_if h
      obtain ⟨a1, xs, rfl, h1, d1⟩ := va.tuple
      obtain ⟨a2, ys, rfl, h2, d2⟩ := vb.tuple
      have l1 := d1.length
      have l2 := d2.length
      refine .inr (.inl ⟨a1, a2, xs, ys, rfl, rfl, h1, h2, by rw [l1, l2]; exact fitsT c, fun e => ?_, fun n e => ?_, fun n n2 p hp => ?_⟩)
      · subst e
        cases d1
        exact h.datum rel (.tup h2 d2)
      · subst e
        cases d2
        rw [List.append_nil] at h
        exact h.datum rel (.tup h1 d1)
      · obtain ⟨g, r, d⟩ := newTup rel hp (d1.append d2)
        exact h.fin' g r d
    | _ => exact h.elim
  | list ds =>
    cases b with
    | list es =>
      unfold binD at h
      rw [map_if] at h
      obtain ⟨c, h⟩ := ok_if h
      obtain ⟨a1, xs, rfl, h1, d1⟩ := va.list
      obtain ⟨a2, ys, rfl, h2, d2⟩ := vb.list
      have l1 := d1.length
      have l2 := d2.length
      refine .inr (.inr ⟨a1, a2, xs, ys, rfl, rfl, h1, h2, by rw [l1, l2]; exact fitsT c, fun p hp => ⟨p, _, rfl, upd_same, fun o => ?_⟩⟩)
      obtain ⟨g, r, d⟩ := newFz (o := o) rel hp (d1.append d2)
      exact h.fin' g r d
    | _ => exact h.elim
  | _ => cases b <;> exact h.elim

/-! ### ints: - * // % ** -/
theorem sub_ok {x y : W} {v u : V} {Q : VK} (rel : Rel G M S H) (wx : WR G.K M H v x) (wy : WR G.K M H u y) (h : OK (WR G.K) G E M H (binW .sub x y S) Q) : rI0 (fun i j => .int (i - j)) v u H Q := by
  obtain ⟨a, b, ea, eb, h⟩ := bin_some h
  have va := view rel wx ea
  have vb := view rel wy eb
  cases a with
  | int i =>
    cases b with
    | int j => exact ⟨i, j, va.int, vb.int, h.datum rel (.int _)⟩
    | _ => exact h.elim
  | _ => cases b <;> exact h.elim
theorem fdiv_ok {x y : W} {v u : V} {Q : VK} (rel : Rel G M S H) (wx : WR G.K M H v x) (wy : WR G.K M H u y) (h : OK (WR G.K) G E M H (binW .fdiv x y S) Q) : rI CDiv (fun i j => .int (i / j)) v u H Q := by
  obtain ⟨a, b, ea, eb, h⟩ := bin_some h
  have va := view rel wx ea
  have vb := view rel wy eb
  cases a with
  | int i =>
    cases b with
    | int j =>
      unfold binD at h
      rw [map_if] at h
      obtain ⟨c, h⟩ := ok_if h
      simp only [Bool.and_eq_true, decide_eq_true_eq] at c
      exact ⟨i, j, va.int, vb.int, c, h.datum rel (.int _)⟩
    | _ => exact h.elim
  | _ => cases b <;> exact h.elim
theorem mod_ok {x y : W} {v u : V} {Q : VK} (rel : Rel G M S H) (wx : WR G.K M H v x) (wy : WR G.K M H u y) (h : OK (WR G.K) G E M H (binW .mod x y S) Q) : rI (fun _ j => 0 < j) (fun i j => .int (i % j)) v u H Q := by
  obtain ⟨a, b, ea, eb, h⟩ := bin_some h
  have va := view rel wx ea
  have vb := view rel wy eb
  cases a with
  | int i =>
    cases b with
    | int j =>
      unfold binD at h
      rw [map_if] at h
      obtain ⟨c, h⟩ := ok_if h
      exact ⟨i, j, va.int, vb.int, of_decide_eq_true c, h.datum rel (.int _)⟩
    | _ => exact h.elim
  | _ => cases b <;> exact h.elim
theorem pow_ok {x y : W} {v u : V} {Q : VK} (rel : Rel G M S H) (wx : WR G.K M H v x) (wy : WR G.K M H u y) (h : OK (WR G.K) G E M H (binW .pow x y S) Q) : rI CPow (fun i j => .int (i ^ j.toNat)) v u H Q := by
  obtain ⟨a, b, ea, eb, h⟩ := bin_some h
  have va := view rel wx ea
  have vb := view rel wy eb
  cases a with
  | int i =>
    cases b with
    | int j =>
      unfold binD at h
      rw [map_if] at h
      obtain ⟨c, h⟩ := ok_if h
      simp only [Bool.and_eq_true, decide_eq_true_eq] at c
      exact ⟨i, j, va.int, vb.int, ⟨c.1.1, c.1.2, c.2⟩, h.datum rel (.int _)⟩
    | _ => exact h.elim
  | _ => cases b <;> exact h.elim
theorem mul_ok {x y : W} {v u : V} {Q : VK} (rel : Rel G M S H) (wx : WR G.K M H v x) (wy : WR G.K M H u y) (h : OK (WR G.K) G E M H (binW .mul x y S) Q) : rI CMul (fun i j => .int (i * j)) v u H Q := by
  obtain ⟨a, b, ea, eb, h⟩ := bin_some h
  have va := view rel wx ea
  have vb := view rel wy eb
  cases a with
  | int i =>
    cases b with
    | int j =>
      unfold binD at h
      rw [map_if] at h
      obtain ⟨c, h⟩ := ok_if h
      unfold small at c
      simp only [Bool.or_eq_true, Bool.and_eq_true, decide_eq_true_eq] at c
      exact ⟨i, j, va.int, vb.int, c, h.datum rel (.int _)⟩
    | _ => exact h.elim
  | _ => cases b <;> exact h.elim

/-! ### comparisons -/
theorem cmp_two {op : COp} {x y : W} {Q : VK} {R : List Addr → Hp → V → W → Prop} (h : OK R G E M H (cmpW op x y S) Q) :
    ∃ a b, toD S x = some a ∧ toD S y = some b ∧ OK R G E M H (optR ((cmpD op a b).map fun b => .d (.bool b)) S) Q := by
  unfold cmpW at h
  cases hx : toD S x with
  | none => simp only [hx] at h; exact h.elim
  | some a =>
    cases hy : toD S y with
    | none => simp only [hx, hy] at h; exact h.elim
    | some b =>
      simp only [hx, hy] at h
      exact ⟨a, b, rfl, rfl, h⟩
theorem map_ifB {c : Bool} {o : Bool} : ((if c = true then some o else none : Option Bool).map fun b => W.d (.bool b)) = (if c = true then some (W.d (.bool o)) else none) := by cases c <;> rfl
theorem eq_ok {x y : W} {v u : V} {Q : VK} (rel : Rel G M S H) (wx : WR G.K M H v x) (wy : WR G.K M H u y) (h : OK (WR G.K) G E M H (cmpW .eq x y S) Q) :
    ∃ d e, Dp G.K H v d ∧ Dp G.K H u e ∧ d.plain = true ∧ e.plain = true ∧ d.depth ≤ 60 ∧ Q (.bl (PyData.eqv d e)) H := by
  obtain ⟨a, b, ea, eb, h⟩ := cmp_two h
  have va := view rel wx ea
  have vb := view rel wy eb
  unfold cmpD at h
  rw [map_ifB] at h
  obtain ⟨c, h⟩ := ok_if h
  exact ⟨a, b, va.dp, vb.dp, va.plain, vb.plain, of_decide_eq_true c, h.datum rel (.bl _)⟩
theorem ne_ok {x y : W} {v u : V} {Q : VK} (rel : Rel G M S H) (wx : WR G.K M H v x) (wy : WR G.K M H u y) (h : OK (WR G.K) G E M H (cmpW .ne x y S) Q) :
    ∃ d e, Dp G.K H v d ∧ Dp G.K H u e ∧ d.plain = true ∧ e.plain = true ∧ d.depth ≤ 60 ∧ Q (.bl (!PyData.eqv d e)) H := by
  obtain ⟨a, b, ea, eb, h⟩ := cmp_two h
  have va := view rel wx ea
  have vb := view rel wy eb
  unfold cmpD at h
  rw [map_ifB] at h
  obtain ⟨c, h⟩ := ok_if h
  exact ⟨a, b, va.dp, vb.dp, va.plain, vb.plain, of_decide_eq_true c, h.datum rel (.bl _)⟩
theorem lt_ok {x y : W} {v u : V} {Q : VK} (rel : Rel G M S H) (wx : WR G.K M H v x) (wy : WR G.K M H u y) (h : OK (WR G.K) G E M H (cmpW .lt x y S) Q) : rI0 (fun i j => .bl (decide (i < j))) v u H Q := by
  obtain ⟨a, b, ea, eb, h⟩ := cmp_two h
  have va := view rel wx ea
  have vb := view rel wy eb
  cases a with
  | int i =>
    cases b with
    | int j => exact ⟨i, j, va.int, vb.int, h.datum rel (.bl _)⟩
    | _ => exact h.elim
  | _ => cases b <;> exact h.elim
theorem le_ok {x y : W} {v u : V} {Q : VK} (rel : Rel G M S H) (wx : WR G.K M H v x) (wy : WR G.K M H u y) (h : OK (WR G.K) G E M H (cmpW .le x y S) Q) : rI0 (fun i j => .bl (decide (i ≤ j))) v u H Q := by
  obtain ⟨a, b, ea, eb, h⟩ := cmp_two h
  have va := view rel wx ea
  have vb := view rel wy eb
  cases a with
  | int i =>
    cases b with
    | int j => exact ⟨i, j, va.int, vb.int, h.datum rel (.bl _)⟩
    | _ => exact h.elim
  | _ => cases b <;> exact h.elim
theorem gt_ok {x y : W} {v u : V} {Q : VK} (rel : Rel G M S H) (wx : WR G.K M H v x) (wy : WR G.K M H u y) (h : OK (WR G.K) G E M H (cmpW .gt x y S) Q) : rI0 (fun i j => .bl (decide (j < i))) v u H Q := by
  obtain ⟨a, b, ea, eb, h⟩ := cmp_two h
  have va := view rel wx ea
  have vb := view rel wy eb
  cases a with
  | int i =>
    cases b with
    | int j => exact ⟨i, j, va.int, vb.int, h.datum rel (.bl _)⟩
    | _ => exact h.elim
  | _ => cases b <;> exact h.elim
theorem ge_ok {x y : W} {v u : V} {Q : VK} (rel : Rel G M S H) (wx : WR G.K M H v x) (wy : WR G.K M H u y) (h : OK (WR G.K) G E M H (cmpW .ge x y S) Q) : rI0 (fun i j => .bl (decide (j ≤ i))) v u H Q := by
  obtain ⟨a, b, ea, eb, h⟩ := cmp_two h
  have va := view rel wx ea
  have vb := view rel wy eb
  cases a with
  | int i =>
    cases b with
    | int j => exact ⟨i, j, va.int, vb.int, h.datum rel (.bl _)⟩
    | _ => exact h.elim
  | _ => cases b <;> exact h.elim
end
end MI

/-! MiF: expressions (own work). -/
namespace MI
open PySem PySem.Spec PyProof.Rows L2

section
variable {G : Gx} {E : Nat → Hp → Prop} {M : List Addr} {S : Store} {H : Hp}
theorem neg_ok {x : W} {v : V} {Q : VK} (rel : Rel G M S H) (wx : WR G.K M H v x) (h : OK (WR G.K) G E M H (negW x S) Q) : rU (fun i => .int (-i)) v H Q := by
  cases x with
  | r i => exact h.elim
  | d x =>
    cases x with
    | int i => cases wx; exact ⟨i, rfl, h.datum rel (.int _)⟩
    | _ => exact h.elim
theorem not_ok {x : W} {v : V} {Q : VK} (rel : Rel G M S H) (wx : WR G.K M H v x) (h : OK (WR G.K) G E M H (notW x S) Q) : ∃ c, v = .bl c ∧ Q (.bl (!c)) H := by
  cases x with
  | r i => exact h.elim
  | d x =>
    cases x with
    | bool b => cases wx; exact ⟨b, rfl, h.datum rel (.bl _)⟩
    | _ => exact h.elim
theorem dEq (h : ∀ (x : Bool) (y : Bool), True) : True := trivial
theorem isin_ok {x y : W} {v u : V} {Q : VK} (rel : Rel G M S H) (wx : WR G.K M H v x) (wy : WR G.K M H u y) (h : OK (WR G.K) G E M H (cmpW .isin x y S) Q) :
    ∃ d ys, Dp G.K H v d ∧ (Dp G.K H u (.list ys) ∨ Dp G.K H u (.tuple ys)) ∧ d.plain = true ∧ PyData.plainAll ys = true ∧ d.depth ≤ 60 ∧ Q (.bl (memD d ys)) H := by
  obtain ⟨a, b, ea, eb, h⟩ := cmp_two h
  have va := view rel wx ea
  have vb := view rel wy eb
  cases b with
  | list ys =>
    have h : OK (WR G.K) G E M H (optR ((if flat a = true then some (memD a ys) else none : Option Bool).map fun b => .d (.bool b)) S) Q := by cases a <;> exact h
    rw [map_ifB] at h
    obtain ⟨c, h⟩ := ok_if h
    exact ⟨a, ys, va.dp, .inl vb.dp, va.plain, vb.plain, of_decide_eq_true c, h.datum rel (.bl _)⟩
  | tuple ys =>
    have h : OK (WR G.K) G E M H (optR ((if flat a = true then some (memD a ys) else none : Option Bool).map fun b => .d (.bool b)) S) Q := by cases a <;> exact h
    rw [map_ifB] at h
    obtain ⟨c, h⟩ := ok_if h
    exact ⟨a, ys, va.dp, .inr vb.dp, va.plain, vb.plain, of_decide_eq_true c, h.datum rel (.bl _)⟩
  | _ => cases a <;> exact h.elim
theorem notin_ok {x y : W} {v u : V} {Q : VK} (rel : Rel G M S H) (wx : WR G.K M H v x) (wy : WR G.K M H u y) (h : OK (WR G.K) G E M H (cmpW .notin x y S) Q) :
    ∃ d ys, Dp G.K H v d ∧ (Dp G.K H u (.list ys) ∨ Dp G.K H u (.tuple ys)) ∧ d.plain = true ∧ PyData.plainAll ys = true ∧ d.depth ≤ 60 ∧ Q (.bl (!memD d ys)) H := by
  obtain ⟨a, b, ea, eb, h⟩ := cmp_two h
  have va := view rel wx ea
  have vb := view rel wy eb
  cases b with
  | list ys =>
    have h : OK (WR G.K) G E M H (optR ((if flat a = true then some (!memD a ys) else none : Option Bool).map fun b => .d (.bool b)) S) Q := by cases a <;> exact h
    rw [map_ifB] at h
    obtain ⟨c, h⟩ := ok_if h
    exact ⟨a, ys, va.dp, .inl vb.dp, va.plain, vb.plain, of_decide_eq_true c, h.datum rel (.bl _)⟩
  | tuple ys =>
    have h : OK (WR G.K) G E M H (optR ((if flat a = true then some (!memD a ys) else none : Option Bool).map fun b => .d (.bool b)) S) Q := by cases a <;> exact h
    rw [map_ifB] at h
    obtain ⟨c, h⟩ := ok_if h
    exact ⟨a, ys, va.dp, .inr vb.dp, va.plain, vb.plain, of_decide_eq_true c, h.datum rel (.bl _)⟩
  | _ => cases a <;> exact h.elim
theorem Vw.isNone {K : PySem.W.Frag} {v : V} {a : D} (h : Vw K H v a) : decide (v = .non) = isNoneD a := by
  cases h with
  | dr h => cases h <;> rfl
  | lst _ _ => rfl
theorem is_ok {x y : W} {v u : V} {Q : VK} (rel : Rel G M S H) (wx : WR G.K M H v x) (wy : WR G.K M H u y) (h : OK (WR G.K) G E M H (cmpW .is x y S) Q) : u = .non ∧ Q (.bl (decide (v = .non))) H := by
  obtain ⟨a, b, ea, eb, h⟩ := cmp_two h
  have va := view rel wx ea
  have vb := view rel wy eb
  cases b with
  | none =>
    refine ⟨vb.none, ?_⟩
    rw [va.isNone]
    have h : OK (WR G.K) G E M H (.ok (.d (.bool (isNoneD a))) S) Q := by cases a <;> exact h
    exact h.datum rel (.bl _)
  | _ => cases a <;> exact h.elim
theorem isnot_ok {x y : W} {v u : V} {Q : VK} (rel : Rel G M S H) (wx : WR G.K M H v x) (wy : WR G.K M H u y) (h : OK (WR G.K) G E M H (cmpW .isnot x y S) Q) : u = .non ∧ Q (.bl (!decide (v = .non))) H := by
  obtain ⟨a, b, ea, eb, h⟩ := cmp_two h
  have va := view rel wx ea
  have vb := view rel wy eb
  cases b with
  | none =>
    refine ⟨vb.none, ?_⟩
    rw [va.isNone]
    have h : OK (WR G.K) G E M H (.ok (.d (.bool (!isNoneD a))) S) Q := by cases a <;> exact h
    exact h.datum rel (.bl _)
  | _ => cases a <;> exact h.elim

/-- by the operator: its rule -/
def rCmp (K : PySem.W.Frag) : COp → R2
  | .eq => fun x y H Q => ∃ d e, Dp K H x d ∧ Dp K H y e ∧ d.plain = true ∧ e.plain = true ∧ d.depth ≤ 60 ∧ Q (.bl (PyData.eqv d e)) H
  | .ne => fun x y H Q => ∃ d e, Dp K H x d ∧ Dp K H y e ∧ d.plain = true ∧ e.plain = true ∧ d.depth ≤ 60 ∧ Q (.bl (!PyData.eqv d e)) H
  | .lt => rI0 (fun i j => .bl (decide (i < j)))
  | .le => rI0 (fun i j => .bl (decide (i ≤ j)))
  | .gt => rI0 (fun i j => .bl (decide (j < i)))
  | .ge => rI0 (fun i j => .bl (decide (j ≤ i)))
  | .isin => fun x y H Q => ∃ d ys, Dp K H x d ∧ (Dp K H y (.list ys) ∨ Dp K H y (.tuple ys)) ∧ d.plain = true ∧ PyData.plainAll ys = true ∧ d.depth ≤ 60 ∧ Q (.bl (memD d ys)) H
  | .notin => fun x y H Q => ∃ d ys, Dp K H x d ∧ (Dp K H y (.list ys) ∨ Dp K H y (.tuple ys)) ∧ d.plain = true ∧ PyData.plainAll ys = true ∧ d.depth ≤ 60 ∧ Q (.bl (!memD d ys)) H
  | .is => fun x y H Q => y = .non ∧ Q (.bl (decide (x = .non))) H
  | .isnot => fun x y H Q => y = .non ∧ Q (.bl (!decide (x = .non))) H
def cop : COp → CmpOp
  | .eq => .Eq | .ne => .NotEq | .lt => .Lt | .le => .LtE | .gt => .Gt | .ge => .GtE | .isin => .In | .notin => .NotIn | .is => .Is | .isnot => .IsNot
theorem op_cmp {X : Cx} (hu : X.A.units + 64 < cLine) : ∀ op : COp, OpR X (compareOp (cop op)) (rCmp X.K op)
  | .eq => op_eqP hu | .ne => op_neP hu | .lt => op_lt | .le => op_le | .gt => op_gt | .ge => op_ge | .isin => op_inP hu | .notin => op_notinP hu | .is => op_isN | .isnot => op_notN
theorem cmp_ok {x y : W} {v u : V} {Q : VK} (rel : Rel G M S H) (wx : WR G.K M H v x) (wy : WR G.K M H u y) : ∀ op : COp, OK (WR G.K) G E M H (cmpW op x y S) Q → rCmp G.K op v u H Q
  | .eq, h => eq_ok rel wx wy h | .ne, h => ne_ok rel wx wy h | .lt, h => lt_ok rel wx wy h | .le, h => le_ok rel wx wy h | .gt, h => gt_ok rel wx wy h | .ge, h => ge_ok rel wx wy h
  | .isin, h => isin_ok rel wx wy h | .notin, h => notin_ok rel wx wy h | .is, h => is_ok rel wx wy h | .isnot, h => isnot_ok rel wx wy h

/-- mul of ints alone -/
def mulI (x y : W) (S : Store) : Res W := match x, y with
  | .d (.int i), .d (.int j) => binW .mul (.d (.int i)) (.d (.int j)) S
  | _, _ => .stuck
end

section
variable {X : Cx} {E : Nat → Hp → Prop} {a b c : Expr} {pos : Pos} {F F1 F2 F3 : Loc → Store → Res W}
abbrev Pe (X : Cx) (E : Nat → Hp → Prop) (F : Loc → Store → Res W) (e : Expr) : Prop := PE X e (tE (WR X.K) X.gx E F)
abbrev Pt (X : Cx) (E : Nat → Hp → Prop) (F : Loc → Store → Res W) (e : Expr) : Prop := PT X e (tB (tE (WR X.K) X.gx E F))
abbrev Pw (X : Cx) (E : Nat → Hp → Prop) (F : Loc → Store → Res W) (e : Expr) : Prop := PW X e (tB (tE (WR X.K) X.gx E F))
abbrev Pa (X : Cx) (E : Nat → Hp → Prop) (F : Loc → Store → Res (List W)) (es : List Expr) : Prop := PA X es (tE (WRs X.K) X.gx E F)

theorem x_var {i : Nat} {x : Str} (hN : X.N[i]? = some x) (hv : Vis X.env.scope x) (hd : (x == ("__debug__" : Str)) = false) (hcd : (x == ("__classdict__" : Str)) = false) :
    Pe X E (fun ls S => match ls[i]? with | some (some w) => .ok w S | _ => .stuck) (.Name x pos) := by
  refine PE.mono (pe_var hN hv hd hcd) fun σ H Q ⟨M, ls, S, rel, lr, h⟩ => ?_
  cases q : ls[i]? with
  | none => simp only [q] at h; exact h.elim
  | some o =>
    cases o with
    | none => simp only [q] at h; exact h.elim
    | some w =>
      simp only [q] at h
      obtain ⟨v, e, r⟩ := lr.at_ i w q
      exact ⟨v, e, h.fin (b := v) rel r⟩
theorem x_int {i : Int} {j : Nat} : Pe X E (fun _ S => .ok (.d (.int i)) S) (.Constant (.int i) j pos) := PE.mono pe_int fun σ H Q ⟨M, ls, S, rel, lr, h⟩ => OK.datum (E := E) h rel (.int _)
theorem x_bool {i : Bool} {j : Nat} : Pe X E (fun _ S => .ok (.d (.bool i)) S) (.Constant (.bool i) j pos) := PE.mono pe_bl fun σ H Q ⟨M, ls, S, rel, lr, h⟩ => OK.datum (E := E) h rel (.bl _)
theorem x_none {j : Nat} : Pe X E (fun _ S => .ok (.d .none) S) (.Constant .none j pos) := PE.mono pe_non fun σ H Q ⟨M, ls, S, rel, lr, h⟩ => OK.datum (E := E) h rel .non
theorem x_str {x : Str} {j : Nat} : Pe X E (fun _ S => .ok (.d (.str x)) S) (.Constant (.str x) j pos) := PE.mono pe_str fun σ H Q ⟨M, ls, S, rel, lr, h⟩ => OK.datum (E := E) h rel (.str _)
theorem x_glob {x : Str} {v : V} {u : Value} {d : D} (hg : Gl X x) (hm : X.mg x = some u) (r : RelV v u) (hd : (x == ("__debug__" : Str)) = false) (dr : ∀ H, DR X.K H v d) : Pe X E (fun _ S => .ok (.d d) S) (.Name x pos) :=
  PE.mono (pe_glob hg hm r hd) fun σ H Q ⟨M, ls, S, rel, lr, h⟩ => OK.datum (E := E) h rel (dr H)

/-- two operands, then an operation -/
theorem sub2 {f : W → W → Store → Res W} {r : R2} {σ : L2.St} {H : Hp} {Q : VK}
    (hf : ∀ M S H x y v u Q, Rel X.gx M S H → WR X.K M H v x → WR X.K M H u y → OK (WR X.K) X.gx E M H (f x y S) Q → r v u H Q)
    (h : tE (WR X.K) X.gx E (fun ls S => (F1 ls S).bind fun x S1 => (F2 ls S1).bind fun y S2 => f x y S2) σ H Q) : tOp r (tE (WR X.K) X.gx E F1) (tE (WR X.K) X.gx E F2) σ H Q := by
  obtain ⟨M, ls, S, rel, lr, h⟩ := h
  refine ⟨M, ls, S, rel, lr, h.bind fun x S1 M1 H1 v _ g p rel1 wx h1 => ?_⟩
  refine ⟨M1, ls, S1, rel1, lr.mono g p, h1.bind fun y S2 M2 H2 u _ g2 p2 rel2 wy h2 => ?_⟩
  exact hf M2 S2 H2 x y v u Q rel2 (wx.mono g2 p2) wy h2
theorem sub1 {β α : Type} {R : List Addr → Hp → β → α → Prop} {Fa : Loc → Store → Res α} {f : α → Store → Res W} {r : β → Hp → VK → Prop} {σ : L2.St} {H : Hp} {Q : VK}
    (hf : ∀ M S H x v Q, Rel X.gx M S H → R M H v x → OK (WR X.K) X.gx E M H (f x S) Q → r v H Q)
    (h : tE (WR X.K) X.gx E (fun ls S => (Fa ls S).bind f) σ H Q) : tE R X.gx E Fa σ H fun x H1 => r x H1 Q := by
  obtain ⟨M, ls, S, rel, lr, h⟩ := h
  exact ⟨M, ls, S, rel, lr, h.bind fun x S1 M1 H1 v _ g p rel1 wx h1 => hf M1 S1 H1 x v Q rel1 wx h1⟩
theorem x_bin {op : BOp} {o : Operator} {r : R2} (ho : OpR X (binaryOp o) r) (hf : ∀ M S H x y v u Q, Rel X.gx M S H → WR X.K M H v x → WR X.K M H u y → OK (WR X.K) X.gx E M H (binW op x y S) Q → r v u H Q)
    (h1 : Pe X E F1 a) (h2 : Pe X E F2 b) : Pe X E (fun ls S => (F1 ls S).bind fun x S1 => (F2 ls S1).bind fun y S2 => binW op x y S2) (.BinOp a o b pos) :=
  PE.mono (pe_op ho h1 h2) fun _ _ _ h => sub2 hf h
theorem x_neg (h1 : Pe X E F a) : Pe X E (fun ls S => (F ls S).bind negW) (.UnaryOp .USub a pos) :=
  PE.mono (pe_un un_neg h1) fun _ _ _ h => sub1 (fun M S H x v Q rel wx h => neg_ok rel wx h) h
theorem x_not (h1 : Pe X E F a) : Pe X E (fun ls S => (F ls S).bind notW) (.UnaryOp .Not a pos) :=
  PE.mono (pe_not h1) fun _ _ _ h => sub1 (X := X) (R := WR X.K) (Fa := F) (f := notW) (r := fun (x : V) (H : Hp) (Q : VK) => ∃ c, x = V.bl c ∧ Q (V.bl (!c)) H) (fun M S H x v Q rel wx h => not_ok rel wx h) h
theorem t_not (h1 : Pt X E F a) : Pt X E (fun ls S => (F ls S).bind notW) (.UnaryOp .Not a pos) := by
  refine PT.mono (pt_not h1) fun σ H Q ⟨M, ls, S, rel, lr, h⟩ => ?_
  refine ⟨M, ls, S, rel, lr, h.bind fun x S1 M1 H1 v _ g p rel1 wx h1 => ?_⟩
  obtain ⟨c, rfl, k, e, q⟩ := not_ok rel1 wx h1
  cases e
  exact ⟨c, rfl, q⟩
theorem x_and (h1 : Pe X E F1 a) {r : List Expr} (h2 : Pe X E F2 (.BoolOp .And (b :: r) pos)) :
    Pe X E (fun ls S => (F1 ls S).test fun c S1 => if c then F2 ls S1 else .ok (.d (.bool false)) S1) (.BoolOp .And (a :: b :: r) pos) := by
  refine PE.mono (pe_and h1 h2) fun σ H Q ⟨M, ls, S, rel, lr, h⟩ => ?_
  refine ⟨M, ls, S, rel, lr, h.test fun c S1 M1 H1 g p rel1 h1 => ⟨c, rfl, ?_⟩⟩
  cases c with
  | true => exact ⟨M1, ls, S1, rel1, lr.mono g p, h1⟩
  | false => exact OK.datum (E := E) h1 rel1 (.bl _)
theorem x_or (h1 : Pe X E F1 a) {r : List Expr} (h2 : Pe X E F2 (.BoolOp .Or (b :: r) pos)) :
    Pe X E (fun ls S => (F1 ls S).test fun c S1 => if c then .ok (.d (.bool true)) S1 else F2 ls S1) (.BoolOp .Or (a :: b :: r) pos) := by
  refine PE.mono (pe_or h1 h2) fun σ H Q ⟨M, ls, S, rel, lr, h⟩ => ?_
  refine ⟨M, ls, S, rel, lr, h.test fun c S1 M1 H1 g p rel1 h1 => ⟨c, rfl, ?_⟩⟩
  cases c with
  | false => exact ⟨M1, ls, S1, rel1, lr.mono g p, h1⟩
  | true => exact OK.datum (E := E) h1 rel1 (.bl _)
theorem x_one {op : BoolOp} (h1 : Pe X E F a) : Pe X E F (.BoolOp op [a] pos) := pe_one h1
theorem w_and1 (h1 : Pt X E F a) : Pw X E F (.BoolOp .And [a] pos) := pw_and1 h1
theorem w_or1 (h1 : Pt X E F a) : Pw X E F (.BoolOp .Or [a] pos) := pw_or1 h1
theorem w_and (h1 : Pt X E F1 a) {r : List Expr} (h2 : Pw X E F2 (.BoolOp .And (b :: r) pos)) :
    Pw X E (fun ls S => (F1 ls S).test fun c S1 => if c then F2 ls S1 else .ok (.d (.bool false)) S1) (.BoolOp .And (a :: b :: r) pos) := by
  refine PW.mono (pw_and h1 h2) fun σ H Q ⟨M, ls, S, rel, lr, h⟩ => ?_
  refine ⟨M, ls, S, rel, lr, h.test fun c S1 M1 H1 g p rel1 h1 => ⟨c, rfl, ?_⟩⟩
  cases c with
  | true => exact ⟨M1, ls, S1, rel1, lr.mono g p, h1⟩
  | false =>
    obtain ⟨k, e, q⟩ := OK.datum (E := E) h1 rel1 (.bl _)
    cases e
    exact q
theorem w_or (h1 : Pt X E F1 a) {r : List Expr} (h2 : Pw X E F2 (.BoolOp .Or (b :: r) pos)) :
    Pw X E (fun ls S => (F1 ls S).test fun c S1 => if c then .ok (.d (.bool true)) S1 else F2 ls S1) (.BoolOp .Or (a :: b :: r) pos) := by
  refine PW.mono (pw_or h1 h2) fun σ H Q ⟨M, ls, S, rel, lr, h⟩ => ?_
  refine ⟨M, ls, S, rel, lr, h.test fun c S1 M1 H1 g p rel1 h1 => ⟨c, rfl, ?_⟩⟩
  cases c with
  | false => exact ⟨M1, ls, S1, rel1, lr.mono g p, h1⟩
  | true =>
    obtain ⟨k, e, q⟩ := OK.datum (E := E) h1 rel1 (.bl _)
    cases e
    exact q
theorem x_cmp (hu : X.A.units + 64 < cLine) {op : COp} (hm : behindInMarks (cop op) b = false) (h1 : Pe X E F1 a) (h2 : Pe X E F2 b) :
    Pe X E (fun ls S => (F1 ls S).bind fun x S1 => (F2 ls S1).bind fun y S2 => cmpW op x y S2) (.Compare a [cop op] [b] pos) :=
  PE.mono (pe_cmpR (op_cmp hu op) h1 h2 hm) fun _ _ _ h => sub2 (fun M S H x y v u Q rel wx wy h => cmp_ok rel wx wy op h) h
theorem t_cmp (hu : X.A.units + 64 < cLine) {op : COp} (hm : behindInMarks (cop op) b = false) (h1 : Pe X E F1 a) (h2 : Pe X E F2 b) :
    Pt X E (fun ls S => (F1 ls S).bind fun x S1 => (F2 ls S1).bind fun y S2 => cmpW op x y S2) (.Compare a [cop op] [b] pos) :=
  PT.mono (pt_cmpR (op_cmp hu op) h1 h2 hm) fun _ _ _ h => sub2 (fun M S H x y v u Q rel wx wy h => cmp_ok rel wx wy op h) h
theorem chain_sub {o p : COp} {σ : L2.St} {H : Hp} {Q : VK}
    (h : tE (WR X.K) X.gx E (fun ls S => (F1 ls S).bind fun x S1 => (F2 ls S1).bind fun y S2 => (cmpW o x y S2).test fun k S3 =>
      if k then (F3 ls S3).bind fun z S4 => cmpW p y z S4 else .ok (.d (.bool false)) S3) σ H Q) :
    tChain (rCmp X.K o) (rCmp X.K p) (tE (WR X.K) X.gx E F1) (tE (WR X.K) X.gx E F2) (tE (WR X.K) X.gx E F3) σ H Q := by
  obtain ⟨M, ls, S, rel, lr, h⟩ := h
  refine ⟨M, ls, S, rel, lr, h.bind fun x S1 M1 H1 v _ g p1 rel1 wx h1 => ?_⟩
  refine ⟨M1, ls, S1, rel1, lr.mono g p1, h1.bind fun y S2 M2 H2 u _ g2 p2 rel2 wy h2 => ?_⟩
  refine cmp_ok rel2 (wx.mono g2 p2) wy o (h2.test (R' := WR X.K) fun k S3 M3 H3 g3 p3 rel3 h3 => ⟨k, rfl, ?_⟩)
  cases k with
  | false => exact OK.datum (E := E) h3 rel3 (.bl _)
  | true =>
    refine ⟨M3, ls, S3, rel3, ((lr.mono g p1).mono g2 p2).mono g3 p3, OK.bind (R' := WR X.K) h3 fun z S4 M4 H4 t _ g4 p4 rel4 wz h4 => ?_⟩
    exact cmp_ok rel4 ((wy.mono g3 p3).mono g4 p4) wz p h4
theorem x_chain (hu : X.A.units + 64 < cLine) {o p : COp} (hm : lastMarks [cop o, cop p] [b, c] = false) (h1 : Pe X E F1 a) (h2 : Pe X E F2 b) (h3 : Pe X E F3 c) :
    Pe X E (fun ls S => (F1 ls S).bind fun x S1 => (F2 ls S1).bind fun y S2 => (cmpW o x y S2).test fun k S3 =>
      if k then (F3 ls S3).bind fun z S4 => cmpW p y z S4 else .ok (.d (.bool false)) S3) (.Compare a [cop o, cop p] [b, c] pos) :=
  PE.mono (pe_chain (op_cmp hu o) (op_cmp hu p) h1 h2 h3 hm) fun _ _ _ h => chain_sub h
theorem t_chain (hu : X.A.units + 64 < cLine) {o p : COp} (hm : lastMarks [cop o, cop p] [b, c] = false) (h1 : Pe X E F1 a) (h2 : Pe X E F2 b) (h3 : Pe X E F3 c) :
    Pt X E (fun ls S => (F1 ls S).bind fun x S1 => (F2 ls S1).bind fun y S2 => (cmpW o x y S2).test fun k S3 =>
      if k then (F3 ls S3).bind fun z S4 => cmpW p y z S4 else .ok (.d (.bool false)) S3) (.Compare a [cop o, cop p] [b, c] pos) :=
  PT.mono (pt_chain (op_cmp hu o) (op_cmp hu p) h1 h2 h3 hm) fun _ _ _ h => chain_sub h
theorem if_sub {σ : L2.St} {H : Hp} {Q : VK} (h : tE (WR X.K) X.gx E (fun ls S => (F1 ls S).test fun k S1 => if k then F2 ls S1 else F3 ls S1) σ H Q) :
    tB (tE (WR X.K) X.gx E F1) σ H (fun c H1 => if c = true then tE (WR X.K) X.gx E F2 σ H1 Q else tE (WR X.K) X.gx E F3 σ H1 Q) := by
  obtain ⟨M, ls, S, rel, lr, h⟩ := h
  refine ⟨M, ls, S, rel, lr, h.test fun c S1 M1 H1 g p rel1 h1 => ⟨c, rfl, ?_⟩⟩
  cases c with
  | true => exact ⟨M1, ls, S1, rel1, lr.mono g p, h1⟩
  | false => exact ⟨M1, ls, S1, rel1, lr.mono g p, h1⟩
theorem x_ife (h1 : Pt X E F1 a) (h2 : Pe X E F2 b) (h3 : Pe X E F3 c) : Pe X E (fun ls S => (F1 ls S).test fun k S1 => if k then F2 ls S1 else F3 ls S1) (.IfExp a b c pos) :=
  PE.mono (pe_ifExp h1 h2 h3) fun _ _ _ h => if_sub h
/-- any expression whose test is its value's -/
theorem t_val (h : Pe X E F a) (he : ∀ whole, isTrue a X.env whole = (do let v ← whole; standAt a.pos; holding [v] (truthy v))) : Pt X E F a := pt_val h he

/-! ### several -/
variable {FL : Loc → Store → Res (List W)} {es : List Expr}
theorem a_nil : Pa X E (fun _ S => .ok [] S) [] := PA.mono pa_nil fun σ H Q ⟨M, ls, S, rel, lr, h⟩ => OK.fin (R := WRs X.K) (b := []) h rel .nil
theorem a_cons (h1 : Pe X E F a) (h2 : Pa X E FL es) (hs : starEach (a :: es) X.env = (false, eval a X.env) :: starEach es X.env) :
    Pa X E (fun ls S => (F ls S).bind fun w S1 => (FL ls S1).bind fun ws S2 => .ok (w :: ws) S2) (a :: es) := by
  refine PA.mono (pa_cons h1 h2 hs) fun σ H Q ⟨M, ls, S, rel, lr, h⟩ => ?_
  refine ⟨M, ls, S, rel, lr, h.bind fun x S1 M1 H1 v _ g p rel1 wx h1 => ?_⟩
  refine ⟨M1, ls, S1, rel1, lr.mono g p, h1.bind fun y S2 M2 H2 u _ g2 p2 rel2 wy h2 => ?_⟩
  exact OK.fin (R := WRs X.K) (b := v :: u) h2 rel2 (.cons (wx.mono g2 p2) wy)
theorem x_tup {k : Nat} (h : Pa X E FL es) : Pe X E (fun ls S => (FL ls S).bind tupW) (.Tuple es k pos) := by
  refine PE.mono (pe_tup h) fun σ H Q h => sub1 (R := WRs X.K) (r := fun xs H1 Q => xs.length ≤ sizeLine ∧ ∀ p, H1 p = none → Q (.ref p) (upd H1 p (.tup xs))) (fun M S H ws vs Q rel wr h => ?_) h
  unfold tupW at h
  cases e : dataOf ws with
  | none => simp only [e] at h; exact h.elim
  | some xs =>
    simp only [e] at h
    have d := wr.data e
    by_cases c : fits xs.length = true
    · rw [if_pos c] at h
      refine ⟨by rw [d.length]; exact fitsT c, fun p hp => ?_⟩
      obtain ⟨g, r, dd⟩ := newTup rel hp d
      exact h.fin' (b := V.ref p) g r dd
    · rw [if_neg c] at h; exact h.elim
/-- the new list of a display: locked, or a thing -/
theorem newL_fz {G : Gx} {M : List Addr} {S : Store} {H : Hp} {xs : List D} {vs : List V} {p : Addr} {Q : VK} (rel : Rel G M S H) (hp : H p = none) (d : DRs G.K H vs xs) (h : OK (WR G.K) G E M H (newL false xs S) Q) : lkQ Q (.ref p) (upd H p (.lst vs)) := by
  refine ⟨p, vs, rfl, upd_same, fun o => ?_⟩
  obtain ⟨g, r, dd⟩ := newFz (o := o) rel hp d
  have h : OK (WR G.K) G E M H (.ok (.d (.list xs)) S) Q := h
  exact h.fin' (b := V.ref p) g r dd
theorem newL_th {G : Gx} {M : List Addr} {S : Store} {H : Hp} {xs : List D} {vs : List V} {p : Addr} {Q : VK} (rel : Rel G M S H) (hp : H p = none) (d : DRs G.K H vs xs) (h : OK (WR G.K) G E M H (newL true xs S) Q) : Q (.ref p) (upd H p (.lst vs)) := by
  have g : Grow H (upd H p (.lst vs)) := Grow.new hp
  have h : OK (WR G.K) G E M H (.ok (.r S.length) (S ++ [.list xs])) Q := h
  refine h.fin' (b := V.ref p) (M' := M ++ [p]) (Ext.push hp) (rel.push hp ⟨vs, upd_same, DRs.mono g _ _ d⟩) ⟨p, ?_, rfl⟩
  rw [List.getElem?_append_right (by rw [rel.len]; exact Nat.le_refl _), rel.len, Nat.sub_self]
  rfl
theorem lst_some {m : Bool} {ws : List W} {M : List Addr} {S : Store} {H : Hp} {Q : VK} {vs : List V} {G : Gx} (wr : WRs G.K M H vs ws) (h : OK (WR G.K) G E M H (lstW m ws S) Q) : ∃ xs, DRs G.K H vs xs ∧ xs.length ≤ sizeLine ∧ OK (WR G.K) G E M H (newL m xs S) Q := by
  unfold lstW at h
  cases e : dataOf ws with
  | none => simp only [e] at h; exact h.elim
  | some xs =>
    simp only [e] at h
    by_cases c : fits xs.length = true
    · rw [if_pos c] at h
      exact ⟨xs, wr.data e, fitsT c, h⟩
    · rw [if_neg c] at h; exact h.elim
theorem x_lst {m : Bool} (h : Pa X E FL es) : Pe X E (fun ls S => (FL ls S).bind (lstW m)) (.List es pos) := by
  cases m with
  | true =>
    refine PE.mono (pe_lst h) fun σ H Q h => sub1 (R := WRs X.K) (r := fun xs H1 Q => xs.length ≤ sizeLine ∧ ∀ p, H1 p = none → Q (.ref p) (upd H1 p (.lst xs))) (fun M S H ws vs Q rel wr h => ?_) h
    obtain ⟨xs, d, z, h⟩ := lst_some wr h
    exact ⟨by rw [d.length]; exact z, fun p hp => newL_th rel hp d h⟩
  | false =>
    refine PE.mono (pe_lk (pe_lst h)) fun σ H Q h => sub1 (R := WRs X.K) (r := fun xs H1 Q => xs.length ≤ sizeLine ∧ ∀ p, H1 p = none → lkQ Q (.ref p) (upd H1 p (.lst xs))) (fun M S H ws vs Q rel wr h => ?_) h
    obtain ⟨xs, d, z, h⟩ := lst_some wr h
    exact ⟨by rw [d.length]; exact z, fun p hp => newL_fz rel hp d h⟩
end
end MI

/-! MiG: subscripts, calls of built-ins (own work). -/
namespace MI
open PySem PySem.Spec PyProof.Rows L2

section
variable {G : Gx} {E : Nat → Hp → Prop} {M : List Addr} {S : Store} {H : Hp}
theorem DRs.at {K : PySem.W.Frag} {H : Hp} {vs : List V} {ds : List D} {i : Int} {d : D} (h : DRs K H vs ds) (e : L2.atI ds i = some d) : ∃ v, L2.atI vs i = some v ∧ DR K H v d := by
  unfold L2.atI at e ⊢
  rw [h.length]
  cases q : L2.ixN ds.length i with
  | none => rw [q] at e; cases e
  | some j =>
    rw [q] at e
    exact h.get e
theorem idx_ok {x y : W} {v u : V} {Q : VK} (rel : Rel G M S H) (wx : WR G.K M H v x) (wy : WR G.K M H u y) (h : OK (WR G.K) G E M H (idxW x y S) Q) : rIxL G.K v u H Q ∨ rIxT G.K v u H Q := by
  unfold idxW at h
  cases q : toD S x with
  | none => simp only [q, Option.bind_none] at h; exact h.elim
  | some a =>
    simp only [q, Option.bind_some] at h
    have va := view rel wx q
    cases y with
    | r i => cases a <;> exact h.elim
    | d y =>
      cases y with
      | int i =>
        cases wy
        cases a with
        | list ds =>
          simp only [seqD] at h
          obtain ⟨p, xs, rfl, hs, d⟩ := va.list
          cases e : L2.atI ds i with
          | none => simp only [e] at h; exact h.elim
          | some x =>
            simp only [e] at h
            obtain ⟨w, e1, r⟩ := d.at e
            exact .inl ⟨p, xs, i, w, rfl, rfl, hs, e1, OK.datum (E := E) h rel r⟩
        | tuple ds =>
          simp only [seqD] at h
          obtain ⟨p, xs, rfl, hs, d⟩ := va.tuple
          cases e : L2.atI ds i with
          | none => simp only [e] at h; exact h.elim
          | some x =>
            simp only [e] at h
            obtain ⟨w, e1, r⟩ := d.at e
            exact .inr ⟨p, xs, i, w, rfl, rfl, hs, e1, OK.datum (E := E) h rel r⟩
        | _ => exact h.elim
      | _ => cases a <;> exact h.elim
theorem frz_ok {x : W} {v : V} {Q : VK} (rel : Rel G M S H) (wx : WR G.K M H v x) (h : OK (WR G.K) G E M H (frzW x S) Q) : ∃ a xs, v = .ref a ∧ H a = some (.lst xs) ∧ ∀ o, Q v (upd H a (.frz o (.lst xs))) := by
  cases x with
  | d x => exact h.elim
  | r i =>
    obtain ⟨a, hm, rfl⟩ := wx
    unfold frzW at h
    cases q : S[i]? with
    | none => simp only [q] at h; exact h.elim
    | some o =>
      cases o with
      | list ds =>
        simp only [q] at h
        obtain ⟨xs, h1, h2⟩ := rel.ob i _ a q hm
        refine ⟨a, xs, rfl, h1, fun o => ?_⟩
        have g : Grow H (upd H a (.frz o (.lst xs))) := Grow.put h1 (fun _ z => nomatch z) (fun _ _ z => nomatch z)
        exact h.fin' (b := V.ref a) (Ext.put hm h1 (fun _ z => nomatch z) (fun _ _ z => nomatch z)) (rel.put hm h1 (fun _ z => nomatch z) (fun _ _ z => nomatch z) trivial) (.lst (.inl ⟨o, upd_same⟩) (DRs.mono g _ _ h2))
      | _ => simp only [q] at h; exact h.elim
theorem DRs.cut {K : PySem.W.Frag} {H : Hp} {vs : List V} {ds : List D} (h : DRs K H vs ds) (a b : Option Int) : DRs K H (cutV vs a b) (cutD ds a b) := by
  unfold cutV cutD
  rw [h.length]
  exact (h.drop _).take _
theorem vals_int {K : PySem.W.Frag} {H : Hp} : ∀ {vs : List V} {ds : List D} {is : List Int}, DRs K H vs ds → intsOf ds = some is → vs = is.map V.int
  | _, _, _, .nil, e => by cases e; rfl
  | _, _, _, .cons (d := d) (ds := ds) h t, e => by
    cases d with
    | int i =>
      have e' : (intsOf ds).map (i :: ·) = some _ := e
      obtain ⟨js, e1, e2⟩ := Option.map_eq_some_iff.mp e'
      subst e2
      cases h
      rw [vals_int t e1]
      rfl
    | _ => cases e
theorem vals_bool {K : PySem.W.Frag} {H : Hp} : ∀ {vs : List V} {ds : List D} {is : List Bool}, DRs K H vs ds → boolsOf ds = some is → vs = is.map V.bl
  | _, _, _, .nil, e => by cases e; rfl
  | _, _, _, .cons (d := d) (ds := ds) h t, e => by
    cases d with
    | bool i =>
      have e' : (boolsOf ds).map (i :: ·) = some _ := e
      obtain ⟨js, e1, e2⟩ := Option.map_eq_some_iff.mp e'
      subst e2
      cases h
      rw [vals_bool t e1]
      rfl
    | _ => cases e

/-! ### types -/
theorem SqL.ty {K : PySem.W.Frag} {H : Hp} {a : Addr} {xs : List V} (h : SqL K H a xs) : TyX K H (.ref a) (.type "list") := by
  rcases h with (h | ⟨o, h⟩) | ⟨o, its, n, h, c, _⟩
  · exact .base (.lst h)
  · exact .base (.frz h)
  · exact .kList h c
theorem SqT.ty {K : PySem.W.Frag} {H : Hp} {a : Addr} {xs : List V} (h : SqT K H a xs) : TyX K H (.ref a) (.type "tuple") := by
  rcases h with (h | ⟨o, h⟩) | ⟨o, its, n, h, c, _⟩
  · exact .base (.tup h)
  · exact .fTuple h
  · exact .kTuple h c
def tyN : D → String
  | .none => "NoneType" | .bool _ => "bool" | .int _ => "int" | .str _ => "str" | .list _ => "list" | .tuple _ => "tuple" | .dict _ => "dict"
def tyS : Ty → String
  | .int => "int" | .bool => "bool" | .str => "str" | .tuple => "tuple" | .list => "list"
theorem Vw.ty {K : PySem.W.Frag} {H : Hp} {v : V} {d : D} (h : Vw K H v d) : TyX K H v (.type (tyN d)) := by
  cases h with
  | dr h =>
    cases h with
    | non => exact .base .non
    | bl b => exact .base (.bl b)
    | int i => exact .base (.int i)
    | str x => exact .base (.str x)
    | lst h _ => exact SqL.ty h.sq
    | tup h _ => exact SqT.ty h
  | lst h _ => exact SqL.ty h
theorem kit_all (K : PySem.W.Frag) (d : D) (ty : Ty) (hd : ∀ x, d ≠ .dict x) : PySem.W.kitOne K (.type (tyN d)) (.type (tyS ty)) = some (tyD ty d) := by
  cases d with
  | dict x => exact absurd rfl (hd x)
  | _ => cases ty <;> (simp only [tyN, tyS, tyD]; exact kit_ty (by decide +kernel))
theorem Vw.nodict {K : PySem.W.Frag} {H : Hp} {v : V} {d : D} (h : Vw K H v d) : ∀ x, d ≠ .dict x := by
  intro x e
  subst e
  cases h with
  | dr h => cases h
theorem isi_ok {ty : Ty} {x : W} {v : V} {Q : VK} (rel : Rel G M S H) (wx : WR G.K M H v x) (h : OK (WR G.K) G E M H (isiW ty x S) Q) : rIsi G.K [v, .ty (tyS ty)] H Q := by
  unfold isiW at h
  cases q : toD S x with
  | none => simp only [q] at h; exact h.elim
  | some a =>
    simp only [q] at h
    have va := view rel wx q
    exact ⟨v, _, _, _, _, rfl, .ty _, va.ty, kit_all _ _ _ va.nodict, OK.datum (E := E) h rel (.bl _)⟩
theorem len_ok {x : W} {v : V} {Q : VK} (rel : Rel G M S H) (wx : WR G.K M H v x) (h : OK (WR G.K) G E M H (lenW x S) Q) : ∃ (x : V) (n : Nat), [v] = [x] ∧ LenV G.K x H n ∧ Q (.int n) H := by
  unfold lenW at h
  cases q : toD S x with
  | none => simp only [q] at h; exact h.elim
  | some a =>
    have va := view rel wx q
    cases a with
    | list ds =>
      simp only [q] at h
      obtain ⟨p, xs, rfl, hs, d⟩ := va.list
      refine ⟨.ref p, xs.length, rfl, .inl ⟨xs, hs, rfl⟩, ?_⟩
      rw [d.length]
      exact OK.datum (E := E) h rel (.int _)
    | tuple ds =>
      simp only [q] at h
      obtain ⟨p, xs, rfl, hs, d⟩ := va.tuple
      refine ⟨.ref p, xs.length, rfl, .inr ⟨xs, hs, rfl⟩, ?_⟩
      rw [d.length]
      exact OK.datum (E := E) h rel (.int _)
    | str z =>
      simp only [q] at h
      by_cases c : fits z.length = true
      · rw [if_pos c] at h
        exact ⟨.str z, z.length, by rw [va.str], (show z.length ≤ sizeLine ∧ z.length = z.length from ⟨fitsT c, rfl⟩), OK.datum (E := E) h rel (.int _)⟩
      · rw [if_neg c] at h; exact h.elim
    | _ => simp only [q] at h; exact h.elim
end

section
variable {X : Cx} {E : Nat → Hp → Prop} {a b c : Expr} {es : List Expr} {pos p2 p3 : Pos} {F F1 F2 F3 : Loc → Store → Res W} {FL : Loc → Store → Res (List W)}
theorem x_idx (h1 : Pe X E F1 a) (h2 : Pe X E F2 b) (hs : PlainIx b) : Pe X E (fun ls S => (F1 ls S).bind fun x S1 => (F2 ls S1).bind fun y S2 => idxW x y S2) (.Subscript a b pos) :=
  PE.mono (pe_ix (ix_list.or ix_tup) h1 h2 hs) fun _ _ _ h => sub2 (fun M S H x y v u Q rel wx wy h => idx_ok rel wx wy h) h
theorem x_frz (h : Pe X E F a) : Pe X E (fun ls S => (F ls S).bind frzW) a := by
  refine PE.mono (pe_lk h) fun σ H Q h => ?_
  exact sub1 (X := X) (R := WR X.K) (Fa := F) (f := frzW) (r := fun (v : V) (H : Hp) (Q : VK) => ∃ a xs, v = .ref a ∧ H a = some (.lst xs) ∧ ∀ o, Q v (upd H a (.frz o (.lst xs)))) (fun M S H x v Q rel wx h => frz_ok rel wx h) h

/-! ### slices -/
/-- a slice's part -/
abbrev Po (X : Cx) (E : Nat → Hp → Prop) (F : Loc → Store → Res (Option Int)) (e : Option Expr) : Prop := PO X e (tE (fun _ _ a b => a = b) X.gx E F)
theorem PO.mono {e : Option Expr} {t t' : TO} (h : PO X e t) (k : ∀ σ H Q, t' σ H Q → t σ H Q) : PO X e t' := ⟨fun pins s σ H Q I hw => h.run pins s σ H Q I (k σ H Q hw)⟩
theorem o_none : Po X E (fun _ S => .ok none S) none := PO.mono po_none fun σ H Q ⟨M, ls, S, rel, lr, h⟩ => OK.fin (R := fun _ _ a b => a = b) (b := none) h rel rfl
theorem o_some (h : Pe X E F a) : Po X E (fun ls S => (F ls S).bind partW) (some a) := by
  refine PO.mono (po_some h) fun σ H Q ⟨M, ls, S, rel, lr, h⟩ => ?_
  refine ⟨M, ls, S, rel, lr, h.bind fun x S1 M1 H1 v _ g p rel1 wx h1 => ?_⟩
  cases x with
  | r i => exact h1.elim
  | d x =>
    cases x with
    | int i =>
      cases wx
      exact ⟨i, rfl, OK.fin (R := fun _ _ a b => a = b) (b := some i) h1 rel1 rfl⟩
    | _ => exact h1.elim
def rSlAll (K : PySem.W.Frag) : V → Option Int → Option Int → Hp → VK → Prop := fun x lo hi H Q =>
  (rSlL K x lo hi H (lkQ Q) ∨ rSlA K x lo hi H Q) ∨ (∃ z, x = .str z ∧ z.length ≤ sizeLine ∧ Q (.str (cutS z lo hi)) H)
theorem SlR.lk {r : V → Option Int → Option Int → Hp → VK → Prop} (h : SlR X r) : SlR X (fun x lo hi H Q => r x lo hi H (lkQ Q)) := by
  intro pins s σ H x v vl vu lo hi sl Q I rx hs pl pu q
  obtain ⟨T, id, h1, h2, h3⟩ := h pins s σ H x v vl vu lo hi sl _ I rx hs pl pu q
  exact ⟨T, id, h1, h2, thn h3 fun _ _ z => lk_run z⟩
theorem slc_ok {G : Gx} {M : List Addr} {S : Store} {H : Hp} {x : W} {v : V} {lo hi : Option Int} {Q : VK} (rel : Rel G M S H) (wx : WR G.K M H v x) (h : OK (WR G.K) G E M H (slcW x lo hi S) Q) : rSlAll G.K v lo hi H Q := by
  unfold slcW at h
  cases q : toD S x with
  | none => simp only [q] at h; exact h.elim
  | some a =>
    have va := view rel wx q
    cases a with
    | list ds =>
      simp only [q] at h
      obtain ⟨p, xs, rfl, hs, d⟩ := va.list
      refine .inl (.inl ⟨p, xs, rfl, hs, fun p2 hp => ⟨p2, _, rfl, upd_same, fun o => ?_⟩⟩)
      obtain ⟨g, r, dd⟩ := newFz (o := o) rel hp (d.cut lo hi)
      exact h.fin' (b := V.ref p2) g r dd
    | tuple ds =>
      simp only [q] at h
      obtain ⟨p, xs, rfl, hs, d⟩ := va.tuple
      refine .inl (.inr ⟨p, xs, rfl, hs, fun e => ?_, fun _ p2 hp => ?_⟩)
      · have e2 : cutD ds lo hi = ds := by
          unfold cutD
          rw [← d.length, e.1, e.2, List.drop_zero, Nat.sub_zero, d.length, List.take_length]
        rw [e2] at h
        exact OK.datum (E := E) h rel (.tup hs d)
      · obtain ⟨g, r, dd⟩ := newTup rel hp (d.cut lo hi)
        exact h.fin' (b := V.ref p2) g r dd
    | str z =>
      simp only [q] at h
      by_cases c : fits z.length = true
      · rw [if_pos c] at h
        exact .inr ⟨z, va.str, fitsT c, OK.datum (E := E) h rel (.str _)⟩
      · rw [if_neg c] at h; exact h.elim
    | _ => simp only [q] at h; exact h.elim
theorem sl_all : SlR X (rSlAll X.K) := ((SlR.lk sl_list).or sl_tupA).or sl_str
theorem x_slc {lo hi : Option Expr} {Fl Fh : Loc → Store → Res (Option Int)} (h1 : Pe X E F a) (h2 : Po X E Fl lo) (h3 : Po X E Fh hi) :
    Pe X E (fun ls S => (F ls S).bind fun x S1 => (Fl ls S1).bind fun y S2 => (Fh ls S2).bind fun z S3 => slcW x y z S3) (.Subscript a (.Slice lo hi none p2) pos) := by
  refine PE.mono (pe_slice sl_all h1 h2 h3) fun σ H Q ⟨M, ls, S, rel, lr, h⟩ => ?_
  refine ⟨M, ls, S, rel, lr, h.bind fun x S1 M1 H1 v _ g p rel1 wx h1 => ?_⟩
  refine ⟨M1, ls, S1, rel1, lr.mono g p, h1.bind fun y S2 M2 H2 u _ g2 p2 rel2 wy h2 => ?_⟩
  subst wy
  refine ⟨M2, ls, S2, rel2, (lr.mono g p).mono g2 p2, h2.bind fun z S3 M3 H3 t _ g3 p3 rel3 wz h3 => ?_⟩
  subst wz
  exact slc_ok rel3 ((wx.mono g2 p2).mono g3 p3) h3

/-! ### calls -/
/-- what a def of the small language promises -/
def spM (G : Gx) (cv : Nat → Value) (call : Call) (f n : Nat) : Sp := fun vs H Q Ex => vs.length = n ∧ ∃ M S ws, Rel G M S H ∧ WRs G.K M H vs ws ∧ OK (WR G.K) G (fun c H' => Ex (cv c) none H') M H (call f ws S) Q
theorem x_call {CX : CXT} {k f n : Nat} {fa : Addr} {fd : FuncData} {ps : List Str} {cv : Nat → Value} {call : Call} {Ex : XK} {x : Str} {p : Pos} (F : FnOk X.prog X.w X.K X.mg X.base CX k fa fd ps (spM X.gx cv call f ps.length)) (hr : Room k X.A) (hg : Gl X x) (hm : X.mg x = some (.ref fa))
    (hk : PySem.W.keepIn X.K (.ref fa) = true) (hb : Binds X.K fd ps []) (hx : Passes CX X Ex) (hdb : (x == ("__debug__" : Str)) = false) {e : Expr} (ha : Pa X (fun c H' => Ex (cv c) none H') FL (e :: es)) (hl : (e :: es).length = ps.length) (hlen : ∀ ls S ws S', FL ls S = .ok ws S' → ws.length = (e :: es).length)
    (he : starEach (e :: es) X.env = (false, eval e X.env) :: starEach es X.env) (hpl : (backTo pos (starEach es X.env)).any (·.1) = false) :
    Pe X (fun c H' => Ex (cv c) none H') (fun ls S => (FL ls S).bind fun ws S1 => call f ws S1) (.Call (.Name x p) (e :: es) [] pos) := by
  refine PE.mono (pe_call F hr hg hm hk hb .nil hx ha hdb he hpl) fun σ H Q ⟨M, ls, S, rel, lr, h⟩ => ?_
  refine ⟨M, ls, S, rel, lr, h.bind fun ws S1 M1 H1 vs e1 g p rel1 wr h1 => ?_⟩
  rw [List.append_nil]
  exact ⟨by rw [wr.length, hlen _ _ _ _ e1, hl], M1, S1, ws, rel1, wr, h1⟩
theorem x_call0 {CX : CXT} {k f : Nat} {fa : Addr} {fd : FuncData} {cv : Nat → Value} {call : Call} {Ex : XK} {x : Str} {p : Pos} (F : FnOk X.prog X.w X.K X.mg X.base CX k fa fd [] (spM X.gx cv call f 0)) (hr : Room k X.A) (hg : Gl X x) (hm : X.mg x = some (.ref fa))
    (hk : PySem.W.keepIn X.K (.ref fa) = true) (hb : Binds X.K fd [] []) (hx : Passes CX X Ex) (hdb : (x == ("__debug__" : Str)) = false) :
    Pe X (fun c H' => Ex (cv c) none H') (fun ls S => call f [] S) (.Call (.Name x p) [] [] pos) := by
  refine PE.mono (pe_call0 F hr hg hm hk hb .nil hx hdb) fun σ H Q ⟨M, ls, S, rel, lr, h⟩ => ?_
  exact ⟨rfl, M, S, [], rel, .nil, h⟩
/-- a call of a built-in function, of a built-in class -/
theorem x_bltF {id : String} {r : List V → Hp → VK → Prop} {f : List W → Store → Res W} {x : Str} {p : Pos} {e : Expr} (hc : CallR X (.builtin id) r) (hf : ∀ M S H ws vs Q, Rel X.gx M S H → WRs X.K M H vs ws → OK (WR X.K) X.gx E M H (f ws S) Q → r vs H Q)
    (hg : Gl X x) (hm : X.mg x = none) (hv : bootBuiltins x = some (.builtin id)) (ha : Pa X E FL (e :: es)) (hn : x ≠ "__name__") (hdb : (x == ("__debug__" : Str)) = false)
    (he : starEach (e :: es) X.env = (false, eval e X.env) :: starEach es X.env) (hpl : (backTo pos (starEach es X.env)).any (·.1) = false) :
    Pe X E (fun ls S => (FL ls S).bind f) (.Call (.Name x p) (e :: es) [] pos) :=
  PE.mono (pe_callB hc hg hm hv ha hn hdb he hpl) fun _ _ _ h => sub1 (R := WRs X.K) hf h
theorem x_bltT {T : String} {r : List V → Hp → VK → Prop} {f : List W → Store → Res W} {x : Str} {p : Pos} {e : Expr} (hc : CallR X (.type T) r) (hf : ∀ M S H ws vs Q, Rel X.gx M S H → WRs X.K M H vs ws → OK (WR X.K) X.gx E M H (f ws S) Q → r vs H Q)
    (hg : Gl X x) (hm : X.mg x = none) (hv : bootBuiltins x = some (.type T)) (ha : Pa X E FL (e :: es)) (hn : x ≠ "__name__") (hdb : (x == ("__debug__" : Str)) = false)
    (he : starEach (e :: es) X.env = (false, eval e X.env) :: starEach es X.env) (hpl : (backTo pos (starEach es X.env)).any (·.1) = false) :
    Pe X E (fun ls S => (FL ls S).bind f) (.Call (.Name x p) (e :: es) [] pos) :=
  PE.mono (pe_callTy hc hg hm hv ha hn hdb he hpl) fun _ _ _ h => sub1 (R := WRs X.K) hf h
theorem CallR.lk {f : Value} {r : List V → Hp → VK → Prop} (h : CallR X f r) : CallR X f (fun xs H Q => r xs H (lkQ Q)) := by
  intro pins s σ H xs us Q I rv q
  exact thn (h pins s σ H xs us _ I rv q) fun _ _ z => lk_run z
end

section
variable {G : Gx} {E : Nat → Hp → Prop} {M : List Addr} {S : Store} {H : Hp}
theorem WRs.one {K : PySem.W.Frag} {M : List Addr} {H : Hp} {vs : List V} {w : W} (h : WRs K M H vs [w]) : ∃ v, vs = [v] ∧ WR K M H v w := by
  cases h with | cons h t => cases t; exact ⟨_, rfl, h⟩
theorem WRs.two {K : PySem.W.Frag} {M : List Addr} {H : Hp} {vs : List V} {w u : W} (h : WRs K M H vs [w, u]) : ∃ v t, vs = [v, t] ∧ WR K M H v w ∧ WR K M H t u := by
  cases h with | cons h t => cases t with | cons h2 t2 => cases t2; exact ⟨_, _, rfl, h, h2⟩
theorem ints_one {b : Blt} {ws : List W} {Q : VK} (hb : b = .abs) (h : OK (WR G.K) G E M H (bltW b ws S) Q) : ∃ i, ws = [.d (.int i)] ∧ OK (WR G.K) G E M H (.ok (.d (.int (if i < 0 then -i else i))) S) Q := by
  subst hb
  match ws, h with
  | [.d (.int i)], h => exact ⟨i, rfl, h⟩
theorem abs_ok {ws : List W} {vs : List V} {Q : VK} (rel : Rel G M S H) (wr : WRs G.K M H vs ws) (h : OK (WR G.K) G E M H (bltW .abs ws S) Q) : ∃ i, vs = [.int i] ∧ Q (.int (if i < 0 then -i else i)) H := by
  obtain ⟨i, rfl, h⟩ := ints_one rfl h
  obtain ⟨v, rfl, r⟩ := wr.one
  cases r
  exact ⟨i, rfl, OK.datum (E := E) h rel (.int _)⟩
theorem int_ok {ws : List W} {vs : List V} {Q : VK} (rel : Rel G M S H) (wr : WRs G.K M H vs ws) (h : OK (WR G.K) G E M H (bltW .int ws S) Q) :
    (∃ i, vs = [.int i] ∧ Q (.int i) H) ∨ ∃ k, vs = [.bl k] ∧ Q (.int (if k then 1 else 0)) H := by
  match ws, wr, h with
  | [.d (.int i)], wr, h =>
    obtain ⟨v, rfl, r⟩ := wr.one
    cases r
    exact .inl ⟨i, rfl, OK.datum (E := E) h rel (.int _)⟩
  | [.d (.bool k)], wr, h =>
    obtain ⟨v, rfl, r⟩ := wr.one
    cases r
    exact .inr ⟨k, rfl, OK.datum (E := E) h rel (.int _)⟩
theorem max2_ok {ws : List W} {vs : List V} {Q : VK} (rel : Rel G M S H) (wr : WRs G.K M H vs ws) (h : OK (WR G.K) G E M H (bltW .max2 ws S) Q) : ∃ i j, vs = [.int i, .int j] ∧ Q (.int (if j > i then j else i)) H := by
  match ws, wr, h with
  | [.d (.int i), .d (.int j)], wr, h =>
    obtain ⟨v, t, rfl, r, r2⟩ := wr.two
    cases r
    cases r2
    exact ⟨i, j, rfl, OK.datum (E := E) h rel (.int _)⟩
theorem min2_ok {ws : List W} {vs : List V} {Q : VK} (rel : Rel G M S H) (wr : WRs G.K M H vs ws) (h : OK (WR G.K) G E M H (bltW .min2 ws S) Q) : ∃ i j, vs = [.int i, .int j] ∧ Q (.int (if j < i then j else i)) H := by
  match ws, wr, h with
  | [.d (.int i), .d (.int j)], wr, h =>
    obtain ⟨v, t, rfl, r, r2⟩ := wr.two
    cases r
    cases r2
    exact ⟨i, j, rfl, OK.datum (E := E) h rel (.int _)⟩
theorem blen_ok {ws : List W} {vs : List V} {Q : VK} (rel : Rel G M S H) (wr : WRs G.K M H vs ws) (h : OK (WR G.K) G E M H (bltW .len ws S) Q) : ∃ x n, vs = [x] ∧ LenV G.K x H n ∧ Q (.int n) H := by
  match ws, wr, h with
  | [x], wr, h =>
    obtain ⟨v, rfl, r⟩ := wr.one
    exact len_ok rel r h
theorem tuple_ok {ws : List W} {vs : List V} {Q : VK} (rel : Rel G M S H) (wr : WRs G.K M H vs ws) (h : OK (WR G.K) G E M H (bltW .tuple ws S) Q) :
    ∃ p ys, vs = [.ref p] ∧ ((SqL G.K H p ys ∧ ∀ l, H l = none → Q (.ref l) (upd H l (.tup ys))) ∨ (SqT G.K H p ys ∧ Q (.ref p) H)) := by
  match ws, wr, h with
  | [x], wr, h =>
    obtain ⟨v, rfl, r⟩ := wr.one
    unfold bltW at h
    simp only at h
    cases q : toD S x with
    | none => simp only [q] at h; exact h.elim
    | some a =>
      have va := view rel r q
      cases a with
      | list ds =>
        simp only [q] at h
        obtain ⟨p, xs, rfl, hs, d⟩ := va.list
        refine ⟨p, xs, rfl, .inl ⟨hs, fun l hl => ?_⟩⟩
        obtain ⟨g, r, dd⟩ := newTup rel hl d
        exact h.fin' (b := V.ref l) g r dd
      | tuple ds =>
        simp only [q] at h
        obtain ⟨p, xs, rfl, hs, d⟩ := va.tuple
        exact ⟨p, xs, rfl, .inr ⟨hs, OK.datum (E := E) h rel (.tup hs d)⟩⟩
      | _ => simp only [q] at h; exact h.elim
theorem all_ok {ws : List W} {vs : List V} {Q : VK} (rel : Rel G M S H) (wr : WRs G.K M H vs ws) (h : OK (WR G.K) G E M H (bltW .all ws S) Q) : rAll G.K vs H Q := by
  match ws, wr, h with
  | [x], wr, h =>
    obtain ⟨v, rfl, r⟩ := wr.one
    unfold bltW at h
    simp only at h
    cases q : toD S x with
    | none => simp only [q] at h; exact h.elim
    | some a =>
      have va := view rel r q
      cases a with
      | list ds =>
        simp only [q] at h
        obtain ⟨p, xs, rfl, hs, d⟩ := va.list
        cases e : boolsOf ds with
        | none => simp only [e] at h; exact h.elim
        | some bs =>
          simp only [e] at h
          have := vals_bool d e
          subst this
          exact ⟨p, bs, rfl, hs, OK.datum (E := E) h rel (.bl _)⟩
      | _ => simp only [q] at h; exact h.elim
theorem any_ok {ws : List W} {vs : List V} {Q : VK} (rel : Rel G M S H) (wr : WRs G.K M H vs ws) (h : OK (WR G.K) G E M H (bltW .any ws S) Q) : rAny G.K vs H Q := by
  match ws, wr, h with
  | [x], wr, h =>
    obtain ⟨v, rfl, r⟩ := wr.one
    unfold bltW at h
    simp only at h
    cases q : toD S x with
    | none => simp only [q] at h; exact h.elim
    | some a =>
      have va := view rel r q
      cases a with
      | list ds =>
        simp only [q] at h
        obtain ⟨p, xs, rfl, hs, d⟩ := va.list
        cases e : boolsOf ds with
        | none => simp only [e] at h; exact h.elim
        | some bs =>
          simp only [e] at h
          have := vals_bool d e
          subst this
          exact ⟨p, bs, rfl, hs, OK.datum (E := E) h rel (.bl _)⟩
      | _ => simp only [q] at h; exact h.elim
/-- list(x): r by whether the new list is a thing -/
theorem cpy_ok {m : Bool} {x : W} {v : V} {Q Q' : VK} (rel : Rel G M S H) (r : WR G.K M H v x) (h : OK (WR G.K) G E M H (cpyW m x S) Q) (hq : ∀ p vs xs, H p = none → DRs G.K H vs xs → OK (WR G.K) G E M H (newL m xs S) Q → Q' (.ref p) (upd H p (.lst vs))) :
    ∃ p ys, [v] = [V.ref p] ∧ (SqL G.K H p ys ∨ SqT G.K H p ys) ∧ ∀ l, H l = none → Q' (.ref l) (upd H l (.lst ys)) := by
  unfold cpyW at h
  cases q : toD S x with
  | none => simp only [q, Option.bind_none] at h; exact h.elim
  | some a =>
    simp only [q, Option.bind_some] at h
    have va := view rel r q
    cases a with
    | list ds =>
      obtain ⟨p, xs, rfl, hs, d⟩ := va.list
      exact ⟨p, xs, rfl, .inl hs, fun l hl => hq l xs ds hl d h⟩
    | tuple ds =>
      obtain ⟨p, xs, rfl, hs, d⟩ := va.tuple
      exact ⟨p, xs, rfl, .inr hs, fun l hl => hq l xs ds hl d h⟩
    | _ => exact h.elim
end
end MI

/-! MiH: what is walked; statements, loops, comprehensions (own work). -/
namespace MI
open PySem PySem.Spec PyProof.Rows L2

/-- an iterator that yields the data ds -/
def GoodIt (G : Gx) (H0 : Hp) (J : It) (ds : List D) : Prop :=
  ∃ Gd : Hp → Prop, Gd H0 ∧ (∀ H1 H2, Grow H1 H2 → Gd H1 → Gd H2) ∧ (∀ i H, Gd H → i < ds.length → J.go i H) ∧ (∀ H, Gd H → J.stop ds.length H) ∧
    ∀ i H x H' d, Gd H → J.yld i H x H' → ds[i]? = some d → (∀ M S, Rel G M S H → Ext M H M H' ∧ Rel G M S H') ∧ Gd H' ∧ DR G.K H' x d
abbrev IR (G : Gx) (M : List Addr) (H : Hp) (J : It) (ds : List D) : Prop := GoodIt G H J ds

section
variable {G : Gx} {H : Hp}
theorem good_walk {J : It} {n : Nat} {Gw : Hp → Prop} {Y : Nat → Hp → V → Hp → Prop} {ds : List D} (w : Walk J n Gw Y) (hn : ds.length = n) (Gd : Hp → Prop) (h0 : Gd H) (hm : ∀ H1 H2, Grow H1 H2 → Gd H1 → Gd H2) (hg : ∀ H, Gd H → Gw H)
    (hy : ∀ i H x H' d, Gd H → Y i H x H' → ds[i]? = some d → (∀ M S, Rel G M S H → Ext M H M H' ∧ Rel G M S H') ∧ Gd H' ∧ DR G.K H' x d) : GoodIt G H J ds := by
  subst hn
  exact ⟨Gd, h0, hm, fun i H q hi => w.goes i H hi (hg H q), fun H q => w.stops H (hg H q), fun i H x H' d q y e => hy i H x H' d q (w.yields i H x H' (List.getElem?_eq_some_iff.mp e).1 (hg H q) y) e⟩
theorem good_list {a : Addr} {xs : List V} {ds : List D} (h : FzL G.K H a xs) (d : DRs G.K H xs ds) : GoodIt G H (Itl G.K a) ds := by
  refine good_walk (walk_list (K := G.K) (a := a) (xs := xs)) d.length.symm (fun H => FzL G.K H a xs ∧ DRs G.K H xs ds) ⟨h, d⟩ (fun H1 H2 g q => ⟨q.1.mono g, DRs.mono g _ _ q.2⟩) (fun H q => q.1.sq) fun i H x H' d q y e => ?_
  obtain ⟨rfl, y⟩ := y
  obtain ⟨v, e1, r⟩ := q.2.get e
  rw [y] at e1
  cases e1
  exact ⟨fun M S rel => ⟨Ext.refl _ _, rel⟩, q, r⟩
theorem good_tup {a : Addr} {xs : List V} {ds : List D} (h : SqT G.K H a xs) (d : DRs G.K H xs ds) : GoodIt G H (Itt G.K a) ds := by
  refine good_walk (walk_tup (K := G.K) (a := a) (xs := xs)) d.length.symm (fun H => SqT G.K H a xs ∧ DRs G.K H xs ds) ⟨h, d⟩ (fun H1 H2 g q => ⟨SqT_mono g q.1, DRs.mono g _ _ q.2⟩) (fun H q => q.1) fun i H x H' d q y e => ?_
  obtain ⟨rfl, y⟩ := y
  obtain ⟨v, e1, r⟩ := q.2.get e
  rw [y] at e1
  cases e1
  exact ⟨fun M S rel => ⟨Ext.refl _ _, rel⟩, q, r⟩
theorem good_range {lo : Int} {n : Nat} : GoodIt G H (Itr lo n) ((List.range n).map fun i => .int (lo + (i : Nat))) := by
  refine good_walk (walk_range (lo := lo) (n := n)) (by simp) (fun _ => True) trivial (fun _ _ _ _ => trivial) (fun _ _ => trivial) fun i H x H' d _ y e => ?_
  obtain ⟨rfl, rfl⟩ := y
  rw [List.getElem?_map] at e
  cases q : (List.range n)[i]? with
  | none => rw [q] at e; cases e
  | some j =>
    rw [q] at e
    cases e
    have : j = i := by
      obtain ⟨h1, h2⟩ := List.getElem?_eq_some_iff.mp q
      rw [List.getElem_range] at h2
      exact h2.symm
    subst this
    exact ⟨fun M S rel => ⟨Ext.refl _ _, rel⟩, trivial, .int _⟩
end

section
variable {X : Cx} {E : Nat → Hp → Prop} {a b c : Expr} {tg : Expr} {es : List Expr} {pos p p2 p3 : Pos} {F F1 F2 F3 : Loc → Store → Res W} {FI : Loc → Store → Res (List D)}
abbrev Pi (X : Cx) (E : Nat → Hp → Prop) (FI : Loc → Store → Res (List D)) (tg iter : Expr) : Prop := PI X tg iter (tE (IR X.gx) X.gx E FI)

/-- a list or a tuple -/
theorem pi_seq {l : Expr} {tl : TE} (hl : PE X l tl) : PI X tg l (fun σ H R => tl σ H fun x H1 => ∃ a, x = .ref a ∧ ((∃ xs, SqL X.K H1 a xs ∧ R (Itl X.K a) H1) ∨ (∃ xs, SqT X.K H1 a xs ∧ R (Itt X.K a) H1))) := by
  refine ⟨fun pins s σ H R I h => ?_⟩
  refine thn (hl.run pins s σ H _ I h) fun v s1 ⟨x, H1, I1, r1, q1⟩ => ?_
  obtain ⟨a, e, q⟩ := q1
  subst e
  cases r1
  rcases q with ⟨xs, hq, q⟩ | ⟨xs, hq, q⟩
  · obtain ⟨its, rv, p, hz⟩ := I1.list hq
    refine wpAny_pyIter_list p.isList ?_
    refine ⟨s1.heap.objs.size, [s1.heap.objs.size], _, _, H1, rfl, I1.kept (t' := s1.toks) fun b o e => Heap.get?_push_of_some _ e, turn_list a _, ⟨_, Heap.get?_push_size _ rfl, rfl, rfl⟩, fun b hb => ?_, q⟩
    have e : b = s1.heap.objs.size := by simpa using hb
    subst e
    exact I1.fpOk (Nat.le_refl _) (I1.hok.fresh (Nat.le_refl _))
  · obtain ⟨its, rv, p, hz⟩ := I1.tuple hq
    refine wpAny_pyIter_tuple (show s1.heap.IsTuple a its.toArray from p) ?_
    refine ⟨s1.heap.objs.size, [s1.heap.objs.size], _, _, H1, rfl, I1.kept (t' := s1.toks) fun b o e => Heap.get?_push_of_some _ e, turn_tuple a _, ⟨_, Heap.get?_push_size _ rfl, rfl, rfl⟩, fun b hb => ?_, q⟩
    have e : b = s1.heap.objs.size := by simpa using hb
    subst e
    exact I1.fpOk (Nat.le_refl _) (I1.hok.fresh (Nat.le_refl _))
theorem i_seq (h : Pe X E F a) : Pi X E (fun ls S => (F ls S).bind fun w S1 => match w with
    | .d x => optR (seqD x) S1
    | .r _ => .stuck) tg a := by
  refine PI.mono (pi_seq h) fun σ H R ⟨M, ls, S, rel, lr, h⟩ => ?_
  refine ⟨M, ls, S, rel, lr, h.bind fun x S1 M1 H1 v _ g p rel1 wx h1 => ?_⟩
  cases x with
  | r i => exact h1.elim
  | d x =>
    cases x with
    | list ds =>
      cases wx with
      | lst h2 d => exact ⟨_, rfl, .inl ⟨_, h2.sq, OK.fin (R := IR X.gx) h1 rel1 (good_list h2 d)⟩⟩
    | tuple ds =>
      cases wx with
      | tup h2 d => exact ⟨_, rfl, .inr ⟨_, h2, OK.fin (R := IR X.gx) h1 rel1 (good_tup h2 d)⟩⟩
    | _ => exact h1.elim
theorem i_rng1 (hg : Gl X "range") (hm : X.mg "range" = none) (h : Pe X E F a) (hs : starEach [a] X.env = [(false, eval a X.env)]) : Pi X E (fun ls S => (F ls S).bind fun w S1 => match w with
    | .d (.int j) => if decide (-(2 ^ 62) ≤ j) && decide (j < 2 ^ 62) then .ok ((List.range j.toNat).map fun i => .int (i : Nat)) S1 else .stuck
    | _ => .stuck) tg (.Call (.Name "range" p) [a] [] pos) := by
  refine PI.mono (pi_range1 hg hm (pa_cons h pa_nil hs) hs) fun σ H R ⟨M, ls, S, rel, lr, h⟩ => ?_
  refine ⟨M, ls, S, rel, lr, h.bind fun x S1 M1 H1 v _ g p rel1 wx h1 => ?_⟩
  cases x with
  | r i => exact h1.elim
  | d x =>
    cases x with
    | int j =>
      cases wx
      by_cases c : (decide (-(2 ^ 62) ≤ j) && decide (j < 2 ^ 62)) = true
      · simp only [c, if_true] at h1
        simp only [Bool.and_eq_true, decide_eq_true_eq] at c
        refine ⟨j, rfl, c.1, c.2, OK.fin (R := IR X.gx) h1 rel1 ?_⟩
        have := good_range (G := X.gx) (H := H1) (lo := 0) (n := j.toNat)
        simpa using this
      · simp only [c] at h1; exact h1.elim
    | _ => exact h1.elim
theorem i_rng2 (hg : Gl X "range") (hm : X.mg "range" = none) (h1 : Pe X E F1 a) (h2 : Pe X E F2 b) (hs : starEach [a, b] X.env = [(false, eval a X.env), (false, eval b X.env)]) (hs2 : starEach [b] X.env = [(false, eval b X.env)]) :
    Pi X E (fun ls S => (F1 ls S).bind fun w S1 => (F2 ls S1).bind fun u S2 => match w, u with
    | .d (.int i), .d (.int j) => if decide (-(2 ^ 62) ≤ i) && decide (i < 2 ^ 62) && decide (-(2 ^ 62) ≤ j) && decide (j < 2 ^ 62) then .ok ((List.range (j - i).toNat).map fun k => .int (i + (k : Nat))) S2 else .stuck
    | _, _ => .stuck) tg (.Call (.Name "range" p) [a, b] [] pos) := by
  refine PI.mono (pi_range2 hg hm (pa_cons h1 (pa_cons h2 pa_nil hs2) (by rw [hs, hs2])) hs hs2) fun σ H R ⟨M, ls, S, rel, lr, h⟩ => ?_
  refine ⟨M, ls, S, rel, lr, h.bind fun x S1 M1 H1 v _ g p rel1 wx h1 => ?_⟩
  refine ⟨M1, ls, S1, rel1, lr.mono g p, h1.bind fun y S2 M2 H2 u _ g2 p2 rel2 wy h2 => ?_⟩
  cases x with
  | r i => exact h2.elim
  | d x =>
    cases x with
    | int i =>
      cases y with
      | r k => exact h2.elim
      | d y =>
        cases y with
        | int j =>
          cases wx
          cases wy
          by_cases c : (decide (-(2 ^ 62) ≤ i) && decide (i < 2 ^ 62) && decide (-(2 ^ 62) ≤ j) && decide (j < 2 ^ 62)) = true
          · simp only [c, if_true] at h2
            simp only [Bool.and_eq_true, decide_eq_true_eq] at c
            exact ⟨i, j, rfl, ⟨c.1.1.1, c.1.1.2, c.1.2, c.2⟩, OK.fin (R := IR X.gx) h2 rel2 good_range⟩
          · simp only [c] at h2; exact h2.elim
        | _ => exact h2.elim
    | _ => cases y <;> exact h2.elim

/-! ### statements -/
/-- how a statement's end lies in the heap -/
def FR (G : Gx) (M : List Addr) (H : Hp) : L2.St ⊕ V → Fl → Prop
  | .inl σ, .nx ls => LR G M H σ ls
  | .inr v, .rt w => WR G.K M H v w
  | _, _ => False
def ends (D : Ends) : L2.St ⊕ V → Hp → Prop
  | .inl σ, H => D.nx σ H
  | .inr v, H => D.rt v H
def tS (G : Gx) (E : Nat → Hp → Prop) (F : Loc → Store → Res Fl) : TS := fun D σ H => ∃ M ls S, Rel G M S H ∧ LR G M H σ ls ∧ OK (FR G) G E M H (F ls S) (ends D)
abbrev Ps (X : Cx) (E : Nat → Hp → Prop) (F : Loc → Store → Res Fl) (st : Stmt) : Prop := PS X st (tS X.gx E F)
abbrev Pss (X : Cx) (E : Nat → Hp → Prop) (F : Loc → Store → Res Fl) (st : List Stmt) : Prop := PSs X st (tS X.gx E F)
variable {G1 G2 G3 : Loc → Store → Res Fl} {st : Stmt} {rest : List Stmt}
theorem OK.nx {G : Gx} {M : List Addr} {H : Hp} {ls : Loc} {S : Store} {D : Ends} {σ : L2.St} (h : OK (FR G) G E M H (.ok (.nx ls) S) (ends D)) (rel : Rel G M S H) (lr : LR G M H σ ls) : D.nx σ H := OK.fin (R := FR G) (b := (.inl σ : L2.St ⊕ V)) (a := .nx ls) h rel (show FR G M H (.inl σ) (.nx ls) from lr)
theorem OK.rt {G : Gx} {M : List Addr} {H : Hp} {w : W} {S : Store} {D : Ends} {v : V} (h : OK (FR G) G E M H (.ok (.rt w) S) (ends D)) (rel : Rel G M S H) (r : WR G.K M H v w) : D.rt v H := OK.fin (R := FR G) (b := (.inr v : L2.St ⊕ V)) (a := .rt w) h rel (show FR G M H (.inr v) (.rt w) from r)
theorem s_nil : Pss X E (fun ls S => .ok (.nx ls) S) [] := PSs.mono pss_nil fun D σ H ⟨M, ls, S, rel, lr, h⟩ => OK.nx (E := E) h rel lr
/-- one statement, then others -/
def thenF (F1 F2 : Loc → Store → Res Fl) : Loc → Store → Res Fl := fun ls S => (F1 ls S).bind fun f S1 => match f with
    | .nx l1 => F2 l1 S1
    | .rt w => .ok (.rt w) S1
theorem seq_sub {D : Ends} {σ : L2.St} {H : Hp} (h : tS X.gx E (thenF G1 G2) D σ H) : tS X.gx E G1 { D with nx := tS X.gx E G2 D } σ H := by
  obtain ⟨M, ls, S, rel, lr, h⟩ := h
  refine ⟨M, ls, S, rel, lr, OK.bind (R' := FR X.gx) h fun f S1 M1 H1 b _ g p rel1 fr h1 => ?_⟩
  cases f with
  | nx l1 =>
    cases b with
    | inl σ1 => exact ⟨M1, l1, S1, rel1, fr, h1⟩
    | inr v => exact fr.elim
  | rt w =>
    cases b with
    | inl σ1 => exact fr.elim
    | inr v =>
      have h1 : OK (FR X.gx) X.gx E M1 H1 (.ok (.rt w) S1) (ends D) := h1
      exact OK.rt (E := E) (D := D) (w := w) h1 rel1 fr
theorem s_cons (h1 : Ps X E G1 st) (h2 : Pss X E G2 rest) : Pss X E (thenF G1 G2) (st :: rest) := PSs.mono (pss_cons h1 h2) fun _ _ _ h => seq_sub h
theorem s_one (h1 : Ps X E G1 st) : Pss X E G1 [st] := pss_one h1
theorem s_pass : Ps X E (fun ls S => .ok (.nx ls) S) (.Pass pos) := PS.mono ps_pass fun D σ H ⟨M, ls, S, rel, lr, h⟩ => OK.nx (E := E) h rel lr
theorem s_expr (h1 : Pe X E F a) (hs : swapsWith a none pos.line X.env = pure false) : Ps X E (fun ls S => (F ls S).bind fun _ S1 => .ok (.nx ls) S1) (.Expr a pos) := by
  refine PS.mono (ps_expr h1 hs) fun D σ H ⟨M, ls, S, rel, lr, h⟩ => ?_
  exact ⟨M, ls, S, rel, lr, h.bind fun x S1 M1 H1 v _ g p rel1 wx h1 => OK.nx (E := E) h1 rel1 (lr.mono g p)⟩
theorem s_ret (h1 : Pe X E F a) : Ps X E (fun ls S => (F ls S).bind fun w S1 => .ok (.rt w) S1) (.Return (some a) pos) := by
  refine PS.mono (ps_ret h1) fun D σ H ⟨M, ls, S, rel, lr, h⟩ => ?_
  exact ⟨M, ls, S, rel, lr, h.bind fun x S1 M1 H1 v _ g p rel1 wx h1 => OK.rt (E := E) h1 rel1 wx⟩
theorem s_retN : Ps X E (fun _ S => .ok (.rt (.d .none)) S) (.Return none pos) := PS.mono ps_retN fun D σ H ⟨M, ls, S, rel, lr, h⟩ => OK.rt (E := E) (v := .non) h rel .non
theorem s_if {l1 l2 : List Stmt} (h1 : Pt X E F a) (h2 : Pss X E G1 l1) (h3 : Pss X E G2 l2) : Ps X E (fun ls S => (F ls S).test fun k S1 => if k then G1 ls S1 else G2 ls S1) (.If a l1 l2 pos) := by
  refine PS.mono (ps_if h1 h2 h3) fun D σ H ⟨M, ls, S, rel, lr, h⟩ => ?_
  refine ⟨M, ls, S, rel, lr, h.test fun c S1 M1 H1 g p rel1 h1 => ⟨c, rfl, ?_⟩⟩
  cases c with
  | true => exact ⟨M1, ls, S1, rel1, lr.mono g p, h1⟩
  | false => exact ⟨M1, ls, S1, rel1, lr.mono g p, h1⟩
theorem s_never : Ps X E (fun _ _ => .stuck) st := PS.mono ps_never fun D σ H ⟨M, ls, S, rel, lr, h⟩ => h
/-- name = value -/
theorem s_set {i : Nat} {x : Str} {pos' : Pos} (hN : X.N.Nodup) (hi : X.N[i]? = some x) (hx : L2.Loc X.env.scope x) (h1 : Pe X E F a) (hs : swapsWith a (some (.Name x pos')) pos.line X.env = pure false) (hf : X.fn x = true ∨ X.env.scope.names.lookup x = some .local) :
    Ps X E (fun ls S => (F ls S).bind fun w S1 => .ok (.nx (ls.set i (some w))) S1) (.Assign [.Name x pos'] a pos) := by
  refine PS.mono (ps_set hN hi hx h1 hs hf) fun D σ H ⟨M, ls, S, rel, lr, h⟩ => ?_
  exact ⟨M, ls, S, rel, lr, h.bind fun x S1 M1 H1 v _ g p rel1 wx h1 => OK.nx (E := E) h1 rel1 ((lr.mono g p).set wx i)⟩

/-! ### targets -/
def gNames : List Nat → TGs
  | [] => gNil
  | j :: js => gCons (gName j) (gNames js)
def gT (K : PySem.W.Frag) : Tg → TG
  | .nm j => gName j
  | .tp js => gTup K js.length (gNames js)
theorem names_ok {G : Gx} {M : List Addr} {H : Hp} {Q : L2.St → Hp → Prop} : ∀ {js : List Nat} {vs : List V} {ds : List D} {σ : L2.St} {ls ls' : Loc}, LR G M H σ ls → DRs G.K H vs ds → setAll ls js ds = some ls' → (∀ σ', LR G M H σ' ls' → Q σ' H) → gNames js vs σ H Q
  | [], _, _, σ, ls, ls', lr, .nil, e, q => by
    cases e
    exact ⟨rfl, q σ lr⟩
  | [], _, _, _, _, _, _, .cons _ _, e, _ => by cases e
  | _ :: _, _, _, _, _, _, _, .nil, e, _ => by cases e
  | j :: js, _, _, σ, ls, ls', lr, .cons (v := v) (d := d) r t, e, q => ⟨v, _, rfl, names_ok (lr.set (w := .d d) r j) t e q⟩
theorem setAll_len : ∀ {js : List Nat} {ds : List D} {ls ls' : Loc}, setAll ls js ds = some ls' → js.length = ds.length
  | [], [], _, _, _ => rfl
  | [], _ :: _, _, _, e => by cases e
  | _ :: _, [], _, _, e => by cases e
  | j :: js, d :: ds, ls, ls', e => by
    have e : setAll (ls.set j (some (.d d))) js ds = some ls' := e
    rw [List.length_cons, List.length_cons, setAll_len e]
theorem bind_ok {G : Gx} {M : List Addr} {H : Hp} {tg : Tg} {σ : L2.St} {ls ls' : Loc} {x : D} {v : V} {Q : L2.St → Hp → Prop} (lr : LR G M H σ ls) (r : DR G.K H v x) (e : bindD tg x ls = some ls') (q : ∀ σ', LR G M H σ' ls' → Q σ' H) : gT G.K tg v σ H Q := by
  cases tg with
  | nm j =>
    cases e
    exact q _ (lr.set (w := .d x) r j)
  | tp js =>
    cases x with
    | tuple ds =>
      cases r with
      | tup h d => exact ⟨_, _, rfl, h, by rw [d.length]; exact (setAll_len e).symm, names_ok lr d e q⟩
    | _ => cases e
/-- a statement whose target is one name or several -/
theorem s_asg {tgm : Tg} (h1 : Pe X E F a) (hg : PG X tg (gT X.K tgm)) (hn : ∀ j, tgm ≠ .nm j) (hs : swapsWithSole [tg] a pos.line X.env = pure false) (hw : swappedStores [tg] a X.env = pure none) (he : (assignEach [tg] X.env).map (·.2) = [assign tg X.env]) :
    Ps X E (fun ls S => (F ls S).bind fun w S1 => optR ((bindW tgm w ls).map .nx) S1) (.Assign [tg] a pos) := by
  refine PS.mono (ps_asg h1 hg hs hw he) fun D σ H ⟨M, ls, S, rel, lr, h⟩ => ?_
  refine ⟨M, ls, S, rel, lr, h.bind fun x S1 M1 H1 v _ g p rel1 wx h1 => ?_⟩
  cases tgm with
  | nm j => exact absurd rfl (hn j)
  | tp js =>
    cases x with
    | r i => exact h1.elim
    | d x =>
      cases e : bindD (.tp js) x ls with
      | none => simp only [bindW, e] at h1; exact h1.elim
      | some ls' =>
        simp only [bindW, e] at h1
        exact bind_ok (tg := .tp js) (lr.mono g p) wx e fun σ' lr' => OK.nx (E := E) h1 rel1 lr'

/-! ### while, for -/
theorem OK.noexE {α β : Type} {R : List Addr → Hp → β → α → Prop} {G : Gx} {M : List Addr} {H : Hp} {r : Res α} {Q : β → Hp → Prop} (h : OK R G E M H r.noex Q) : OK R G (fun _ _ => False) M H r Q := by
  cases r with
  | ok a S => exact h
  | ex c S => exact h.elim
  | stuck => exact h
abbrev E0' : Nat → Hp → Prop := fun _ _ => False
theorem PS.nox {t : TS} (h : PS X.nox st t) : PS X st t := ⟨fun pins s σ H D I hw =>
  wpAny_mono (h.run pins s σ H D (I.wish _) hw) (fun _ _ q => q.unwish) fun _ _ z => False.elim z⟩
theorem s_while {body : List Stmt} {n : Nat} (h1 : Pt X.nox E0' F a) (h2 : Pss X.nox E0' G1 body) : Ps X E (fun ls S => (whlL F G1 n ls S).noex) (.While a body [] pos) := by
  refine PS.mono (PS.nox (ps_while PassesOwn.never h1 h2)) fun D σ H ⟨M, ls, S, rel, lr, h⟩ => ?_
  have h := OK.noexE h
  refine ⟨fun m σ H => ∃ M ls S, Rel X.gx M S H ∧ LR X.gx M H σ ls ∧ OK (FR X.gx) X.gx E0' M H (whlL F G1 m ls S) (ends D), ⟨n, M, ls, S, rel, lr, h⟩, ?_⟩
  rintro m σ H ⟨M, ls, S, rel, lr, h⟩
  cases m with
  | zero => exact h.elim
  | succ m =>
    refine ⟨M, ls, S, rel, lr, OK.test (R' := FR X.gx) h fun c S1 M1 H1 g p rel1 h1 => ⟨c, rfl, ?_⟩⟩
    cases c with
    | true =>
      refine ⟨fun σ H => ∃ M ls S, Rel X.gx M S H ∧ LR X.gx M H σ ls ∧ OK (FR X.gx) X.gx E0' M H (whlL F G1 m ls S) (ends D), fun σ' H' q => ⟨m, Nat.lt_succ_self m, q⟩, ?_⟩
      refine ⟨M1, ls, S1, rel1, lr.mono g p, OK.bind (R' := FR X.gx) h1 fun f S2 M2 H2 b _ g2 p2 rel2 fr h2 => ?_⟩
      cases f with
      | nx l1 =>
        cases b with
        | inl σ1 => exact ⟨M2, l1, S2, rel2, fr, h2⟩
        | inr v => exact fr.elim
      | rt w =>
        cases b with
        | inl σ1 => exact fr.elim
        | inr v =>
          have h2 : OK (FR X.gx) X.gx E0' M2 H2 (.ok (.rt w) S2) (ends D) := h2
          exact OK.rt (E := E0') (D := D) (w := w) h2 rel2 fr
    | false => exact OK.nx (E := E0') h1 rel1 (lr.mono g p)
theorem s_for {body : List Stmt} {tgm : Tg} (hc : X.calm = true) (h1 : Pi X.nox E0' FI tg a) (hg : PG X.nox tg (gT X.K tgm)) (h2 : Pss X.nox E0' G1 body) (hs : ∀ x, foldedSetIterable a X.env x = pure x) :
    Ps X E (fun ls S => ((FI ls S).bind fun xs S1 => forL (fun x l => bindD tgm x l) G1 xs ls S1).noex) (.For tg a body [] pos) := by
  refine PS.mono (PS.nox (ps_for PassesOwn.never hc h1 hg h2 hs)) fun D σ H ⟨M, ls, S, rel, lr, h⟩ => ?_
  have h := OK.noexE h
  refine ⟨M, ls, S, rel, lr, OK.bind (R' := FR X.gx) h fun ds S1 M1 H1 J _ g p rel1 good h1 => ?_⟩
  obtain ⟨Gd, g0, gm, hgo, hst, hy⟩ := good
  refine ⟨fun i m σ H => m = ds.length - i ∧ i ≤ ds.length ∧ Gd H ∧ ∃ M ls S, Rel X.gx M S H ∧ LR X.gx M H σ ls ∧ OK (FR X.gx) X.gx E0' M H (forL (fun x l => bindD tgm x l) G1 (ds.drop i) ls S) (ends D),
    ⟨ds.length, by omega, by omega, g0, M1, ls, S1, rel1, lr.mono g p, h1⟩, ?_⟩
  rintro i m σ H ⟨rfl, hi, gd, M, ls, S, rel, lr, h⟩
  by_cases hlt : i < ds.length
  · refine .inr ⟨hgo i H gd hlt, fun σ H => Gd H ∧ ∃ M ls S, Rel X.gx M S H ∧ LR X.gx M H σ ls ∧ OK (FR X.gx) X.gx E0' M H (forL (fun x l => bindD tgm x l) G1 (ds.drop (i + 1)) ls S) (ends D), fun σ' H' q => ⟨ds.length - (i + 1), by omega, rfl, hlt, q.1, q.2⟩, fun x H' y => ?_⟩
    have e : ds[i]? = some ds[i] := List.getElem?_eq_getElem hlt
    obtain ⟨xt, gd', r⟩ := hy i H x H' _ gd y e
    obtain ⟨xx, rel'⟩ := xt M S rel
    rw [List.drop_eq_getElem_cons hlt] at h
    have h := h.at xx
    unfold forL at h
    cases e2 : bindD tgm ds[i] ls with
    | none => simp only [e2] at h; exact h.elim
    | some l =>
      simp only [e2] at h
      refine bind_ok (lr.mono xx.g xx.p) r e2 fun σ2 lr2 => ?_
      refine ⟨M, l, S, rel', lr2, OK.bind (R' := FR X.gx) h fun f S2 M2 H2 b _ g2 p2 rel2 fr h2 => ?_⟩
      cases f with
      | nx l1 =>
        cases b with
        | inl σ1 => exact ⟨gm _ _ g2 gd', M2, l1, S2, rel2, fr, h2⟩
        | inr v => exact fr.elim
      | rt w =>
        cases b with
        | inl σ1 => exact fr.elim
        | inr v =>
          have h2 : OK (FR X.gx) X.gx E0' M2 H2 (.ok (.rt w) S2) (ends D) := h2
          exact OK.rt (E := E0') (D := D) (w := w) h2 rel2 fr
  · have e : i = ds.length := by omega
    subst e
    rw [List.drop_length] at h
    exact .inl ⟨hst H gd, OK.nx (E := E0') h rel lr⟩
end
end MI

/-! MiI: list comprehensions (own work). -/
namespace MI
open PySem PySem.Spec PyProof.Rows L2

/-! ### slots of a block's own -/
theorem set_none_comm (σ : L2.St) (i j : Nat) : (σ.set i none).set j none = (σ.set j none).set i none := by
  by_cases h : i = j
  · subst h; rfl
  · exact List.set_comm _ _ h
theorem wipe_set {σ : L2.St} {j : Nat} {v : Option V} : ∀ {own : List Nat}, j ∈ own → wipe (σ.set j v) own = wipe σ own
  | [], h => by cases h
  | k :: own, h => by
    show (wipe (σ.set j v) own).set k none = (wipe σ own).set k none
    by_cases hj : j ∈ own
    · rw [wipe_set hj]
    · have e : j = k := by
        rcases List.mem_cons.mp h with h | h
        · exact h
        · exact absurd h hj
      subst e
      have out : ∀ (own : List Nat) (σ : L2.St), j ∉ own → wipe (σ.set j v) own = (wipe σ own).set j v := by
        intro own
        induction own with
        | nil => intro σ _; rfl
        | cons a own ih =>
          intro σ hn
          show (wipe (σ.set j v) own).set a none = ((wipe σ own).set a none).set j v
          have h1 : j ≠ a := fun e => hn (by rw [e]; exact List.mem_cons_self)
          rw [ih σ fun m => hn (List.mem_cons_of_mem _ m)]
          exact List.set_comm _ _ h1
      rw [out own σ hj, List.set_set]
theorem wipe_wipe {σ : L2.St} {own : List Nat} : wipe (wipe σ own) own = wipe σ own := by
  have key : ∀ (a : List Nat), (∀ j ∈ a, j ∈ own) → wipe (wipe σ a) own = wipe σ own := by
    intro a
    induction a with
    | nil => intro _; rfl
    | cons j a ih =>
      intro h
      show wipe ((wipe σ a).set j none) own = _
      rw [wipe_set (h j List.mem_cons_self)]
      exact ih fun k hk => h k (List.mem_cons_of_mem _ hk)
  exact key own fun _ h => h
theorem LR.wipe {G : Gx} {M : List Addr} {H : Hp} {σ : L2.St} {ls : Loc} (h : LR G M H σ ls) : ∀ own : List Nat, LR G M H (L2.wipe σ own) (wipeL ls own)
  | [] => h
  | k :: own => by
    have ih := LR.wipe h own
    show LR G M H ((L2.wipe σ own).set k none) ((wipeL ls own).set k none)
    refine ⟨by rw [List.length_set, List.length_set]; exact ih.len, fun j w e => ?_⟩
    by_cases hk : k = j
    · subst hk
      by_cases hl : k < (wipeL ls own).length
      · rw [List.getElem?_set_self hl] at e; cases e
      · rw [List.getElem?_eq_none (by rw [List.length_set]; omega)] at e; cases e
    · rw [List.getElem?_set_ne hk] at e ⊢
      exact ih.at_ j w e
def tgSlots : Tg → List Nat
  | .nm j => [j]
  | .tp js => js
theorem names_okW {G : Gx} {M : List Addr} {H : Hp} {own : List Nat} {Q : L2.St → Hp → Prop} : ∀ {js : List Nat} {vs : List V} {ds : List D} {σ : L2.St} {ls ls' : Loc}, (∀ j ∈ js, j ∈ own) → LR G M H σ ls → DRs G.K H vs ds → setAll ls js ds = some ls' →
    (∀ σ', LR G M H σ' ls' → L2.wipe σ' own = L2.wipe σ own → Q σ' H) → gNames js vs σ H Q
  | [], _, _, σ, ls, ls', _, lr, .nil, e, q => by
    cases e
    exact ⟨rfl, q σ lr rfl⟩
  | [], _, _, _, _, _, _, _, .cons _ _, e, _ => by cases e
  | _ :: _, _, _, _, _, _, _, _, .nil, e, _ => by cases e
  | j :: js, _, _, σ, ls, ls', ho, lr, .cons (v := v) (d := d) r t, e, q => ⟨v, _, rfl, names_okW (fun k hk => ho k (List.mem_cons_of_mem _ hk)) (lr.set (w := .d d) r j) t e fun σ' h1 h2 => q σ' h1 (by rw [h2, wipe_set (ho j List.mem_cons_self)])⟩
theorem bind_okW {G : Gx} {M : List Addr} {H : Hp} {own : List Nat} {tg : Tg} {σ : L2.St} {ls ls' : Loc} {x : D} {v : V} {Q : L2.St → Hp → Prop} (ho : ∀ j ∈ tgSlots tg, j ∈ own) (lr : LR G M H σ ls) (r : DR G.K H v x) (e : bindD tg x ls = some ls')
    (q : ∀ σ', LR G M H σ' ls' → L2.wipe σ' own = L2.wipe σ own → Q σ' H) : gT G.K tg v σ H Q := by
  cases tg with
  | nm j =>
    cases e
    exact q _ (lr.set (w := .d x) r j) (wipe_set (ho j (by simp [tgSlots])))
  | tp js =>
    cases x with
    | tuple ds =>
      cases r with
      | tup h d => exact ⟨_, _, rfl, h, by rw [d.length]; exact (setAll_len e).symm, names_okW ho lr d e q⟩
    | _ => cases e

/-! ### the list that is being made -/
section
variable {G : Gx} {M : List Addr} {S : Store} {H : Hp} {p : Addr} {vs : List V}
/-- a thing that is no thing of the store is written or locked -/
theorem Rel.other (R : Rel G M S H) {u : HO} (hp : H p = some (.lst vs)) (hn : p ∉ M) : Rel G M S (upd H p u) := by
  have g : Grow H (upd H p u) := Grow.put hp (fun _ z => nomatch z) (fun _ _ z => nomatch z)
  have ne : ∀ a ∈ M, a ≠ p := fun a ha e => hn (by rw [← e]; exact ha)
  refine ⟨R.len, R.nd, fun a ha => by rw [upd_ne (ne a ha)]; exact R.on a ha, fun i so a h1 h2 => ?_⟩
  exact (R.ob i so a h1 h2).mono g (upd_ne (ne a (List.mem_of_getElem? h2)))
/-- it becomes a thing of the store -/
theorem Rel.adopt {ds : List D} (R : Rel G M S H) (hp : H p = some (.lst vs)) (hn : p ∉ M) (d : DRs G.K H vs ds) : Rel G (M ++ [p]) (S ++ [.list ds]) H := by
  refine ⟨by rw [List.length_append, List.length_append, R.len]; rfl, ?_, fun a ha => ?_, fun i so a h1 h2 => ?_⟩
  · rw [List.nodup_append]
    refine ⟨R.nd, by simp, fun a ha b hb => ?_⟩
    have : b = p := by simpa using hb
    rw [this]
    intro e
    exact hn (by rw [← e]; exact ha)
  · rcases List.mem_append.mp ha with ha | ha
    · exact R.on a ha
    · have : a = p := by simpa using ha
      rw [this, hp]
      simp
  · by_cases hi : i < S.length
    · rw [List.getElem?_append_left hi] at h1
      rw [List.getElem?_append_left (by rw [R.len]; exact hi)] at h2
      exact R.ob i so a h1 h2
    · have hi' : i = S.length := by
        have := (List.getElem?_eq_some_iff.mp h1).1
        rw [List.length_append, List.length_singleton] at this
        omega
      subst hi'
      rw [List.getElem?_append_right (Nat.le_refl _)] at h1
      rw [List.getElem?_append_right (by rw [R.len]; exact Nat.le_refl _), R.len] at h2
      simp at h1 h2
      subst h1 h2
      exact ⟨vs, hp, d⟩
/-- a step that keeps what is no thing of the store keeps the list at p -/
theorem Ext.at {M' : List Addr} {H' : Hp} {o : HO} (x : Ext M H M' H') (hp : H p = some o) (hn : p ∉ M) : H' p = some o ∧ p ∉ M' := by
  refine ⟨x.fr p o hp hn, fun m => ?_⟩
  have := x.nw p m hn
  rw [hp] at this
  cases this
/-- from a heap ahead of the list -/
theorem Ext.list {M1 : List Addr} {H1 : Hp} {u : HO} (x : Ext M1 H1 M H) (h0 : H1 p = none) (hp : H p = some (.lst vs)) : Ext M1 H1 M (upd H p u) :=
  ⟨x.g.trans (Grow.put hp (fun _ z => nomatch z) (fun _ _ z => nomatch z)), x.p, fun a o h n => by
    rw [upd_ne (ne_of_none h h0)]
    exact x.fr a o h n, x.nw⟩
end

section
variable {α β γ : Type} {R : List Addr → Hp → β → α → Prop} {G : Gx} {E : Nat → Hp → Prop} {M : List Addr} {H : Hp} {Q : β → Hp → Prop}
theorem noex_test {r : Res W} {f : Bool → Store → Res γ} {k : γ → Store → Res α} (h : OK R G E M H (((r.test f).noex).bind k) Q) : ∃ b S, r = .ok (.d (.bool b)) S ∧ OK R G E M H (((f b S).noex).bind k) Q := by
  cases r with
  | ok w S =>
    cases w with
    | r i => exact h.elim
    | d x =>
      cases x with
      | bool b => exact ⟨b, S, rfl, h⟩
      | _ => exact h.elim
  | ex c S => exact h.elim
  | stuck => exact h.elim
theorem noex_bind {δ : Type} {r : Res δ} {f : δ → Store → Res γ} {k : γ → Store → Res α} (h : OK R G E M H (((r.bind f).noex).bind k) Q) : ∃ b S, r = .ok b S ∧ OK R G E M H (((f b S).noex).bind k) Q := by
  cases r with
  | ok w S => exact ⟨w, S, rfl, h⟩
  | ex c S => exact h.elim
  | stuck => exact h.elim
end

section
variable {X : Cx} {E : Nat → Hp → Prop} {FI : Loc → Store → Res (List D)} {Fc Fe : Loc → Store → Res W} {tgm : Tg} {own : List Nat}
abbrev compF (FI : Loc → Store → Res (List D)) (Fc Fe : Loc → Store → Res W) (tgm : Tg) (own : List Nat) (m : Bool) : Loc → Store → Res W := fun ls S =>
  (FI ls S).bind fun xs S1 => ((compL (fun x => bindD tgm x (wipeL ls own)) Fc Fe xs [] S1).noex).bind fun ys S2 => newL m ys S2
theorem comp_sub {m : Bool} {σ : L2.St} {H : Hp} {Q Q' : VK} (ho : ∀ j ∈ tgSlots tgm, j ∈ own) (q1 : m = true → ∀ v H, Q v H → Q' v H) (q2 : m = false → ∀ a xs H', H' a = some (.lst xs) → (∀ o, Q (.ref a) (upd H' a (.frz o (.lst xs)))) → Q' (.ref a) H')
    (h : tE (WR X.K) X.gx E (compF FI Fc Fe tgm own m) σ H Q) :
    tLc (tE (IR X.gx) X.gx E FI) (gT X.K tgm) (tB (tE (WR X.K) X.gx E0' Fc)) (tE (WR X.K) X.gx E0' Fe) own σ H Q' := by
  obtain ⟨M, ls, S, rel, lr, h⟩ := h
  refine ⟨M, ls, S, rel, lr, h.bindX fun ds S1 M1 H1 J _ x1 rel1 good h1 => fun Dl hD => ?_⟩
  obtain ⟨Gd, g0, gm, hgo, hst, hy⟩ := good
  have lr1 := lr.mono x1.g x1.p
  refine ⟨fun i n H => n = ds.length - i ∧ i ≤ ds.length ∧ Gd H ∧ ∃ M2 S2 acc vs, H Dl = some (.lst vs) ∧ DRs X.K H vs acc ∧ Dl ∉ M2 ∧ Rel X.gx M2 S2 H ∧ LR X.gx M2 H σ ls ∧ Ext M1 H1 M2 H ∧
      OK (WR X.K) X.gx E M1 H1 (((compL (fun x => bindD tgm x (wipeL ls own)) Fc Fe (ds.drop i) acc S2).noex).bind fun ys S2 => newL m ys S2) Q,
    ⟨ds.length, by omega, by omega, gm _ _ (Grow.new hD) g0, M1, S1, [], [], upd_same, .nil, fun hm => rel1.on Dl hm hD, rel1.new hD, lr1.mono (Grow.new hD) (Pre.refl _), Ext.new hD, h1⟩, ?_⟩
  rintro i n H2 ⟨rfl, hi, gd, M2, S2, acc, vs, hDl, dd, hn, rel2, lr2, x2, h2⟩
  by_cases hlt : i < ds.length
  · refine .inr ⟨hgo i H2 gd hlt, fun H => Gd H ∧ ∃ M2 S2 acc vs, H Dl = some (.lst vs) ∧ DRs X.K H vs acc ∧ Dl ∉ M2 ∧ Rel X.gx M2 S2 H ∧ LR X.gx M2 H σ ls ∧ Ext M1 H1 M2 H ∧
      OK (WR X.K) X.gx E M1 H1 (((compL (fun x => bindD tgm x (wipeL ls own)) Fc Fe (ds.drop (i + 1)) acc S2).noex).bind fun ys S2 => newL m ys S2) Q,
      fun H' q => ⟨ds.length - (i + 1), by omega, rfl, hlt, q.1, q.2⟩, fun x H3 y => ?_⟩
    have e : ds[i]? = some ds[i] := List.getElem?_eq_getElem hlt
    obtain ⟨xt, gd3, r⟩ := hy i H2 x H3 _ gd y e
    obtain ⟨xx, rel3⟩ := xt M2 S2 rel2
    rw [List.drop_eq_getElem_cons hlt] at h2
    unfold compL at h2
    cases e2 : bindD tgm ds[i] (wipeL ls own) with
    | none => simp only [e2] at h2; exact h2.elim
    | some l =>
      simp only [e2] at h2
      obtain ⟨hD3, hn3⟩ := xx.at hDl hn
      refine bind_okW ho ((lr2.mono xx.g xx.p).wipe own) r e2 fun σ2 lrl hw => ⟨hw.trans wipe_wipe, ?_⟩
      obtain ⟨b, S3, e3, h3⟩ := noex_test h2
      refine ⟨M2, l, S2, rel3, lrl, ?_⟩
      rw [e3]
      intro M4 H4 v x4 rel4 wv
      cases wv
      refine ⟨b, rfl, ?_⟩
      obtain ⟨hD4, hn4⟩ := x4.at hD3 hn3
      have lr4 := (lr2.mono xx.g xx.p).mono x4.g x4.p
      have lrl4 := lrl.mono x4.g x4.p
      have d4 := DRs.mono x4.g _ _ (DRs.mono xx.g _ _ dd)
      have gd4 := gm _ _ x4.g gd3
      have x14 := (x2.trans xx).trans x4
      cases b with
      | false =>
        simp only [Bool.false_eq_true, if_false] at h3 ⊢
        exact ⟨gd4, M4, S3, acc, vs, hD4, d4, hn4, rel4, lr4, x14, h3⟩
      | true =>
        simp only [if_true] at h3 ⊢
        obtain ⟨w, S5, e5, h5⟩ := noex_bind h3
        refine ⟨M4, l, S3, rel4, lrl4, ?_⟩
        rw [e5]
        intro M6 H6 u x6 rel6 wu
        cases w with
        | r k => exact h5.elim
        | d y =>
          by_cases hz : acc.length < sizeLine
          · simp only [hz, decide_true, if_true] at h5
            obtain ⟨hD6, hn6⟩ := x6.at hD4 hn4
            have d6 := DRs.mono x6.g _ _ d4
            have g6 : Grow H6 (upd H6 Dl (.lst (vs ++ [u]))) := Grow.put hD6 (fun _ z => nomatch z) (fun _ _ z => nomatch z)
            refine ⟨vs, hD6, by rw [dd.length]; exact hz, gm _ _ g6 (gm _ _ x6.g gd4), M6, S5, acc ++ [y], vs ++ [u], upd_same, ?_, hn6, rel6.other hD6 hn6, (lr4.mono x6.g x6.p).mono g6 (Pre.refl _), (x14.trans x6).list hD hD6, h5⟩
            exact (DRs.mono g6 _ _ d6).append (.cons (DR.mono g6 _ _ wu) .nil)
          · simp only [hz, decide_false] at h5
            exact h5.elim
  · have e : i = ds.length := by omega
    subst e
    rw [List.drop_length] at h2
    refine .inl ⟨hst H2 gd, ?_⟩
    cases m with
    | true =>
      have h2 : OK (WR X.K) X.gx E M1 H1 (.ok (.r S2.length) (S2 ++ [.list acc])) Q := h2
      refine q1 rfl _ _ (h2 (M2 ++ [Dl]) H2 (.ref Dl) ⟨x2.g, x2.p.trans ⟨[Dl], rfl⟩, x2.fr, fun a h n => ?_⟩ (rel2.adopt hDl hn dd) ⟨Dl, ?_, rfl⟩)
      · rcases List.mem_append.mp h with h | h
        · exact x2.nw a h n
        · have : a = Dl := by simpa using h
          rw [this]; exact hD
      · rw [List.getElem?_append_right (by rw [rel2.len]; exact Nat.le_refl _), rel2.len, Nat.sub_self]
        rfl
    | false =>
      have h2 : OK (WR X.K) X.gx E M1 H1 (.ok (.d (.list acc)) S2) Q := h2
      refine q2 rfl Dl vs _ hDl fun o => ?_
      have g : Grow H2 (upd H2 Dl (.frz o (.lst vs))) := Grow.put hDl (fun _ z => nomatch z) (fun _ _ z => nomatch z)
      exact h2 M2 _ (.ref Dl) (x2.list hD hDl) (rel2.other hDl hn) (.lst (.inl ⟨o, upd_same⟩) (DRs.mono g _ _ dd))
end

section
variable {X : Cx} {E : Nat → Hp → Prop} {FI : Loc → Store → Res (List D)} {Fc Fe : Loc → Store → Res W} {tgm : Tg} {ownN : List (Str × Nat)} {elt tg iter : Expr} {ifs : List Expr} {scope : Scope} {pos : Pos}
/-- a clause's tests, in every block -/
abbrev Pc (X : Cx) (Fc : Loc → Store → Res W) (ifs : List Expr) : Prop := PTs X ifs (tB (tE (WR X.K) X.gx E0' Fc))
theorem c_nil : Pc X (fun _ S => .ok (.d (.bool true)) S) [] := ⟨fun pins s σ H Q I ⟨M, ls, S, rel, lr, h⟩ => by
  obtain ⟨c, e, q⟩ := OK.datum (E := E0') h rel (.bl true)
  cases e
  exact pts_nil.run pins s σ H Q I q⟩
theorem c_one {c : Expr} (h : Pt X E0' Fc c) : Pc X Fc [c] := ⟨fun pins s σ H Q I q => (pts_one h).run pins s σ H Q I q⟩
theorem x_comp {m : Bool} (hc : X.calm = true) (hN : X.N.Nodup) (hi : Pi X E FI tg iter) (ok : BlkOk X.N X.env.scope scope ownN) (ho : ∀ j ∈ tgSlots tgm, j ∈ ownN.map (·.2))
    (hg : ∀ (s : Shared) (H : Hp) (C : Addr) (cl : List (Str × Addr)) (fp : List Addr), PG (X.blk s H scope (compEnvC scope cl C X.env) fp) tg (gT X.K tgm))
    (ht : ∀ (s : Shared) (H : Hp) (C : Addr) (cl : List (Str × Addr)) (fp : List Addr), Pc (X.blk s H scope (compEnvC scope cl C X.env) fp) Fc ifs)
    (he : ∀ (s : Shared) (H : Hp) (C : Addr) (cl : List (Str × Addr)) (fp : List Addr), Pe (X.blk s H scope (compEnvC scope cl C X.env) fp) E0' Fe elt) (hs : ∀ x, foldedSetIterable iter X.env x = pure x) :
    Pe X E (compF FI Fc Fe tgm (ownN.map (·.2)) m) (.ListComp elt [⟨tg, iter, ifs, 0⟩] scope pos) := by
  have base := pe_lc (pos := pos) (tt := tB (tE (WR X.K) X.gx E0' Fc)) (te := tE (WR X.K) X.gx E0' Fe) hc hN hi ok hg ht he hs
  cases m with
  | true => exact PE.mono base fun σ H Q h => comp_sub (m := true) ho (fun _ _ _ q => q) (fun z => nomatch z) h
  | false => exact PE.mono (pe_lk base) fun σ H Q h => comp_sub (m := false) ho (fun z => nomatch z) (fun _ a xs H' e q => ⟨a, xs, rfl, e, q⟩) h
/-- a statement's new list, locked behind it -/
theorem ps_lk {st : Stmt} {t : TS} (h : PS X st t) : PS X st (fun D σ H => t { D with nx := fun σ' H' => ∃ a xs, H' a = some (.lst xs) ∧ ∀ o, D.nx σ' (upd H' a (.frz o (.lst xs))) } σ H) := by
  refine ⟨fun pins s σ H D I hw => thn (h.run pins s σ H _ I hw) fun f s' q => ?_⟩
  cases f with
  | next =>
    obtain ⟨σ', H', I', a, xs, ha, q⟩ := q
    obtain ⟨o, I2⟩ := I'.lock ha trivial
    exact ⟨σ', _, I2, q o⟩
  | brk => exact q
  | cont => exact q
  | ret u => exact q
/-- name = [..], the name a plain local -/
theorem s_setLc {m : Bool} {i : Nat} {y : Str} {py spos : Pos} (hc : X.calm = true) (hN : X.N.Nodup) (hy : X.N[i]? = some y) (hyl : X.env.scope.names.lookup y = some .local)
    (hsw : swapsWith (.ListComp elt [⟨tg, iter, ifs, 0⟩] scope pos) (some (.Name y py)) spos.line X.env = pure true) (hi : Pi X E FI tg iter) (ok : BlkOk X.N X.env.scope scope ownN) (ho : ∀ j ∈ tgSlots tgm, j ∈ ownN.map (·.2))
    (hg : ∀ (s : Shared) (H : Hp) (C : Addr) (cl : List (Str × Addr)) (fp : List Addr), PG (X.blk s H scope (compEnvC scope cl C X.env) fp) tg (gT X.K tgm))
    (ht : ∀ (s : Shared) (H : Hp) (C : Addr) (cl : List (Str × Addr)) (fp : List Addr), Pc (X.blk s H scope (compEnvC scope cl C X.env) fp) Fc ifs)
    (he : ∀ (s : Shared) (H : Hp) (C : Addr) (cl : List (Str × Addr)) (fp : List Addr), Pe (X.blk s H scope (compEnvC scope cl C X.env) fp) E0' Fe elt) (hs : ∀ x, foldedSetIterable iter X.env x = pure x) :
    Ps X E (fun ls S => (compF FI Fc Fe tgm (ownN.map (·.2)) m ls S).bind fun w S1 => .ok (.nx (ls.set i (some w))) S1) (.Assign [.Name y py] (.ListComp elt [⟨tg, iter, ifs, 0⟩] scope pos) spos) := by
  have base := ps_setLc (py := py) (spos := spos) (pos := pos) (tt := tB (tE (WR X.K) X.gx E0' Fc)) (te := tE (WR X.K) X.gx E0' Fe) hc hN hy hyl hsw hi ok hg ht he hs
  have key : ∀ (D : Ends) (σ : L2.St) (H : Hp), tS X.gx E (fun ls S => (compF FI Fc Fe tgm (ownN.map (·.2)) m ls S).bind fun w S1 => .ok (.nx (ls.set i (some w))) S1) D σ H →
      tE (WR X.K) X.gx E (compF FI Fc Fe tgm (ownN.map (·.2)) m) σ H (fun x H1 => D.nx (σ.set i (some x)) H1) := by
    intro D σ H ⟨M, ls, S, rel, lr, h⟩
    exact ⟨M, ls, S, rel, lr, OK.bind (R' := FR X.gx) h fun x S1 M1 H1 v _ g p rel1 wx h1 => OK.nx (E := E) h1 rel1 ((lr.mono g p).set wx i)⟩
  cases m with
  | true => exact PS.mono base fun D σ H h => comp_sub (m := true) ho (fun _ _ _ q => q) (fun z => nomatch z) (key D σ H h)
  | false => exact PS.mono (ps_lk base) fun D σ H h => comp_sub (m := false) ho (fun z => nomatch z) (fun _ a xs H' e q => ⟨a, xs, e, q⟩) (key D σ H h)
end
end MI

/-! MiJ: several targets, stores by place, methods of lists (own work). -/
namespace MI
open PySem PySem.Spec PyProof.Rows L2

section
variable {G : Gx} {E : Nat → Hp → Prop} {M : List Addr} {S : Store} {H : Hp}
theorem app_ok' {x y : W} {v u : V} {Q : VK} (rel : Rel G M S H) (wx : WR G.K M H v x) (wy : WR G.K M H u y) (h : OK (WR G.K) G E M H (appW x y S) Q) : rAppend v [u] H Q := by
  cases x with
  | d x => exact h.elim
  | r i =>
    cases y with
    | r k => exact h.elim
    | d y =>
      obtain ⟨a, hm, rfl⟩ := wx
      unfold appW at h
      cases q : S[i]? with
      | none => simp only [q] at h; exact h.elim
      | some o =>
        cases o with
        | list ds =>
          simp only [q] at h
          obtain ⟨xs, h1, h2⟩ := rel.ob i _ a q hm
          by_cases c : ds.length < sizeLine
          · simp only [c, decide_true, if_true] at h
            have g : Grow H (upd H a (.lst (xs ++ [u]))) := Grow.put h1 (fun _ z => nomatch z) (fun _ _ z => nomatch z)
            refine ⟨a, xs, u, rfl, rfl, h1, by rw [h2.length]; exact c, ?_⟩
            exact h.fin' (b := V.non) (Ext.put hm h1 (fun _ z => nomatch z) (fun _ _ z => nomatch z))
              (rel.put hm h1 (fun _ z => nomatch z) (fun _ _ z => nomatch z) ⟨_, upd_same, (DRs.mono g _ _ h2).append (.cons (DR.mono g _ _ wy) .nil)⟩) .non
          · simp only [c, decide_false] at h; exact h.elim
        | _ => simp only [q] at h; exact h.elim
theorem DRs.dropLast {K : PySem.W.Frag} {H : Hp} {vs : List V} {ds : List D} (h : DRs K H vs ds) : DRs K H vs.dropLast ds.dropLast := by
  rw [List.dropLast_eq_take, List.dropLast_eq_take, h.length]
  exact h.take _
theorem pop_ok {x : W} {v : V} {Q : VK} (rel : Rel G M S H) (wx : WR G.K M H v x) (h : OK (WR G.K) G E M H (popW x S) Q) : rPop v [] H Q := by
  cases x with
  | d x => exact h.elim
  | r i =>
    obtain ⟨a, hm, rfl⟩ := wx
    unfold popW at h
    cases q : S[i]? with
    | none => simp only [q] at h; exact h.elim
    | some o =>
      cases o with
      | list ds =>
        simp only [q] at h
        obtain ⟨xs, h1, h2⟩ := rel.ob i _ a q hm
        cases e : ds[ds.length - 1]? with
        | none => simp only [e] at h; exact h.elim
        | some d =>
          simp only [e] at h
          obtain ⟨y, e1, r⟩ := h2.get e
          have g : Grow H (upd H a (.lst xs.dropLast)) := Grow.put h1 (fun _ z => nomatch z) (fun _ _ z => nomatch z)
          refine ⟨a, xs, y, rfl, rfl, h1, by rw [h2.length]; exact e1, ?_⟩
          exact h.fin' (b := y) (Ext.put hm h1 (fun _ z => nomatch z) (fun _ _ z => nomatch z))
            (rel.put hm h1 (fun _ z => nomatch z) (fun _ _ z => nomatch z) ⟨_, upd_same, (DRs.mono g _ _ h2).dropLast⟩) (DR.mono g _ _ r)
      | _ => simp only [q] at h; exact h.elim
theorem set_ok {x k y : W} {v t u : V} {Q : Hp → Prop} (rel : Rel G M S H) (wx : WR G.K M H v x) (wk : WR G.K M H t k) (wy : WR G.K M H u y) (h : OK (fun (_ : List Addr) (_ : Hp) (_ _ : Unit) => True) G E M H (setW x k y S) (fun _ => Q)) : rSetL v t u H Q := by
  cases x with
  | d x => exact h.elim
  | r i =>
    cases k with
    | r k => exact h.elim
    | d k =>
      cases k with
      | int j =>
        cases y with
        | r k => exact h.elim
        | d y =>
          obtain ⟨a, hm, rfl⟩ := wx
          cases wk
          unfold setW at h
          cases q : S[i]? with
          | none => simp only [q] at h; exact h.elim
          | some o =>
            cases o with
            | list ds =>
              simp only [q] at h
              obtain ⟨xs, h1, h2⟩ := rel.ob i _ a q hm
              cases e : placeD ds.length j with
              | none => simp only [e] at h; exact h.elim
              | some p =>
                simp only [e] at h
                have g : Grow H (upd H a (.lst (xs.set p u))) := Grow.put h1 (fun _ z => nomatch z) (fun _ _ z => nomatch z)
                refine ⟨a, xs, j, p, rfl, rfl, h1, by rw [h2.length]; exact e, ?_⟩
                exact h.fin' (b := ()) (Ext.put hm h1 (fun _ z => nomatch z) (fun _ _ z => nomatch z))
                  (rel.put hm h1 (fun _ z => nomatch z) (fun _ _ z => nomatch z) ⟨_, upd_same, DRs.set (DR.mono g _ _ wy) p (DRs.mono g _ _ h2)⟩) trivial
            | _ => simp only [q] at h; exact h.elim
      | _ => cases y <;> exact h.elim
end

section
variable {X : Cx} {E : Nat → Hp → Prop} {a b c : Expr} {tg : Expr} {es : List Expr} {pos p p2 p3 apos : Pos} {F F1 F2 F3 : Loc → Store → Res W} {FL : Loc → Store → Res (List W)}
theorem SqL.tyV {K : PySem.W.Frag} {H : Hp} {p : Addr} {xs : List V} (h : SqL K H p xs) : tyV K "list" (.ref p) H := .inl ⟨rfl, xs, h⟩
theorem x_app (h1 : Pe X E F1 a) (h2 : Pe X E F2 b) (hbase : attributeBase a "append" X.env (eval a X.env) = eval a X.env)
    (hfew : ((backTo pos (starEach [b] X.env)).all (fun x => !x.1) && (backToKw pos (keywordEach [] X.env)).all (fun x => x.1.isSome) && decide ([b].length + ([] : List Keyword).length + (if ([] : List Keyword).isEmpty then 0 else 1) < 30)) = true)
    (hline : (apos.endLine == pos.line) = true) (hs : starEach [b] X.env = (false, eval b X.env) :: starEach [] X.env) :
    Pe X E (fun ls S => (F1 ls S).bind fun v S1 => (lstR v S1).bind fun _ S2 => (F2 ls S2).bind fun y S3 => appW v y S3) (.Call (.Attribute a "append" apos) [b] [] pos) := by
  refine PE.mono (pe_bm PySem.F.plainAttrs_list PySem.F.slot_list_append PySem.F.type_list_append mt_append h1 (pa_cons h2 pa_nil hs) hbase hfew hline hs rfl) fun σ H Q ⟨M, ls, S, rel, lr, h⟩ => ?_
  refine ⟨M, ls, S, rel, lr, h.bind fun x S1 M1 H1 v e1 g p rel1 wx h1 => ?_⟩
  cases x with
  | d x => exact h1.elim
  | r i =>
    obtain ⟨ad, hm, rfl⟩ := id wx
    unfold lstR at h1
    cases q : S1[i]? with
    | none => simp only [q] at h1; exact h1.elim
    | some o =>
      cases o with
      | list ds =>
        simp only [q, Res.bind_ok] at h1
        obtain ⟨xs, z1, z2⟩ := rel1.ob i _ ad q hm
        exact ⟨SqL.tyV (SqL.of z1), M1, ls, S1, rel1, lr.mono g p, h1.bind fun y S2 M2 H2 u e2 g2 p2 rel2 wy h2 => app_ok' rel2 (wx.mono g2 p2) wy h2⟩
      | _ => simp only [q] at h1; exact h1.elim
theorem x_pop (h1 : Pe X E F a) (hbase : attributeBase a "pop" X.env (eval a X.env) = eval a X.env) (hline : (apos.endLine == pos.line) = true) : Pe X E (fun ls S => (F ls S).bind popW) (.Call (.Attribute a "pop" apos) [] [] pos) := by
  refine PE.mono (pe_bm0 PySem.F.plainAttrs_list PySem.F.slot_list_pop PySem.F.type_list_pop mt_pop h1 hbase hline) fun σ H Q h => ?_
  refine sub1 (X := X) (R := WR X.K) (Fa := F) (f := popW) (r := fun (v : V) (H : Hp) (Q : VK) => L2.tyV X.K "list" v H ∧ rPop v [] H Q) (fun M S H x v Q rel wx h => ?_) h
  have q := pop_ok rel wx h
  obtain ⟨l, xs, y, rfl, _, h1, _⟩ := id q
  exact ⟨SqL.tyV (SqL.of h1), q⟩

/-! ### several targets -/
def LRr (G : Gx) (M : List Addr) (H : Hp) (σ : L2.St) (ls : Loc) : Prop := LR G M H σ ls
def gLV (G : Gx) (E : Nat → Hp → Prop) (call : Call) (lv : LV) : TG := fun v σ H Q => ∃ M ls S w, Rel G M S H ∧ LR G M H σ ls ∧ WR G.K M H v w ∧ OK (LRr G) G E M H (asgLV call lv w ls S) Q
def gLVs (G : Gx) (E : Nat → Hp → Prop) (call : Call) (lvs : List LV) : TGs := fun vs σ H Q => ∃ M ls S ws, Rel G M S H ∧ LR G M H σ ls ∧ WRs G.K M H vs ws ∧ OK (LRr G) G E M H (asgAll call lvs ws ls S) Q
variable {call : Call}
theorem PGs.mono {ts : List Expr} {t t' : TGs} (h : PGs X ts t) (k : ∀ vs σ H Q, t' vs σ H Q → t vs σ H Q) : PGs X ts t' := ⟨fun pins s σ H vs us Q I r hw => h.run pins s σ H vs us Q I r (k vs σ H Q hw)⟩
theorem g_nm {i : Nat} {x : Str} (hN : X.N.Nodup) (hi : X.N[i]? = some x) (hx : L2.Loc X.env.scope x) (hf : X.fn x = true ∨ X.env.scope.names.lookup x = some .local) : PG X (.Name x pos) (gLV X.gx E call (.nm i)) :=
  PG.mono (pg_name hN hi hx hf) fun v σ H Q ⟨M, ls, S, w, rel, lr, r, h⟩ => OK.fin (R := LRr X.gx) (b := σ.set i (some v)) (a := ls.set i (some w)) h rel (lr.set r i)
theorem g_ix {ma mb : MI.E} (h1 : Pe X E (evE call ma) a) (h2 : Pe X E (evE call mb) b) (ha : ∀ v, assign (.Subscript a b pos) X.env v = (do
      let ov ← holding [v] (eval a X.env)
      let iv ← holding [v, ov] (eval b X.env)
      standAt pos
      holding [v, ov, iv] (setItem ov iv v)
      release [v, ov, iv] [])) : PG X (.Subscript a b pos) (gLV X.gx E call (.ix ma mb)) := by
  refine PG.mono (pg_sub h1 h2 set_list ha) fun v σ H Q ⟨M, ls, S, w, rel, lr, r, h⟩ => ?_
  refine ⟨M, ls, S, rel, lr, OK.bind (R' := LRr X.gx) h fun x S1 M1 H1 o _ g p rel1 wx h1 => ?_⟩
  refine ⟨M1, ls, S1, rel1, lr.mono g p, OK.bind (R' := LRr X.gx) h1 fun y S2 M2 H2 u _ g2 p2 rel2 wy h2 => ?_⟩
  refine set_ok rel2 (wx.mono g2 p2) wy ((r.mono g p).mono g2 p2) (OK.bind (R' := LRr X.gx) (Q1 := fun (_ : Unit) H => Q σ H) h2 fun z S3 M3 H3 t _ g3 p3 rel3 _ h3 => ?_)
  exact OK.fin (R := LRr X.gx) (b := σ) h3 rel3 (((lr.mono g p).mono g2 p2).mono g3 p3)
theorem g_nil : PGs X [] (gLVs X.gx E call []) := by
  refine PGs.mono pgs_nil fun vs σ H Q ⟨M, ls, S, ws, rel, lr, r, h⟩ => ?_
  cases r with
  | nil => exact ⟨rfl, OK.fin (R := LRr X.gx) (b := σ) h rel lr⟩
  | cons _ _ => exact h.elim
theorem g_cons {lv : LV} {lvs : List LV} {e : Expr} (h1 : PG X e (gLV X.gx E call lv)) (h2 : PGs X es (gLVs X.gx E call lvs)) (hs : (assignEach (e :: es) X.env).map (·.2) = assign e X.env :: (assignEach es X.env).map (·.2)) : PGs X (e :: es) (gLVs X.gx E call (lv :: lvs)) := by
  refine PGs.mono (pgs_cons h1 h2 hs) fun vs σ H Q ⟨M, ls, S, ws, rel, lr, r, h⟩ => ?_
  cases r with
  | nil => exact h.elim
  | cons r t =>
    refine ⟨_, _, rfl, M, ls, S, _, rel, lr, r, OK.bind (R' := LRr X.gx) h fun l S1 M1 H1 σ1 _ g p rel1 lr1 h1 => ?_⟩
    exact ⟨M1, l, S1, _, rel1, lr1, t.mono g p, h1⟩
abbrev parF (call : Call) (FL : Loc → Store → Res (List W)) (lvs : List LV) : Loc → Store → Res Fl := fun ls S => (FL ls S).bind fun ws S1 => (asgAll call lvs ws ls S1).bind fun l S2 => .ok (.nx l) S2
theorem asgAll_len {lvs : List LV} : ∀ {ws : List W} {ls : Loc} {S : Store} {Q : L2.St → Hp → Prop} {M : List Addr} {H : Hp}, OK (LRr X.gx) X.gx E M H (asgAll call lvs ws ls S) Q → True := fun _ => trivial
/-- (t, ..) = (e, ..), by the tuple -/
theorem s_par {lvs : List LV} {ts : List Expr} {kt k2 : Nat} {pt pt2 : Pos} (hc : X.calm = true) (h1 : Pa X E FL es) (h2 : PGs X ts (gLVs X.gx E call lvs)) (hl : ∀ ls S ws S1, FL ls S = .ok ws S1 → ws.length = ts.length) (hn : (assignEach ts X.env).length = ts.length) (hst : (assignEach ts X.env).findIdx? (·.1) = none) (hz : ts.length ≤ 1000)
    (hw : swappedStores [.Tuple ts kt pt] (.Tuple es k2 pt2) X.env = pure none) : Ps X E (parF call FL lvs) (.Assign [.Tuple ts kt pt] (.Tuple es k2 pt2) pos) := by
  refine PS.mono (ps_asg (pe_tup h1) (pg_tup hc h2 hn hst) rfl hw rfl) fun D σ H ⟨M, ls, S, rel, lr, h⟩ => ?_
  refine ⟨M, ls, S, rel, lr, OK.bind (R' := FR X.gx) h fun ws S1 M1 H1 vs e1 g p rel1 wr h1 => ?_⟩
  have hlen : vs.length = ts.length := by rw [wr.length]; exact hl _ _ _ _ e1
  refine ⟨by rw [hlen]; exact Nat.le_of_lt (small1000 hz), fun q hq => ⟨q, vs, rfl, SqT.of upd_same, hlen, ?_⟩⟩
  have g1 : Grow H1 (upd H1 q (.tup vs)) := Grow.new hq
  refine ⟨M1, ls, S1, ws, rel1.new hq, (lr.mono g p).mono g1 (Pre.refl _), wr.mono g1 (Pre.refl _), ?_⟩
  exact OK.bind (R' := FR X.gx) (R := LRr X.gx) (OK.at (Ext.new hq) h1) fun l S2 M2 H2 σ2 _ g2 p2 rel2 lr2 h2 => OK.nx (E := E) h2 rel2 lr2

/-- the stores of plain names, from the right -/
theorem s_swap2 {i j : Nat} {x y : Str} {px py pt pt2 : Pos} {kt k2 : Nat} (hc : X.calm = true) (hN : X.N.Nodup) (hi : X.N[i]? = some x) (hj : X.N[j]? = some y) (hij : i ≠ j)
    (hx : X.env.scope.names.lookup x = some .local) (hy : X.env.scope.names.lookup y = some .local) (ha : Pa X E FL [a, b]) (hw : swappedStores [.Tuple [.Name x px, .Name y py] kt pt] (.Tuple [a, b] k2 pt2) X.env = pure (some [x, y])) (hl : ∀ ls S ws S1, FL ls S = .ok ws S1 → ws.length = 2) :
    Ps X E (parF call FL [.nm i, .nm j]) (.Assign [.Tuple [.Name x px, .Name y py] kt pt] (.Tuple [a, b] k2 pt2) pos) := by
  refine PS.mono (ps_par hc hN hi hj hij hx hy ha hw rfl) fun D σ H ⟨M, ls, S, rel, lr, h⟩ => ?_
  refine ⟨M, ls, S, rel, lr, OK.bind (R' := FR X.gx) h fun ws S1 M1 H1 vs e1 g p rel1 wr h1 => ?_⟩
  have hlen := hl _ _ _ _ e1
  match ws, hlen, wr, h1 with
  | [w, u], _, .cons (v := v) r (.cons (v := t) r2 .nil), h1 =>
    exact ⟨v, t, rfl, OK.nx (E := E) h1 rel1 (((lr.mono g p).set r i).set r2 j)⟩
theorem ps_par3 {i j k : Nat} {x y z : Str} {ta : TA} {px py pz pt : Pos} {kt k2 : Nat} {pt2 : Pos} (hc : X.calm = true) (hN : X.N.Nodup) (hi : X.N[i]? = some x) (hj : X.N[j]? = some y) (hk : X.N[k]? = some z) (hij : i ≠ j) (hik : i ≠ k) (hjk : j ≠ k)
    (hx : X.env.scope.names.lookup x = some .local) (hy : X.env.scope.names.lookup y = some .local) (hz : X.env.scope.names.lookup z = some .local) (ha : PA X [a, b, c] ta)
    (hw : swappedStores [.Tuple [.Name x px, .Name y py, .Name z pz] kt pt] (.Tuple [a, b, c] k2 pt2) X.env = pure (some [x, y, z])) :
    PS X (.Assign [.Tuple [.Name x px, .Name y py, .Name z pz] kt pt] (.Tuple [a, b, c] k2 pt2) pos) (fun D σ H => ta σ H fun vs H1 => ∃ v w u, vs = [v, w, u] ∧ D.nx (((σ.set i (some v)).set j (some w)).set k (some u)) H1) := by
  refine ⟨fun pins s σ H D I h => ?_⟩
  rw [exec_Assign_arm]
  refine wpAny_bind (wpAny_standAt ?_)
  rw [show swapsWithSole [.Tuple [.Name x px, .Name y py, .Name z pz] kt pt] (.Tuple [a, b, c] k2 pt2) pos.line X.env = pure false from rfl]
  refine wpAny_bind (wpAny_pure ?_)
  rw [if_neg (by decide)]
  refine wpAny_bind (Tuple_ (thn (ha.run _ pins s σ H _ I h) fun us s1 ⟨vs, H1, I1, r1, q1⟩ => ?_))
  obtain ⟨v, w, u, e1, q1⟩ := q1
  subst e1
  obtain ⟨u1, u2, u3, rfl, rv, rw', ru⟩ : ∃ u1 u2 u3, us = [u1, u2, u3] ∧ RelV v u1 ∧ RelV w u2 ∧ RelV u u3 := by
    cases r1 with
    | cons p q =>
      cases q with
      | cons p' q' =>
        cases q' with
        | cons p3 q3 =>
          cases q3
          exact ⟨_, _, _, rfl, p, p', p3⟩
  refine wpAny_newObj_type ?_ (by show 3 ≤ sizeLine; decide)
  have I2 : Inv X pins σ H1 { s1 with heap := s1.heap.push { cls := .type "tuple", data := .seq [u1, u2, u3].toArray } } := I1.kept (t' := s1.toks) fun b o e => Heap.get?_push_of_some _ e
  rw [hw]
  refine wpAny_bind (wpAny_pure ?_)
  show wpAny (model X.prog X.w) X.A (do rule "assign.swapped-stores"; let items ← unpackItems (.ref s1.heap.objs.size) 3 none; assignInOrder [fun v => bindName X.env z v, fun v => bindName X.env y v, fun v => bindName X.env x v] items.reverse; pure Flow.next) _ _ _
  refine wpAny_bind (wpAny_rule (wpAny_bind (unpackItems_tuple (items := #[u1, u2, u3]) (I.ok.hd hc) (IsTup.new s1.heap _) fun h' hx' => ?_)))
  have I3 := I2.kept (h' := h') (t' := s1.toks) fun b o e => hx' b o (Nat.ne_of_lt (Heap.lt_size e)) e
  show wpAny _ _ (assignInOrder [fun v => bindName X.env z v, fun v => bindName X.env y v, fun v => bindName X.env x v] [u3, u2, u1] >>= fun _ => pure Flow.next) _ _ _
  refine wpAny_bind (assignInOrder_cons (wpAny_bindName (store_ok I3 hN hk (.inl hz) ru (fun s2 I4 => ?_) (.inr hz))))
  refine assignInOrder_cons (wpAny_bindName (store_ok I4 hN hj (.inl hy) rw' (fun s3 I5 => ?_) (.inr hy)))
  refine assignInOrder_cons (wpAny_bindName (store_ok I5 hN hi (.inl hx) rv (fun s4 I6 => assignInOrder_nil (wpAny_pure ?_)) (.inr hx)))
  rw [List.set_comm (some u) (some w) (Ne.symm hjk), List.set_comm (some u) (some v) (Ne.symm hik), List.set_comm (some w) (some v) (Ne.symm hij)] at I6
  exact ⟨_, H1, I6, q1⟩
theorem s_swap3 {i j k : Nat} {x y z : Str} {px py pz pt pt2 : Pos} {kt k2 : Nat} (hc : X.calm = true) (hN : X.N.Nodup) (hi : X.N[i]? = some x) (hj : X.N[j]? = some y) (hk : X.N[k]? = some z) (hij : i ≠ j) (hik : i ≠ k) (hjk : j ≠ k)
    (hx : X.env.scope.names.lookup x = some .local) (hy : X.env.scope.names.lookup y = some .local) (hz : X.env.scope.names.lookup z = some .local) (ha : Pa X E FL [a, b, c])
    (hw : swappedStores [.Tuple [.Name x px, .Name y py, .Name z pz] kt pt] (.Tuple [a, b, c] k2 pt2) X.env = pure (some [x, y, z])) (hl : ∀ ls S ws S1, FL ls S = .ok ws S1 → ws.length = 3) :
    Ps X E (parF call FL [.nm i, .nm j, .nm k]) (.Assign [.Tuple [.Name x px, .Name y py, .Name z pz] kt pt] (.Tuple [a, b, c] k2 pt2) pos) := by
  refine PS.mono (ps_par3 hc hN hi hj hk hij hik hjk hx hy hz ha hw) fun D σ H ⟨M, ls, S, rel, lr, h⟩ => ?_
  refine ⟨M, ls, S, rel, lr, OK.bind (R' := FR X.gx) h fun ws S1 M1 H1 vs e1 g p rel1 wr h1 => ?_⟩
  have hlen := hl _ _ _ _ e1
  match ws, hlen, wr, h1 with
  | [w, u, q], _, .cons (v := v) r (.cons (v := t) r2 (.cons (v := s) r3 .nil)), h1 =>
    exact ⟨v, t, s, rfl, OK.nx (E := E) h1 rel1 ((((lr.mono g p).set r i).set r2 j).set r3 k)⟩
/-- a[b] = e -/
theorem s_setx {FA FB : Loc → Store → Res W} {ev : Expr} {tp : Pos} (h0 : Pe X E F ev) (h1 : Pe X E FA a) (h2 : Pe X E FB b) (ha : ∀ v, assign (.Subscript a b tp) X.env v = (do
      let ov ← holding [v] (eval a X.env)
      let iv ← holding [v, ov] (eval b X.env)
      standAt tp
      holding [v, ov, iv] (setItem ov iv v)
      release [v, ov, iv] [])) (hs : swapsWithSole [.Subscript a b tp] ev pos.line X.env = pure false) :
    Ps X E (fun ls S => (F ls S).bind fun w S1 => (FA ls S1).bind fun x S2 => (FB ls S2).bind fun y S3 => (setW x y w S3).bind fun _ S4 => .ok (.nx ls) S4) (.Assign [.Subscript a b tp] ev pos) := by
  refine PS.mono (ps_asg h0 (pg_sub h1 h2 set_list ha) hs rfl rfl) fun D σ H ⟨M, ls, S, rel, lr, h⟩ => ?_
  refine ⟨M, ls, S, rel, lr, OK.bind (R' := FR X.gx) h fun w S1 M1 H1 v _ g p rel1 wv h1 => ?_⟩
  refine ⟨M1, ls, S1, rel1, lr.mono g p, OK.bind (R' := FR X.gx) h1 fun x S2 M2 H2 o _ g2 p2 rel2 wx h2 => ?_⟩
  refine ⟨M2, ls, S2, rel2, (lr.mono g p).mono g2 p2, OK.bind (R' := FR X.gx) h2 fun y S3 M3 H3 u _ g3 p3 rel3 wy h3 => ?_⟩
  refine set_ok rel3 (wx.mono g3 p3) wy ((wv.mono g2 p2).mono g3 p3) (OK.bind (R' := FR X.gx) (Q1 := fun (_ : Unit) H => D.nx σ H) h3 fun z S4 M4 H4 t _ g4 p4 rel4 _ h4 => ?_)
  exact OK.nx (E := E) h4 rel4 ((((lr.mono g p).mono g2 p2).mono g3 p3).mono g4 p4)
end
end MI

/-! MiK: the words by which a text of the small language is shown to stand for a text of the program (own work). -/
namespace MI
open PySem PySem.Spec PyProof.Rows L2

/-- what the texts rest on: exceptions' classes, calls, the room, the defs, the builtins' names, constants -/
structure Inf where
  cv : Nat → Value
  call : Call
  k : Nat
  fns : List (Str × List Str)
  bn : List Str
  gs : List (Str × D)
abbrev En (I : Inf) (Ex : XK) : Nat → Hp → Prop := fun c H' => Ex (I.cv c) none H'

def visB (sc : Scope) (x : Str) : Bool := (match sc.names.lookup x with | some .local => true | some .cell => true | some .free => true | _ => false) && !(x == ("__debug__" : Str)) && !(x == ("__classdict__" : Str))
def asgB (top : Bool) (sc : Scope) (x : Str) : Bool := match sc.names.lookup x with | some .local => true | some .cell => top | _ => false
def locB (sc : Scope) (x : Str) : Bool := match sc.names.lookup x with | some .local => true | _ => false
def glB (sc : Scope) (x : Str) : Bool := (match sc.names.lookup x with | some .globalImplicit => true | _ => false) && !(x == ("__debug__" : Str))
theorem visB_vis {sc : Scope} {x : Str} (h : visB sc x = true) : Vis sc x ∧ (x == ("__debug__" : Str)) = false ∧ (x == ("__classdict__" : Str)) = false := by
  unfold visB at h
  simp only [Bool.and_eq_true, Bool.not_eq_true'] at h
  refine ⟨?_, h.1.2, h.2⟩
  have h1 := h.1.1
  unfold Vis
  split at h1
  · exact .inl ‹_›
  · exact .inr (.inl ‹_›)
  · exact .inr (.inr ‹_›)
  · cases h1
theorem asgB_loc {top : Bool} {sc : Scope} {x : Str} (h : asgB top sc x = true) : L2.Loc sc x ∧ (top = true ∨ sc.names.lookup x = some .local) := by
  unfold asgB at h
  unfold L2.Loc
  split at h
  · exact ⟨.inl ‹_›, .inr ‹_›⟩
  · exact ⟨.inr ‹_›, .inl h⟩
  · cases h
theorem locB_loc {sc : Scope} {x : Str} (h : locB sc x = true) : sc.names.lookup x = some .local := by
  unfold locB at h
  split at h
  · assumption
  · cases h
theorem glB_gl {sc : Scope} {x : Str} (h : glB sc x = true) : sc.names.lookup x = some .globalImplicit ∧ (x == ("__debug__" : Str)) = false := by
  unfold glB at h
  simp only [Bool.and_eq_true, Bool.not_eq_true'] at h
  refine ⟨?_, h.2⟩
  have h1 := h.1
  split at h1
  · assumption
  · cases h1

structure Cn (I : Inf) (Ex : XK) (top : Bool) (sc : Scope) (N : List Str) (X : Cx) : Prop where
  esc : X.env.scope = sc
  eN : X.N = N
  room : Room I.k X.A
  calm : X.calm = true
  nd : X.N.Nodup
  kind : sc.kind = .function
  fn : top = true → ∀ x, X.fn x = true
  pass : Passes (L2.CX X.prog X.w) X Ex
  tb : ∀ (j : Nat) (x : Str) (ps : List Str), I.fns[j]? = some (x, ps) → ∃ (fa : Addr) (fd : FuncData), X.mg x = some (.ref fa) ∧ PySem.W.keepIn X.K (.ref fa) = true ∧ Binds X.K fd ps [] ∧
    FnOk X.prog X.w X.K X.mg X.base (L2.CX X.prog X.w) I.k fa fd ps (spM X.gx I.cv I.call j ps.length)
  bn : ∀ (j : Nat) (x : Str), I.bn[j]? = some x → X.mg x = none
  gs : ∀ (j : Nat) (x : Str) (d : D), I.gs[j]? = some (x, d) → ∃ (u : Value) (v : V), X.mg x = some u ∧ RelV v u ∧ ∀ H, DR X.K H v d

section
variable {I : Inf} {Ex : XK} {top : Bool} {sc : Scope} {N : List Str} {X : Cx}
theorem Cn.nox (c : Cn I Ex top sc N X) : Cn I E0 top sc N X.nox := ⟨c.esc, c.eN, c.room, c.calm, c.nd, c.kind, c.fn, passL, c.tb, c.bn, c.gs⟩
theorem Cn.hu (c : Cn I Ex top sc N X) : X.A.units + 64 < cLine := c.room.units
theorem Cn.blk (c : Cn I Ex top sc N X) {scope : Scope} (hk : scope.kind = .function) (s : Shared) (H : Hp) (C : Addr) (cl : List (Str × Addr)) (fp : List Addr) :
    Cn I E0 false (relS scope sc) N (X.blk s H scope (compEnvC scope cl C X.env) fp) :=
  ⟨by rw [← c.esc]; rfl, c.eN, c.room, c.calm, c.nd, hk, (fun e => nomatch e), passL, c.tb, c.bn, c.gs⟩
theorem Cn.at (c : Cn I Ex top sc N X) {i : Nat} {x : Str} (h : N[i]? = some x) : X.N[i]? = some x := by rw [c.eN]; exact h
theorem Cn.vis (c : Cn I Ex top sc N X) {x : Str} (h : visB sc x = true) : Vis X.env.scope x := by rw [c.esc]; exact (visB_vis h).1
theorem Cn.loc (c : Cn I Ex top sc N X) {x : Str} (h : asgB top sc x = true) : L2.Loc X.env.scope x ∧ (X.fn x = true ∨ X.env.scope.names.lookup x = some .local) := by
  have := asgB_loc h
  rw [c.esc]
  exact ⟨this.1, this.2.imp (fun e => c.fn e x) id⟩
theorem Cn.gl (c : Cn I Ex top sc N X) {x : Str} (h : glB sc x = true) : Gl X x := by
  unfold Gl Env.kindOf
  rw [c.esc]
  exact (glB_gl h).1

/-! ### judgements -/
abbrev Je (I : Inf) (Ex : XK) (X : Cx) (m : MI.E) (e : Expr) : Prop := Pe X (En I Ex) (evE I.call m) e
abbrev Jt (I : Inf) (Ex : XK) (X : Cx) (m : MI.E) (e : Expr) : Prop := Pt X (En I Ex) (evE I.call m) e
abbrev Jw (I : Inf) (Ex : XK) (X : Cx) (m : MI.E) (e : Expr) : Prop := Pw X (En I Ex) (evE I.call m) e
abbrev Ja (I : Inf) (Ex : XK) (X : Cx) (m : MI.E) (es : List Expr) : Prop := Pa X (En I Ex) (evL I.call m) es
abbrev Ji (I : Inf) (Ex : XK) (X : Cx) (m : MI.E) (tg e : Expr) : Prop := Pi X (En I Ex) (evI I.call m) tg e
abbrev Js (I : Inf) (Ex : XK) (X : Cx) (F : Nat) (m : M) (st : Stmt) : Prop := Ps X (En I Ex) (exM I.call F m) st
abbrev Jb (I : Inf) (Ex : XK) (X : Cx) (F : Nat) (m : M) (st : List Stmt) : Prop := Pss X (En I Ex) (exM I.call F m) st

variable {a b d : Expr} {ma mb md : MI.E} {pos p p2 p3 : Pos} {es : List Expr} {x : Str} {F : Nat}
theorem Pe.cast {E : Nat → Hp → Prop} {F1 F2 : Loc → Store → Res W} {e : Expr} (h : Pe X E F1 e) (q : F2 = F1) : Pe X E F2 e := by rw [q]; exact h
theorem Pt.cast {E : Nat → Hp → Prop} {F1 F2 : Loc → Store → Res W} {e : Expr} (h : Pt X E F1 e) (q : F2 = F1) : Pt X E F2 e := by rw [q]; exact h
theorem Pw.cast {E : Nat → Hp → Prop} {F1 F2 : Loc → Store → Res W} {e : Expr} (h : Pw X E F1 e) (q : F2 = F1) : Pw X E F2 e := by rw [q]; exact h
theorem Pa.cast {E : Nat → Hp → Prop} {F1 F2 : Loc → Store → Res (List W)} {e : List Expr} (h : Pa X E F1 e) (q : F2 = F1) : Pa X E F2 e := by rw [q]; exact h
theorem Pi.cast {E : Nat → Hp → Prop} {F1 F2 : Loc → Store → Res (List D)} {t e : Expr} (h : Pi X E F1 t e) (q : F2 = F1) : Pi X E F2 t e := by rw [q]; exact h
theorem Ps.cast {E : Nat → Hp → Prop} {F1 F2 : Loc → Store → Res Fl} {e : Stmt} (h : Ps X E F1 e) (q : F2 = F1) : Ps X E F2 e := by rw [q]; exact h
theorem Pss.cast {E : Nat → Hp → Prop} {F1 F2 : Loc → Store → Res Fl} {e : List Stmt} (h : Pss X E F1 e) (q : F2 = F1) : Pss X E F2 e := by rw [q]; exact h

theorem k_var (c : Cn I Ex top sc N X) {i : Nat} (hN : N[i]? = some x) (hv : visB sc x = true) : Je I Ex X (.var i) (.Name x pos) :=
  (x_var (c.at hN) (c.vis hv) (visB_vis hv).2.1 (visB_vis hv).2.2).cast (by funext ls S; rw [evE]; try rfl)
theorem k_int {i : Int} {j : Nat} : Je I Ex X (.cst (.int i)) (.Constant (.int i) j pos) := x_int.cast (by funext ls S; rw [evE])
theorem k_bool {i : Bool} {j : Nat} : Je I Ex X (.cst (.bool i)) (.Constant (.bool i) j pos) := x_bool.cast (by funext ls S; rw [evE])
theorem k_none {j : Nat} : Je I Ex X (.cst .none) (.Constant .none j pos) := x_none.cast (by funext ls S; rw [evE])
theorem k_str {i : Str} {j : Nat} : Je I Ex X (.cst (.str i)) (.Constant (.str i) j pos) := x_str.cast (by funext ls S; rw [evE])
theorem k_glb (c : Cn I Ex top sc N X) (j : Nat) {v : D} (h : I.gs[j]? = some (x, v)) (hg : glB sc x = true) : Je I Ex X (.glb x v) (.Name x pos) := by
  obtain ⟨u, w, h1, h2, h3⟩ := c.gs j x v h
  exact (x_glob (c.gl hg) h1 h2 (glB_gl hg).2 h3).cast (by funext ls S; rw [evE])
theorem k_add (h1 : Je I Ex X ma a) (h2 : Je I Ex X mb b) : Je I Ex X (.bin .add ma mb) (.BinOp a .Add b pos) :=
  (x_bin op_addA (fun _ _ _ _ _ _ _ _ rel wx wy h => add_ok rel wx wy h) h1 h2).cast (by funext ls S; rw [evE])
theorem k_sub (h1 : Je I Ex X ma a) (h2 : Je I Ex X mb b) : Je I Ex X (.bin .sub ma mb) (.BinOp a .Sub b pos) :=
  (x_bin op_sub (fun _ _ _ _ _ _ _ _ rel wx wy h => sub_ok rel wx wy h) h1 h2).cast (by funext ls S; rw [evE])
theorem k_mul (h1 : Je I Ex X ma a) (h2 : Je I Ex X mb b) : Je I Ex X (.bin .mul ma mb) (.BinOp a .Mult b pos) :=
  (x_bin op_mul (fun _ _ _ _ _ _ _ _ rel wx wy h => mul_ok rel wx wy h) h1 h2).cast (by funext ls S; rw [evE])
theorem k_fdiv (h1 : Je I Ex X ma a) (h2 : Je I Ex X mb b) : Je I Ex X (.bin .fdiv ma mb) (.BinOp a .FloorDiv b pos) :=
  (x_bin op_fdiv (fun _ _ _ _ _ _ _ _ rel wx wy h => fdiv_ok rel wx wy h) h1 h2).cast (by funext ls S; rw [evE])
theorem k_mod (h1 : Je I Ex X ma a) (h2 : Je I Ex X mb b) : Je I Ex X (.bin .mod ma mb) (.BinOp a .Mod b pos) :=
  (x_bin op_mod (fun _ _ _ _ _ _ _ _ rel wx wy h => mod_ok rel wx wy h) h1 h2).cast (by funext ls S; rw [evE])
theorem k_pow (h1 : Je I Ex X ma a) (h2 : Je I Ex X mb b) : Je I Ex X (.bin .pow ma mb) (.BinOp a .Pow b pos) :=
  (x_bin op_pow (fun _ _ _ _ _ _ _ _ rel wx wy h => pow_ok rel wx wy h) h1 h2).cast (by funext ls S; rw [evE])
theorem k_neg (h1 : Je I Ex X ma a) : Je I Ex X (.neg ma) (.UnaryOp .USub a pos) := (x_neg h1).cast (by funext ls S; rw [evE])
theorem k_not (h1 : Je I Ex X ma a) : Je I Ex X (.nt ma) (.UnaryOp .Not a pos) := (x_not h1).cast (by funext ls S; rw [evE])
theorem kt_not (h1 : Jt I Ex X ma a) : Jt I Ex X (.nt ma) (.UnaryOp .Not a pos) := (t_not h1).cast (by funext ls S; rw [evE])
theorem k_one {o : BoolOp} (h1 : Je I Ex X ma a) : Je I Ex X ma (.BoolOp o [a] pos) := x_one h1
theorem k_and {r : List Expr} (h1 : Je I Ex X ma a) (h2 : Je I Ex X mb (.BoolOp .And (b :: r) pos)) : Je I Ex X (.and ma mb) (.BoolOp .And (a :: b :: r) pos) := (x_and h1 h2).cast (by funext ls S; rw [evE])
theorem k_or {r : List Expr} (h1 : Je I Ex X ma a) (h2 : Je I Ex X mb (.BoolOp .Or (b :: r) pos)) : Je I Ex X (.or ma mb) (.BoolOp .Or (a :: b :: r) pos) := (x_or h1 h2).cast (by funext ls S; rw [evE])
theorem kw_and1 (h1 : Jt I Ex X ma a) : Jw I Ex X ma (.BoolOp .And [a] pos) := w_and1 h1
theorem kw_or1 (h1 : Jt I Ex X ma a) : Jw I Ex X ma (.BoolOp .Or [a] pos) := w_or1 h1
theorem kw_and {r : List Expr} (h1 : Jt I Ex X ma a) (h2 : Jw I Ex X mb (.BoolOp .And (b :: r) pos)) : Jw I Ex X (.and ma mb) (.BoolOp .And (a :: b :: r) pos) := (w_and h1 h2).cast (by funext ls S; rw [evE])
theorem kw_or {r : List Expr} (h1 : Jt I Ex X ma a) (h2 : Jw I Ex X mb (.BoolOp .Or (b :: r) pos)) : Jw I Ex X (.or ma mb) (.BoolOp .Or (a :: b :: r) pos) := (w_or h1 h2).cast (by funext ls S; rw [evE])
theorem kt_w (h : Jw I Ex X ma a) : Jt I Ex X ma a := PW.pt h
theorem kt_val (h : Je I Ex X ma a) (he : ∀ whole, isTrue a X.env whole = (do let v ← whole; standAt a.pos; holding [v] (truthy v)) := by intro _; rfl) : Jt I Ex X ma a := t_val h he
theorem k_cmp (c : Cn I Ex top sc N X) (op : COp) (h1 : Je I Ex X ma a) (h2 : Je I Ex X mb b) (hm : behindInMarks (cop op) b = false := by with_unfolding_all rfl) : Je I Ex X (.cmp op ma mb) (.Compare a [cop op] [b] pos) := (x_cmp c.hu hm h1 h2).cast (by funext ls S; rw [evE])
theorem kt_cmp (c : Cn I Ex top sc N X) (op : COp) (h1 : Je I Ex X ma a) (h2 : Je I Ex X mb b) (hm : behindInMarks (cop op) b = false := by with_unfolding_all rfl) : Jt I Ex X (.cmp op ma mb) (.Compare a [cop op] [b] pos) := (t_cmp c.hu hm h1 h2).cast (by funext ls S; rw [evE])
theorem k_chn (c : Cn I Ex top sc N X) (o o' : COp) (h1 : Je I Ex X ma a) (h2 : Je I Ex X mb b) (h3 : Je I Ex X md d) (hm : lastMarks [cop o, cop o'] [b, d] = false := by with_unfolding_all rfl) : Je I Ex X (.chn o o' ma mb md) (.Compare a [cop o, cop o'] [b, d] pos) :=
  (x_chain c.hu hm h1 h2 h3).cast (by funext ls S; rw [evE])
theorem kt_chn (c : Cn I Ex top sc N X) (o o' : COp) (h1 : Je I Ex X ma a) (h2 : Je I Ex X mb b) (h3 : Je I Ex X md d) (hm : lastMarks [cop o, cop o'] [b, d] = false := by with_unfolding_all rfl) : Jt I Ex X (.chn o o' ma mb md) (.Compare a [cop o, cop o'] [b, d] pos) :=
  (t_chain c.hu hm h1 h2 h3).cast (by funext ls S; rw [evE])
theorem k_ife (h1 : Jt I Ex X ma a) (h2 : Je I Ex X mb b) (h3 : Je I Ex X md d) : Je I Ex X (.ife ma mb md) (.IfExp a b d pos) := (x_ife h1 h2 h3).cast (by funext ls S; rw [evE])
theorem ka_nil : Ja I Ex X .nil [] := a_nil.cast (by funext ls S; rw [evL])
theorem ka_cons (h1 : Je I Ex X ma a) (h2 : Ja I Ex X mb es) (hs : starEach (a :: es) X.env = (false, eval a X.env) :: starEach es X.env := by rfl) : Ja I Ex X (.cons ma mb) (a :: es) := (a_cons h1 h2 hs).cast (by funext ls S; rw [evL])
theorem k_tup {k : Nat} (h : Ja I Ex X ma es) : Je I Ex X (.tup ma) (.Tuple es k pos) := (x_tup h).cast (by funext ls S; rw [evE])
theorem k_lst {m : Bool} (h : Ja I Ex X ma es) : Je I Ex X (.lst m ma) (.List es pos) := (x_lst h).cast (by funext ls S; rw [evE])
theorem k_idx (h1 : Je I Ex X ma a) (h2 : Je I Ex X mb b) (hs : PlainIx b := by intro _ _; rfl) : Je I Ex X (.idx ma mb) (.Subscript a b pos) := (x_idx h1 h2 hs).cast (by funext ls S; rw [evE])
theorem k_frz (h : Je I Ex X ma a) : Je I Ex X (.frz ma) a := (x_frz h).cast (by funext ls S; rw [evE])
theorem k_slcLH (h1 : Je I Ex X ma a) (h2 : Je I Ex X mb b) (h3 : Je I Ex X md d) : Je I Ex X (.slc true true ma mb md) (.Subscript a (.Slice (some b) (some d) none p2) pos) := (x_slc h1 (o_some h2) (o_some h3)).cast (by funext ls S; rw [evE]; try rfl)
theorem k_slcL (h1 : Je I Ex X ma a) (h2 : Je I Ex X mb b) : Je I Ex X (.slc true false ma mb md) (.Subscript a (.Slice (some b) none none p2) pos) := (x_slc h1 (o_some h2) o_none).cast (by funext ls S; rw [evE]; try rfl)
theorem k_slcH (h1 : Je I Ex X ma a) (h3 : Je I Ex X md d) : Je I Ex X (.slc false true ma mb md) (.Subscript a (.Slice none (some d) none p2) pos) := (x_slc h1 o_none (o_some h3)).cast (by funext ls S; rw [evE]; try rfl)
theorem k_slcN (h1 : Je I Ex X ma a) : Je I Ex X (.slc false false ma mb md) (.Subscript a (.Slice none none none p2) pos) := (x_slc h1 o_none o_none).cast (by funext ls S; rw [evE]; try rfl)

/-! ### calls -/
def lenE : MI.E → Nat
  | .cons _ es => lenE es + 1
  | _ => 0
theorem evL_len {call : Call} : ∀ (m : MI.E) {ls : Loc} {S S' : Store} {ws : List W}, evL call m ls S = .ok ws S' → ws.length = lenE m
  | .cons e es, ls, S, S', ws, h => by
    rw [evL] at h
    cases q : evE call e ls S with
    | ok w S1 =>
      rw [q, Res.bind_ok] at h
      cases q2 : evL call es ls S1 with
      | ok ws2 S2 =>
        rw [q2, Res.bind_ok] at h
        cases h
        show ws2.length + 1 = lenE es + 1
        rw [evL_len es q2]
      | ex _ _ => rw [q2] at h; cases h
      | stuck => rw [q2] at h; cases h
    | ex _ _ => rw [q] at h; cases h
    | stuck => rw [q] at h; cases h
  | .nil, ls, S, S', ws, h => by rw [evL] at h; cases h; rfl
  | .var _, _, _, _, _, h | .frz _, _, _, _, _, h | .cst _, _, _, _, _, h | .glb _ _, _, _, _, _, h | .bin _ _ _, _, _, _, _, h | .neg _, _, _, _, _, h | .nt _, _, _, _, _, h | .and _ _, _, _, _, _, h | .or _ _, _, _, _, _, h
  | .cmp _ _ _, _, _, _, _, h | .chn _ _ _ _ _, _, _, _, _, h | .ife _ _ _, _, _, _, _, h | .tup _, _, _, _, _, h | .lst _ _, _, _, _, _, h | .idx _ _, _, _, _, _, h | .omit, _, _, _, _, h | .slc _ _ _ _ _, _, _, _, _, h | .rev _, _, _, _, _, h
  | .call _ _, _, _, _, _, h | .blt _ _, _, _, _, _, h | .cpy _ _, _, _, _, _, h | .isi _ _, _, _, _, _, h | .app _ _, _, _, _, _, h | .pop _, _, _, _, _, h | .indx _ _, _, _, _, _, h | .dget _ _ _, _, _, _, _, h | .ind _ _ _, _, _, _, _, h
  | .didx _ _, _, _, _, _, h | .dlen _, _, _, _, _, h | .dkey _ _, _, _, _, _, h | .dnew _, _, _, _, _, h | .ddsp _ _ _, _, _, _, _, h | .comp _ _ _ _ _ _, _, _, _, _, h | .iseq _, _, _, _, _, h | .irng1 _, _, _, _, _, h | .irng2 _ _, _, _, _, _, h
  | .ienum _, _, _, _, _, h | .izip _ _, _, _, _, _, h | .ikey _, _, _, _, _, h | .iitm _, _, _, _, _, h => by rw [evL] at h; all_goals first | cases h | (intros; contradiction) | skip
theorem k_call (c : Cn I Ex top sc N X) (f : Nat) {ps : List Str} {e : Expr} (h : I.fns[f]? = some (x, ps)) (hg : glB sc x = true) (ha : Ja I Ex X ma (e :: es)) (hl : (e :: es).length = ps.length := by rfl) (hm : lenE ma = (e :: es).length := by rfl)
    (he : starEach (e :: es) X.env = (false, eval e X.env) :: starEach es X.env := by rfl) (hpl : (backTo pos (starEach es X.env)).any (·.1) = false := by rfl) : Je I Ex X (.call f ma) (.Call (.Name x p) (e :: es) [] pos) := by
  obtain ⟨fa, fd, h1, h2, h3, h4⟩ := c.tb f x ps h
  exact (x_call (n := 0) h4 c.room (c.gl hg) h1 h2 h3 c.pass (glB_gl hg).2 ha hl (fun ls S ws S' q => (evL_len ma q).trans hm) he hpl).cast (by funext ls S; rw [evE])
theorem k_call0 (c : Cn I Ex top sc N X) (f : Nat) (h : I.fns[f]? = some (x, [])) (hg : glB sc x = true) : Je I Ex X (.call f .nil) (.Call (.Name x p) [] [] pos) := by
  obtain ⟨fa, fd, h1, h2, h3, h4⟩ := c.tb f x [] h
  exact (x_call0 h4 c.room (c.gl hg) h1 h2 h3 c.pass (glB_gl hg).2).cast (by funext ls S; rw [evE, evL]; try rfl)
section
variable {e : Expr}
theorem k_len (c : Cn I Ex top sc N X) (j : Nat) (h : I.bn[j]? = some ("len" : Str)) (hg : glB sc "len" = true) (ha : Ja I Ex X ma (e :: es)) (he : starEach (e :: es) X.env = (false, eval e X.env) :: starEach es X.env := by rfl)
    (hpl : (backTo pos (starEach es X.env)).any (·.1) = false := by rfl) : Je I Ex X (.blt .len ma) (.Call (.Name "len" p) (e :: es) [] pos) :=
  (x_bltF call_len (fun _ _ _ _ _ _ rel wr h => blen_ok rel wr h) (c.gl hg) (c.bn j _ h) PySem.boot_len ha (by decide) (by decide) he hpl).cast (by funext ls S; rw [evE])
theorem k_abs (c : Cn I Ex top sc N X) (j : Nat) (h : I.bn[j]? = some ("abs" : Str)) (hg : glB sc "abs" = true) (ha : Ja I Ex X ma (e :: es)) (he : starEach (e :: es) X.env = (false, eval e X.env) :: starEach es X.env := by rfl)
    (hpl : (backTo pos (starEach es X.env)).any (·.1) = false := by rfl) : Je I Ex X (.blt .abs ma) (.Call (.Name "abs" p) (e :: es) [] pos) :=
  (x_bltF call_abs (fun _ _ _ _ _ _ rel wr h => abs_ok rel wr h) (c.gl hg) (c.bn j _ h) (by decide +kernel) ha (by decide) (by decide) he hpl).cast (by funext ls S; rw [evE])
theorem k_max2 (c : Cn I Ex top sc N X) (j : Nat) (h : I.bn[j]? = some ("max" : Str)) (hg : glB sc "max" = true) (ha : Ja I Ex X ma (e :: es)) (he : starEach (e :: es) X.env = (false, eval e X.env) :: starEach es X.env := by rfl)
    (hpl : (backTo pos (starEach es X.env)).any (·.1) = false := by rfl) : Je I Ex X (.blt .max2 ma) (.Call (.Name "max" p) (e :: es) [] pos) :=
  (x_bltF (call_max2 c.calm) (fun _ _ _ _ _ _ rel wr h => max2_ok rel wr h) (c.gl hg) (c.bn j _ h) (by decide +kernel) ha (by decide) (by decide) he hpl).cast (by funext ls S; rw [evE])
theorem k_min2 (c : Cn I Ex top sc N X) (j : Nat) (h : I.bn[j]? = some ("min" : Str)) (hg : glB sc "min" = true) (ha : Ja I Ex X ma (e :: es)) (he : starEach (e :: es) X.env = (false, eval e X.env) :: starEach es X.env := by rfl)
    (hpl : (backTo pos (starEach es X.env)).any (·.1) = false := by rfl) : Je I Ex X (.blt .min2 ma) (.Call (.Name "min" p) (e :: es) [] pos) :=
  (x_bltF (call_min2 c.calm) (fun _ _ _ _ _ _ rel wr h => min2_ok rel wr h) (c.gl hg) (c.bn j _ h) (by decide +kernel) ha (by decide) (by decide) he hpl).cast (by funext ls S; rw [evE])
theorem k_int1 (c : Cn I Ex top sc N X) (j : Nat) (h : I.bn[j]? = some ("int" : Str)) (hg : glB sc "int" = true) (ha : Ja I Ex X ma (e :: es)) (he : starEach (e :: es) X.env = (false, eval e X.env) :: starEach es X.env := by rfl)
    (hpl : (backTo pos (starEach es X.env)).any (·.1) = false := by rfl) : Je I Ex X (.blt .int ma) (.Call (.Name "int" p) (e :: es) [] pos) :=
  (x_bltT call_int1 (fun _ _ _ _ _ _ rel wr h => int_ok rel wr h) (c.gl hg) (c.bn j _ h) (by decide +kernel) ha (by decide) (by decide) he hpl).cast (by funext ls S; rw [evE])
theorem k_tuple (c : Cn I Ex top sc N X) (j : Nat) (h : I.bn[j]? = some ("tuple" : Str)) (hg : glB sc "tuple" = true) (ha : Ja I Ex X ma (e :: es)) (he : starEach (e :: es) X.env = (false, eval e X.env) :: starEach es X.env := by rfl)
    (hpl : (backTo pos (starEach es X.env)).any (·.1) = false := by rfl) : Je I Ex X (.blt .tuple ma) (.Call (.Name "tuple" p) (e :: es) [] pos) :=
  (x_bltT call_tuple_of (fun _ _ _ _ _ _ rel wr h => tuple_ok rel wr h) (c.gl hg) (c.bn j _ h) (by decide +kernel) ha (by decide) (by decide) he hpl).cast (by funext ls S; rw [evE])
theorem k_all (c : Cn I Ex top sc N X) (j : Nat) (h : I.bn[j]? = some ("all" : Str)) (hg : glB sc "all" = true) (ha : Ja I Ex X ma (e :: es)) (he : starEach (e :: es) X.env = (false, eval e X.env) :: starEach es X.env := by rfl)
    (hpl : (backTo pos (starEach es X.env)).any (·.1) = false := by rfl) : Je I Ex X (.blt .all ma) (.Call (.Name "all" p) (e :: es) [] pos) :=
  (x_bltF (cr_all c.calm) (fun _ _ _ _ _ _ rel wr h => all_ok rel wr h) (c.gl hg) (c.bn j _ h) (by decide +kernel) ha (by decide) (by decide) he hpl).cast (by funext ls S; rw [evE])
theorem k_any (c : Cn I Ex top sc N X) (j : Nat) (h : I.bn[j]? = some ("any" : Str)) (hg : glB sc "any" = true) (ha : Ja I Ex X ma (e :: es)) (he : starEach (e :: es) X.env = (false, eval e X.env) :: starEach es X.env := by rfl)
    (hpl : (backTo pos (starEach es X.env)).any (·.1) = false := by rfl) : Je I Ex X (.blt .any ma) (.Call (.Name "any" p) (e :: es) [] pos) :=
  (x_bltF (cr_any c.calm) (fun _ _ _ _ _ _ rel wr h => any_ok rel wr h) (c.gl hg) (c.bn j _ h) (by decide +kernel) ha (by decide) (by decide) he hpl).cast (by funext ls S; rw [evE])
/-- a built-in class as a value -/
theorem pa_cls {T : String} {y : Str} {E : Nat → Hp → Prop} {FF : Loc → Store → Res W} (hg : Gl X y) (hm : X.mg y = none) (hv : bootBuiltins y = some (.type T)) (hn : y ≠ "__name__") (hd : (y == ("__debug__" : Str)) = false) (h1 : Pe X E FF a) (hs : starEach [a, .Name y p2] X.env = [(false, eval a X.env), (false, eval (.Name y p2) X.env)]) (hs2 : starEach [.Name y p2] X.env = [(false, eval (.Name y p2) X.env)]) :
    PA X [a, .Name y p2] (fun σ H Q => tE (WR X.K) X.gx E FF σ H fun v H1 => Q [v, .ty T] H1) := by
  refine PA.mono (pa_cons h1 (pa_cons (pe_bltn (v := .ty T) hg hm hv rfl hn hd) pa_nil hs2) (by rw [hs, hs2])) fun σ H Q h => h
theorem k_isi (c : Cn I Ex top sc N X) (j j2 : Nat) (ty : Ty) {y : Str} (h : I.bn[j]? = some ("isinstance" : Str)) (hg : glB sc "isinstance" = true) (h' : I.bn[j2]? = some y) (hg' : glB sc y = true) (hv : bootBuiltins y = some (.type (tyS ty))) (hn : y ≠ "__name__") (h1 : Je I Ex X ma a)
    (hs : starEach [a, .Name y p2] X.env = [(false, eval a X.env), (false, eval (.Name y p2) X.env)] := by rfl) (hs2 : starEach [.Name y p2] X.env = [(false, eval (.Name y p2) X.env)] := by rfl) (hpl : (backTo pos (starEach [.Name y p2] X.env)).any (·.1) = false := by rfl) :
    Je I Ex X (.isi ty ma) (.Call (.Name "isinstance" p) [a, .Name y p2] [] pos) := by
  refine Pe.cast (PE.mono (pe_callB call_isi (c.gl hg) (c.bn j _ h) (by decide +kernel) (pa_cls (c.gl hg') (c.bn j2 _ h') hv hn (glB_gl hg').2 h1 hs hs2) (by decide) (by decide) (by rw [hs, hs2]) hpl) fun σ H Q h => ?_) (F1 := fun ls S => (evE I.call ma ls S).bind (isiW ty)) (by funext ls S; rw [evE])
  exact sub1 (X := X) (R := WR X.K) (Fa := evE I.call ma) (f := isiW ty) (r := fun (v : V) (H : Hp) (Q : VK) => rIsi X.K [v, .ty (tyS ty)] H Q) (fun M S H x v Q rel wx h => isi_ok rel wx h) h
theorem k_cpy {m : Bool} (c : Cn I Ex top sc N X) (j : Nat) (h : I.bn[j]? = some ("list" : Str)) (hg : glB sc "list" = true) (h1 : Je I Ex X ma e) (he : starEach [e] X.env = [(false, eval e X.env)] := by rfl)
    (hpl : (backTo pos (starEach [] X.env)).any (·.1) = false := by rfl) : Je I Ex X (.cpy m ma) (.Call (.Name "list" p) [e] [] pos) := by
  have base := pe_callTy (pos := pos) (p := p) call_list_of (c.gl hg) (c.bn j _ h) (by decide +kernel) (pa_cons h1 pa_nil he) (by decide) (by decide) he hpl
  refine Pe.cast ?_ (F1 := fun ls S => (evE I.call ma ls S).bind (cpyW m)) (by funext ls S; rw [evE])
  cases m with
  | true =>
    refine PE.mono base fun σ H Q h => ?_
    exact sub1 (X := X) (R := WR X.K) (Fa := evE I.call ma) (f := cpyW true) (r := fun (v : V) (H : Hp) (Q : VK) => ∃ p ys, [v] = [V.ref p] ∧ (SqL X.K H p ys ∨ SqT X.K H p ys) ∧ ∀ l, H l = none → Q (.ref l) (upd H l (.lst ys)))
      (fun M S H x v Q rel wx h => cpy_ok rel wx h fun p vs xs hp d h => newL_th rel hp d h) h
  | false =>
    refine PE.mono (pe_lk base) fun σ H Q h => ?_
    exact sub1 (X := X) (R := WR X.K) (Fa := evE I.call ma) (f := cpyW false) (r := fun (v : V) (H : Hp) (Q : VK) => ∃ p ys, [v] = [V.ref p] ∧ (SqL X.K H p ys ∨ SqT X.K H p ys) ∧ ∀ l, H l = none → lkQ Q (.ref l) (upd H l (.lst ys)))
      (fun M S H x v Q rel wx h => cpy_ok rel wx h fun p vs xs hp d h => newL_fz rel hp d h) h
end
theorem k_app {apos : Pos} (h1 : Je I Ex X ma a) (h2 : Je I Ex X mb b) (hbase : attributeBase a "append" X.env (eval a X.env) = eval a X.env := by rfl)
    (hfew : ((backTo pos (starEach [b] X.env)).all (fun x => !x.1) && (backToKw pos (keywordEach [] X.env)).all (fun x => x.1.isSome) && decide ([b].length + ([] : List Keyword).length + (if ([] : List Keyword).isEmpty then 0 else 1) < 30)) = true := by rfl)
    (hline : (apos.endLine == pos.line) = true := by rfl) (hs : starEach [b] X.env = (false, eval b X.env) :: starEach [] X.env := by rfl) : Je I Ex X (.app ma mb) (.Call (.Attribute a "append" apos) [b] [] pos) :=
  (x_app h1 h2 hbase hfew hline hs).cast (by funext ls S; rw [evE])
theorem k_pop {apos : Pos} (h1 : Je I Ex X ma a) (hbase : attributeBase a "pop" X.env (eval a X.env) = eval a X.env := by rfl) (hline : (apos.endLine == pos.line) = true := by rfl) : Je I Ex X (.pop ma) (.Call (.Attribute a "pop" apos) [] [] pos) :=
  (x_pop h1 hbase hline).cast (by funext ls S; rw [evE])

/-! ### what is walked, comprehensions -/
variable {tg : Expr}
theorem ki_seq (h : Je I Ex X ma a) : Ji I Ex X (.iseq ma) tg a := (i_seq h).cast (by funext ls S; rw [evI]; try rfl)
theorem ki_rng1 (c : Cn I Ex top sc N X) (j : Nat) (hj : I.bn[j]? = some ("range" : Str)) (hg : glB sc "range" = true) (h : Je I Ex X ma a) (hs : starEach [a] X.env = [(false, eval a X.env)] := by rfl) : Ji I Ex X (.irng1 ma) tg (.Call (.Name "range" p) [a] [] pos) :=
  (i_rng1 (c.gl hg) (c.bn j _ hj) h hs).cast (by funext ls S; rw [evI]; try rfl)
theorem ki_rng2 (c : Cn I Ex top sc N X) (j : Nat) (hj : I.bn[j]? = some ("range" : Str)) (hg : glB sc "range" = true) (h1 : Je I Ex X ma a) (h2 : Je I Ex X mb b) (hs : starEach [a, b] X.env = [(false, eval a X.env), (false, eval b X.env)] := by rfl) (hs2 : starEach [b] X.env = [(false, eval b X.env)] := by rfl) :
    Ji I Ex X (.irng2 ma mb) tg (.Call (.Name "range" p) [a, b] [] pos) := (i_rng2 (c.gl hg) (c.bn j _ hj) h1 h2 hs hs2).cast (by funext ls S; rw [evI]; try rfl)
/-- targets -/
theorem kg_nm (c : Cn I Ex top sc N X) (i : Nat) (hN : N[i]? = some x) (hx : asgB top sc x = true) : PG X (.Name x pos) (gT X.K (.nm i)) := pg_name c.nd (c.at hN) (c.loc hx).1 (c.loc hx).2
theorem kgs_nil : PGs X [] (gNames []) := pgs_nil
theorem kgs_cons (c : Cn I Ex top sc N X) (i : Nat) {js : List Nat} (hN : N[i]? = some x) (hx : asgB top sc x = true) (h : PGs X es (gNames js)) (hs : (assignEach (.Name x pos :: es) X.env).map (·.2) = assign (.Name x pos) X.env :: (assignEach es X.env).map (·.2) := by rfl) :
    PGs X (.Name x pos :: es) (gNames (i :: js)) := pgs_cons (kg_nm c i hN hx) h hs
theorem kg_tp (c : Cn I Ex top sc N X) {js : List Nat} {k : Nat} (h : PGs X es (gNames js)) (hn : (assignEach es X.env).length = js.length := by rfl) (hst : (assignEach es X.env).findIdx? (·.1) = none := by rfl) : PG X (.Tuple es k pos) (gT X.K (.tp js)) := pg_tup c.calm h hn hst

def condF (I : Inf) (m : MI.E) : Loc → Store → Res W := fun l S => evC I.call m l S
abbrev Jc (I : Inf) (X : Cx) (m : MI.E) (ifs : List Expr) : Prop := Pc X (condF I m) ifs
theorem kc_nil : Jc I X .omit [] := by
  have e : condF I .omit = fun _ S => .ok (.d (.bool true)) S := by funext ls S; unfold condF; rw [evC]
  unfold Jc; rw [e]; exact c_nil
theorem kc_one (h : Jt I E0 X ma a) : Jc I X (.cons ma .nil) [a] := by
  have e : condF I (.cons ma .nil) = evE I.call ma := by funext ls S; unfold condF; rw [evC]
  unfold Jc; rw [e]; exact c_one h
theorem k_comp {m : Bool} {scope : Scope} {elt iter : Expr} {ifs : List Expr} {me ms mc : MI.E} {tgm : Tg} (c : Cn I Ex top sc N X) (own : List (Str × Nat)) (hb : blkC N sc scope own = true) (ho : ∀ j ∈ tgSlots tgm, j ∈ own.map (·.2)) (hi : Ji I Ex X ms tg iter)
    (hg : ∀ X', Cn I E0 false (relS scope sc) N X' → PG X' tg (gT X'.K tgm)) (ht : ∀ X', Cn I E0 false (relS scope sc) N X' → Jc I X' mc ifs) (he : ∀ X', Cn I E0 false (relS scope sc) N X' → Je I E0 X' me elt)
    (hs : ∀ x, foldedSetIterable iter X.env x = pure x := by intro _; rfl) : Je I Ex X (.comp m me tgm ms mc (own.map (·.2))) (.ListComp elt [⟨tg, iter, ifs, 0⟩] scope pos) := by
  have ok : BlkOk X.N X.env.scope scope own := by rw [c.eN, c.esc]; exact blkOk_by hb
  exact (x_comp c.calm c.nd hi ok ho (fun s H C cl fp => hg _ (c.blk ok.kind s H C cl fp)) (fun s H C cl fp => ht _ (c.blk ok.kind s H C cl fp)) (fun s H C cl fp => he _ (c.blk ok.kind s H C cl fp)) hs).cast (by funext ls S; rw [evE]; try rfl)

/-! ### statements -/
variable {st : Stmt} {rest : List Stmt} {m m1 m2 : M} {body l1 l2 : List Stmt}
theorem ks_nil : Jb I Ex X F .skip [] := s_nil.cast (by funext ls S; rw [exM])
theorem ks_one (h1 : Js I Ex X F m st) : Jb I Ex X F m [st] := s_one h1
theorem ks_cons (h1 : Js I Ex X F m1 st) (h2 : Jb I Ex X F m2 rest) : Jb I Ex X F (.seq m1 m2) (st :: rest) := (s_cons h1 h2).cast (by funext ls S; rw [exM]; try rfl)
theorem ks_pass : Js I Ex X F .skip (.Pass pos) := s_pass.cast (by funext ls S; rw [exM])
theorem ks_expr (h1 : Je I Ex X ma a) (hs : swapsWith a none pos.line X.env = pure false := by rfl) : Js I Ex X F (.exp ma) (.Expr a pos) := (s_expr h1 hs).cast (by funext ls S; rw [exM])
theorem ks_ret (h1 : Je I Ex X ma a) : Js I Ex X F (.ret ma) (.Return (some a) pos) := (s_ret h1).cast (by funext ls S; rw [exM])
theorem ks_retN : Js I Ex X F (.ret (.cst .none)) (.Return none pos) := s_retN.cast (by funext ls S; rw [exM, evE]; try rfl)
theorem ks_if (h1 : Jt I Ex X ma a) (h2 : Jb I Ex X F m1 l1) (h3 : Jb I Ex X F m2 l2) : Js I Ex X F (.iff ma m1 m2) (.If a l1 l2 pos) := (s_if h1 h2 h3).cast (by funext ls S; rw [exM])
theorem ks_never : Js I Ex X F .never st := s_never.cast (by funext ls S; rw [exM])
theorem ks_set (c : Cn I Ex top sc N X) (i : Nat) {pos' : Pos} (hN : N[i]? = some x) (hx : asgB top sc x = true) (h1 : Je I Ex X ma a) (hs : swapsWith a (some (.Name x pos')) pos.line X.env = pure false := by rfl) : Js I Ex X F (.asg (.nm i) ma) (.Assign [.Name x pos'] a pos) :=
  (s_set c.nd (c.at hN) (c.loc hx).1 h1 hs (c.loc hx).2).cast (by funext ls S; rw [exM]; try rfl)
theorem ks_asg {js : List Nat} (h1 : Je I Ex X ma a) (hg : PG X tg (gT X.K (.tp js))) (hs : swapsWithSole [tg] a pos.line X.env = pure false := by rfl) (hw : swappedStores [tg] a X.env = pure none := by rfl) (he : (assignEach [tg] X.env).map (·.2) = [assign tg X.env] := by rfl) :
    Js I Ex X F (.asg (.tp js) ma) (.Assign [tg] a pos) := (s_asg h1 hg (fun _ e => nomatch e) hs hw he).cast (by funext ls S; rw [exM])
theorem ks_setLc {m : Bool} {scope : Scope} {elt iter : Expr} {ifs : List Expr} {me ms mc : MI.E} {tgm : Tg} {y : Str} {py spos : Pos} (c : Cn I Ex top sc N X) (i : Nat) (hy : N[i]? = some y) (hyl : locB sc y = true)
    (hl : (py.line == pos.line) = true) (hna : (scope.names.any fun (n, k) => n == y && (k == .local || k == .cell)) = false)
    (own : List (Str × Nat)) (hb : blkC N sc scope own = true) (ho : ∀ j ∈ tgSlots tgm, j ∈ own.map (·.2)) (hi : Ji I Ex X ms tg iter)
    (hg : ∀ X', Cn I E0 false (relS scope sc) N X' → PG X' tg (gT X'.K tgm)) (ht : ∀ X', Cn I E0 false (relS scope sc) N X' → Jc I X' mc ifs) (he : ∀ X', Cn I E0 false (relS scope sc) N X' → Je I E0 X' me elt)
    (hs : ∀ x, foldedSetIterable iter X.env x = pure x := by intro _; rfl) : Js I Ex X F (.asg (.nm i) (.comp m me tgm ms mc (own.map (·.2)))) (.Assign [.Name y py] (.ListComp elt [⟨tg, iter, ifs, 0⟩] scope pos) spos) := by
  have ok : BlkOk X.N X.env.scope scope own := by rw [c.eN, c.esc]; exact blkOk_by hb
  have hyl' : X.env.scope.names.lookup y = some .local := by rw [c.esc]; exact locB_loc hyl
  have hk : X.env.scope.kind = .function := by rw [c.esc]; exact c.kind
  exact (s_setLc c.calm c.nd (c.at hy) hyl' (sw_true hk hyl' hl hna) hi ok ho (fun s H C cl fp => hg _ (c.blk ok.kind s H C cl fp)) (fun s H C cl fp => ht _ (c.blk ok.kind s H C cl fp)) (fun s H C cl fp => he _ (c.blk ok.kind s H C cl fp)) hs).cast (by funext ls S; rw [exM, evE]; try rfl)
theorem ks_for {tgm : Tg} (c : Cn I Ex top sc N X) (h1 : Ji I E0 X.nox ma tg a) (hg : PG X.nox tg (gT X.K tgm)) (h2 : Jb I E0 X.nox F m body) (hs : ∀ x, foldedSetIterable a X.env x = pure x := by intro _; rfl) : Js I Ex X F (.for tgm ma m) (.For tg a body [] pos) :=
  (s_for c.calm h1 hg h2 hs).cast (by funext ls S; rw [exM])
theorem ks_whl (h1 : Jt I E0 X.nox ma a) (h2 : Jb I E0 X.nox F m body) : Js I Ex X F (.whl ma m) (.While a body [] pos) := (s_while h1 h2).cast (by funext ls S; rw [exM])
theorem ks_setx {ev : Expr} {me : MI.E} {tp : Pos} (h0 : Je I Ex X me ev) (h1 : Je I Ex X ma a) (h2 : Je I Ex X mb b) (ha : ∀ v, assign (.Subscript a b tp) X.env v = (do
      let ov ← holding [v] (eval a X.env)
      let iv ← holding [v, ov] (eval b X.env)
      standAt tp
      holding [v, ov, iv] (setItem ov iv v)
      release [v, ov, iv] []) := by intro _; rfl) (hs : swapsWithSole [.Subscript a b tp] ev pos.line X.env = pure false := by rfl) : Js I Ex X F (.setx ma mb me) (.Assign [.Subscript a b tp] ev pos) := (s_setx h0 h1 h2 ha hs).cast (by funext ls S; rw [exM])
/-- several targets -/
abbrev Jg (I : Inf) (Ex : XK) (X : Cx) (lv : LV) (t : Expr) : Prop := PG X t (gLV X.gx (En I Ex) I.call lv)
abbrev Jgs (I : Inf) (Ex : XK) (X : Cx) (lv : List LV) (t : List Expr) : Prop := PGs X t (gLVs X.gx (En I Ex) I.call lv)
theorem kl_nm (c : Cn I Ex top sc N X) (i : Nat) (hN : N[i]? = some x) (hx : asgB top sc x = true) : Jg I Ex X (.nm i) (.Name x pos) := g_nm c.nd (c.at hN) (c.loc hx).1 (c.loc hx).2
theorem kl_ix (h1 : Je I Ex X ma a) (h2 : Je I Ex X mb b) (ha : ∀ v, assign (.Subscript a b pos) X.env v = (do
      let ov ← holding [v] (eval a X.env)
      let iv ← holding [v, ov] (eval b X.env)
      standAt pos
      holding [v, ov, iv] (setItem ov iv v)
      release [v, ov, iv] []) := by intro _; rfl) : Jg I Ex X (.ix ma mb) (.Subscript a b pos) := g_ix h1 h2 ha
theorem kls_nil : Jgs I Ex X [] [] := g_nil
theorem kls_cons {lv : LV} {lvs : List LV} {e : Expr} (h1 : Jg I Ex X lv e) (h2 : Jgs I Ex X lvs es) (hs : (assignEach (e :: es) X.env).map (·.2) = assign e X.env :: (assignEach es X.env).map (·.2) := by rfl) : Jgs I Ex X (lv :: lvs) (e :: es) := g_cons h1 h2 hs
theorem ks_par {lvs : List LV} {ts : List Expr} {kt k2 : Nat} {pt pt2 : Pos} (c : Cn I Ex top sc N X) (h1 : Ja I Ex X ma es) (h2 : Jgs I Ex X lvs ts) (hl : lenE ma = ts.length := by rfl) (hn : (assignEach ts X.env).length = ts.length := by rfl) (hst : (assignEach ts X.env).findIdx? (·.1) = none := by rfl) (hz : ts.length ≤ 1000 := by decide)
    (hw : swappedStores [.Tuple ts kt pt] (.Tuple es k2 pt2) X.env = pure none := by rfl) : Js I Ex X F (.par lvs ma) (.Assign [.Tuple ts kt pt] (.Tuple es k2 pt2) pos) :=
  (s_par c.calm h1 h2 (fun ls S ws S1 q => (evL_len ma q).trans hl) hn hst hz hw).cast (by funext ls S; rw [exM])
end
end MI

/-! MiL: stores of several plain names; the defs, level by level; the law's end (own work). -/
namespace MI
open PySem PySem.Spec PyProof.Rows L2

def isStar : Expr → Bool
  | .Starred .. => true
  | _ => false
theorem sw2_of {env : Env} {x y : Str} {px py pt pt2 : Pos} {kt k2 : Nat} {a b : Expr} (hk : env.scope.kind = .function) (hx : env.scope.names.lookup x = some .local) (hy : env.scope.names.lookup y = some .local)
    (hl : (py.line == px.line) = true) (hxy : (x == y) = false) (hs : ([a, b].any fun | .Starred .. => true | _ => false) = false) (hf : [a, b].all (foldedForSure 8) = false) (hc : [a, b].all (constantsAlone 8) = false) :
    swappedStores [.Tuple [.Name x px, .Name y py] kt pt] (.Tuple [a, b] k2 pt2) env = pure (some [x, y]) := by
  have kx : env.kindOf x = some .local := hx
  have ky : env.kindOf y = some .local := hy
  have hb : env.blockKind = .function := by unfold Env.blockKind; rw [hk]; rfl
  have hyx : (y == x) = false := by
    rw [beq_eq_false_iff_ne] at hxy ⊢
    exact fun e => hxy e.symm
  unfold swappedStores
  simp only [hb, kx, ky, hs, hf, hc, hl, Expr.pos, List.filterMap_cons, List.filterMap_nil, List.head?_cons, Option.map_some, Option.getD_some, beq_self_eq_true, Bool.and_self, if_true, Bool.false_eq_true, if_false, List.length_cons, List.length_nil, bne_self_eq_false, Bool.or_false, Bool.or_self, Bool.not_true]
  simp [List.eraseDups, List.eraseDupsBy, List.eraseDupsBy.loop, hxy, hyx]
  intro h
  simp only [List.any_cons, List.any_nil, Bool.or_false, Bool.or_eq_false_iff] at hs
  rcases h with h | h
  · exact absurd (hs.1.symm.trans h) (by decide)
  · exact absurd (hs.2.symm.trans h) (by decide)
theorem sw3_of {env : Env} {x y z : Str} {px py pz pt pt2 : Pos} {kt k2 : Nat} {a b c : Expr} (hk : env.scope.kind = .function) (hx : env.scope.names.lookup x = some .local) (hy : env.scope.names.lookup y = some .local) (hz : env.scope.names.lookup z = some .local)
    (hl : (py.line == px.line) = true) (hl2 : (pz.line == px.line) = true) (hxy : (x == y) = false) (hxz : (x == z) = false) (hyz : (y == z) = false) (hs : ([a, b, c].any fun | .Starred .. => true | _ => false) = false) (hf : [a, b, c].all (foldedForSure 8) = false) (hc : [a, b, c].all (constantsAlone 8) = false) :
    swappedStores [.Tuple [.Name x px, .Name y py, .Name z pz] kt pt] (.Tuple [a, b, c] k2 pt2) env = pure (some [x, y, z]) := by
  have kx : env.kindOf x = some .local := hx
  have ky : env.kindOf y = some .local := hy
  have kz : env.kindOf z = some .local := hz
  have hb : env.blockKind = .function := by unfold Env.blockKind; rw [hk]; rfl
  have hyx : (y == x) = false := by
    rw [beq_eq_false_iff_ne] at hxy ⊢
    exact fun e => hxy e.symm
  have hzx : (z == x) = false := by
    rw [beq_eq_false_iff_ne] at hxz ⊢
    exact fun e => hxz e.symm
  have hzy : (z == y) = false := by
    rw [beq_eq_false_iff_ne] at hyz ⊢
    exact fun e => hyz e.symm
  unfold swappedStores
  simp only [hb, kx, ky, kz, hs, hf, hc, hl, hl2, Expr.pos, List.filterMap_cons, List.filterMap_nil, List.head?_cons, Option.map_some, Option.getD_some, beq_self_eq_true, Bool.and_self, if_true, Bool.false_eq_true, if_false, List.length_cons, List.length_nil, bne_self_eq_false, Bool.or_false, Bool.or_self, Bool.not_true]
  simp [List.eraseDups, List.eraseDupsBy, List.eraseDupsBy.loop, hxy, hyx, hxz, hzx, hyz, hzy]
  intro h
  simp only [List.any_cons, List.any_nil, Bool.or_false, Bool.or_eq_false_iff] at hs
  rcases h with h | h | h
  · exact absurd (hs.1.symm.trans h) (by decide)
  · exact absurd (hs.2.1.symm.trans h) (by decide)
  · exact absurd (hs.2.2.symm.trans h) (by decide)

section
variable {I : Inf} {Ex : XK} {top : Bool} {sc : Scope} {N : List Str} {X : Cx} {a b d : Expr} {ma mb md : MI.E} {pos p p2 p3 : Pos} {es : List Expr} {x y z : Str} {F : Nat}
theorem ks_swap2 {px py pt pt2 : Pos} {kt k2 : Nat} (c : Cn I Ex top sc N X) (i j : Nat) (hi : N[i]? = some x) (hj : N[j]? = some y) (hij : i ≠ j) (hx : locB sc x = true) (hy : locB sc y = true) (ha : Ja I Ex X ma [a, b]) (hxy : (x == y) = false)
    (hm : lenE ma = 2 := by rfl) (hl : (py.line == px.line) = true := by rfl) (hs : ([a, b].any fun | .Starred .. => true | _ => false) = false := by rfl) (hf : [a, b].all (foldedForSure 8) = false := by with_unfolding_all rfl) (hc : [a, b].all (constantsAlone 8) = false := by with_unfolding_all rfl) :
    Js I Ex X F (.par [.nm i, .nm j] ma) (.Assign [.Tuple [.Name x px, .Name y py] kt pt] (.Tuple [a, b] k2 pt2) pos) := by
  have hk : X.env.scope.kind = .function := by rw [c.esc]; exact c.kind
  have lx : X.env.scope.names.lookup x = some .local := by rw [c.esc]; exact locB_loc hx
  have ly : X.env.scope.names.lookup y = some .local := by rw [c.esc]; exact locB_loc hy
  exact (s_swap2 c.calm c.nd (c.at hi) (c.at hj) hij lx ly ha (sw2_of hk lx ly hl hxy hs hf hc) (fun ls S ws S1 q => (evL_len ma q).trans hm)).cast (by funext ls S; rw [exM])
theorem ks_swap3 {px py pz pt pt2 : Pos} {kt k2 : Nat} (c : Cn I Ex top sc N X) (i j k : Nat) (hi : N[i]? = some x) (hj : N[j]? = some y) (hkk : N[k]? = some z) (hij : i ≠ j) (hik : i ≠ k) (hjk : j ≠ k) (hx : locB sc x = true) (hy : locB sc y = true) (hz : locB sc z = true) (ha : Ja I Ex X ma [a, b, d])
    (hxy : (x == y) = false) (hxz : (x == z) = false) (hyz : (y == z) = false)
    (hm : lenE ma = 3 := by rfl) (hl : (py.line == px.line) = true := by rfl) (hl2 : (pz.line == px.line) = true := by rfl) (hs : ([a, b, d].any fun | .Starred .. => true | _ => false) = false := by rfl) (hf : [a, b, d].all (foldedForSure 8) = false := by with_unfolding_all rfl) (hc : [a, b, d].all (constantsAlone 8) = false := by with_unfolding_all rfl) :
    Js I Ex X F (.par [.nm i, .nm j, .nm k] ma) (.Assign [.Tuple [.Name x px, .Name y py, .Name z pz] kt pt] (.Tuple [a, b, d] k2 pt2) pos) := by
  have hk : X.env.scope.kind = .function := by rw [c.esc]; exact c.kind
  have lx : X.env.scope.names.lookup x = some .local := by rw [c.esc]; exact locB_loc hx
  have ly : X.env.scope.names.lookup y = some .local := by rw [c.esc]; exact locB_loc hy
  have lz : X.env.scope.names.lookup z = some .local := by rw [c.esc]; exact locB_loc hz
  exact (s_swap3 c.calm c.nd (c.at hi) (c.at hj) (c.at hkk) hij hik hjk lx ly lz ha (sw3_of hk lx ly lz hl hl2 hxy hxz hyz hs hf hc) (fun ls S ws S1 q => (evL_len ma q).trans hm)).cast (by funext ls S; rw [exM])
end

/-! ### the defs, level by level -/
/-- the text of a program: each def's name, parameters, names; the builtins, the constants -/
structure Tx where
  fns : List (Str × List Str)
  bn : List Str
  gs : List (Str × D)
def Tx.inf (T : Tx) (cv : Nat → Value) (P : List Def) (F k : Nat) : Inf := ⟨cv, callP P F k, k, T.fns, T.bn, T.gs⟩

/-- what the top has written, as far as the text T rests on it -/
structure Wr (T : Tx) (P : Program) (w : World) (K : PySem.W.Frag) (mg : Str → Option Value) : Prop where
  bn : ∀ (j : Nat) (x : Str), T.bn[j]? = some x → mg x = none
  gs : ∀ (j : Nat) (x : Str) (d : D), T.gs[j]? = some (x, d) → ∃ (u : Value) (v : V), mg x = some u ∧ RelV v u ∧ ∀ H, DR K H v d
/-- the table of the defs at a level -/
def Tab (T : Tx) (cv : Nat → Value) (PD : List Def) (F : Nat) (P : Program) (w : World) (K : PySem.W.Frag) (mg : Str → Option Value) (base : Heap) (A : Nat → Addr) (fd : Nat → FuncData) (k : Nat) : Prop :=
  ∀ (j : Nat) (x : Str) (ps : List Str), T.fns[j]? = some (x, ps) → FnOk P w K mg base (L2.CX P w) k (A j) (fd j) ps (spM ⟨P, w, K⟩ cv (callP PD F k) j ps.length)

theorem leave_ok {G : Gx} {E : Nat → Hp → Prop} {M : List Addr} {S : Store} {H : Hp} {r : Res Fl} {Q : VK} (rel : Rel G M S H) (h : OK (WR G.K) G E M H (leave S.length r) Q) :
    OK (FR G) G E M H r (ends { nx := fun _ H' => Q .non H', rt := Q }) := by
  have hl := rel.len
  cases r with
  | stuck => exact h
  | ex c S' =>
    intro M' H' x rel'
    have h : OK (WR G.K) G E M H (.ex c (S'.take S.length)) Q := h
    obtain ⟨t, rfl⟩ := x.p
    have r2 := rel'.take S.length
    rw [← hl, List.take_left] at r2
    rw [← hl] at h
    exact h M H' ⟨x.g, Pre.refl _, x.fr, fun a h1 h2 => absurd h1 h2⟩ r2
  | ok f S' =>
    intro M' H' b x rel' fr
    obtain ⟨t, rfl⟩ := x.p
    have r2 := rel'.take S.length
    rw [← hl, List.take_left] at r2
    have x2 : Ext M H M H' := ⟨x.g, Pre.refl _, x.fr, fun a h1 h2 => absurd h1 h2⟩
    cases f with
    | nx l =>
      cases b with
      | inr v => exact fr.elim
      | inl σ =>
        have h : OK (WR G.K) G E M H (.ok (.d .none) (S'.take S.length)) Q := h
        rw [← hl] at h
        exact h.fin' (b := V.non) x2 r2 .non
    | rt w =>
      cases b with
      | inl σ => exact fr.elim
      | inr v =>
        cases w with
        | d y =>
          have h : OK (WR G.K) G E M H (.ok (.d y) (S'.take S.length)) Q := h
          rw [← hl] at h
          exact h.fin' (b := v) x2 r2 fr
        | r i =>
          by_cases c : i < S.length
          · have e : leave S.length (.ok (.rt (.r i)) S') = .ok (.r i) (S'.take S.length) := by
              show (if i < S.length then _ else _) = _
              rw [if_pos c]
            rw [e, ← hl] at h
            obtain ⟨a, hm, rfl⟩ := fr
            refine h.fin' (b := V.ref a) x2 r2 ⟨a, ?_, rfl⟩
            rw [List.getElem?_append_left (by rw [hl]; exact c)] at hm
            exact hm
          · have e : leave S.length (.ok (.rt (.r i)) S') = match S'[i]? with
                | some o => .ok (.r S.length) (S'.take S.length ++ [o])
                | none => .stuck := by
              show (if i < S.length then _ else _) = _
              rw [if_neg c]
              try rfl
            rw [e] at h
            cases q : S'[i]? with
            | none => rw [q] at h; exact h.elim
            | some o =>
              rw [q] at h
              have h : OK (WR G.K) G E M H (.ok (.r S.length) (S'.take S.length ++ [o])) Q := h
              obtain ⟨a, hm, rfl⟩ := fr
              have nm : a ∉ M := fun hin => by
                obtain ⟨j, hj, ej⟩ := List.getElem_of_mem hin
                have ej' : (M ++ t)[j]? = some a := by rw [List.getElem?_append_left hj, List.getElem?_eq_getElem hj, ej]
                obtain ⟨l1, q1⟩ := List.getElem?_eq_some_iff.mp hm
                obtain ⟨l2, q2⟩ := List.getElem?_eq_some_iff.mp ej'
                have := (List.getElem_inj rel'.nd).mp (q1.trans q2.symm)
                omega
              have x3 : Ext M H (M ++ [a]) H' := ⟨x.g, ⟨[a], rfl⟩, x.fr, fun b h1 h2 => by
                rcases List.mem_append.mp h1 with h1 | h1
                · exact absurd h1 h2
                · have e : b = a := by simpa using h1
                  rw [e]
                  exact x.nw a (List.mem_of_getElem? hm) nm⟩
              have r3 : Rel G M (S'.take S.length) H' := by rw [← hl]; exact r2
              have e2 : (S'.take S.length).length = M.length := r3.len.symm
              refine h.fin' (b := V.ref a) x3 ?_ ⟨a, ?_, rfl⟩
              · refine ⟨by rw [List.length_append, List.length_append, e2]; rfl, ?_, fun b hb => ?_, fun j so b h1 h2 => ?_⟩
                · rw [List.nodup_append]
                  refine ⟨r3.nd, by simp, fun b hb b2 hb2 => ?_⟩
                  have : b2 = a := by simpa using hb2
                  rw [this]
                  exact fun e => nm (by rw [← e]; exact hb)
                · rcases List.mem_append.mp hb with hb | hb
                  · exact r3.on b hb
                  · have e : b = a := by simpa using hb
                    rw [e]
                    exact rel'.on a (List.mem_of_getElem? hm)
                · by_cases hj : j < (S'.take S.length).length
                  · rw [List.getElem?_append_left hj] at h1
                    rw [List.getElem?_append_left (by rw [← e2]; exact hj)] at h2
                    exact r3.ob j so b h1 h2
                  · have hj' : j = (S'.take S.length).length := by
                      have := (List.getElem?_eq_some_iff.mp h1).1
                      rw [List.length_append, List.length_singleton] at this
                      omega
                    rw [hj', List.getElem?_append_right (Nat.le_refl _)] at h1
                    rw [hj', e2, List.getElem?_append_right (Nat.le_refl _)] at h2
                    simp at h1 h2
                    subst h1 h2
                    exact rel'.ob i o a q hm
              · rw [List.getElem?_append_right (by rw [hl]; exact Nat.le_refl _), hl, Nat.sub_self]
                rfl
theorem LR.start {G : Gx} {M : List Addr} {H : Hp} {n : Nat} : ∀ {vs : List V} {ws : List W}, WRs G.K M H vs ws → ∀ (N : List Str), N.length = n → LR G M H (L2.start N vs) (startL n ws) := by
  intro vs ws h N hN
  have hl := h.length
  unfold L2.start startL
  rw [hN, hl]
  refine ⟨by rw [List.length_append, List.length_append, List.length_map, List.length_map, List.length_replicate, List.length_replicate, hl], fun j w e => ?_⟩
  have key : ∀ {vs : List V} {ws : List W}, WRs G.K M H vs ws → ∀ (j m : Nat) (w : W), (ws.map some ++ List.replicate m none)[j]? = some (some w) → ∃ v, (vs.map some ++ List.replicate m none)[j]? = some (some v) ∧ WR G.K M H v w := by
    intro vs ws h
    induction h with
    | nil =>
      intro j m w e
      simp only [List.map_nil, List.nil_append] at e
      have := List.getElem?_eq_some_iff.mp e
      obtain ⟨_, e⟩ := this
      rw [List.getElem_replicate] at e
      cases e
    | cons r t ih =>
      intro j m w e
      cases j with
      | zero =>
        simp at e
        subst e
        exact ⟨_, by simp, r⟩
      | succ j =>
        simp only [List.map_cons, List.cons_append, List.getElem?_cons_succ] at e ⊢
        exact ih j m w e
  exact key h j _ w e
/-- a def keeps its promise one level up, from its text -/
theorem def_ok {T : Tx} {cv : Nat → Value} {PD : List Def} {F : Nat} {P : Program} {w : World} {K : PySem.W.Frag} {mg : Str → Option Value} {base : Heap} {A : Nat → Addr} {fd : Nat → FuncData} {k f : Nat} {x : Str} {ps N : List Str} {st : Stmt} {d : Def}
    (wr : Wr T P w K mg) (hA : ∀ (j : Nat) (x : Str) (ps : List Str), T.fns[j]? = some (x, ps) → mg x = some (.ref (A j)) ∧ PySem.W.keepIn K (.ref (A j)) = true ∧ Binds K (fd j) ps [])
    (tb : Tab T cv PD F P w K mg base A fd k) (hf : T.fns[f]? = some (x, ps)) (Fn : Fun K x x st (A f) (fd f)) (S : FnScope N ps (defScope st)) (hd : PD[f]? = some d) (hps : d.ps = ps.length) (hn : d.n = N.length)
    (body : ∀ (Ex : XK) (X : Cx), Cn (T.inf cv PD F k) Ex true (defScope st) N X → Jb (T.inf cv PD F k) Ex X F d.body (defBody st)) :
    FnOk P w K mg base (L2.CX P w) (k + 1) (A f) (fd f) ps (spM ⟨P, w, K⟩ cv (callP PD F (k + 1)) f ps.length) := by
  refine Fn.okX S (fun vs H Q E h => h.1) fun cdv Ar outer s H vs Q E hr h => ?_
  obtain ⟨hl, M, St, ws, rel, wrs, h⟩ := h
  refine ⟨_, body E _ ⟨rfl, rfl, hr, rfl, S.nd, S.kind, fun _ _ => rfl, ?_, fun j y qs e => ⟨A j, fd j, (hA j y qs e).1, (hA j y qs e).2.1, (hA j y qs e).2.2, tb j y qs e⟩, wr.bn, wr.gs⟩, ?_⟩
  · exact passes_call (W := fun cls d _ H' => E cls d H') (takes_of (E := E) rfl rfl rfl rfl) fun _ _ _ _ h => h
  · refine ⟨M, startL d.n ws, St, rel, LR.start wrs N hn.symm, ?_⟩
    have hw : ws.length = d.ps := by rw [← wrs.length, hl, hps]
    have e : callP PD F (k + 1) f ws St = leave St.length (exM (callP PD F k) F d.body (startL d.n ws) St) := by
      show (match PD[f]? with | some d => if ws.length = d.ps then leave St.length (exM (callP PD F k) F d.body (startL d.n ws) St) else .stuck | none => .stuck) = _
      rw [hd]
      simp only [hw, if_true]
    rw [e] at h
    exact leave_ok rel h
/-- no call at all at level 0 -/
theorem tab0 {T : Tx} {cv : Nat → Value} {PD : List Def} {F : Nat} {P : Program} {w : World} {K : PySem.W.Frag} {mg : Str → Option Value} {base : Heap} {A : Nat → Addr} {fd : Nat → FuncData} : Tab T cv PD F P w K mg base A fd 0 := by
  intro j x ps _
  refine ⟨fun vs H Q E h => h.1, fun Ar outer s H args us vs Q E _ _ _ _ h => ?_⟩
  obtain ⟨_, M, S, ws, _, _, h⟩ := h
  exact h.elim
/-! ### the law's end -/
/-- with any number of turns -/
def spX (G : Gx) (cv : Nat → Value) (PD : List Def) (k f n : Nat) : Sp := fun vs H Q Ex => ∃ F, spM G cv (callP PD F k) f n vs H Q Ex
theorem fnX {P : Program} {w : World} {K : PySem.W.Frag} {mg : Str → Option Value} {base : Heap} {cv : Nat → Value} {PD : List Def} {k f n : Nat} {fa : Addr} {fd : FuncData} {ps : List Str} {CX : CXT}
    (h : ∀ F, FnOk P w K mg base CX k fa fd ps (spM ⟨P, w, K⟩ cv (callP PD F k) f n)) : FnOk P w K mg base CX k fa fd ps (spX ⟨P, w, K⟩ cv PD k f n) :=
  ⟨fun vs H Q E ⟨F, q⟩ => (h F).len vs H Q E q, fun A outer s H args us vs Q E hr he hb hv ⟨F, q⟩ => (h F).run A outer s H args us vs Q E hr he hb hv q⟩
theorem drs_int {K : PySem.W.Frag} {H : Hp} : ∀ ns : List Int, DRs K H (ns.map V.int) (ns.map PyData.int)
  | [] => .nil
  | _ :: ns => .cons (.int _) (drs_int ns)
theorem hspX {G : Gx} {cv : Nat → Value} {PD : List Def} {k f : Nat} {H : Hp} {a : Addr} {ns : List Int} (hO : Only H) (hS : SqL G.K H a (ns.map V.int)) (h : ∃ F S', callP PD F k f [.d (.list (ns.map .int))] [] = .ok (.d (.bool true)) S') :
    spX G cv PD k f 1 [.ref a] H (fun v _ => v = .bl true) fun _ _ _ => False := by
  obtain ⟨F, S', h⟩ := h
  have fz : FzL G.K H a (ns.map V.int) := by
    rcases hS with (hS | hS) | hS
    · rcases hO a with q | ⟨o, xs, q⟩
      · rw [q] at hS; cases hS
      · rw [q] at hS; cases hS
    · exact .inl hS
    · exact .inr hS
  refine ⟨F, rfl, [], [], [.d (.list (ns.map .int))], ⟨rfl, List.nodup_nil, fun a h => (List.not_mem_nil h).elim, fun i o a h => by cases h⟩, .cons (.lst fz (drs_int ns)) .nil, ?_⟩
  rw [h]
  intro M' H' b x rel r
  cases r
  rfl
theorem hCXL {P : Program} {w : World} {H : Hp} {s : Shared} {e : Value} {s' : Shared} (z : L2.CX P w [] H s (fun _ _ _ => False) e s') : False := by
  obtain ⟨_, _, _, _, _, _, _, _, _, _, _, _, z⟩ := z
  exact z
/-- constants of the program -/
def atomD : List Value → Option (List D)
  | [] => some []
  | .str x _ :: r => (atomD r).map (.str x :: ·)
  | .int i _ :: r => (atomD r).map (.int i :: ·)
  | .bool b :: r => (atomD r).map (.bool b :: ·)
  | _ :: _ => none
theorem atomD_ok {K : PySem.W.Frag} : ∀ {us : List Value} {ds : List D}, atomD us = some ds → ∃ vs, Vals vs us ∧ ∀ H, DRs K H vs ds
  | [], _, e => by cases e; exact ⟨[], .nil, fun _ => .nil⟩
  | .str x _ :: r, ds, e => by
    obtain ⟨es, h1, h2⟩ := Option.map_eq_some_iff.mp (show (atomD r).map (.str x :: ·) = some ds from e)
    obtain ⟨vs, v1, v2⟩ := atomD_ok (K := K) h1
    subst h2
    exact ⟨.str x :: vs, .cons ⟨_, rfl⟩ v1, fun H => .cons (.str _) (v2 H)⟩
  | .int i _ :: r, ds, e => by
    obtain ⟨es, h1, h2⟩ := Option.map_eq_some_iff.mp (show (atomD r).map (.int i :: ·) = some ds from e)
    obtain ⟨vs, v1, v2⟩ := atomD_ok (K := K) h1
    subst h2
    exact ⟨.int i :: vs, .cons ⟨_, rfl⟩ v1, fun H => .cons (.int _) (v2 H)⟩
  | .bool i :: r, ds, e => by
    obtain ⟨es, h1, h2⟩ := Option.map_eq_some_iff.mp (show (atomD r).map (.bool i :: ·) = some ds from e)
    obtain ⟨vs, v1, v2⟩ := atomD_ok (K := K) h1
    subst h2
    exact ⟨.bl i :: vs, .cons rfl v1, fun H => .cons (.bl _) (v2 H)⟩
theorem gs_tup {K : PySem.W.Frag} {x : Str} {b : Addr} {dd : Option Addr} {us : List Value} {n : Nat} {sl : Array (Option Value)} {ds : List D} (h1 : PySem.W.nsIn K mainGlobals x = some (some (.ref b))) (h2 : K.lookup b = some ⟨.type "tuple", dd, .seq us.toArray n, sl⟩) (h3 : atomD us = some ds) (h4 : us.length ≤ sizeLine) :
    ∃ (u : Value) (v : V), PySem.W.nsIn K mainGlobals x = some (some u) ∧ RelV v u ∧ ∀ H, DR K H v (.tuple ds) := by
  obtain ⟨vs, v1, v2⟩ := atomD_ok (K := K) h3
  exact ⟨_, .ref b, h1, rfl, fun H => .tup (.inr ⟨_, us.toArray, n, h2, rfl, rfl, by simpa using h4, by simpa using v1⟩) (v2 H)⟩
theorem gs_int {K : PySem.W.Frag} {x : Str} {i : Int} {t : Nat} (h1 : PySem.W.nsIn K mainGlobals x = some (some (.int i t))) : ∃ (u : Value) (v : V), PySem.W.nsIn K mainGlobals x = some (some u) ∧ RelV v u ∧ ∀ H, DR K H v (.int i) :=
  ⟨_, .int i, h1, ⟨_, rfl⟩, fun H => .int _⟩
theorem gs_str {K : PySem.W.Frag} {x : Str} {i : Str} {t : Nat} (h1 : PySem.W.nsIn K mainGlobals x = some (some (.str i t))) : ∃ (u : Value) (v : V), PySem.W.nsIn K mainGlobals x = some (some u) ∧ RelV v u ∧ ∀ H, DR K H v (.str i) :=
  ⟨_, .str i, h1, ⟨_, rfl⟩, fun H => .str _⟩
end MI

/-! MiN: what a run of the small language comes to, asked from the end (own work). -/
namespace MI
open PySem

/-- the run ends well, and Q holds of what it hands back and leaves -/
def Res.to {α : Type} (r : Res α) (Q : α → Store → Prop) : Prop := match r with
  | .ok a S => Q a S
  | _ => False
theorem Res.to_bind {α β : Type} {r : Res α} {f : α → Store → Res β} {Q : β → Store → Prop} (h : r.to fun a S => (f a S).to Q) : (r.bind f).to Q := by
  cases r with
  | ok a S => exact h
  | ex c S => exact h.elim
  | stuck => exact h.elim
theorem Res.to_ok {α : Type} {a : α} {S : Store} {Q : α → Store → Prop} (h : Q a S) : (Res.ok a S).to Q := h
theorem Res.to_eq {α : Type} {r : Res α} {a : α} {S : Store} {Q : α → Store → Prop} (e : r = .ok a S) (h : Q a S) : r.to Q := by rw [e]; exact h
theorem Res.to.ex {α : Type} {r : Res α} {Q : α → Store → Prop} (h : r.to Q) : ∃ a S, r = .ok a S ∧ Q a S := by
  cases r with
  | ok a S => exact ⟨a, S, rfl, h⟩
  | ex c S => exact h.elim
  | stuck => exact h.elim
theorem Res.to.mono {α : Type} {r : Res α} {Q Q' : α → Store → Prop} (h : r.to Q) (k : ∀ a S, Q a S → Q' a S) : r.to Q' := by
  cases r with
  | ok a S => exact k _ _ h
  | ex c S => exact h.elim
  | stuck => exact h.elim
theorem Res.to_noex {α : Type} {r : Res α} {Q : α → Store → Prop} (h : r.to Q) : r.noex.to Q := by
  cases r with
  | ok a S => exact h
  | ex c S => exact h.elim
  | stuck => exact h.elim
/-- a truth value, then two ways -/
def ways {α : Type} (w : W) (S : Store) (f : Bool → Store → Res α) (Q : α → Store → Prop) : Prop := ∃ c, w = .d (.bool c) ∧ (c = true → (f true S).to Q) ∧ (c = false → (f false S).to Q)
theorem Res.to_test {α : Type} {r : Res W} {f : Bool → Store → Res α} {Q : α → Store → Prop} (h : r.to fun w S => ways w S f Q) : (r.test f).to Q := by
  cases r with
  | ok a S =>
    obtain ⟨c, e, h1, h2⟩ := h
    subst e
    cases c with
    | true => exact h1 rfl
    | false => exact h2 rfl
  | ex c S => exact h.elim
  | stuck => exact h.elim
theorem ways_b {α : Type} {c : Bool} {S : Store} {f : Bool → Store → Res α} {Q : α → Store → Prop} (h1 : c = true → (f true S).to Q) (h2 : c = false → (f false S).to Q) : ways (.d (.bool c)) S f Q := ⟨c, rfl, h1, h2⟩

/-- by a truth value -/
def br (w : W) (A B : Prop) : Prop := ∃ c, w = .d (.bool c) ∧ (c = true → A) ∧ (c = false → B)
theorem br_mk {c : Bool} {A B : Prop} (h1 : c = true → A) (h2 : c = false → B) : br (.d (.bool c)) A B := ⟨c, rfl, h1, h2⟩
def boQ (w : W) (k : Bool → Prop) : Prop := ∃ c, w = .d (.bool c) ∧ k c
theorem boQ_mk {c : Bool} {k : Bool → Prop} (h : k c) : boQ (.d (.bool c)) k := ⟨c, rfl, h⟩
def inQ (w : W) (k : Int → Prop) : Prop := ∃ c, w = .d (.int c) ∧ k c
theorem inQ_mk {c : Int} {k : Int → Prop} (h : k c) : inQ (.d (.int c)) k := ⟨c, rfl, h⟩
/-- data all, not too many -/
def daQ (ws : List W) (k : List D → Prop) : Prop := ∃ xs, dataOf ws = some xs ∧ fits xs.length = true ∧ k xs
theorem daQ_mk {ws : List W} {xs : List D} {k : List D → Prop} (h1 : dataOf ws = some xs) (h2 : fits xs.length = true) (h : k xs) : daQ ws k := ⟨xs, h1, h2, h⟩
theorem da_nil : dataOf [] = some [] := rfl
theorem da_cons {x : D} {ws : List W} {xs : List D} (h : dataOf ws = some xs) : dataOf (.d x :: ws) = some (x :: xs) := by
  show (dataOf ws).map (x :: ·) = _
  rw [h]; rfl
def p2Q (ws : List W) (k : W → W → Prop) : Prop := ∃ w u, ws = [w, u] ∧ k w u
theorem p2Q_mk {w u : W} {k : W → W → Prop} (h : k w u) : p2Q [w, u] k := ⟨w, u, rfl, h⟩
/-- the items of a list or a tuple -/
def sqQ (S : Store) (w : W) (k : List D → Prop) : Prop := ∃ xs, (toD S w).bind seqD = some xs ∧ k xs
theorem sqQ_l {S : Store} {xs : List D} {k : List D → Prop} (h : k xs) : sqQ S (.d (.list xs)) k := ⟨xs, rfl, h⟩
theorem sqQ_t {S : Store} {xs : List D} {k : List D → Prop} (h : k xs) : sqQ S (.d (.tuple xs)) k := ⟨xs, rfl, h⟩
theorem sqQ_r {S : Store} {i : Nat} {xs : List D} {k : List D → Prop} (e : S[i]? = some (.list xs)) (h : k xs) : sqQ S (.r i) k := ⟨xs, by simp only [toD, e]; rfl, h⟩
def ixQ (xs : List D) (i : Int) (k : D → Prop) : Prop := ∃ v, L2.atI xs i = some v ∧ k v
theorem ixQ_mk {xs : List D} {i : Int} {v : D} {k : D → Prop} (h1 : L2.atI xs i = some v) (h : k v) : ixQ xs i k := ⟨v, h1, h⟩
/-- as a datum -/
def dtQ (S : Store) (w : W) (k : D → Prop) : Prop := ∃ d, toD S w = some d ∧ k d
theorem dtQ_d {S : Store} {x : D} {k : D → Prop} (h : k x) : dtQ S (.d x) k := ⟨x, rfl, h⟩
theorem dtQ_r {S : Store} {i : Nat} {xs : List D} {k : D → Prop} (e : S[i]? = some (.list xs)) (h : k (.list xs)) : dtQ S (.r i) k := ⟨_, by simp only [toD, e], h⟩
/-- several names -/
def asQ (w : W) (ls : Loc) (js : List Nat) (k : Loc → Prop) : Prop := ∃ xs l, w = .d (.tuple xs) ∧ setAll ls js xs = some l ∧ k l
theorem asQ_mk {xs : List D} {l ls : Loc} {js : List Nat} {k : Loc → Prop} (h1 : setAll ls js xs = some l) (h : k l) : asQ (.d (.tuple xs)) ls js k := ⟨xs, l, rfl, h1, h⟩
/-- a range -/
def rgQ (w : W) (k : List D → Prop) : Prop := ∃ j, w = .d (.int j) ∧ -(2 ^ 62) ≤ j ∧ j < 2 ^ 62 ∧ k ((List.range j.toNat).map fun i => .int (i : Nat))
theorem rgQ_mk {j : Int} {k : List D → Prop} (h1 : -4611686018427387904 ≤ j) (h2 : j < 4611686018427387904) (h : k ((List.range j.toNat).map fun i => .int (i : Nat))) : rgQ (.d (.int j)) k := ⟨j, rfl, by simpa using h1, by simpa using h2, h⟩
/-- a list or a tuple that stays -/
def sdQ (w : W) (k : List D → Prop) : Prop := ∃ x xs, w = .d x ∧ seqD x = some xs ∧ k xs
theorem sdQ_l {xs : List D} {k : List D → Prop} (h : k xs) : sdQ (.d (.list xs)) k := ⟨_, xs, rfl, rfl, h⟩
theorem sdQ_t {xs : List D} {k : List D → Prop} (h : k xs) : sdQ (.d (.tuple xs)) k := ⟨_, xs, rfl, rfl, h⟩
theorem get_set {S : Store} {i : Nat} {o u : SO} (h : S[i]? = some o) : (S.set i u)[i]? = some u := List.getElem?_set_self (List.getElem?_eq_some_iff.mp h).1
theorem small_r {i j : Int} (h : small j = true) : (small i || small j) = true := by rw [h, Bool.or_true]
theorem small_l {i j : Int} (h : small i = true) : (small i || small j) = true := by rw [h, Bool.true_or]
theorem small_of {i : Int} (h1 : -18446744073709551616 < i) (h2 : i < 18446744073709551616) : small i = true := by
  unfold small
  have e1 : decide (-(2 ^ 64) < i) = true := decide_eq_true (by simpa using h1)
  have e2 : decide (i < 2 ^ 64) = true := decide_eq_true (by simpa using h2)
  rw [e1, e2]; rfl
theorem fits_of {n : Nat} (h : n ≤ 1000) : fits n = true := decide_eq_true (Nat.le_trans h (by decide))
theorem cut_len (xs : List D) (a b : Option Int) : (cutD xs a b).length ≤ xs.length := by
  unfold cutD
  rw [List.length_take, List.length_drop]
  omega
theorem rng_get {n j : Nat} {x : D} (h : ((List.range n).map fun i => PyData.int (i : Nat))[j]? = some x) : x = .int (j : Nat) ∧ j < n := by
  rw [List.getElem?_map] at h
  cases e : (List.range n)[j]? with
  | none => rw [e] at h; cases h
  | some i =>
    rw [e] at h
    obtain ⟨h1, h2⟩ := List.getElem?_eq_some_iff.mp e
    rw [List.getElem_range] at h2
    rw [List.length_range] at h1
    subst h2
    cases h
    exact ⟨rfl, h1⟩
theorem get_end {S : Store} {o : SO} : (S ++ [o])[S.length]? = some o := by
  rw [List.getElem?_append_right (Nat.le_refl _), Nat.sub_self]; rfl
theorem set_self {S : Store} {i : Nat} {o : SO} (h : S[i]? = some o) : S = S.set i o := by
  obtain ⟨hl, e⟩ := List.getElem?_eq_some_iff.mp h
  rw [← e, List.set_getElem_self]
/-- what a for loop wants -/
def foQ {α : Type} (xs : List α) (ls : Loc) (S : Store) (step : α → Loc → Store → (Loc → Store → Prop) → Prop) (fin : Loc → Store → Prop) : Prop :=
  ∃ I : Nat → Loc → Store → Prop, I 0 ls S ∧ (∀ (j : Nat) (x : α), xs[j]? = some x → ∀ ls S, I j ls S → step x ls S (I (j + 1))) ∧ ∀ ls S, I xs.length ls S → fin ls S
theorem foQ_mk {α : Type} {xs : List α} {ls : Loc} {S : Store} {step : α → Loc → Store → (Loc → Store → Prop) → Prop} {fin : Loc → Store → Prop} (I : Nat → Loc → Store → Prop) (h0 : I 0 ls S) (h1 : ∀ (j : Nat) (x : α), xs[j]? = some x → ∀ ls S, I j ls S → step x ls S (I (j + 1))) (h2 : ∀ ls S, I xs.length ls S → fin ls S) : foQ xs ls S step fin := ⟨I, h0, h1, h2⟩
/-- the item of a for loop is bound -/
def bnQ (o : Option Loc) (k : Loc → Prop) : Prop := ∃ l, o = some l ∧ k l
theorem bnQ_mk {o : Option Loc} {l : Loc} {k : Loc → Prop} (h1 : o = some l) (h : k l) : bnQ o k := ⟨l, h1, h⟩

section
variable {call : Call} {ls : Loc} {S : Store} {Q : W → Store → Prop} {a b c : E} {F : Nat}
theorem n_var {j : Nat} {w : W} (h : ls[j]? = some (some w)) (q : Q w S) : (evE call (.var j) ls S).to Q := by rw [evE, h]; exact q
theorem n_varE {j : Nat} (h : ∃ w, ls[j]? = some (some w) ∧ Q w S) : (evE call (.var j) ls S).to Q := by
  obtain ⟨w, h, q⟩ := h
  exact n_var h q
theorem n_cst {x : D} (q : Q (.d x) S) : (evE call (.cst x) ls S).to Q := by rw [evE]; exact q
theorem n_glb {x : Str} {v : D} (q : Q (.d v) S) : (evE call (.glb x v) ls S).to Q := by rw [evE]; exact q
theorem n_frz (h : (evE call a ls S).to fun x S1 => (frzW x S1).to Q) : (evE call (.frz a) ls S).to Q := by rw [evE]; exact Res.to_bind h
theorem n_bin {op : BOp} (h : (evE call a ls S).to fun x S1 => (evE call b ls S1).to fun y S2 => (binW op x y S2).to Q) : (evE call (.bin op a b) ls S).to Q := by
  rw [evE]; exact Res.to_bind (h.mono fun _ _ h => Res.to_bind h)
theorem n_neg (h : (evE call a ls S).to fun x S1 => (negW x S1).to Q) : (evE call (.neg a) ls S).to Q := by rw [evE]; exact Res.to_bind h
theorem n_not (h : (evE call a ls S).to fun x S1 => boQ x fun c => Q (.d (.bool (!c))) S1) : (evE call (.nt a) ls S).to Q := by
  rw [evE]
  exact Res.to_bind (h.mono fun _ _ ⟨c, e, q⟩ => by subst e; exact q)
theorem n_and (h : (evE call a ls S).to fun w S1 => br w ((evE call b ls S1).to Q) (Q (.d (.bool false)) S1)) : (evE call (.and a b) ls S).to Q := by
  rw [evE]
  exact Res.to_test (h.mono fun _ _ ⟨c, e, q1, q2⟩ => ⟨c, e, fun z => q1 z, fun z => q2 z⟩)
theorem n_or (h : (evE call a ls S).to fun w S1 => br w (Q (.d (.bool true)) S1) ((evE call b ls S1).to Q)) : (evE call (.or a b) ls S).to Q := by
  rw [evE]
  exact Res.to_test (h.mono fun _ _ ⟨c, e, q1, q2⟩ => ⟨c, e, fun z => q1 z, fun z => q2 z⟩)
theorem n_cmp {op : COp} (h : (evE call a ls S).to fun x S1 => (evE call b ls S1).to fun y S2 => (cmpW op x y S2).to Q) : (evE call (.cmp op a b) ls S).to Q := by
  rw [evE]; exact Res.to_bind (h.mono fun _ _ h => Res.to_bind h)
theorem n_chn {o p : COp} (h : (evE call a ls S).to fun x S1 => (evE call b ls S1).to fun y S2 => (cmpW o x y S2).to fun w S3 => br w ((evE call c ls S3).to fun z S4 => (cmpW p y z S4).to Q) (Q (.d (.bool false)) S3)) : (evE call (.chn o p a b c) ls S).to Q := by
  rw [evE]
  exact Res.to_bind (h.mono fun _ _ h => Res.to_bind (h.mono fun _ _ h => Res.to_test (h.mono fun _ _ ⟨k, e, q1, q2⟩ => ⟨k, e, fun z => Res.to_bind (q1 z), fun z => q2 z⟩)))
theorem n_ife (h : (evE call a ls S).to fun w S1 => br w ((evE call b ls S1).to Q) ((evE call c ls S1).to Q)) : (evE call (.ife a b c) ls S).to Q := by
  rw [evE]
  exact Res.to_test (h.mono fun _ _ ⟨k, e, q1, q2⟩ => ⟨k, e, fun z => q1 z, fun z => q2 z⟩)
theorem n_tup (h : (evL call a ls S).to fun ws S1 => daQ ws fun xs => Q (.d (.tuple xs)) S1) : (evE call (.tup a) ls S).to Q := by
  rw [evE]
  exact Res.to_bind (h.mono fun _ _ ⟨xs, e, f, q⟩ => by unfold tupW; simp only [e, f, if_true]; exact q)
theorem n_lstF (h : (evL call a ls S).to fun ws S1 => daQ ws fun xs => Q (.d (.list xs)) S1) : (evE call (.lst false a) ls S).to Q := by
  rw [evE]
  exact Res.to_bind (h.mono fun _ _ ⟨xs, e, f, q⟩ => by unfold lstW newL; simp only [e, f, if_true]; exact q)
theorem n_lstT (h : (evL call a ls S).to fun ws S1 => daQ ws fun xs => Q (.r S1.length) (S1 ++ [.list xs])) : (evE call (.lst true a) ls S).to Q := by
  rw [evE]
  exact Res.to_bind (h.mono fun _ _ ⟨xs, e, f, q⟩ => by unfold lstW newL; simp only [e, f, if_true]; exact q)
theorem n_idx (h : (evE call a ls S).to fun x S1 => (evE call b ls S1).to fun y S2 => sqQ S2 x fun xs => inQ y fun i => ixQ xs i fun v => Q (.d v) S2) : (evE call (.idx a b) ls S).to Q := by
  rw [evE]
  refine Res.to_bind (h.mono fun _ _ h => Res.to_bind (h.mono fun _ _ ⟨xs, h1, i, h2, v, h3, q⟩ => ?_))
  subst h2
  unfold idxW
  simp only [h1, h3]
  exact q
theorem n_slcH (h : (evE call a ls S).to fun x S1 => (evE call b ls S1).to fun y S2 => inQ y fun i => (slcW x none (some i) S2).to Q) : (evE call (.slc false true a c b) ls S).to Q := by
  rw [evE]
  refine Res.to_bind (h.mono fun _ _ h => ?_)
  refine Res.to_bind (Res.to_ok (Res.to_bind ?_))
  exact Res.to_bind (h.mono fun _ _ ⟨i, e, q⟩ => by subst e; exact q)
theorem n_slcL (h : (evE call a ls S).to fun x S1 => (evE call b ls S1).to fun y S2 => inQ y fun i => (slcW x (some i) none S2).to Q) : (evE call (.slc true false a b c) ls S).to Q := by
  rw [evE]
  refine Res.to_bind (h.mono fun _ _ h => ?_)
  refine Res.to_bind (Res.to_bind (h.mono fun _ _ ⟨i, e, q⟩ => ?_))
  subst e
  exact Res.to_bind (Res.to_ok q)
theorem n_call {f : Nat} (h : (evL call a ls S).to fun ws S1 => (call f ws S1).to Q) : (evE call (.call f a) ls S).to Q := by rw [evE]; exact Res.to_bind h
theorem n_blt {f : Blt} (h : (evL call a ls S).to fun ws S1 => (bltW f ws S1).to Q) : (evE call (.blt f a) ls S).to Q := by rw [evE]; exact Res.to_bind h
theorem n_cpy {m : Bool} (h : (evE call a ls S).to fun x S1 => sqQ S1 x fun xs => (newL m xs S1).to Q) : (evE call (.cpy m a) ls S).to Q := by
  rw [evE]
  exact Res.to_bind (h.mono fun _ _ ⟨xs, e, q⟩ => by unfold cpyW; simp only [e]; exact q)
theorem n_isi {ty : Ty} (h : (evE call a ls S).to fun x S1 => dtQ S1 x fun d => Q (.d (.bool (tyD ty d))) S1) : (evE call (.isi ty a) ls S).to Q := by
  rw [evE]
  exact Res.to_bind (h.mono fun _ _ ⟨d, e, q⟩ => by unfold isiW; simp only [e]; exact q)
theorem n_nil {Q : List W → Store → Prop} (q : Q [] S) : (evL call .nil ls S).to Q := by rw [evL]; exact q
theorem n_cons {Q : List W → Store → Prop} (h : (evE call a ls S).to fun w S1 => (evL call b ls S1).to fun ws S2 => Q (w :: ws) S2) : (evL call (.cons a b) ls S).to Q := by
  rw [evL]; exact Res.to_bind (h.mono fun _ _ h => Res.to_bind (h.mono fun _ _ q => q))
theorem o_newF {xs : List D} (q : Q (.d (.list xs)) S) : (newL false xs S).to Q := q
theorem o_newT {xs : List D} (q : Q (.r S.length) (S ++ [.list xs])) : (newL true xs S).to Q := q
/-! operations -/
theorem o_addI {i j : Int} (q : Q (.d (.int (i + j))) S) : (binW .add (.d (.int i)) (.d (.int j)) S).to Q := q
theorem o_addT {xs ys : List D} (h : fits (xs.length + ys.length) = true) (q : Q (.d (.tuple (xs ++ ys))) S) : (binW .add (.d (.tuple xs)) (.d (.tuple ys)) S).to Q := by
  unfold binW; simp only [toD_d, binD, h, if_true]; exact q
theorem o_addL {xs ys : List D} (h : fits (xs.length + ys.length) = true) (q : Q (.d (.list (xs ++ ys))) S) : (binW .add (.d (.list xs)) (.d (.list ys)) S).to Q := by
  unfold binW; simp only [toD_d, binD, h, if_true]; exact q
theorem o_sub {i j : Int} (q : Q (.d (.int (i - j))) S) : (binW .sub (.d (.int i)) (.d (.int j)) S).to Q := q
theorem o_mul {i j : Int} (h : (small i || small j) = true) (q : Q (.d (.int (i * j))) S) : (binW .mul (.d (.int i)) (.d (.int j)) S).to Q := by
  unfold binW; simp only [toD_d, binD, h, if_true]; exact q
theorem o_fdiv {i j : Int} (h1 : 0 < j) (h2 : j < 1073741824) (q : Q (.d (.int (i / j))) S) : (binW .fdiv (.d (.int i)) (.d (.int j)) S).to Q := by
  unfold binW; simp only [toD_d, binD, h1, h2, decide_true, Bool.and_self, if_true]; exact q
theorem o_mod {i j : Int} (h1 : 0 < j) (q : Q (.d (.int (i % j))) S) : (binW .mod (.d (.int i)) (.d (.int j)) S).to Q := by
  unfold binW; simp only [toD_d, binD, h1, decide_true, if_true]; exact q
theorem o_pow {i j : Int} (h1 : (decide (0 ≤ j) && decide (j ≤ 1000000) && decide (i.natAbs < 2 ^ 64)) = true) (q : Q (.d (.int (i ^ j.toNat))) S) : (binW .pow (.d (.int i)) (.d (.int j)) S).to Q := by
  unfold binW; simp only [toD_d, binD, h1, if_true]; exact q
theorem o_neg {i : Int} (q : Q (.d (.int (-i))) S) : (negW (.d (.int i)) S).to Q := q
theorem o_lt {i j : Int} (q : Q (.d (.bool (decide (i < j)))) S) : (cmpW .lt (.d (.int i)) (.d (.int j)) S).to Q := q
theorem o_le {i j : Int} (q : Q (.d (.bool (decide (i ≤ j)))) S) : (cmpW .le (.d (.int i)) (.d (.int j)) S).to Q := q
theorem o_gt {i j : Int} (q : Q (.d (.bool (decide (j < i)))) S) : (cmpW .gt (.d (.int i)) (.d (.int j)) S).to Q := q
theorem o_ge {i j : Int} (q : Q (.d (.bool (decide (j ≤ i)))) S) : (cmpW .ge (.d (.int i)) (.d (.int j)) S).to Q := q
theorem o_eq {x y : D} (h : flat x = true) (q : Q (.d (.bool (PyData.eqv x y))) S) : (cmpW .eq (.d x) (.d y) S).to Q := by
  unfold cmpW
  have e : cmpD .eq x y = some (PyData.eqv x y) := by cases x <;> cases y <;> simp only [cmpD, h, if_true]
  simp only [toD_d, e]
  exact q
theorem o_ne {x y : D} (h : flat x = true) (q : Q (.d (.bool (!PyData.eqv x y))) S) : (cmpW .ne (.d x) (.d y) S).to Q := by
  unfold cmpW
  have e : cmpD .ne x y = some (!PyData.eqv x y) := by cases x <;> cases y <;> simp only [cmpD, h, if_true]
  simp only [toD_d, e]
  exact q
theorem o_inL {x : D} {ys : List D} (h : flat x = true) (q : Q (.d (.bool (memD x ys))) S) : (cmpW .isin (.d x) (.d (.list ys)) S).to Q := by
  unfold cmpW
  have e : cmpD .isin x (.list ys) = some (memD x ys) := by cases x <;> simp only [cmpD, h, if_true]
  simp only [toD_d, e]
  exact q
theorem o_inT {x : D} {ys : List D} (h : flat x = true) (q : Q (.d (.bool (memD x ys))) S) : (cmpW .isin (.d x) (.d (.tuple ys)) S).to Q := by
  unfold cmpW
  have e : cmpD .isin x (.tuple ys) = some (memD x ys) := by cases x <;> simp only [cmpD, h, if_true]
  simp only [toD_d, e]
  exact q
theorem o_notinL {x : D} {ys : List D} (h : flat x = true) (q : Q (.d (.bool (!memD x ys))) S) : (cmpW .notin (.d x) (.d (.list ys)) S).to Q := by
  unfold cmpW
  have e : cmpD .notin x (.list ys) = some (!memD x ys) := by cases x <;> simp only [cmpD, h, if_true]
  simp only [toD_d, e]
  exact q
theorem o_notinT {x : D} {ys : List D} (h : flat x = true) (q : Q (.d (.bool (!memD x ys))) S) : (cmpW .notin (.d x) (.d (.tuple ys)) S).to Q := by
  unfold cmpW
  have e : cmpD .notin x (.tuple ys) = some (!memD x ys) := by cases x <;> simp only [cmpD, h, if_true]
  simp only [toD_d, e]
  exact q
theorem o_slcT {xs : List D} {lo hi : Option Int} (q : Q (.d (.tuple (cutD xs lo hi))) S) : (slcW (.d (.tuple xs)) lo hi S).to Q := q
theorem o_slcL {xs : List D} {lo hi : Option Int} (q : Q (.d (.list (cutD xs lo hi))) S) : (slcW (.d (.list xs)) lo hi S).to Q := q
theorem o_lenT {xs : List D} (q : Q (.d (.int xs.length)) S) : (bltW .len [.d (.tuple xs)] S).to Q := q
theorem o_lenL {xs : List D} (q : Q (.d (.int xs.length)) S) : (bltW .len [.d (.list xs)] S).to Q := q
theorem o_abs {i : Int} (q : Q (.d (.int (if i < 0 then -i else i))) S) : (bltW .abs [.d (.int i)] S).to Q := q
theorem o_int {i : Int} (q : Q (.d (.int i)) S) : (bltW .int [.d (.int i)] S).to Q := q
theorem o_max2 {i j : Int} (q : Q (.d (.int (if j > i then j else i))) S) : (bltW .max2 [.d (.int i), .d (.int j)] S).to Q := q
theorem o_min2 {i j : Int} (q : Q (.d (.int (if j < i then j else i))) S) : (bltW .min2 [.d (.int i), .d (.int j)] S).to Q := q
end

section
variable {call : Call} {ls : Loc} {S : Store} {Q : Fl → Store → Prop} {e i v : E} {a b d : M} {F : Nat}
theorem m_skip (q : Q (.nx ls) S) : (exM call F .skip ls S).to Q := by rw [exM]; exact q
theorem m_seq (h : (exM call F a ls S).to fun f S1 => match f with
    | .nx l1 => (exM call F b l1 S1).to Q
    | .rt w => Q (.rt w) S1) : (exM call F (.seq a b) ls S).to Q := by
  rw [exM]
  refine Res.to_bind (h.mono fun f S1 h => ?_)
  cases f with
  | nx l => exact h
  | rt w => exact h
theorem m_asg {j : Nat} (h : (evE call e ls S).to fun w S1 => Q (.nx (ls.set j (some w))) S1) : (exM call F (.asg (.nm j) e) ls S).to Q := by
  rw [exM]
  exact Res.to_bind (h.mono fun _ _ h => h)
theorem m_asgT {js : List Nat} (h : (evE call e ls S).to fun w S1 => asQ w ls js fun l => Q (.nx l) S1) : (exM call F (.asg (.tp js) e) ls S).to Q := by
  rw [exM]
  refine Res.to_bind (h.mono fun _ _ ⟨xs, l, h1, h2, h⟩ => ?_)
  subst h1
  show (optR ((setAll ls js xs).map Fl.nx) _).to Q
  rw [h2]
  exact h
theorem m_par {lvs : List LV} (h : (evL call e ls S).to fun ws S1 => (asgAll call lvs ws ls S1).to fun l S2 => Q (.nx l) S2) : (exM call F (.par lvs e) ls S).to Q := by
  rw [exM]
  exact Res.to_bind (h.mono fun _ _ h => Res.to_bind (h.mono fun _ _ h => h))
theorem m_par2 {j k : Nat} (h : (evL call e ls S).to fun ws S1 => p2Q ws fun w u => Q (.nx ((ls.set j (some w)).set k (some u))) S1) : (exM call F (.par [.nm j, .nm k] e) ls S).to Q :=
  m_par (h.mono fun ws S1 ⟨w, u, e, q⟩ => by subst e; exact q)
theorem m_setx (h : (evE call v ls S).to fun w S1 => (evE call e ls S1).to fun x S2 => (evE call i ls S2).to fun y S3 => (setW x y w S3).to fun _ S4 => Q (.nx ls) S4) : (exM call F (.setx e i v) ls S).to Q := by
  rw [exM]
  exact Res.to_bind (h.mono fun _ _ h => Res.to_bind (h.mono fun _ _ h => Res.to_bind (h.mono fun _ _ h => Res.to_bind (h.mono fun _ _ h => h))))
theorem o_setw {Q : Unit → Store → Prop} {n p : Nat} {j : Int} {x : D} {xs : List D} (h : S[n]? = some (.list xs)) (hp : placeD xs.length j = some p) (q : Q () (S.set n (.list (xs.set p x)))) : (setW (.r n) (.d (.int j)) (.d x) S).to Q := by
  unfold setW
  simp only [h, hp]
  exact q
theorem m_iff (h : (evE call e ls S).to fun w S1 => br w ((exM call F a ls S1).to Q) ((exM call F b ls S1).to Q)) : (exM call F (.iff e a b) ls S).to Q := by
  rw [exM]
  exact Res.to_test (h.mono fun _ _ ⟨k, e, q1, q2⟩ => ⟨k, e, fun z => q1 z, fun z => q2 z⟩)
theorem m_ret (h : (evE call e ls S).to fun w S1 => Q (.rt w) S1) : (exM call F (.ret e) ls S).to Q := by rw [exM]; exact Res.to_bind (h.mono fun _ _ h => h)
theorem m_exp (h : (evE call e ls S).to fun _ S1 => Q (.nx ls) S1) : (exM call F (.exp e) ls S).to Q := by rw [exM]; exact Res.to_bind (h.mono fun _ _ h => h)
theorem for_to {bnd : D → Loc → Option Loc} {body : Loc → Store → Res Fl} (I : Nat → Loc → Store → Prop) : ∀ (xs : List D) (n : Nat) (ls : Loc) (S : Store),
    (∀ (j : Nat) (x : D), xs[j]? = some x → ∀ ls S, I (n + j) ls S → ∃ l, bnd x ls = some l ∧ (body l S).to fun f S' => match f with
      | .nx l' => I (n + j + 1) l' S'
      | .rt w => Q (.rt w) S') → I n ls S → (∀ ls S, I (n + xs.length) ls S → Q (.nx ls) S) → (forL bnd body xs ls S).to Q
  | [], n, ls, S, _, h, q => q ls S h
  | x :: xs, n, ls, S, hb, h, q => by
    obtain ⟨l, h1, h2⟩ := hb 0 x rfl ls S h
    unfold forL
    simp only [h1]
    refine Res.to_bind (h2.mono fun f S1 h3 => ?_)
    cases f with
    | rt w => exact h3
    | nx l1 =>
      refine for_to I xs (n + 1) l1 S1 (fun j y hy ls S hI => ?_) h3 fun ls S hI => q ls S ?_
      · have := hb (j + 1) y (by simpa using hy) ls S (by rw [show n + (j + 1) = n + 1 + j by omega]; exact hI)
        rw [show n + (j + 1) + 1 = n + 1 + j + 1 by omega] at this
        exact this
      · rw [show n + (x :: xs).length = n + 1 + xs.length by rw [List.length_cons]; omega]
        exact hI
theorem m_for {tg : Tg} (h : (evI call e ls S).to fun xs S1 => foQ xs ls S1 (fun x ls S I => bnQ (bindD tg x ls) fun l => (exM call F a l S).to fun f S' => match f with
      | .nx l' => I l' S'
      | .rt w => Q (.rt w) S') fun ls S => Q (.nx ls) S) : (exM call F (.for tg e a) ls S).to Q := by
  rw [exM]
  refine Res.to_noex (Res.to_bind (h.mono fun xs S1 ⟨I, h0, hs, hq⟩ => ?_))
  refine for_to I xs 0 ls S1 (fun j x hx ls S hI => ?_) h0 (fun ls S hI => hq ls S (by rw [Nat.zero_add] at hI; exact hI))
  rw [Nat.zero_add] at hI ⊢
  exact hs j x hx ls S hI
theorem whl_to {test : Loc → Store → Res W} {body : Loc → Store → Res Fl} (I : Loc → Store → Prop) (μ : Loc → Store → Nat)
    (hs : ∀ ls S, I ls S → (test ls S).to fun w S1 => br w ((body ls S1).to fun f S2 => match f with
      | .nx l' => I l' S2 ∧ μ l' S2 < μ ls S
      | .rt w => Q (.rt w) S2) (Q (.nx ls) S1)) : ∀ (n : Nat) (ls : Loc) (S : Store), μ ls S < n → I ls S → (whlL test body n ls S).to Q
  | 0, _, _, h, _ => absurd h (Nat.not_lt_zero _)
  | n + 1, ls, S, h, hI => by
    unfold whlL
    refine Res.to_test ((hs ls S hI).mono fun w S1 ⟨b, e, h1, h2⟩ => ⟨b, e, fun z => ?_, fun z => h2 z⟩)
    refine Res.to_bind ((h1 z).mono fun f S2 h3 => ?_)
    cases f with
    | rt w => exact h3
    | nx l => exact whl_to I μ hs n l S2 (by have := h3.2; omega) h3.1
theorem m_whl (I : Loc → Store → Prop) (μ : Loc → Store → Nat) (h0 : I ls S) (hF : μ ls S < F)
    (hs : ∀ ls S, I ls S → (evE call e ls S).to fun w S1 => br w ((exM call F a ls S1).to fun f S2 => match f with
      | .nx l' => I l' S2 ∧ μ l' S2 < μ ls S
      | .rt w => Q (.rt w) S2) (Q (.nx ls) S1)) : (exM call F (.whl e a) ls S).to Q := by
  rw [exM]
  exact Res.to_noex (whl_to I μ hs F ls S hF h0)
variable {QI : List D → Store → Prop}
theorem i_seqL (h : (evE call e ls S).to fun w S1 => sdQ w fun xs => QI xs S1) : (evI call (.iseq e) ls S).to QI := by
  rw [evI]
  refine Res.to_bind (h.mono fun w S1 ⟨x, xs, h1, h2, q⟩ => ?_)
  subst h1
  show (optR (seqD x) S1).to QI
  rw [h2]
  exact q
theorem i_rng (h : (evE call e ls S).to fun w S1 => rgQ w fun xs => QI xs S1) : (evI call (.irng1 e) ls S).to QI := by
  rw [evI]
  refine Res.to_bind (h.mono fun w S1 ⟨j, h1, h2, h3, q⟩ => ?_)
  subst h1
  have e : (decide (-(2 ^ 62) ≤ j) && decide (j < 2 ^ 62)) = true := by simp only [h2, h3, decide_true, Bool.and_self]
  simp only [e, if_true]
  exact q
/-- a call by its text -/
theorem p_call {PD : List Def} {k f : Nat} {d : Def} {ws : List W} {Q : W → Store → Prop} (h : PD[f]? = some d) (hl : ws.length = d.ps) (hb : (exM (callP PD F k) F d.body (startL d.n ws) S).to fun f S' => (leave S.length (.ok f S')).to Q) : (callP PD F (k + 1) f ws S).to Q := by
  show (match PD[f]? with | some d => if ws.length = d.ps then leave S.length (exM (callP PD F k) F d.body (startL d.n ws) S) else .stuck | none => .stuck : Res W).to Q
  rw [h]
  simp only [hl, if_true]
  obtain ⟨f', S', e, q⟩ := hb.ex
  rw [e]
  exact q
theorem l_rt {n : Nat} {x : D} {S : Store} {Q : W → Store → Prop} (h : S.length = n) (q : Q (.d x) S) : (leave n (.ok (.rt (.d x)) S)).to Q := by
  show Q (.d x) (S.take n)
  rw [← h, List.take_length]
  exact q
theorem l_rt0 {n : Nat} {x : D} {S : Store} {Q : W → Store → Prop} (q : Q (.d x) (S.take n)) : (leave n (.ok (.rt (.d x)) S)).to Q := q
theorem l_nw {n : Nat} {o : SO} {S : Store} {Q : W → Store → Prop} (h : S.length = n) (q : Q (.r n) (S ++ [o])) : (leave n (.ok (.rt (.r n)) (S ++ [o]))).to Q := by
  subst h
  have e : leave S.length (.ok (.rt (.r S.length)) (S ++ [o])) = .ok (.r S.length) (S ++ [o]) := by
    unfold leave
    simp only [Nat.lt_irrefl, if_false, List.getElem?_append_right (Nat.le_refl _), Nat.sub_self, List.getElem?_cons_zero, List.take_left]
  rw [e]
  exact q
end
end MI

/-! K01t: the texts of law_k01_houses_recognized in the small language; printed by gen.py (own work). -/
namespace K01
open PySem MI
/-- 0: _law_source(_law_script, _law_k); names: 0=_law_script 1=_law_k 2=_law_cell -/
def m0 : M := (.seq (.asg (.nm 2) (.ife (.cmp .lt (.var 1) (.blt .len (.cons (.var 0) .nil))) (.blt .abs (.cons (.blt .int (.cons (.idx (.var 0) (.var 1)) .nil)) .nil)) (.bin .add (.bin .mul (.cst (.int 31)) (.var 1)) (.cst (.int 5)))))
 (.ret (.lst true (.cons (.ife (.cmp .gt (.var 2) (.bin .pow (.cst (.int 10)) (.cst (.int 17)))) (.var 2) (.cst (.int 0))) (.cons (.bin .mod (.blt .int (.cons (.bin .add (.bin .add (.bin .mul (.var 2) (.cst (.int 69621))) (.bin .mul (.cst (.int 4409)) (.var 1))) (.cst (.int 3))) .nil)) (.cst (.int 2147483563))) .nil)))))
def d0 : Def := ⟨2, 3, m0⟩
/-- 1: _law_draw(_law_source_here, _law_many); names: 0=_law_source_here 1=_law_many 2=_law_rest 3=_law_wide -/
def m1 : M := (.seq (.iff (.cmp .gt (.idx (.var 0) (.cst (.int 0))) (.cst (.int 0))) (.seq (.asg (.nm 2) (.bin .mod (.blt .int (.cons (.idx (.var 0) (.cst (.int 0))) .nil)) (.var 1)))
 (.seq (.setx (.var 0) (.cst (.int 0)) (.bin .fdiv (.idx (.var 0) (.cst (.int 0))) (.var 1)))
 (.ret (.var 2)))) .skip)
 (.seq (.setx (.var 0) (.cst (.int 1)) (.bin .mod (.blt .int (.cons (.bin .add (.bin .mul (.idx (.var 0) (.cst (.int 1))) (.cst (.int 40014))) (.cst (.int 77))) .nil)) (.cst (.int 2147483563))))
 (.seq (.asg (.nm 3) (.bin .mod (.blt .int (.cons (.bin .mul (.idx (.var 0) (.cst (.int 1))) (.bin .add (.bin .fdiv (.idx (.var 0) (.cst (.int 1))) (.cst (.int 5))) (.cst (.int 1)))) .nil)) (.cst (.int 2147483399))))
 (.ret (.bin .mod (.blt .int (.cons (.bin .fdiv (.var 3) (.cst (.int 8))) .nil)) (.var 1))))))
def d1 : Def := ⟨2, 4, m1⟩
/-- 2: _law_choice(_law_source_here, _law_some); names: 0=_law_source_here 1=_law_some -/
def m2 : M := (.ret (.idx (.var 1) (.call 1 (.cons (.var 0) (.cons (.blt .len (.cons (.var 1) .nil)) .nil)))))
def d2 : Def := ⟨2, 2, m2⟩
/-- 3: _law_size(_law_house_here); names: 0=_law_house_here 1=_law_many 2=_law_found 3=_law_turn -/
def m3 : M := (.seq (.asg (.nm 1) (.bin .add (.bin .fdiv (.bin .add (.idx (.var 0) (.cst (.int 1))) (.idx (.var 0) (.cst (.int 2)))) (.idx (.var 0) (.cst (.int 0)))) (.cst (.int 1))))
 (.seq (.asg (.nm 2) (.bin .mul (.bin .mul (.idx (.var 0) (.cst (.int 0))) (.idx (.var 0) (.cst (.int 4)))) (.bin .add (.idx (.var 0) (.cst (.int 7))) (.cst (.int 1)))))
 (.seq (.for (.nm 3) (.irng1 (.var 1))
 (.asg (.nm 2) (.bin .mul (.var 2) (.cst (.int 2)))))
 (.seq (.for (.nm 3) (.irng1 (.idx (.var 0) (.cst (.int 5))))
 (.asg (.nm 2) (.bin .mul (.var 2) (.bin .add (.bin .mul (.cst (.int 2)) (.var 1)) (.cst (.int 3))))))
 (.ret (.var 2))))))
def d3 : Def := ⟨1, 4, m3⟩
/-- 4: _law_house(_law_source_here, _law_most); names: 0=_law_source_here 1=_law_most 2=_law_found 3=_law_gap 4=_law_top 5=_law_first 6=_law_word -/
def m4 : M := (.seq (.asg (.nm 2) (.tup .nil))
 (.seq (.whl (.or (.cmp .eq (.var 2) (.tup .nil)) (.cmp .gt (.call 3 (.cons (.var 2) .nil)) (.var 1)))
 (.seq (.par [.nm 3, .nm 4] (.cons (.call 2 (.cons (.var 0) (.cons (.lst false (.cons (.cst (.int 1)) (.cons (.cst (.int 1)) (.cons (.cst (.int 2)) (.cons (.cst (.int 2)) (.cons (.cst (.int 3)) .nil)))))) .nil))) (.cons (.bin .add (.cst (.int 1)) (.call 1 (.cons (.var 0) (.cons (.cst (.int 3)) .nil)))) .nil)))
 (.seq (.asg (.nm 5) (.tup (.cons (.var 3) (.cons (.call 1 (.cons (.var 0) (.cons (.cst (.int 3)) .nil))) (.cons (.call 1 (.cons (.var 0) (.cons (.cst (.int 3)) .nil))) (.cons (.bin .add (.cst (.int 1)) (.call 1 (.cons (.var 0) (.cons (.var 4) .nil)))) (.cons (.var 4) .nil)))))))
 (.seq (.asg (.nm 6) (.call 2 (.cons (.var 0) (.cons (.lst false (.cons (.cst (.str "come")) (.cons (.cst (.str "late")) (.cons (.cst (.str "slot")) .nil)))) .nil))))
 (.seq (.asg (.nm 2) (.bin .add (.var 5) (.tup (.cons (.bin .add (.cst (.int 1)) (.call 1 (.cons (.var 0) (.cons (.cst (.int 2)) .nil)))) (.cons (.var 6) (.cons (.call 2 (.cons (.var 0) (.cons (.lst false (.cons (.cst (.int 0)) (.cons (.cst (.int 0)) (.cons (.cst (.int 1)) (.cons (.cst (.int 2)) .nil))))) .nil))) .nil))))))
 (.seq (.asg (.nm 2) (.bin .add (.var 2) (.tup (.cons (.cmp .eq (.call 1 (.cons (.var 0) (.cons (.cst (.int 2)) .nil))) (.cst (.int 0))) .nil))))
 (.seq (.asg (.nm 1) (.blt .max2 (.cons (.var 1) (.cons (.cst (.int 60)) .nil))))
 (.iff (.cmp .eq (.idx (.var 0) (.cst (.int 0))) (.cst (.int 0))) (.asg (.nm 1) (.bin .add (.var 1) (.cst (.int 20)))) .skip))))))))
 (.ret (.var 2))))
def d4 : Def := ⟨2, 7, m4⟩
/-- 5: size_of(house); names: 0=house 1=gap 2=early 3=late 4=low 5=high 6=room 7=order 8=every 9=ahead 10=many 11=size 12=turn -/
def m5 : M := (.seq (.asg (.tp [1, 2, 3, 4, 5, 6, 7, 8, 9]) (.var 0))
 (.seq (.asg (.nm 10) (.bin .add (.bin .fdiv (.bin .add (.var 2) (.var 3)) (.var 1)) (.cst (.int 1))))
 (.seq (.asg (.nm 11) (.bin .mul (.bin .mul (.var 1) (.var 5)) (.bin .add (.var 8) (.cst (.int 1)))))
 (.seq (.for (.nm 12) (.irng1 (.var 10))
 (.asg (.nm 11) (.bin .mul (.var 11) (.cst (.int 2)))))
 (.seq (.for (.nm 12) (.irng1 (.var 6))
 (.asg (.nm 11) (.bin .mul (.var 11) (.bin .add (.bin .mul (.cst (.int 2)) (.var 10)) (.cst (.int 3))))))
 (.ret (.var 11)))))))
def d5 : Def := ⟨1, 13, m5⟩
/-- 6: is_from(value, low, high); names: 0=value 1=low 2=high -/
def m6 : M := (.ret (.and (.isi .int (.var 0)) (.and (.nt (.isi .bool (.var 0))) (.chn .le .le (.var 1) (.var 0) (.var 2)))))
def d6 : Def := ⟨3, 3, m6⟩
/-- 7: is_house(value); names: 0=value 1=gap 2=early 3=late 4=low 5=high 6=room 7=order 8=every 9=ahead -/
def m7 : M := (.seq (.iff (.or (.nt (.isi .tuple (.var 0))) (.cmp .ne (.blt .len (.cons (.var 0) .nil)) (.cst (.int 9)))) (.ret (.cst (.bool false))) .skip)
 (.seq (.asg (.tp [1, 2, 3, 4, 5, 6, 7, 8, 9]) (.var 0))
 (.seq (.iff (.or (.nt (.call 6 (.cons (.var 1) (.cons (.cst (.int 1)) (.cons (.cst (.int 4)) .nil))))) (.or (.nt (.call 6 (.cons (.var 2) (.cons (.cst (.int 0)) (.cons (.cst (.int 3)) .nil))))) (.or (.nt (.call 6 (.cons (.var 3) (.cons (.cst (.int 0)) (.cons (.cst (.int 3)) .nil))))) (.nt (.call 6 (.cons (.var 5) (.cons (.cst (.int 1)) (.cons (.cst (.int 4)) .nil)))))))) (.ret (.cst (.bool false))) .skip)
 (.seq (.iff (.or (.nt (.call 6 (.cons (.var 4) (.cons (.cst (.int 1)) (.cons (.var 5) .nil))))) (.or (.nt (.call 6 (.cons (.var 6) (.cons (.cst (.int 1)) (.cons (.cst (.int 2)) .nil))))) (.nt (.call 6 (.cons (.var 8) (.cons (.cst (.int 0)) (.cons (.cst (.int 2)) .nil))))))) (.ret (.cst (.bool false))) .skip)
 (.seq (.iff (.or (.nt (.isi .str (.var 7))) (.or (.cmp .notin (.var 7) (.glb "ORDERS" (.tuple [(.str "come"), (.str "late"), (.str "slot")]))) (.nt (.isi .bool (.var 9))))) (.ret (.cst (.bool false))) .skip)
 (.ret (.cmp .le (.call 5 (.cons (.var 0) .nil)) (.glb "MOST_SIZE" (.int 3000)))))))))
def d7 : Def := ⟨1, 10, m7⟩
/-- 8: _law_from(_law_value, _law_low, _law_high); names: 0=_law_value 1=_law_low 2=_law_high -/
def m8 : M := (.ret (.and (.isi .int (.var 0)) (.and (.nt (.isi .bool (.var 0))) (.chn .le .le (.var 1) (.var 0) (.var 2)))))
def d8 : Def := ⟨3, 3, m8⟩
/-- 9: _law_is_house(_law_value); names: 0=_law_value -/
def m9 : M := (.seq (.iff (.or (.nt (.isi .tuple (.var 0))) (.cmp .ne (.blt .len (.cons (.var 0) .nil)) (.cst (.int 9)))) (.ret (.cst (.bool false))) .skip)
 (.seq (.iff (.or (.nt (.call 8 (.cons (.idx (.var 0) (.cst (.int 0))) (.cons (.cst (.int 1)) (.cons (.cst (.int 4)) .nil))))) (.or (.nt (.call 8 (.cons (.idx (.var 0) (.cst (.int 1))) (.cons (.cst (.int 0)) (.cons (.cst (.int 3)) .nil))))) (.nt (.call 8 (.cons (.idx (.var 0) (.cst (.int 2))) (.cons (.cst (.int 0)) (.cons (.cst (.int 3)) .nil))))))) (.ret (.cst (.bool false))) .skip)
 (.seq (.iff (.or (.nt (.call 8 (.cons (.idx (.var 0) (.cst (.int 4))) (.cons (.cst (.int 1)) (.cons (.cst (.int 4)) .nil))))) (.or (.nt (.call 8 (.cons (.idx (.var 0) (.cst (.int 3))) (.cons (.cst (.int 1)) (.cons (.idx (.var 0) (.cst (.int 4))) .nil))))) (.nt (.call 8 (.cons (.idx (.var 0) (.cst (.int 5))) (.cons (.cst (.int 1)) (.cons (.cst (.int 2)) .nil))))))) (.ret (.cst (.bool false))) .skip)
 (.seq (.iff (.or (.nt (.isi .str (.idx (.var 0) (.cst (.int 6))))) (.cmp .notin (.idx (.var 0) (.cst (.int 6))) (.lst false (.cons (.cst (.str "come")) (.cons (.cst (.str "late")) (.cons (.cst (.str "slot")) .nil)))))) (.ret (.cst (.bool false))) .skip)
 (.ret (.and (.call 8 (.cons (.idx (.var 0) (.cst (.int 7))) (.cons (.cst (.int 0)) (.cons (.cst (.int 2)) .nil)))) (.and (.isi .bool (.idx (.var 0) (.cst (.int 8)))) (.cmp .le (.call 3 (.cons (.var 0) .nil)) (.cst (.int 3000))))))))))
def d9 : Def := ⟨1, 1, m9⟩
/-- 10: _law_right(_law_value); names: 0=_law_value 1=_law_told -/
def m10 : M := (.seq (.asg (.nm 1) (.call 7 (.cons (.var 0) .nil)))
 (.ret (.and (.isi .bool (.var 1)) (.cmp .eq (.var 1) (.call 9 (.cons (.var 0) .nil))))))
def d10 : Def := ⟨1, 2, m10⟩
/-- 11: law(_law_script); names: 0=_law_script 1=_law_k 2=_law_source_here 3=_law_house_here 4=_law_turn 5=_law_at 6=_law_new 7=_law_bent 8=_law_rows 9=_law_row -/
def m11 : M := (.seq (.for (.nm 1) (.irng1 (.bin .add (.cst (.int 1)) (.blt .min2 (.cons (.blt .len (.cons (.var 0) .nil)) (.cons (.cst (.int 10)) .nil)))))
 (.seq (.asg (.nm 2) (.call 0 (.cons (.var 0) (.cons (.var 1) .nil))))
 (.seq (.asg (.nm 3) (.call 4 (.cons (.var 2) (.cons (.cst (.int 3000)) .nil))))
 (.for (.nm 4) (.irng1 (.cst (.int 12)))
 (.seq (.asg (.nm 5) (.call 1 (.cons (.var 2) (.cons (.cst (.int 9)) .nil))))
 (.seq (.asg (.nm 6) (.call 2 (.cons (.var 2) (.cons (.lst false (.cons (.cst .none) (.cons (.cst (.bool true)) (.cons (.cst (.bool false)) (.cons (.cst (.int 0)) (.cons (.cst (.int 1)) (.cons (.cst (.int 2)) (.cons (.cst (.int 3)) (.cons (.cst (.int 4)) (.cons (.cst (.int 5)) (.cons (.neg (.cst (.int 1))) (.cons (.cst (.str "come")) (.cons (.cst (.str "late")) (.cons (.cst (.str "Slot")) (.cons (.tup (.cons (.cst (.int 1)) .nil)) .nil))))))))))))))) .nil))))
 (.seq (.asg (.nm 7) (.lst false (.cons (.var 3) (.cons (.bin .add (.bin .add (.slc false true (.var 3) .omit (.var 5)) (.tup (.cons (.var 6) .nil))) (.slc true false (.var 3) (.bin .add (.var 5) (.cst (.int 1))) .omit)) (.cons (.bin .add (.slc false true (.var 3) .omit (.var 5)) (.slc true false (.var 3) (.bin .add (.var 5) (.cst (.int 1))) .omit)) (.cons (.bin .add (.var 3) (.tup (.cons (.var 6) .nil))) .nil))))))
 (.iff (.or (.nt (.call 10 (.cons (.call 2 (.cons (.var 2) (.cons (.var 7) .nil))) .nil))) (.nt (.call 10 (.cons (.cpy false (.var 3)) .nil)))) (.ret (.cst (.bool false))) .skip))))))))
 (.seq (.asg (.nm 8) (.lst false (.cons (.tup (.cons (.cst (.int 1)) (.cons (.cst (.int 3)) (.cons (.cst (.int 3)) (.cons (.cst (.int 1)) (.cons (.cst (.int 1)) (.cons (.cst (.int 1)) (.cons (.cst (.str "slot")) (.cons (.cst (.int 0)) (.cons (.cst (.bool true)) .nil)))))))))) (.cons (.tup (.cons (.cst (.int 1)) (.cons (.cst (.int 3)) (.cons (.cst (.int 3)) (.cons (.cst (.int 1)) (.cons (.cst (.int 2)) (.cons (.cst (.int 1)) (.cons (.cst (.str "slot")) (.cons (.cst (.int 0)) (.cons (.cst (.bool true)) .nil)))))))))) .nil))))
 (.seq (.asg (.nm 8) (.bin .add (.var 8) (.lst false (.cons (.tup (.cons (.cst (.int 4)) (.cons (.cst (.int 3)) (.cons (.cst (.int 3)) (.cons (.cst (.int 4)) (.cons (.cst (.int 4)) (.cons (.cst (.int 2)) (.cons (.cst (.str "come")) (.cons (.cst (.int 0)) (.cons (.cst (.bool false)) .nil)))))))))) (.cons (.tup (.cons (.cst (.int 4)) (.cons (.cst (.int 3)) (.cons (.cst (.int 3)) (.cons (.cst (.int 4)) (.cons (.cst (.int 4)) (.cons (.cst (.int 2)) (.cons (.cst (.str "come")) (.cons (.cst (.int 2)) (.cons (.cst (.bool false)) .nil)))))))))) .nil)))))
 (.seq (.asg (.nm 8) (.bin .add (.var 8) (.lst false (.cons (.tup (.cons (.cst (.int 3)) (.cons (.cst (.int 1)) (.cons (.cst (.int 0)) (.cons (.cst (.int 2)) (.cons (.cst (.int 4)) (.cons (.cst (.int 2)) (.cons (.cst (.str "late")) (.cons (.cst (.int 2)) (.cons (.cst (.bool true)) .nil)))))))))) (.cons (.tup (.cons (.cst (.int 2)) (.cons (.cst (.int 1)) (.cons (.cst (.int 1)) (.cons (.cst (.int 3)) (.cons (.cst (.int 2)) (.cons (.cst (.int 1)) (.cons (.cst (.str "slot")) (.cons (.cst (.int 0)) (.cons (.cst (.bool false)) .nil)))))))))) .nil)))))
 (.seq (.asg (.nm 8) (.bin .add (.var 8) (.lst false (.cons (.tup (.cons (.cst (.int 4)) (.cons (.cst (.int 0)) (.cons (.cst (.int 0)) (.cons (.cst (.int 1)) (.cons (.cst (.int 1)) (.cons (.cst (.int 2)) (.cons (.cst (.str "slot")) (.cons (.cst (.int 2)) (.cons (.cst (.bool true)) .nil)))))))))) (.cons (.tup (.cons (.cst (.int 2)) (.cons (.cst (.int 0)) (.cons (.cst (.int 0)) (.cons (.cst (.int 1)) (.cons (.cst (.int 3)) (.cons (.cst (.int 2)) (.cons (.cst (.str "slot")) (.cons (.cst (.int 1)) (.cons (.cst (.bool true)) .nil)))))))))) .nil)))))
 (.seq (.asg (.nm 8) (.bin .add (.var 8) (.lst false (.cons (.tup (.cons (.cst (.int 1)) (.cons (.cst (.int 1)) (.cons (.cst (.int 1)) (.cons (.cst (.int 1)) (.cons (.cst (.int 1)) (.cons (.cst (.int 1)) (.cons (.cst (.str "")) (.cons (.cst (.int 0)) (.cons (.cst (.bool true)) .nil)))))))))) (.cons (.tup (.cons (.cst (.int 5)) (.cons (.cst (.int 0)) (.cons (.cst (.int 0)) (.cons (.cst (.int 1)) (.cons (.cst (.int 1)) (.cons (.cst (.int 1)) (.cons (.cst (.str "slot")) (.cons (.cst (.int 0)) (.cons (.cst (.bool true)) .nil)))))))))) .nil)))))
 (.seq (.asg (.nm 8) (.bin .add (.var 8) (.lst false (.cons (.tup (.cons (.cst (.int 1)) (.cons (.cst (.int 0)) (.cons (.cst (.int 0)) (.cons (.cst (.int 0)) (.cons (.cst (.int 1)) (.cons (.cst (.int 1)) (.cons (.cst (.str "slot")) (.cons (.cst (.int 0)) (.cons (.cst (.bool true)) .nil)))))))))) (.cons (.tup (.cons (.cst (.int 1)) (.cons (.cst (.int 0)) (.cons (.cst (.int 0)) (.cons (.cst (.int 1)) (.cons (.cst (.int 1)) (.cons (.cst (.int 3)) (.cons (.cst (.str "slot")) (.cons (.cst (.int 0)) (.cons (.cst (.bool true)) .nil)))))))))) .nil)))))
 (.seq (.asg (.nm 8) (.bin .add (.var 8) (.lst false (.cons (.tup (.cons (.cst (.int 3)) (.cons (.cst (.int 1)) (.cons (.cst (.int 1)) (.cons (.cst (.int 1)) (.cons (.cst (.int 5)) (.cons (.cst (.int 1)) (.cons (.cst (.str "slot")) (.cons (.cst (.int 0)) (.cons (.cst (.bool true)) .nil)))))))))) (.cons (.tup (.cons (.cst (.int 1)) (.cons (.cst (.int 0)) (.cons (.cst (.int 4)) (.cons (.cst (.int 1)) (.cons (.cst (.int 1)) (.cons (.cst (.int 1)) (.cons (.cst (.str "slot")) (.cons (.cst (.int 0)) (.cons (.cst (.bool true)) .nil)))))))))) .nil)))))
 (.seq (.for (.nm 9) (.iseq (.var 8))
 (.iff (.nt (.call 10 (.cons (.var 9) .nil))) (.ret (.cst (.bool false))) .skip))
 (.ret (.cst (.bool true))))))))))))
def d11 : Def := ⟨1, 10, m11⟩
def PD : List Def := [d0, d1, d2, d3, d4, d5, d6, d7, d8, d9, d10, d11]
theorem pd0 : PD[0]? = some d0 := rfl
theorem pd1 : PD[1]? = some d1 := rfl
theorem pd2 : PD[2]? = some d2 := rfl
theorem pd3 : PD[3]? = some d3 := rfl
theorem pd4 : PD[4]? = some d4 := rfl
theorem pd5 : PD[5]? = some d5 := rfl
theorem pd6 : PD[6]? = some d6 := rfl
theorem pd7 : PD[7]? = some d7 := rfl
theorem pd8 : PD[8]? = some d8 := rfl
theorem pd9 : PD[9]? = some d9 := rfl
theorem pd10 : PD[10]? = some d10 := rfl
theorem pd11 : PD[11]? = some d11 := rfl
end K01

/-! K01d: each text stands for its def; printed by gen.py (own work). -/
namespace K01
open PySem PySem.Spec PyProof.Rows L2 MI
def top (i : Nat) : Stmt := PySem.Challenge.pw_lateturns_k01_houses_recognized.main.body.getD i (.Pass ⟨0, 0, 0, 0⟩)
theorem bt_int : bootBuiltins "int" = some (.type (tyS .int)) := by decide +kernel
theorem bt_bool : bootBuiltins "bool" = some (.type (tyS .bool)) := by decide +kernel
theorem bt_str : bootBuiltins "str" = some (.type (tyS .str)) := by decide +kernel
theorem bt_tuple : bootBuiltins "tuple" = some (.type (tyS .tuple)) := by decide +kernel
theorem bt_list : bootBuiltins "list" = some (.type (tyS .list)) := by decide +kernel
def T : Tx := ⟨[("_law_source", (["_law_script", "_law_k"] : List Str)), ("_law_draw", (["_law_source_here", "_law_many"] : List Str)), ("_law_choice", (["_law_source_here", "_law_some"] : List Str)), ("_law_size", (["_law_house_here"] : List Str)), ("_law_house", (["_law_source_here", "_law_most"] : List Str)), ("size_of", (["house"] : List Str)), ("is_from", (["value", "low", "high"] : List Str)), ("is_house", (["value"] : List Str)), ("_law_from", (["_law_value", "_law_low", "_law_high"] : List Str)), ("_law_is_house", (["_law_value"] : List Str)), ("_law_right", (["_law_value"] : List Str)), ("law", (["_law_script"] : List Str))], (["abs", "bool", "int", "isinstance", "len", "list", "max", "min", "range", "str", "tuple"] : List Str), [("ORDERS", (.tuple [(.str "come"), (.str "late"), (.str "slot")])), ("MOST_SIZE", (.int 3000))]⟩
def n0 : List Str := (["_law_script", "_law_k", "_law_cell"] : List Str)
theorem sc0 : FnScope n0 (["_law_script", "_law_k"] : List Str) (defScope (top 7)) := ⟨rfl, rfl, rfl, by decide +kernel, rfl, by decide +kernel, by decide +kernel⟩
/-- _law_source -/
theorem b0 {cv : Nat → Value} {F k : Nat} {Ex : XK} {X : Cx} (c : Cn (T.inf cv PD F k) Ex true (defScope (top 7)) n0 X) : Jb (T.inf cv PD F k) Ex X F m0 (defBody (top 7)) :=
 (ks_cons (ks_set c 2 rfl (by decide +kernel) (k_ife (kt_cmp c .lt (k_var c rfl (by decide +kernel)) (k_len c 4 rfl (by decide +kernel) (ka_cons (k_var c rfl (by decide +kernel)) ka_nil))) (k_abs c 0 rfl (by decide +kernel) (ka_cons (k_int1 c 2 rfl (by decide +kernel) (ka_cons (k_idx (k_var c rfl (by decide +kernel)) (k_var c rfl (by decide +kernel))) ka_nil)) ka_nil)) (k_add (k_mul k_int (k_var c rfl (by decide +kernel))) k_int)))
 (ks_one (ks_ret (k_lst (ka_cons (k_ife (kt_cmp c .gt (k_var c rfl (by decide +kernel)) (k_pow k_int k_int)) (k_var c rfl (by decide +kernel)) k_int) (ka_cons (k_mod (k_int1 c 2 rfl (by decide +kernel) (ka_cons (k_add (k_add (k_mul (k_var c rfl (by decide +kernel)) k_int) (k_mul k_int (k_var c rfl (by decide +kernel)))) k_int) ka_nil)) k_int) ka_nil))))))
def n1 : List Str := (["_law_source_here", "_law_many", "_law_rest", "_law_wide"] : List Str)
theorem sc1 : FnScope n1 (["_law_source_here", "_law_many"] : List Str) (defScope (top 8)) := ⟨rfl, rfl, rfl, by decide +kernel, rfl, by decide +kernel, by decide +kernel⟩
/-- _law_draw -/
theorem b1 {cv : Nat → Value} {F k : Nat} {Ex : XK} {X : Cx} (c : Cn (T.inf cv PD F k) Ex true (defScope (top 8)) n1 X) : Jb (T.inf cv PD F k) Ex X F m1 (defBody (top 8)) :=
 (ks_cons (ks_if (kt_cmp c .gt (k_idx (k_var c rfl (by decide +kernel)) k_int) k_int) (ks_cons (ks_set c 2 rfl (by decide +kernel) (k_mod (k_int1 c 2 rfl (by decide +kernel) (ka_cons (k_idx (k_var c rfl (by decide +kernel)) k_int) ka_nil)) (k_var c rfl (by decide +kernel))))
 (ks_cons (ks_setx (k_fdiv (k_idx (k_var c rfl (by decide +kernel)) k_int) (k_var c rfl (by decide +kernel))) (k_var c rfl (by decide +kernel)) k_int)
 (ks_one (ks_ret (k_var c rfl (by decide +kernel)))))) ks_nil)
 (ks_cons (ks_setx (k_mod (k_int1 c 2 rfl (by decide +kernel) (ka_cons (k_add (k_mul (k_idx (k_var c rfl (by decide +kernel)) k_int) k_int) k_int) ka_nil)) k_int) (k_var c rfl (by decide +kernel)) k_int)
 (ks_cons (ks_set c 3 rfl (by decide +kernel) (k_mod (k_int1 c 2 rfl (by decide +kernel) (ka_cons (k_mul (k_idx (k_var c rfl (by decide +kernel)) k_int) (k_add (k_fdiv (k_idx (k_var c rfl (by decide +kernel)) k_int) k_int) k_int)) ka_nil)) k_int))
 (ks_one (ks_ret (k_mod (k_int1 c 2 rfl (by decide +kernel) (ka_cons (k_fdiv (k_var c rfl (by decide +kernel)) k_int) ka_nil)) (k_var c rfl (by decide +kernel))))))))
def n2 : List Str := (["_law_source_here", "_law_some"] : List Str)
theorem sc2 : FnScope n2 (["_law_source_here", "_law_some"] : List Str) (defScope (top 9)) := ⟨rfl, rfl, rfl, by decide +kernel, rfl, by decide +kernel, by decide +kernel⟩
/-- _law_choice -/
theorem b2 {cv : Nat → Value} {F k : Nat} {Ex : XK} {X : Cx} (c : Cn (T.inf cv PD F k) Ex true (defScope (top 9)) n2 X) : Jb (T.inf cv PD F k) Ex X F m2 (defBody (top 9)) :=
 (ks_one (ks_ret (k_idx (k_var c rfl (by decide +kernel)) (k_call c 1 rfl (by decide +kernel) (ka_cons (k_var c rfl (by decide +kernel)) (ka_cons (k_len c 4 rfl (by decide +kernel) (ka_cons (k_var c rfl (by decide +kernel)) ka_nil)) ka_nil))))))
def n3 : List Str := (["_law_house_here", "_law_many", "_law_found", "_law_turn"] : List Str)
theorem sc3 : FnScope n3 (["_law_house_here"] : List Str) (defScope (top 11)) := ⟨rfl, rfl, rfl, by decide +kernel, rfl, by decide +kernel, by decide +kernel⟩
/-- _law_size -/
theorem b3 {cv : Nat → Value} {F k : Nat} {Ex : XK} {X : Cx} (c : Cn (T.inf cv PD F k) Ex true (defScope (top 11)) n3 X) : Jb (T.inf cv PD F k) Ex X F m3 (defBody (top 11)) :=
 (ks_cons (ks_set c 1 rfl (by decide +kernel) (k_add (k_fdiv (k_add (k_idx (k_var c rfl (by decide +kernel)) k_int) (k_idx (k_var c rfl (by decide +kernel)) k_int)) (k_idx (k_var c rfl (by decide +kernel)) k_int)) k_int))
 (ks_cons (ks_set c 2 rfl (by decide +kernel) (k_mul (k_mul (k_idx (k_var c rfl (by decide +kernel)) k_int) (k_idx (k_var c rfl (by decide +kernel)) k_int)) (k_add (k_idx (k_var c rfl (by decide +kernel)) k_int) k_int)))
 (ks_cons (ks_for c (ki_rng1 (c.nox) 8 rfl (by decide +kernel) (k_var (c.nox) rfl (by decide +kernel))) (kg_nm (c.nox) 3 rfl (by decide +kernel))
 (ks_one (ks_set (c.nox) 2 rfl (by decide +kernel) (k_mul (k_var (c.nox) rfl (by decide +kernel)) k_int))))
 (ks_cons (ks_for c (ki_rng1 (c.nox) 8 rfl (by decide +kernel) (k_idx (k_var (c.nox) rfl (by decide +kernel)) k_int)) (kg_nm (c.nox) 3 rfl (by decide +kernel))
 (ks_one (ks_set (c.nox) 2 rfl (by decide +kernel) (k_mul (k_var (c.nox) rfl (by decide +kernel)) (k_add (k_mul k_int (k_var (c.nox) rfl (by decide +kernel))) k_int)))))
 (ks_one (ks_ret (k_var c rfl (by decide +kernel))))))))
def n4 : List Str := (["_law_source_here", "_law_most", "_law_found", "_law_gap", "_law_top", "_law_first", "_law_word"] : List Str)
theorem sc4 : FnScope n4 (["_law_source_here", "_law_most"] : List Str) (defScope (top 12)) := ⟨rfl, rfl, rfl, by decide +kernel, rfl, by decide +kernel, by decide +kernel⟩
/-- _law_house -/
theorem b4 {cv : Nat → Value} {F k : Nat} {Ex : XK} {X : Cx} (c : Cn (T.inf cv PD F k) Ex true (defScope (top 12)) n4 X) : Jb (T.inf cv PD F k) Ex X F m4 (defBody (top 12)) :=
 (ks_cons (ks_set c 2 rfl (by decide +kernel) (k_tup ka_nil))
 (ks_cons (ks_whl (kt_w (kw_or (kt_cmp (c.nox) .eq (k_var (c.nox) rfl (by decide +kernel)) (k_tup ka_nil)) (kw_or1 (kt_cmp (c.nox) .gt (k_call (c.nox) 3 rfl (by decide +kernel) (ka_cons (k_var (c.nox) rfl (by decide +kernel)) ka_nil)) (k_var (c.nox) rfl (by decide +kernel))))))
 (ks_cons (ks_swap2 (c.nox) 3 4 rfl rfl (by decide) (by decide +kernel) (by decide +kernel) (ka_cons (k_call (c.nox) 2 rfl (by decide +kernel) (ka_cons (k_var (c.nox) rfl (by decide +kernel)) (ka_cons (k_lst (ka_cons k_int (ka_cons k_int (ka_cons k_int (ka_cons k_int (ka_cons k_int ka_nil)))))) ka_nil))) (ka_cons (k_add k_int (k_call (c.nox) 1 rfl (by decide +kernel) (ka_cons (k_var (c.nox) rfl (by decide +kernel)) (ka_cons k_int ka_nil)))) ka_nil)) (by decide +kernel))
 (ks_cons (ks_set (c.nox) 5 rfl (by decide +kernel) (k_tup (ka_cons (k_var (c.nox) rfl (by decide +kernel)) (ka_cons (k_call (c.nox) 1 rfl (by decide +kernel) (ka_cons (k_var (c.nox) rfl (by decide +kernel)) (ka_cons k_int ka_nil))) (ka_cons (k_call (c.nox) 1 rfl (by decide +kernel) (ka_cons (k_var (c.nox) rfl (by decide +kernel)) (ka_cons k_int ka_nil))) (ka_cons (k_add k_int (k_call (c.nox) 1 rfl (by decide +kernel) (ka_cons (k_var (c.nox) rfl (by decide +kernel)) (ka_cons (k_var (c.nox) rfl (by decide +kernel)) ka_nil)))) (ka_cons (k_var (c.nox) rfl (by decide +kernel)) ka_nil)))))))
 (ks_cons (ks_set (c.nox) 6 rfl (by decide +kernel) (k_call (c.nox) 2 rfl (by decide +kernel) (ka_cons (k_var (c.nox) rfl (by decide +kernel)) (ka_cons (k_lst (ka_cons k_str (ka_cons k_str (ka_cons k_str ka_nil)))) ka_nil))))
 (ks_cons (ks_set (c.nox) 2 rfl (by decide +kernel) (k_add (k_var (c.nox) rfl (by decide +kernel)) (k_tup (ka_cons (k_add k_int (k_call (c.nox) 1 rfl (by decide +kernel) (ka_cons (k_var (c.nox) rfl (by decide +kernel)) (ka_cons k_int ka_nil)))) (ka_cons (k_var (c.nox) rfl (by decide +kernel)) (ka_cons (k_call (c.nox) 2 rfl (by decide +kernel) (ka_cons (k_var (c.nox) rfl (by decide +kernel)) (ka_cons (k_lst (ka_cons k_int (ka_cons k_int (ka_cons k_int (ka_cons k_int ka_nil))))) ka_nil))) ka_nil))))))
 (ks_cons (ks_set (c.nox) 2 rfl (by decide +kernel) (k_add (k_var (c.nox) rfl (by decide +kernel)) (k_tup (ka_cons (k_cmp (c.nox) .eq (k_call (c.nox) 1 rfl (by decide +kernel) (ka_cons (k_var (c.nox) rfl (by decide +kernel)) (ka_cons k_int ka_nil))) k_int) ka_nil))))
 (ks_cons (ks_set (c.nox) 1 rfl (by decide +kernel) (k_max2 (c.nox) 6 rfl (by decide +kernel) (ka_cons (k_var (c.nox) rfl (by decide +kernel)) (ka_cons k_int ka_nil))))
 (ks_one (ks_if (kt_cmp (c.nox) .eq (k_idx (k_var (c.nox) rfl (by decide +kernel)) k_int) k_int) (ks_one (ks_set (c.nox) 1 rfl (by decide +kernel) (k_add (k_var (c.nox) rfl (by decide +kernel)) k_int))) ks_nil)))))))))
 (ks_one (ks_ret (k_var c rfl (by decide +kernel))))))
def n5 : List Str := (["house", "gap", "early", "late", "low", "high", "room", "order", "every", "ahead", "many", "size", "turn"] : List Str)
theorem sc5 : FnScope n5 (["house"] : List Str) (defScope (top 4)) := ⟨rfl, rfl, rfl, by decide +kernel, rfl, by decide +kernel, by decide +kernel⟩
/-- size_of -/
theorem b5 {cv : Nat → Value} {F k : Nat} {Ex : XK} {X : Cx} (c : Cn (T.inf cv PD F k) Ex true (defScope (top 4)) n5 X) : Jb (T.inf cv PD F k) Ex X F m5 (defBody (top 4)) :=
 (ks_cons (ks_asg (k_var c rfl (by decide +kernel)) (kg_tp c (kgs_cons c 1 rfl (by decide +kernel) (kgs_cons c 2 rfl (by decide +kernel) (kgs_cons c 3 rfl (by decide +kernel) (kgs_cons c 4 rfl (by decide +kernel) (kgs_cons c 5 rfl (by decide +kernel) (kgs_cons c 6 rfl (by decide +kernel) (kgs_cons c 7 rfl (by decide +kernel) (kgs_cons c 8 rfl (by decide +kernel) (kgs_cons c 9 rfl (by decide +kernel) kgs_nil)))))))))))
 (ks_cons (ks_set c 10 rfl (by decide +kernel) (k_add (k_fdiv (k_add (k_var c rfl (by decide +kernel)) (k_var c rfl (by decide +kernel))) (k_var c rfl (by decide +kernel))) k_int))
 (ks_cons (ks_set c 11 rfl (by decide +kernel) (k_mul (k_mul (k_var c rfl (by decide +kernel)) (k_var c rfl (by decide +kernel))) (k_add (k_var c rfl (by decide +kernel)) k_int)))
 (ks_cons (ks_for c (ki_rng1 (c.nox) 8 rfl (by decide +kernel) (k_var (c.nox) rfl (by decide +kernel))) (kg_nm (c.nox) 12 rfl (by decide +kernel))
 (ks_one (ks_set (c.nox) 11 rfl (by decide +kernel) (k_mul (k_var (c.nox) rfl (by decide +kernel)) k_int))))
 (ks_cons (ks_for c (ki_rng1 (c.nox) 8 rfl (by decide +kernel) (k_var (c.nox) rfl (by decide +kernel))) (kg_nm (c.nox) 12 rfl (by decide +kernel))
 (ks_one (ks_set (c.nox) 11 rfl (by decide +kernel) (k_mul (k_var (c.nox) rfl (by decide +kernel)) (k_add (k_mul k_int (k_var (c.nox) rfl (by decide +kernel))) k_int)))))
 (ks_one (ks_ret (k_var c rfl (by decide +kernel)))))))))
def n6 : List Str := (["value", "low", "high"] : List Str)
theorem sc6 : FnScope n6 (["value", "low", "high"] : List Str) (defScope (top 3)) := ⟨rfl, rfl, rfl, by decide +kernel, rfl, by decide +kernel, by decide +kernel⟩
/-- is_from -/
theorem b6 {cv : Nat → Value} {F k : Nat} {Ex : XK} {X : Cx} (c : Cn (T.inf cv PD F k) Ex true (defScope (top 3)) n6 X) : Jb (T.inf cv PD F k) Ex X F m6 (defBody (top 3)) :=
 (ks_one (ks_ret (k_and (k_isi c 3 2 .int rfl (by decide +kernel) rfl (by decide +kernel) bt_int (by decide) (k_var c rfl (by decide +kernel))) (k_and (k_not (k_isi c 3 1 .bool rfl (by decide +kernel) rfl (by decide +kernel) bt_bool (by decide) (k_var c rfl (by decide +kernel)))) (k_one (k_chn c .le .le (k_var c rfl (by decide +kernel)) (k_var c rfl (by decide +kernel)) (k_var c rfl (by decide +kernel))))))))
def n7 : List Str := (["value", "gap", "early", "late", "low", "high", "room", "order", "every", "ahead"] : List Str)
theorem sc7 : FnScope n7 (["value"] : List Str) (defScope (top 5)) := ⟨rfl, rfl, rfl, by decide +kernel, rfl, by decide +kernel, by decide +kernel⟩
/-- is_house -/
theorem b7 {cv : Nat → Value} {F k : Nat} {Ex : XK} {X : Cx} (c : Cn (T.inf cv PD F k) Ex true (defScope (top 5)) n7 X) : Jb (T.inf cv PD F k) Ex X F m7 (defBody (top 5)) :=
 (ks_cons (ks_if (kt_w (kw_or (kt_not (kt_val (k_isi c 3 10 .tuple rfl (by decide +kernel) rfl (by decide +kernel) bt_tuple (by decide) (k_var c rfl (by decide +kernel))))) (kw_or1 (kt_cmp c .ne (k_len c 4 rfl (by decide +kernel) (ka_cons (k_var c rfl (by decide +kernel)) ka_nil)) k_int)))) (ks_one (ks_ret k_bool)) ks_nil)
 (ks_cons (ks_asg (k_var c rfl (by decide +kernel)) (kg_tp c (kgs_cons c 1 rfl (by decide +kernel) (kgs_cons c 2 rfl (by decide +kernel) (kgs_cons c 3 rfl (by decide +kernel) (kgs_cons c 4 rfl (by decide +kernel) (kgs_cons c 5 rfl (by decide +kernel) (kgs_cons c 6 rfl (by decide +kernel) (kgs_cons c 7 rfl (by decide +kernel) (kgs_cons c 8 rfl (by decide +kernel) (kgs_cons c 9 rfl (by decide +kernel) kgs_nil)))))))))))
 (ks_cons (ks_if (kt_w (kw_or (kt_not (kt_val (k_call c 6 rfl (by decide +kernel) (ka_cons (k_var c rfl (by decide +kernel)) (ka_cons k_int (ka_cons k_int ka_nil)))))) (kw_or (kt_not (kt_val (k_call c 6 rfl (by decide +kernel) (ka_cons (k_var c rfl (by decide +kernel)) (ka_cons k_int (ka_cons k_int ka_nil)))))) (kw_or (kt_not (kt_val (k_call c 6 rfl (by decide +kernel) (ka_cons (k_var c rfl (by decide +kernel)) (ka_cons k_int (ka_cons k_int ka_nil)))))) (kw_or1 (kt_not (kt_val (k_call c 6 rfl (by decide +kernel) (ka_cons (k_var c rfl (by decide +kernel)) (ka_cons k_int (ka_cons k_int ka_nil))))))))))) (ks_one (ks_ret k_bool)) ks_nil)
 (ks_cons (ks_if (kt_w (kw_or (kt_not (kt_val (k_call c 6 rfl (by decide +kernel) (ka_cons (k_var c rfl (by decide +kernel)) (ka_cons k_int (ka_cons (k_var c rfl (by decide +kernel)) ka_nil)))))) (kw_or (kt_not (kt_val (k_call c 6 rfl (by decide +kernel) (ka_cons (k_var c rfl (by decide +kernel)) (ka_cons k_int (ka_cons k_int ka_nil)))))) (kw_or1 (kt_not (kt_val (k_call c 6 rfl (by decide +kernel) (ka_cons (k_var c rfl (by decide +kernel)) (ka_cons k_int (ka_cons k_int ka_nil)))))))))) (ks_one (ks_ret k_bool)) ks_nil)
 (ks_cons (ks_if (kt_w (kw_or (kt_not (kt_val (k_isi c 3 9 .str rfl (by decide +kernel) rfl (by decide +kernel) bt_str (by decide) (k_var c rfl (by decide +kernel))))) (kw_or (kt_cmp c .notin (k_var c rfl (by decide +kernel)) (k_glb c 0 rfl (by decide +kernel))) (kw_or1 (kt_not (kt_val (k_isi c 3 1 .bool rfl (by decide +kernel) rfl (by decide +kernel) bt_bool (by decide) (k_var c rfl (by decide +kernel))))))))) (ks_one (ks_ret k_bool)) ks_nil)
 (ks_one (ks_ret (k_cmp c .le (k_call c 5 rfl (by decide +kernel) (ka_cons (k_var c rfl (by decide +kernel)) ka_nil)) (k_glb c 1 rfl (by decide +kernel))))))))))
def n8 : List Str := (["_law_value", "_law_low", "_law_high"] : List Str)
theorem sc8 : FnScope n8 (["_law_value", "_law_low", "_law_high"] : List Str) (defScope (top 10)) := ⟨rfl, rfl, rfl, by decide +kernel, rfl, by decide +kernel, by decide +kernel⟩
/-- _law_from -/
theorem b8 {cv : Nat → Value} {F k : Nat} {Ex : XK} {X : Cx} (c : Cn (T.inf cv PD F k) Ex true (defScope (top 10)) n8 X) : Jb (T.inf cv PD F k) Ex X F m8 (defBody (top 10)) :=
 (ks_one (ks_ret (k_and (k_isi c 3 2 .int rfl (by decide +kernel) rfl (by decide +kernel) bt_int (by decide) (k_var c rfl (by decide +kernel))) (k_and (k_not (k_isi c 3 1 .bool rfl (by decide +kernel) rfl (by decide +kernel) bt_bool (by decide) (k_var c rfl (by decide +kernel)))) (k_one (k_chn c .le .le (k_var c rfl (by decide +kernel)) (k_var c rfl (by decide +kernel)) (k_var c rfl (by decide +kernel))))))))
def n9 : List Str := (["_law_value"] : List Str)
theorem sc9 : FnScope n9 (["_law_value"] : List Str) (defScope (top 13)) := ⟨rfl, rfl, rfl, by decide +kernel, rfl, by decide +kernel, by decide +kernel⟩
/-- _law_is_house -/
theorem b9 {cv : Nat → Value} {F k : Nat} {Ex : XK} {X : Cx} (c : Cn (T.inf cv PD F k) Ex true (defScope (top 13)) n9 X) : Jb (T.inf cv PD F k) Ex X F m9 (defBody (top 13)) :=
 (ks_cons (ks_if (kt_w (kw_or (kt_not (kt_val (k_isi c 3 10 .tuple rfl (by decide +kernel) rfl (by decide +kernel) bt_tuple (by decide) (k_var c rfl (by decide +kernel))))) (kw_or1 (kt_cmp c .ne (k_len c 4 rfl (by decide +kernel) (ka_cons (k_var c rfl (by decide +kernel)) ka_nil)) k_int)))) (ks_one (ks_ret k_bool)) ks_nil)
 (ks_cons (ks_if (kt_w (kw_or (kt_not (kt_val (k_call c 8 rfl (by decide +kernel) (ka_cons (k_idx (k_var c rfl (by decide +kernel)) k_int) (ka_cons k_int (ka_cons k_int ka_nil)))))) (kw_or (kt_not (kt_val (k_call c 8 rfl (by decide +kernel) (ka_cons (k_idx (k_var c rfl (by decide +kernel)) k_int) (ka_cons k_int (ka_cons k_int ka_nil)))))) (kw_or1 (kt_not (kt_val (k_call c 8 rfl (by decide +kernel) (ka_cons (k_idx (k_var c rfl (by decide +kernel)) k_int) (ka_cons k_int (ka_cons k_int ka_nil)))))))))) (ks_one (ks_ret k_bool)) ks_nil)
 (ks_cons (ks_if (kt_w (kw_or (kt_not (kt_val (k_call c 8 rfl (by decide +kernel) (ka_cons (k_idx (k_var c rfl (by decide +kernel)) k_int) (ka_cons k_int (ka_cons k_int ka_nil)))))) (kw_or (kt_not (kt_val (k_call c 8 rfl (by decide +kernel) (ka_cons (k_idx (k_var c rfl (by decide +kernel)) k_int) (ka_cons k_int (ka_cons (k_idx (k_var c rfl (by decide +kernel)) k_int) ka_nil)))))) (kw_or1 (kt_not (kt_val (k_call c 8 rfl (by decide +kernel) (ka_cons (k_idx (k_var c rfl (by decide +kernel)) k_int) (ka_cons k_int (ka_cons k_int ka_nil)))))))))) (ks_one (ks_ret k_bool)) ks_nil)
 (ks_cons (ks_if (kt_w (kw_or (kt_not (kt_val (k_isi c 3 9 .str rfl (by decide +kernel) rfl (by decide +kernel) bt_str (by decide) (k_idx (k_var c rfl (by decide +kernel)) k_int)))) (kw_or1 (kt_cmp c .notin (k_idx (k_var c rfl (by decide +kernel)) k_int) (k_lst (ka_cons k_str (ka_cons k_str (ka_cons k_str ka_nil)))))))) (ks_one (ks_ret k_bool)) ks_nil)
 (ks_one (ks_ret (k_and (k_call c 8 rfl (by decide +kernel) (ka_cons (k_idx (k_var c rfl (by decide +kernel)) k_int) (ka_cons k_int (ka_cons k_int ka_nil)))) (k_and (k_isi c 3 1 .bool rfl (by decide +kernel) rfl (by decide +kernel) bt_bool (by decide) (k_idx (k_var c rfl (by decide +kernel)) k_int)) (k_one (k_cmp c .le (k_call c 3 rfl (by decide +kernel) (ka_cons (k_var c rfl (by decide +kernel)) ka_nil)) k_int))))))))))
def n10 : List Str := (["_law_value", "_law_told"] : List Str)
theorem sc10 : FnScope n10 (["_law_value"] : List Str) (defScope (top 14)) := ⟨rfl, rfl, rfl, by decide +kernel, rfl, by decide +kernel, by decide +kernel⟩
/-- _law_right -/
theorem b10 {cv : Nat → Value} {F k : Nat} {Ex : XK} {X : Cx} (c : Cn (T.inf cv PD F k) Ex true (defScope (top 14)) n10 X) : Jb (T.inf cv PD F k) Ex X F m10 (defBody (top 14)) :=
 (ks_cons (ks_set c 1 rfl (by decide +kernel) (k_call c 7 rfl (by decide +kernel) (ka_cons (k_var c rfl (by decide +kernel)) ka_nil)))
 (ks_one (ks_ret (k_and (k_isi c 3 1 .bool rfl (by decide +kernel) rfl (by decide +kernel) bt_bool (by decide) (k_var c rfl (by decide +kernel))) (k_one (k_cmp c .eq (k_var c rfl (by decide +kernel)) (k_call c 9 rfl (by decide +kernel) (ka_cons (k_var c rfl (by decide +kernel)) ka_nil))))))))
def n11 : List Str := (["_law_script", "_law_k", "_law_source_here", "_law_house_here", "_law_turn", "_law_at", "_law_new", "_law_bent", "_law_rows", "_law_row"] : List Str)
theorem sc11 : FnScope n11 (["_law_script"] : List Str) (defScope (top 15)) := ⟨rfl, rfl, rfl, by decide +kernel, rfl, by decide +kernel, by decide +kernel⟩
/-- law -/
theorem b11 {cv : Nat → Value} {F k : Nat} {Ex : XK} {X : Cx} (c : Cn (T.inf cv PD F k) Ex true (defScope (top 15)) n11 X) : Jb (T.inf cv PD F k) Ex X F m11 (defBody (top 15)) :=
 (ks_cons (ks_for c (ki_rng1 (c.nox) 8 rfl (by decide +kernel) (k_add k_int (k_min2 (c.nox) 7 rfl (by decide +kernel) (ka_cons (k_len (c.nox) 4 rfl (by decide +kernel) (ka_cons (k_var (c.nox) rfl (by decide +kernel)) ka_nil)) (ka_cons k_int ka_nil))))) (kg_nm (c.nox) 1 rfl (by decide +kernel))
 (ks_cons (ks_set (c.nox) 2 rfl (by decide +kernel) (k_call (c.nox) 0 rfl (by decide +kernel) (ka_cons (k_var (c.nox) rfl (by decide +kernel)) (ka_cons (k_var (c.nox) rfl (by decide +kernel)) ka_nil))))
 (ks_cons (ks_set (c.nox) 3 rfl (by decide +kernel) (k_call (c.nox) 4 rfl (by decide +kernel) (ka_cons (k_var (c.nox) rfl (by decide +kernel)) (ka_cons k_int ka_nil))))
 (ks_one (ks_for (c.nox) (ki_rng1 ((c.nox).nox) 8 rfl (by decide +kernel) k_int) (kg_nm ((c.nox).nox) 4 rfl (by decide +kernel))
 (ks_cons (ks_set ((c.nox).nox) 5 rfl (by decide +kernel) (k_call ((c.nox).nox) 1 rfl (by decide +kernel) (ka_cons (k_var ((c.nox).nox) rfl (by decide +kernel)) (ka_cons k_int ka_nil))))
 (ks_cons (ks_set ((c.nox).nox) 6 rfl (by decide +kernel) (k_call ((c.nox).nox) 2 rfl (by decide +kernel) (ka_cons (k_var ((c.nox).nox) rfl (by decide +kernel)) (ka_cons (k_lst (ka_cons k_none (ka_cons k_bool (ka_cons k_bool (ka_cons k_int (ka_cons k_int (ka_cons k_int (ka_cons k_int (ka_cons k_int (ka_cons k_int (ka_cons (k_neg k_int) (ka_cons k_str (ka_cons k_str (ka_cons k_str (ka_cons (k_tup (ka_cons k_int ka_nil)) ka_nil))))))))))))))) ka_nil))))
 (ks_cons (ks_set ((c.nox).nox) 7 rfl (by decide +kernel) (k_lst (ka_cons (k_var ((c.nox).nox) rfl (by decide +kernel)) (ka_cons (k_add (k_add (k_slcH (k_var ((c.nox).nox) rfl (by decide +kernel)) (k_var ((c.nox).nox) rfl (by decide +kernel))) (k_tup (ka_cons (k_var ((c.nox).nox) rfl (by decide +kernel)) ka_nil))) (k_slcL (k_var ((c.nox).nox) rfl (by decide +kernel)) (k_add (k_var ((c.nox).nox) rfl (by decide +kernel)) k_int))) (ka_cons (k_add (k_slcH (k_var ((c.nox).nox) rfl (by decide +kernel)) (k_var ((c.nox).nox) rfl (by decide +kernel))) (k_slcL (k_var ((c.nox).nox) rfl (by decide +kernel)) (k_add (k_var ((c.nox).nox) rfl (by decide +kernel)) k_int))) (ka_cons (k_add (k_var ((c.nox).nox) rfl (by decide +kernel)) (k_tup (ka_cons (k_var ((c.nox).nox) rfl (by decide +kernel)) ka_nil))) ka_nil))))))
 (ks_one (ks_if (kt_w (kw_or (kt_not (kt_val (k_call ((c.nox).nox) 10 rfl (by decide +kernel) (ka_cons (k_call ((c.nox).nox) 2 rfl (by decide +kernel) (ka_cons (k_var ((c.nox).nox) rfl (by decide +kernel)) (ka_cons (k_var ((c.nox).nox) rfl (by decide +kernel)) ka_nil))) ka_nil)))) (kw_or1 (kt_not (kt_val (k_call ((c.nox).nox) 10 rfl (by decide +kernel) (ka_cons (k_cpy ((c.nox).nox) 5 rfl (by decide +kernel) (k_var ((c.nox).nox) rfl (by decide +kernel))) ka_nil))))))) (ks_one (ks_ret k_bool)) ks_nil))))))))))
 (ks_cons (ks_set c 8 rfl (by decide +kernel) (k_lst (ka_cons (k_tup (ka_cons k_int (ka_cons k_int (ka_cons k_int (ka_cons k_int (ka_cons k_int (ka_cons k_int (ka_cons k_str (ka_cons k_int (ka_cons k_bool ka_nil)))))))))) (ka_cons (k_tup (ka_cons k_int (ka_cons k_int (ka_cons k_int (ka_cons k_int (ka_cons k_int (ka_cons k_int (ka_cons k_str (ka_cons k_int (ka_cons k_bool ka_nil)))))))))) ka_nil))))
 (ks_cons (ks_set c 8 rfl (by decide +kernel) (k_add (k_var c rfl (by decide +kernel)) (k_lst (ka_cons (k_tup (ka_cons k_int (ka_cons k_int (ka_cons k_int (ka_cons k_int (ka_cons k_int (ka_cons k_int (ka_cons k_str (ka_cons k_int (ka_cons k_bool ka_nil)))))))))) (ka_cons (k_tup (ka_cons k_int (ka_cons k_int (ka_cons k_int (ka_cons k_int (ka_cons k_int (ka_cons k_int (ka_cons k_str (ka_cons k_int (ka_cons k_bool ka_nil)))))))))) ka_nil)))))
 (ks_cons (ks_set c 8 rfl (by decide +kernel) (k_add (k_var c rfl (by decide +kernel)) (k_lst (ka_cons (k_tup (ka_cons k_int (ka_cons k_int (ka_cons k_int (ka_cons k_int (ka_cons k_int (ka_cons k_int (ka_cons k_str (ka_cons k_int (ka_cons k_bool ka_nil)))))))))) (ka_cons (k_tup (ka_cons k_int (ka_cons k_int (ka_cons k_int (ka_cons k_int (ka_cons k_int (ka_cons k_int (ka_cons k_str (ka_cons k_int (ka_cons k_bool ka_nil)))))))))) ka_nil)))))
 (ks_cons (ks_set c 8 rfl (by decide +kernel) (k_add (k_var c rfl (by decide +kernel)) (k_lst (ka_cons (k_tup (ka_cons k_int (ka_cons k_int (ka_cons k_int (ka_cons k_int (ka_cons k_int (ka_cons k_int (ka_cons k_str (ka_cons k_int (ka_cons k_bool ka_nil)))))))))) (ka_cons (k_tup (ka_cons k_int (ka_cons k_int (ka_cons k_int (ka_cons k_int (ka_cons k_int (ka_cons k_int (ka_cons k_str (ka_cons k_int (ka_cons k_bool ka_nil)))))))))) ka_nil)))))
 (ks_cons (ks_set c 8 rfl (by decide +kernel) (k_add (k_var c rfl (by decide +kernel)) (k_lst (ka_cons (k_tup (ka_cons k_int (ka_cons k_int (ka_cons k_int (ka_cons k_int (ka_cons k_int (ka_cons k_int (ka_cons k_str (ka_cons k_int (ka_cons k_bool ka_nil)))))))))) (ka_cons (k_tup (ka_cons k_int (ka_cons k_int (ka_cons k_int (ka_cons k_int (ka_cons k_int (ka_cons k_int (ka_cons k_str (ka_cons k_int (ka_cons k_bool ka_nil)))))))))) ka_nil)))))
 (ks_cons (ks_set c 8 rfl (by decide +kernel) (k_add (k_var c rfl (by decide +kernel)) (k_lst (ka_cons (k_tup (ka_cons k_int (ka_cons k_int (ka_cons k_int (ka_cons k_int (ka_cons k_int (ka_cons k_int (ka_cons k_str (ka_cons k_int (ka_cons k_bool ka_nil)))))))))) (ka_cons (k_tup (ka_cons k_int (ka_cons k_int (ka_cons k_int (ka_cons k_int (ka_cons k_int (ka_cons k_int (ka_cons k_str (ka_cons k_int (ka_cons k_bool ka_nil)))))))))) ka_nil)))))
 (ks_cons (ks_set c 8 rfl (by decide +kernel) (k_add (k_var c rfl (by decide +kernel)) (k_lst (ka_cons (k_tup (ka_cons k_int (ka_cons k_int (ka_cons k_int (ka_cons k_int (ka_cons k_int (ka_cons k_int (ka_cons k_str (ka_cons k_int (ka_cons k_bool ka_nil)))))))))) (ka_cons (k_tup (ka_cons k_int (ka_cons k_int (ka_cons k_int (ka_cons k_int (ka_cons k_int (ka_cons k_int (ka_cons k_str (ka_cons k_int (ka_cons k_bool ka_nil)))))))))) ka_nil)))))
 (ks_cons (ks_for c (ki_seq (k_var (c.nox) rfl (by decide +kernel))) (kg_nm (c.nox) 9 rfl (by decide +kernel))
 (ks_one (ks_if (kt_not (kt_val (k_call (c.nox) 10 rfl (by decide +kernel) (ka_cons (k_var (c.nox) rfl (by decide +kernel)) ka_nil)))) (ks_one (ks_ret k_bool)) ks_nil)))
 (ks_one (ks_ret k_bool)))))))))))
end K01

/-! K01e: the table of the defs, what the top has written; printed by gen.py (own work). -/
namespace K01
open PySem PySem.Spec PyProof.Rows L2 MI
section
variable {P : Program} {w : World} {K : PySem.W.Frag} {mg : Str → Option Value} {base : Heap} {cv : Nat → Value} {F : Nat}
theorem tab {A : Nat → Addr} {fd : Nat → FuncData} (wr : Wr T P w K mg) (hA : ∀ (j : Nat) (x : Str) (ps : List Str), T.fns[j]? = some (x, ps) → mg x = some (.ref (A j)) ∧ PySem.W.keepIn K (.ref (A j)) = true ∧ Binds K (fd j) ps [])
  (f0 : Fun K "_law_source" "_law_source" (top 7) (A 0) (fd 0))
  (f1 : Fun K "_law_draw" "_law_draw" (top 8) (A 1) (fd 1))
  (f2 : Fun K "_law_choice" "_law_choice" (top 9) (A 2) (fd 2))
  (f3 : Fun K "_law_size" "_law_size" (top 11) (A 3) (fd 3))
  (f4 : Fun K "_law_house" "_law_house" (top 12) (A 4) (fd 4))
  (f5 : Fun K "size_of" "size_of" (top 4) (A 5) (fd 5))
  (f6 : Fun K "is_from" "is_from" (top 3) (A 6) (fd 6))
  (f7 : Fun K "is_house" "is_house" (top 5) (A 7) (fd 7))
  (f8 : Fun K "_law_from" "_law_from" (top 10) (A 8) (fd 8))
  (f9 : Fun K "_law_is_house" "_law_is_house" (top 13) (A 9) (fd 9))
  (f10 : Fun K "_law_right" "_law_right" (top 14) (A 10) (fd 10))
  (f11 : Fun K "law" "law" (top 15) (A 11) (fd 11))
  : ∀ k : Nat, Tab T cv PD F P w K mg base A fd k
  | 0 => tab0
  | k + 1 => by
    have tb := tab wr hA f0 f1 f2 f3 f4 f5 f6 f7 f8 f9 f10 f11 k
    intro j x ps h
    have hj : j < 12 := (List.getElem?_eq_some_iff.mp h).1
    by_cases e0 : j = 0
    · subst e0
      cases (show some _ = some (x, ps) from h)
      exact def_ok wr hA tb h f0 sc0 pd0 rfl rfl fun Ex X c => b0 c
    by_cases e1 : j = 1
    · subst e1
      cases (show some _ = some (x, ps) from h)
      exact def_ok wr hA tb h f1 sc1 pd1 rfl rfl fun Ex X c => b1 c
    by_cases e2 : j = 2
    · subst e2
      cases (show some _ = some (x, ps) from h)
      exact def_ok wr hA tb h f2 sc2 pd2 rfl rfl fun Ex X c => b2 c
    by_cases e3 : j = 3
    · subst e3
      cases (show some _ = some (x, ps) from h)
      exact def_ok wr hA tb h f3 sc3 pd3 rfl rfl fun Ex X c => b3 c
    by_cases e4 : j = 4
    · subst e4
      cases (show some _ = some (x, ps) from h)
      exact def_ok wr hA tb h f4 sc4 pd4 rfl rfl fun Ex X c => b4 c
    by_cases e5 : j = 5
    · subst e5
      cases (show some _ = some (x, ps) from h)
      exact def_ok wr hA tb h f5 sc5 pd5 rfl rfl fun Ex X c => b5 c
    by_cases e6 : j = 6
    · subst e6
      cases (show some _ = some (x, ps) from h)
      exact def_ok wr hA tb h f6 sc6 pd6 rfl rfl fun Ex X c => b6 c
    by_cases e7 : j = 7
    · subst e7
      cases (show some _ = some (x, ps) from h)
      exact def_ok wr hA tb h f7 sc7 pd7 rfl rfl fun Ex X c => b7 c
    by_cases e8 : j = 8
    · subst e8
      cases (show some _ = some (x, ps) from h)
      exact def_ok wr hA tb h f8 sc8 pd8 rfl rfl fun Ex X c => b8 c
    by_cases e9 : j = 9
    · subst e9
      cases (show some _ = some (x, ps) from h)
      exact def_ok wr hA tb h f9 sc9 pd9 rfl rfl fun Ex X c => b9 c
    by_cases e10 : j = 10
    · subst e10
      cases (show some _ = some (x, ps) from h)
      exact def_ok wr hA tb h f10 sc10 pd10 rfl rfl fun Ex X c => b10 c
    by_cases e11 : j = 11
    · subst e11
      cases (show some _ = some (x, ps) from h)
      exact def_ok wr hA tb h f11 sc11 pd11 rfl rfl fun Ex X c => b11 c
    omega
end
/-- what is asked of the written part -/
theorem all_mk {l : PySem.W.OpenLaw} {w : World} {K : PySem.W.Frag} {h : Heap} {mg : Str → Option Value} {fa : Addr} (X : K.In h) (G : h.Ns mainGlobals mg) (hfa : mg "law" = some (.ref fa)) (cv : Nat → Value)
  {a0 a1 a2 a3 a4 a5 a6 a7 a8 a9 a10 a11 : Addr}
  {oc0 kV0 dc0 pm0 cd0 ct0 : Value} {od0 an0 : Option Addr} {sl0 : Array (Option Value)}
  {oc1 kV1 dc1 pm1 cd1 ct1 : Value} {od1 an1 : Option Addr} {sl1 : Array (Option Value)}
  {oc2 kV2 dc2 pm2 cd2 ct2 : Value} {od2 an2 : Option Addr} {sl2 : Array (Option Value)}
  {oc3 kV3 dc3 pm3 cd3 ct3 : Value} {od3 an3 : Option Addr} {sl3 : Array (Option Value)}
  {oc4 kV4 dc4 pm4 cd4 ct4 : Value} {od4 an4 : Option Addr} {sl4 : Array (Option Value)}
  {oc5 kV5 dc5 pm5 cd5 ct5 : Value} {od5 an5 : Option Addr} {sl5 : Array (Option Value)}
  {oc6 kV6 dc6 pm6 cd6 ct6 : Value} {od6 an6 : Option Addr} {sl6 : Array (Option Value)}
  {oc7 kV7 dc7 pm7 cd7 ct7 : Value} {od7 an7 : Option Addr} {sl7 : Array (Option Value)}
  {oc8 kV8 dc8 pm8 cd8 ct8 : Value} {od8 an8 : Option Addr} {sl8 : Array (Option Value)}
  {oc9 kV9 dc9 pm9 cd9 ct9 : Value} {od9 an9 : Option Addr} {sl9 : Array (Option Value)}
  {oc10 kV10 dc10 pm10 cd10 ct10 : Value} {od10 an10 : Option Addr} {sl10 : Array (Option Value)}
  {oc11 kV11 dc11 pm11 cd11 ct11 : Value} {od11 an11 : Option Addr} {sl11 : Array (Option Value)}
  (hg_ORDERS : ∃ (u : Value) (v : V), PySem.W.nsIn K mainGlobals "ORDERS" = some (some u) ∧ RelV v u ∧ ∀ H, DR K H v (.tuple [(.str "come"), (.str "late"), (.str "slot")]))
  (hg_MOST_SIZE : ∃ (u : Value) (v : V), PySem.W.nsIn K mainGlobals "MOST_SIZE" = some (some u) ∧ RelV v u ∧ ∀ H, DR K H v (.int 3000))
  (x0 : PySem.W.nsIn K mainGlobals "_law_source" = some (some (.ref a0))) (l0 : K.lookup a0 = some ⟨oc0, od0, .func (PySem.W.fnOf "_law_source" "_law_source" (defArgs (top 7)) (defBody (top 7)) (defScope (top 7)) .none kV0 dc0 pm0 an0 cd0 ct0), sl0⟩) (c0 : PySem.W.codeIn K cd0 "_law_source" = true) (k0 : PySem.W.keepIn K (.ref a0) = true)
  (x1 : PySem.W.nsIn K mainGlobals "_law_draw" = some (some (.ref a1))) (l1 : K.lookup a1 = some ⟨oc1, od1, .func (PySem.W.fnOf "_law_draw" "_law_draw" (defArgs (top 8)) (defBody (top 8)) (defScope (top 8)) .none kV1 dc1 pm1 an1 cd1 ct1), sl1⟩) (c1 : PySem.W.codeIn K cd1 "_law_draw" = true) (k1 : PySem.W.keepIn K (.ref a1) = true)
  (x2 : PySem.W.nsIn K mainGlobals "_law_choice" = some (some (.ref a2))) (l2 : K.lookup a2 = some ⟨oc2, od2, .func (PySem.W.fnOf "_law_choice" "_law_choice" (defArgs (top 9)) (defBody (top 9)) (defScope (top 9)) .none kV2 dc2 pm2 an2 cd2 ct2), sl2⟩) (c2 : PySem.W.codeIn K cd2 "_law_choice" = true) (k2 : PySem.W.keepIn K (.ref a2) = true)
  (x3 : PySem.W.nsIn K mainGlobals "_law_size" = some (some (.ref a3))) (l3 : K.lookup a3 = some ⟨oc3, od3, .func (PySem.W.fnOf "_law_size" "_law_size" (defArgs (top 11)) (defBody (top 11)) (defScope (top 11)) .none kV3 dc3 pm3 an3 cd3 ct3), sl3⟩) (c3 : PySem.W.codeIn K cd3 "_law_size" = true) (k3 : PySem.W.keepIn K (.ref a3) = true)
  (x4 : PySem.W.nsIn K mainGlobals "_law_house" = some (some (.ref a4))) (l4 : K.lookup a4 = some ⟨oc4, od4, .func (PySem.W.fnOf "_law_house" "_law_house" (defArgs (top 12)) (defBody (top 12)) (defScope (top 12)) .none kV4 dc4 pm4 an4 cd4 ct4), sl4⟩) (c4 : PySem.W.codeIn K cd4 "_law_house" = true) (k4 : PySem.W.keepIn K (.ref a4) = true)
  (x5 : PySem.W.nsIn K mainGlobals "size_of" = some (some (.ref a5))) (l5 : K.lookup a5 = some ⟨oc5, od5, .func (PySem.W.fnOf "size_of" "size_of" (defArgs (top 4)) (defBody (top 4)) (defScope (top 4)) .none kV5 dc5 pm5 an5 cd5 ct5), sl5⟩) (c5 : PySem.W.codeIn K cd5 "size_of" = true) (k5 : PySem.W.keepIn K (.ref a5) = true)
  (x6 : PySem.W.nsIn K mainGlobals "is_from" = some (some (.ref a6))) (l6 : K.lookup a6 = some ⟨oc6, od6, .func (PySem.W.fnOf "is_from" "is_from" (defArgs (top 3)) (defBody (top 3)) (defScope (top 3)) .none kV6 dc6 pm6 an6 cd6 ct6), sl6⟩) (c6 : PySem.W.codeIn K cd6 "is_from" = true) (k6 : PySem.W.keepIn K (.ref a6) = true)
  (x7 : PySem.W.nsIn K mainGlobals "is_house" = some (some (.ref a7))) (l7 : K.lookup a7 = some ⟨oc7, od7, .func (PySem.W.fnOf "is_house" "is_house" (defArgs (top 5)) (defBody (top 5)) (defScope (top 5)) .none kV7 dc7 pm7 an7 cd7 ct7), sl7⟩) (c7 : PySem.W.codeIn K cd7 "is_house" = true) (k7 : PySem.W.keepIn K (.ref a7) = true)
  (x8 : PySem.W.nsIn K mainGlobals "_law_from" = some (some (.ref a8))) (l8 : K.lookup a8 = some ⟨oc8, od8, .func (PySem.W.fnOf "_law_from" "_law_from" (defArgs (top 10)) (defBody (top 10)) (defScope (top 10)) .none kV8 dc8 pm8 an8 cd8 ct8), sl8⟩) (c8 : PySem.W.codeIn K cd8 "_law_from" = true) (k8 : PySem.W.keepIn K (.ref a8) = true)
  (x9 : PySem.W.nsIn K mainGlobals "_law_is_house" = some (some (.ref a9))) (l9 : K.lookup a9 = some ⟨oc9, od9, .func (PySem.W.fnOf "_law_is_house" "_law_is_house" (defArgs (top 13)) (defBody (top 13)) (defScope (top 13)) .none kV9 dc9 pm9 an9 cd9 ct9), sl9⟩) (c9 : PySem.W.codeIn K cd9 "_law_is_house" = true) (k9 : PySem.W.keepIn K (.ref a9) = true)
  (x10 : PySem.W.nsIn K mainGlobals "_law_right" = some (some (.ref a10))) (l10 : K.lookup a10 = some ⟨oc10, od10, .func (PySem.W.fnOf "_law_right" "_law_right" (defArgs (top 14)) (defBody (top 14)) (defScope (top 14)) .none kV10 dc10 pm10 an10 cd10 ct10), sl10⟩) (c10 : PySem.W.codeIn K cd10 "_law_right" = true) (k10 : PySem.W.keepIn K (.ref a10) = true)
  (x11 : PySem.W.nsIn K mainGlobals "law" = some (some (.ref a11))) (l11 : K.lookup a11 = some ⟨oc11, od11, .func (PySem.W.fnOf "law" "law" (defArgs (top 15)) (defBody (top 15)) (defScope (top 15)) .none kV11 dc11 pm11 an11 cd11 ct11), sl11⟩) (c11 : PySem.W.codeIn K cd11 "law" = true) (k11 : PySem.W.keepIn K (.ref a11) = true)
  (z_abs : PySem.W.nsIn K mainGlobals "abs" = some none)
  (z_bool : PySem.W.nsIn K mainGlobals "bool" = some none)
  (z_int : PySem.W.nsIn K mainGlobals "int" = some none)
  (z_isinstance : PySem.W.nsIn K mainGlobals "isinstance" = some none)
  (z_len : PySem.W.nsIn K mainGlobals "len" = some none)
  (z_list : PySem.W.nsIn K mainGlobals "list" = some none)
  (z_max : PySem.W.nsIn K mainGlobals "max" = some none)
  (z_min : PySem.W.nsIn K mainGlobals "min" = some none)
  (z_range : PySem.W.nsIn K mainGlobals "range" = some none)
  (z_str : PySem.W.nsIn K mainGlobals "str" = some none)
  (z_tuple : PySem.W.nsIn K mainGlobals "tuple" = some none)
  : ∃ fd : FuncData, (∀ (s : Shared) (v : Value), BindsTo s fd ⟨[v], []⟩ [("_law_script", v)]) ∧ ∀ base : Heap, K.In base → base.Ns mainGlobals mg → FnOk l.prog w K mg base (L2.CX l.prog w) 30 fa fd ["_law_script"] (spX ⟨l.prog, w, K⟩ cv PD 30 11 1) := by
  have e := hfa.symm.trans (PySem.W.mg_of X G x11)
  cases e
  have F0 := fun_mk (st := top 7) l0 c0 k0
  have B0 := F0.binds (ps := (["_law_script", "_law_k"] : List Str)) fun _ _ _ _ _ _ us hl => match us, hl with | [_, _], _ => rfl
  have F1 := fun_mk (st := top 8) l1 c1 k1
  have B1 := F1.binds (ps := (["_law_source_here", "_law_many"] : List Str)) fun _ _ _ _ _ _ us hl => match us, hl with | [_, _], _ => rfl
  have F2 := fun_mk (st := top 9) l2 c2 k2
  have B2 := F2.binds (ps := (["_law_source_here", "_law_some"] : List Str)) fun _ _ _ _ _ _ us hl => match us, hl with | [_, _], _ => rfl
  have F3 := fun_mk (st := top 11) l3 c3 k3
  have B3 := F3.binds (ps := (["_law_house_here"] : List Str)) fun _ _ _ _ _ _ us hl => match us, hl with | [_], _ => rfl
  have F4 := fun_mk (st := top 12) l4 c4 k4
  have B4 := F4.binds (ps := (["_law_source_here", "_law_most"] : List Str)) fun _ _ _ _ _ _ us hl => match us, hl with | [_, _], _ => rfl
  have F5 := fun_mk (st := top 4) l5 c5 k5
  have B5 := F5.binds (ps := (["house"] : List Str)) fun _ _ _ _ _ _ us hl => match us, hl with | [_], _ => rfl
  have F6 := fun_mk (st := top 3) l6 c6 k6
  have B6 := F6.binds (ps := (["value", "low", "high"] : List Str)) fun _ _ _ _ _ _ us hl => match us, hl with | [_, _, _], _ => rfl
  have F7 := fun_mk (st := top 5) l7 c7 k7
  have B7 := F7.binds (ps := (["value"] : List Str)) fun _ _ _ _ _ _ us hl => match us, hl with | [_], _ => rfl
  have F8 := fun_mk (st := top 10) l8 c8 k8
  have B8 := F8.binds (ps := (["_law_value", "_law_low", "_law_high"] : List Str)) fun _ _ _ _ _ _ us hl => match us, hl with | [_, _, _], _ => rfl
  have F9 := fun_mk (st := top 13) l9 c9 k9
  have B9 := F9.binds (ps := (["_law_value"] : List Str)) fun _ _ _ _ _ _ us hl => match us, hl with | [_], _ => rfl
  have F10 := fun_mk (st := top 14) l10 c10 k10
  have B10 := F10.binds (ps := (["_law_value"] : List Str)) fun _ _ _ _ _ _ us hl => match us, hl with | [_], _ => rfl
  have F11 := fun_mk (st := top 15) l11 c11 k11
  have B11 := F11.binds (ps := (["_law_script"] : List Str)) fun _ _ _ _ _ _ us hl => match us, hl with | [_], _ => rfl
  refine ⟨PySem.W.fnOf "law" "law" (defArgs (top 15)) (defBody (top 15)) (defScope (top 15)) .none kV11 dc11 pm11 an11 cd11 ct11, fun s v => .of_eq rfl, fun base _ _ => ?_⟩
  let A : Nat → Addr := fun j => match j with | 0 => a0 | 1 => a1 | 2 => a2 | 3 => a3 | 4 => a4 | 5 => a5 | 6 => a6 | 7 => a7 | 8 => a8 | 9 => a9 | 10 => a10 | _ => fa
  let fd : Nat → FuncData := fun j => match j with | 0 => PySem.W.fnOf "_law_source" "_law_source" (defArgs (top 7)) (defBody (top 7)) (defScope (top 7)) .none kV0 dc0 pm0 an0 cd0 ct0 | 1 => PySem.W.fnOf "_law_draw" "_law_draw" (defArgs (top 8)) (defBody (top 8)) (defScope (top 8)) .none kV1 dc1 pm1 an1 cd1 ct1 | 2 => PySem.W.fnOf "_law_choice" "_law_choice" (defArgs (top 9)) (defBody (top 9)) (defScope (top 9)) .none kV2 dc2 pm2 an2 cd2 ct2 | 3 => PySem.W.fnOf "_law_size" "_law_size" (defArgs (top 11)) (defBody (top 11)) (defScope (top 11)) .none kV3 dc3 pm3 an3 cd3 ct3 | 4 => PySem.W.fnOf "_law_house" "_law_house" (defArgs (top 12)) (defBody (top 12)) (defScope (top 12)) .none kV4 dc4 pm4 an4 cd4 ct4 | 5 => PySem.W.fnOf "size_of" "size_of" (defArgs (top 4)) (defBody (top 4)) (defScope (top 4)) .none kV5 dc5 pm5 an5 cd5 ct5 | 6 => PySem.W.fnOf "is_from" "is_from" (defArgs (top 3)) (defBody (top 3)) (defScope (top 3)) .none kV6 dc6 pm6 an6 cd6 ct6 | 7 => PySem.W.fnOf "is_house" "is_house" (defArgs (top 5)) (defBody (top 5)) (defScope (top 5)) .none kV7 dc7 pm7 an7 cd7 ct7 | 8 => PySem.W.fnOf "_law_from" "_law_from" (defArgs (top 10)) (defBody (top 10)) (defScope (top 10)) .none kV8 dc8 pm8 an8 cd8 ct8 | 9 => PySem.W.fnOf "_law_is_house" "_law_is_house" (defArgs (top 13)) (defBody (top 13)) (defScope (top 13)) .none kV9 dc9 pm9 an9 cd9 ct9 | 10 => PySem.W.fnOf "_law_right" "_law_right" (defArgs (top 14)) (defBody (top 14)) (defScope (top 14)) .none kV10 dc10 pm10 an10 cd10 ct10 | _ => PySem.W.fnOf "law" "law" (defArgs (top 15)) (defBody (top 15)) (defScope (top 15)) .none kV11 dc11 pm11 an11 cd11 ct11
  have wr : Wr T l.prog w K mg := by
    refine ⟨fun j x e => ?_, fun j x d e => ?_⟩
    · have hj : j < 11 := (List.getElem?_eq_some_iff.mp e).1
      by_cases e0 : j = 0
      · subst e0
        cases (show some _ = some x from e)
        exact PySem.W.mg_none_of X G z_abs
      by_cases e1 : j = 1
      · subst e1
        cases (show some _ = some x from e)
        exact PySem.W.mg_none_of X G z_bool
      by_cases e2 : j = 2
      · subst e2
        cases (show some _ = some x from e)
        exact PySem.W.mg_none_of X G z_int
      by_cases e3 : j = 3
      · subst e3
        cases (show some _ = some x from e)
        exact PySem.W.mg_none_of X G z_isinstance
      by_cases e4 : j = 4
      · subst e4
        cases (show some _ = some x from e)
        exact PySem.W.mg_none_of X G z_len
      by_cases e5 : j = 5
      · subst e5
        cases (show some _ = some x from e)
        exact PySem.W.mg_none_of X G z_list
      by_cases e6 : j = 6
      · subst e6
        cases (show some _ = some x from e)
        exact PySem.W.mg_none_of X G z_max
      by_cases e7 : j = 7
      · subst e7
        cases (show some _ = some x from e)
        exact PySem.W.mg_none_of X G z_min
      by_cases e8 : j = 8
      · subst e8
        cases (show some _ = some x from e)
        exact PySem.W.mg_none_of X G z_range
      by_cases e9 : j = 9
      · subst e9
        cases (show some _ = some x from e)
        exact PySem.W.mg_none_of X G z_str
      by_cases e10 : j = 10
      · subst e10
        cases (show some _ = some x from e)
        exact PySem.W.mg_none_of X G z_tuple
      omega
    · have hj : j < 2 := (List.getElem?_eq_some_iff.mp e).1
      by_cases e0 : j = 0
      · subst e0
        cases (show some _ = some (x, d) from e)
        obtain ⟨u, v, q1, q2, q3⟩ := hg_ORDERS
        exact ⟨u, v, PySem.W.mg_of X G q1, q2, q3⟩
      by_cases e1 : j = 1
      · subst e1
        cases (show some _ = some (x, d) from e)
        obtain ⟨u, v, q1, q2, q3⟩ := hg_MOST_SIZE
        exact ⟨u, v, PySem.W.mg_of X G q1, q2, q3⟩
      omega
  have hA : ∀ (j : Nat) (x : Str) (ps : List Str), T.fns[j]? = some (x, ps) → mg x = some (.ref (A j)) ∧ PySem.W.keepIn K (.ref (A j)) = true ∧ Binds K (fd j) ps [] := by
    intro j x ps e
    have hj : j < 12 := (List.getElem?_eq_some_iff.mp e).1
    by_cases e0 : j = 0
    · subst e0
      cases (show some _ = some (x, ps) from e)
      exact ⟨PySem.W.mg_of X G x0, k0, B0⟩
    by_cases e1 : j = 1
    · subst e1
      cases (show some _ = some (x, ps) from e)
      exact ⟨PySem.W.mg_of X G x1, k1, B1⟩
    by_cases e2 : j = 2
    · subst e2
      cases (show some _ = some (x, ps) from e)
      exact ⟨PySem.W.mg_of X G x2, k2, B2⟩
    by_cases e3 : j = 3
    · subst e3
      cases (show some _ = some (x, ps) from e)
      exact ⟨PySem.W.mg_of X G x3, k3, B3⟩
    by_cases e4 : j = 4
    · subst e4
      cases (show some _ = some (x, ps) from e)
      exact ⟨PySem.W.mg_of X G x4, k4, B4⟩
    by_cases e5 : j = 5
    · subst e5
      cases (show some _ = some (x, ps) from e)
      exact ⟨PySem.W.mg_of X G x5, k5, B5⟩
    by_cases e6 : j = 6
    · subst e6
      cases (show some _ = some (x, ps) from e)
      exact ⟨PySem.W.mg_of X G x6, k6, B6⟩
    by_cases e7 : j = 7
    · subst e7
      cases (show some _ = some (x, ps) from e)
      exact ⟨PySem.W.mg_of X G x7, k7, B7⟩
    by_cases e8 : j = 8
    · subst e8
      cases (show some _ = some (x, ps) from e)
      exact ⟨PySem.W.mg_of X G x8, k8, B8⟩
    by_cases e9 : j = 9
    · subst e9
      cases (show some _ = some (x, ps) from e)
      exact ⟨PySem.W.mg_of X G x9, k9, B9⟩
    by_cases e10 : j = 10
    · subst e10
      cases (show some _ = some (x, ps) from e)
      exact ⟨PySem.W.mg_of X G x10, k10, B10⟩
    by_cases e11 : j = 11
    · subst e11
      cases (show some _ = some (x, ps) from e)
      exact ⟨PySem.W.mg_of X G x11, k11, B11⟩
    omega
  exact fnX fun F => tab (A := A) (fd := fd) wr hA F0 F1 F2 F3 F4 F5 F6 F7 F8 F9 F10 F11 30 11 "law" _ rfl
theorem walk {l : PySem.W.OpenLaw} {q : Program} {loose : List Str} {XP : (Str → Option Value) → Heap → Prop} {YP : World → Heap → Prop} {d : DefRec} {K : Params → PySem.W.Frag} (hn : l.most = some 63) (hdf : d.params.defaults = [])
    (hY : ∀ (w : World) (h : Heap), YP w h → (K w.params).In h) (hm : ∀ ns : List Int, ns.length ≤ 63 → ∃ F S', callP PD F 30 11 [.d (.list (ns.map .int))] [] = .ok (.d (.bool true)) S')
    (F : ∀ (w : World) (mg : Str → Option Value) (fa : Addr) (h : Heap), (K w.params).In h → h.Ns mainGlobals mg → mg d.name = some (.ref fa) →
      ∃ fd : FuncData, (∀ (s : Shared) (u : Value), BindsTo s fd ⟨[u], []⟩ [("_law_script", u)]) ∧ ∀ base : Heap, (K w.params).In base → base.Ns mainGlobals mg → FnOk l.prog w (K w.params) mg base (L2.CX l.prog w) 30 fa fd ["_law_script"] (spX ⟨l.prog, w, K w.params⟩ (fun _ => .none) PD 30 11 1)) :
    PySem.W.WalkO q loose XP YP l.row.toRowW d [] (fun f vs => PySem.call f vs) :=
  L2.walk_of (n := 63) (k := 30) (x := "_law_script") (CX := fun w => L2.CX l.prog w) (sp := fun w => spX ⟨l.prog, w, K w.params⟩ (fun _ => .none) PD 30 11 1) hn (by decide) hdf ⟨rfl, by decide, by decide⟩ hY F
    (fun w H a ns hl hO hS => hspX hO hS (hm ns hl)) fun _ _ _ _ _ z => hCXL z
end K01

namespace K01
open PySem MI
local macro_rules | `(tactic| walk_at "mi") => `(tactic| first
  | (with_reducible refine n_cst ?_)
  | ((with_reducible refine n_varE ?_); refine ⟨_, rfl, ?_⟩)
  | (with_reducible refine n_glb ?_)
  | (with_reducible refine n_bin ?_)
  | ((with_reducible refine br_mk ?_ ?_) <;> intro hc <;> try (cases hc; done))
  | (with_reducible refine boQ_mk ?_)
  | (with_reducible refine inQ_mk ?_)
  | ((with_reducible refine' daQ_mk ?h1 ?h2 ?_); (case h1 => repeat (first | exact da_nil | apply da_cons)); (case h2 => first | rfl | decide))
  | (with_reducible refine p2Q_mk ?_)
  | (with_reducible refine sqQ_l ?_)
  | (with_reducible refine sqQ_t ?_)
  | ((with_reducible refine' sqQ_r ?h1 ?_); (case h1 => first | assumption | exact get_set (by assumption)))
  | ((with_reducible refine' ixQ_mk ?h1 ?_); (case h1 => first | rfl | assumption))
  | (with_reducible refine dtQ_d ?_)
  | ((with_reducible refine' dtQ_r ?h1 ?_); (case h1 => first | assumption | exact get_set (by assumption)))
  | ((with_reducible refine' asQ_mk ?h1 ?_); (case h1 => rfl))
  | ((with_reducible refine' rgQ_mk ?h1 ?h2 ?_); (case h1 => first | assumption | decide | omega); (case h2 => first | assumption | decide | omega))
  | (with_reducible refine sdQ_l ?_)
  | (with_reducible refine sdQ_t ?_)
  | ((with_reducible refine' bnQ_mk ?h1 ?_); (case h1 => rfl))
  | (with_reducible refine n_not ?_)
  | (with_reducible refine n_cmp ?_)
  | (with_reducible refine n_and ?_)
  | (with_reducible refine n_or ?_)
  | (with_reducible refine n_chn ?_)
  | (with_reducible refine n_ife ?_)
  | (with_reducible refine n_tup ?_)
  | (with_reducible refine n_lstF ?_)
  | (with_reducible refine n_lstT ?_)
  | (with_reducible refine n_idx ?_)
  | (with_reducible refine n_slcH ?_)
  | (with_reducible refine n_slcL ?_)
  | (with_reducible refine n_call ?_)
  | (with_reducible refine n_blt ?_)
  | (with_reducible refine n_cpy ?_)
  | (with_reducible refine n_isi ?_)
  | (with_reducible refine n_neg ?_)
  | (with_reducible refine n_nil ?_)
  | (with_reducible refine n_cons ?_)
  | (with_reducible refine o_addI ?_)
  | ((with_reducible refine' o_addT ?h1 ?_); (case h1 => first | rfl | decide | assumption))
  | ((with_reducible refine' o_addL ?h1 ?_); (case h1 => first | rfl | decide | assumption))
  | (with_reducible refine o_newF ?_)
  | (with_reducible refine o_sub ?_)
  | (with_reducible refine o_neg ?_)
  | (with_reducible refine o_lt ?_)
  | (with_reducible refine o_le ?_)
  | (with_reducible refine o_gt ?_)
  | (with_reducible refine o_ge ?_)
  | ((with_reducible refine' o_eq ?h1 ?_); (case h1 => first | rfl | assumption))
  | ((with_reducible refine' o_ne ?h1 ?_); (case h1 => first | rfl | assumption))
  | ((with_reducible refine' o_inL ?h1 ?_); (case h1 => first | rfl | assumption))
  | ((with_reducible refine' o_inT ?h1 ?_); (case h1 => first | rfl | assumption))
  | ((with_reducible refine' o_notinL ?h1 ?_); (case h1 => first | rfl | assumption))
  | ((with_reducible refine' o_notinT ?h1 ?_); (case h1 => first | rfl | assumption))
  | (with_reducible refine o_abs ?_)
  | (with_reducible refine o_int ?_)
  | (with_reducible refine o_max2 ?_)
  | (with_reducible refine o_min2 ?_)
  | (with_reducible refine o_lenT ?_)
  | (with_reducible refine o_lenL ?_)
  | (with_reducible refine o_slcT ?_)
  | ((with_reducible refine' o_mul ?h1 ?_); (case h1 => first | exact small_r (by decide) | exact small_l (by decide) | exact small_l (small_of (by omega) (by omega)) | exact small_r (small_of (by omega) (by omega))))
  | ((with_reducible refine' o_mod ?h1 ?_); (case h1 => first | assumption | decide))
  | ((with_reducible refine' o_fdiv ?h1 ?h2 ?_); (case h1 => first | assumption | decide); (case h2 => first | assumption | decide))
  | ((with_reducible refine' o_pow ?h1 ?_); (case h1 => first | decide | assumption))
  | ((with_reducible refine' o_setw ?h1 ?h2 ?_); (case h1 => first | assumption | exact get_set (by assumption)); (case h2 => rfl))
  | (with_reducible refine m_skip ?_)
  | (with_reducible refine m_seq ?_)
  | (with_reducible refine m_asg ?_)
  | (with_reducible refine m_asgT ?_)
  | (with_reducible refine m_par2 ?_)
  | (with_reducible refine m_setx ?_)
  | (with_reducible refine m_iff ?_)
  | (with_reducible refine m_ret ?_)
  | (with_reducible refine m_for ?_)
  | (with_reducible refine i_rng ?_)
  | (with_reducible refine i_seqL ?_)
  | ((with_reducible refine' l_rt ?h1 ?_); (case h1 => first | rfl | simp only [List.length_set]))
  | fail)
abbrev srcO (p : Int × Int) : SO := .list [.int p.1, .int p.2]
theorem fin_b {b c : Bool} {S : Store} {Q : W → Store → Prop} (q : Q (.d (.bool b)) S) (e : b = c) : Q (.d (.bool c)) S := by rw [← e]; exact q
def dr (p : Int × Int) (m : Int) : Int × (Int × Int) :=
  if 0 < p.1 then (p.1 % m, (p.1 / m, p.2))
  else
    let s := (p.2 * 40014 + 77) % 2147483563
    ((s * (s / 5 + 1)) % 2147483399 / 8 % m, (p.1, s))
theorem draw_to {F k i : Nat} {S : Store} {p : Int × Int} {m : Int} {Q : W → Store → Prop} (h : S[i]? = some (srcO p)) (h1 : 0 < m) (h2 : m < 1073741824) (q : Q (.d (.int (dr p m).1)) (S.set i (srcO (dr p m).2))) :
    (callP PD F (k + 1) 1 [.r i, .d (.int m)] S).to Q := by
  refine p_call pd1 rfl ?_
  show (exM _ F m1 (startL 4 _) S).to _
  unfold m1
  repeat' walk_at "mi"
  · rename_i hc
    have c := of_decide_eq_true hc
    unfold dr at q
    rw [if_pos c] at q
    exact q
  · rename_i hc
    have c := of_decide_eq_false hc
    unfold dr at q
    rw [if_neg c] at q
    exact q
theorem dr_range {p : Int × Int} {m : Int} (h : 0 < m) : 0 ≤ (dr p m).1 ∧ (dr p m).1 < m := by
  unfold dr
  split
  · exact ⟨Int.emod_nonneg _ (by omega), Int.emod_lt_of_pos _ h⟩
  · exact ⟨Int.emod_nonneg _ (by omega), Int.emod_lt_of_pos _ h⟩
theorem dr_le {p : Int × Int} {m : Int} (h : 0 < m) (hp : 0 ≤ p.1) : 0 ≤ (dr p m).2.1 ∧ (dr p m).2.1 ≤ p.1 := by
  unfold dr
  split
  · exact ⟨Int.ediv_nonneg hp (by omega), Int.ediv_le_self _ hp⟩
  · exact ⟨hp, Int.le_refl _⟩
theorem dr_lt {p : Int × Int} {m : Int} (h : 1 < m) (hp : 0 < p.1) : (dr p m).2.1 < p.1 := by
  unfold dr
  rw [if_pos hp]
  exact Int.ediv_lt_of_lt_mul (by omega) (by have := Int.mul_lt_mul_of_pos_left h hp; omega)
theorem atI_ok {α : Type} {xs : List α} {i : Int} (h0 : 0 ≤ i) (h1 : i < xs.length) : ∃ v ∈ xs, L2.atI xs i = some v := by
  unfold L2.atI L2.ixN
  rw [if_pos h0, if_pos h1]
  have hl : i.toNat < xs.length := by omega
  exact ⟨xs[i.toNat], List.getElem_mem hl, by simp [hl]⟩
theorem choice_to {F k i : Nat} {S : Store} {p : Int × Int} {xs : List D} {Q : W → Store → Prop} (h : S[i]? = some (srcO p)) (h1 : 0 < xs.length) (h2 : xs.length < 1073741824) (q : ∀ v ∈ xs, Q (.d v) (S.set i (srcO (dr p xs.length).2))) :
    (callP PD F (k + 2) 2 [.r i, .d (.list xs)] S).to Q := by
  refine p_call pd2 rfl ?_
  show (exM _ F m2 (startL 2 _) S).to _
  unfold m2
  repeat' walk_at "mi"
  refine draw_to h (by omega) (by omega) ?_
  obtain ⟨r1, r2⟩ := dr_range (p := p) (m := xs.length) (by omega)
  obtain ⟨v, hv, e⟩ := atI_ok r1 r2
  repeat' walk_at "mi"
  exact q v hv
def fromB (v : D) (lo hi : Int) : Bool := match v with
  | .int i => decide (lo ≤ i) && decide (i ≤ hi)
  | _ => false
theorem is_from_to {F k : Nat} {S : Store} {v : D} {lo hi : Int} {Q : W → Store → Prop} (q : Q (.d (.bool (fromB v lo hi))) S) : (callP PD F (k + 1) 6 [.d v, .d (.int lo), .d (.int hi)] S).to Q := by
  refine p_call pd6 rfl ?_
  show (exM _ F m6 (startL 3 _) S).to _
  unfold m6
  cases v
  all_goals repeat' walk_at "mi"
  all_goals refine fin_b q ?_
  all_goals first | rfl | (simp_all [fromB, tyD]; done) | (simp_all [fromB, tyD]; omega)
theorem from_to {F k : Nat} {S : Store} {v : D} {lo hi : Int} {Q : W → Store → Prop} (q : Q (.d (.bool (fromB v lo hi))) S) : (callP PD F (k + 1) 8 [.d v, .d (.int lo), .d (.int hi)] S).to Q := by
  refine p_call pd8 rfl ?_
  show (exM _ F m8 (startL 3 _) S).to _
  unfold m8
  cases v
  all_goals repeat' walk_at "mi"
  all_goals refine fin_b q ?_
  all_goals first | rfl | (simp_all [fromB, tyD]; done) | (simp_all [fromB, tyD]; omega)
theorem fromB_int {v : D} {lo hi : Int} (h : fromB v lo hi = true) : ∃ i, v = .int i ∧ lo ≤ i ∧ i ≤ hi := by
  cases v with
  | int i =>
    unfold fromB at h
    simp only [Bool.and_eq_true, decide_eq_true_eq] at h
    exact ⟨i, rfl, h⟩
  | _ => cases h
/-! ### the size -/
def manyF (g e l : Int) : Int := (e + l) / g + 1
def sizeF (g e l hi ro ev : Int) : Int := g * hi * (ev + 1) * 2 ^ (manyF g e l).toNat * (2 * manyF g e l + 3) ^ ro.toNat
theorem many_range {g e l : Int} (hg : 1 ≤ g) (h1 : 0 ≤ e) (h2 : e ≤ 3) (h3 : 0 ≤ l) (h4 : l ≤ 3) : 1 ≤ manyF g e l ∧ manyF g e l ≤ 7 := by
  unfold manyF
  have a := Int.ediv_nonneg (a := e + l) (b := g) (by omega) (by omega)
  have b := Int.ediv_le_self g (a := e + l) (by omega)
  omega
theorem size_of_to {F k : Nat} {S : Store} {g e l hi ro ev : Int} {lo od ah : D} {Q : W → Store → Prop} (hg : 1 ≤ g) (hg2 : g ≤ 4) (h1 : 0 ≤ e) (h2 : e ≤ 3) (h3 : 0 ≤ l) (h4 : l ≤ 3) (h5 : 1 ≤ hi) (h6 : hi ≤ 4) (h7 : 0 ≤ ro) (h8 : ro ≤ 1000) (h9 : 0 ≤ ev) (h10 : ev ≤ 2)
    (q : Q (.d (.int (sizeF g e l hi ro ev))) S) : (callP PD F (k + 1) 5 [.d (.tuple [.int g, .int e, .int l, lo, .int hi, .int ro, od, .int ev, ah])] S).to Q := by
  obtain ⟨m1, m2⟩ := many_range hg h1 h2 h3 h4
  have hg0 : 0 < g := by omega
  have hg3 : g < 1073741824 := by omega
  refine p_call pd5 rfl ?_
  show (exM _ F m5 (startL 13 _) S).to _
  unfold m5
  repeat' walk_at "mi"
  have m1' : 1 ≤ (e + l) / g + 1 := m1
  have m2' : (e + l) / g + 1 ≤ 7 := m2
  refine rgQ_mk (by omega) (by omega) ?_
  refine foQ_mk (fun i ls S' => S' = S ∧ ∃ t, ls = [some (.d (.tuple [.int g, .int e, .int l, lo, .int hi, .int ro, od, .int ev, ah])), some (.d (.int g)), some (.d (.int e)), some (.d (.int l)), some (.d lo), some (.d (.int hi)), some (.d (.int ro)), some (.d od), some (.d (.int ev)), some (.d ah), some (.d (.int (manyF g e l))),
    some (.d (.int (g * hi * (ev + 1) * 2 ^ i))), t]) ⟨rfl, none, by simp; rfl⟩ ?_ ?_
  · rintro j x hx ls S' ⟨rfl, t, rfl⟩
    repeat' walk_at "mi"
    exact ⟨rfl, some (.d x), by simp [Int.pow_succ, Int.mul_assoc]⟩
  · rintro ls S' ⟨rfl, t, rfl⟩
    rw [List.length_map, List.length_range]
    repeat' walk_at "mi"
    refine foQ_mk (fun i ls S'' => S'' = S' ∧ ∃ t, ls = [some (.d (.tuple [.int g, .int e, .int l, lo, .int hi, .int ro, od, .int ev, ah])), some (.d (.int g)), some (.d (.int e)), some (.d (.int l)), some (.d lo), some (.d (.int hi)), some (.d (.int ro)), some (.d od), some (.d (.int ev)), some (.d ah), some (.d (.int (manyF g e l))),
      some (.d (.int (g * hi * (ev + 1) * 2 ^ (manyF g e l).toNat * (2 * manyF g e l + 3) ^ i))), t]) ⟨rfl, t, by simp; rfl⟩ ?_ ?_
    · rintro j x hx ls S'' ⟨rfl, t, rfl⟩
      repeat' walk_at "mi"
      exact ⟨rfl, some (.d x), by simp [Int.pow_succ, Int.mul_assoc]⟩
    · rintro ls S'' ⟨rfl, t, rfl⟩
      rw [List.length_map, List.length_range]
      repeat' walk_at "mi"
      exact q
theorem law_size_to {F k : Nat} {S : Store} {g e l hi ro ev : Int} {lo od ah : D} {Q : W → Store → Prop} (hg : 1 ≤ g) (hg2 : g ≤ 4) (h1 : 0 ≤ e) (h2 : e ≤ 3) (h3 : 0 ≤ l) (h4 : l ≤ 3) (h5 : 1 ≤ hi) (h6 : hi ≤ 4) (h7 : 0 ≤ ro) (h8 : ro ≤ 1000) (h9 : 0 ≤ ev) (h10 : ev ≤ 2)
    (q : Q (.d (.int (sizeF g e l hi ro ev))) S) : (callP PD F (k + 1) 3 [.d (.tuple [.int g, .int e, .int l, lo, .int hi, .int ro, od, .int ev, ah])] S).to Q := by
  obtain ⟨m1, m2⟩ := many_range hg h1 h2 h3 h4
  have hg0 : 0 < g := by omega
  have hg3 : g < 1073741824 := by omega
  refine p_call pd3 rfl ?_
  show (exM _ F m3 (startL 4 _) S).to _
  unfold m3
  repeat' walk_at "mi"
  have m1' : 1 ≤ (e + l) / g + 1 := m1
  have m2' : (e + l) / g + 1 ≤ 7 := m2
  refine rgQ_mk (by omega) (by omega) ?_
  refine foQ_mk (fun i ls S' => S' = S ∧ ∃ t, ls = [some (.d (.tuple [.int g, .int e, .int l, lo, .int hi, .int ro, od, .int ev, ah])), some (.d (.int (manyF g e l))), some (.d (.int (g * hi * (ev + 1) * 2 ^ i))), t]) ⟨rfl, none, by simp; rfl⟩ ?_ ?_
  · rintro j x hx ls S' ⟨rfl, t, rfl⟩
    repeat' walk_at "mi"
    exact ⟨rfl, some (.d x), by simp [Int.pow_succ, Int.mul_assoc]⟩
  · rintro ls S' ⟨rfl, t, rfl⟩
    rw [List.length_map, List.length_range]
    repeat' walk_at "mi"
    refine foQ_mk (fun i ls S'' => S'' = S' ∧ ∃ t, ls = [some (.d (.tuple [.int g, .int e, .int l, lo, .int hi, .int ro, od, .int ev, ah])), some (.d (.int (manyF g e l))), some (.d (.int (g * hi * (ev + 1) * 2 ^ (manyF g e l).toNat * (2 * manyF g e l + 3) ^ i))), t]) ⟨rfl, t, by simp; rfl⟩ ?_ ?_
    · rintro j x hx ls S'' ⟨rfl, t, rfl⟩
      repeat' walk_at "mi"
      exact ⟨rfl, some (.d x), by simp [Int.pow_succ, Int.mul_assoc]⟩
    · rintro ls S'' ⟨rfl, t, rfl⟩
      rw [List.length_map, List.length_range]
      repeat' walk_at "mi"
      exact q
/-! ### is it a house -/
def loB (lo hi : D) : Bool := match hi with
  | .int h => fromB lo 1 h
  | _ => false
def szB : D → D → D → D → D → D → Bool
  | .int g, .int e, .int l, .int hi, .int ro, .int ev => decide (sizeF g e l hi ro ev ≤ 3000)
  | _, _, _, _, _, _ => false
def words : List D := [.str "come", .str "late", .str "slot"]
def okB9 (g e l lo hi ro od ev ah : D) : Bool := fromB g 1 4 && fromB e 0 3 && fromB l 0 3 && fromB hi 1 4 && loB lo hi && fromB ro 1 2 && fromB ev 0 2 && tyD .str od && memD od words && tyD .bool ah && szB g e l hi ro ev
def okB : D → Bool
  | .tuple [g, e, l, lo, hi, ro, od, ev, ah] => okB9 g e l lo hi ro od ev ah
  | _ => false
theorem nine {xs : List D} (h : xs.length = 9) : ∃ g e l lo hi ro od ev ah, xs = [g, e, l, lo, hi, ro, od, ev, ah] := by
  match xs, h with
  | [g, e, l, lo, hi, ro, od, ev, ah], _ => exact ⟨g, e, l, lo, hi, ro, od, ev, ah, rfl⟩
theorem okB_len {xs : List D} (h : xs.length ≠ 9) : okB (.tuple xs) = false := by
  unfold okB
  split
  · next e => cases e; exact absurd rfl h
  · rfl
theorem ty_str {od : D} (h : (!tyD .str od) = false) : ∃ z, od = .str z := by
  cases od with
  | str z => exact ⟨z, rfl⟩
  | _ => cases h
theorem len9 {n : Nat} (h : (!(PyData.int (n : Int)).eqv (.int 9)) = false) : n = 9 := by
  simp [PyData.eqv] at h
  omega
theorem not_f {b : Bool} (h : (!b) = false) : b = true := by cases b <;> simp_all
theorem is_house_to {F k : Nat} {S : Store} {v : D} {Q : W → Store → Prop} (q : Q (.d (.bool (okB v))) S) : (callP PD F (k + 2) 7 [.d v] S).to Q := by
  refine p_call pd7 rfl ?_
  show (exM _ F m7 (startL 10 _) S).to _
  unfold m7
  cases v with
  | tuple xs =>
    by_cases hl : xs.length = 9
    · obtain ⟨g, e, l, lo, hi, ro, od, ev, ah, rfl⟩ := nine hl
      by_cases c : (fromB g 1 4 && fromB e 0 3 && fromB l 0 3 && fromB hi 1 4) = true
      · simp only [Bool.and_eq_true] at c
        obtain ⟨⟨⟨c1, c2⟩, c3⟩, c4⟩ := c
        obtain ⟨g, rfl, g1, g2⟩ := fromB_int c1
        obtain ⟨e, rfl, e1, e2⟩ := fromB_int c2
        obtain ⟨l, rfl, l1, l2⟩ := fromB_int c3
        obtain ⟨hi, rfl, u1, u2⟩ := fromB_int c4
        repeat' first | walk_at "mi" | (with_reducible refine is_from_to ?_)
        all_goals try (refine fin_b q ?_; simp_all [okB, okB9, loB]; done)
        rename_i n1 n2 n3 n4
        obtain ⟨ro, rfl, r1, r2⟩ := fromB_int (not_f n2)
        obtain ⟨ev, rfl, v1, v2⟩ := fromB_int (not_f n3)
        obtain ⟨z, rfl⟩ := ty_str n4
        repeat' first | walk_at "mi" | (with_reducible refine size_of_to g1 g2 e1 e2 l1 l2 u1 u2 (by omega) (by omega) v1 v2 ?_)
        all_goals (refine fin_b q ?_; simp_all [okB, okB9, loB, szB, words]; done)
      · repeat' first | walk_at "mi" | (with_reducible refine is_from_to ?_)
        all_goals first | (refine fin_b q ?_; simp_all [okB, okB9, loB]; done) | (exfalso; simp_all; done)
    · repeat' walk_at "mi"
      all_goals first | (refine fin_b q ?_; simp_all [okB_len]; done) | (rename_i n1; exact absurd (len9 n1) hl)
  | _ =>
    repeat' walk_at "mi"
    exact q
theorem law_is_house_to {F k : Nat} {S : Store} {v : D} {Q : W → Store → Prop} (q : Q (.d (.bool (okB v))) S) : (callP PD F (k + 2) 9 [.d v] S).to Q := by
  refine p_call pd9 rfl ?_
  show (exM _ F m9 (startL 1 _) S).to _
  unfold m9
  cases v with
  | tuple xs =>
    by_cases hl : xs.length = 9
    · obtain ⟨g, e, l, lo, hi, ro, od, ev, ah, rfl⟩ := nine hl
      by_cases c : (fromB g 1 4 && fromB e 0 3 && fromB l 0 3 && fromB hi 1 4) = true
      · simp only [Bool.and_eq_true] at c
        obtain ⟨⟨⟨c1, c2⟩, c3⟩, c4⟩ := c
        obtain ⟨g, rfl, g1, g2⟩ := fromB_int c1
        obtain ⟨e, rfl, e1, e2⟩ := fromB_int c2
        obtain ⟨l, rfl, l1, l2⟩ := fromB_int c3
        obtain ⟨hi, rfl, u1, u2⟩ := fromB_int c4
        repeat' first | walk_at "mi" | (with_reducible refine from_to ?_)
        all_goals try (refine fin_b q ?_; simp_all [okB, okB9, loB]; done)
        rename_i n1 n2 n3
        obtain ⟨ro, rfl, r1, r2⟩ := fromB_int (not_f n2)
        obtain ⟨z, rfl⟩ := ty_str n3
        repeat' first | walk_at "mi" | (with_reducible refine from_to ?_)
        all_goals try (refine fin_b q ?_; simp_all [okB, okB9, loB, szB, words]; done)
        rename_i n4 n5 n6
        obtain ⟨ev, rfl, v1, v2⟩ := fromB_int n5
        repeat' first | walk_at "mi" | (with_reducible refine law_size_to g1 g2 e1 e2 l1 l2 u1 u2 (by omega) (by omega) v1 v2 ?_)
        all_goals (refine fin_b q ?_; simp_all [okB, okB9, loB, szB, words]; done)
      · repeat' first | walk_at "mi" | (with_reducible refine from_to ?_)
        all_goals first | (refine fin_b q ?_; simp_all [okB, okB9, loB]; done) | (exfalso; simp_all; done)
    · repeat' walk_at "mi"
      all_goals first | (refine fin_b q ?_; simp_all [okB_len]; done) | (rename_i n1; exact absurd (len9 n1) hl)
  | _ =>
    repeat' walk_at "mi"
    exact q
theorem right_to {F k : Nat} {S : Store} {v : D} {Q : W → Store → Prop} (q : Q (.d (.bool true)) S) : (callP PD F (k + 3) 10 [.d v] S).to Q := by
  refine p_call pd10 rfl ?_
  show (exM _ F m10 (startL 2 _) S).to _
  unfold m10
  repeat' first | walk_at "mi" | (with_reducible refine is_house_to ?_) | (with_reducible refine law_is_house_to ?_)
  refine fin_b q ?_
  cases okB v <;> rfl
end K01

namespace K01
open PySem MI
local macro_rules | `(tactic| walk_at "mi") => `(tactic| first
  | (with_reducible refine n_cst ?_)
  | ((with_reducible refine n_varE ?_); refine ⟨_, rfl, ?_⟩)
  | (with_reducible refine n_glb ?_)
  | (with_reducible refine n_bin ?_)
  | ((with_reducible refine br_mk ?_ ?_) <;> intro hc <;> try (cases hc; done))
  | (with_reducible refine boQ_mk ?_)
  | (with_reducible refine inQ_mk ?_)
  | ((with_reducible refine' daQ_mk ?h1 ?h2 ?_); (case h1 => repeat (first | exact da_nil | apply da_cons)); (case h2 => first | rfl | decide))
  | (with_reducible refine p2Q_mk ?_)
  | (with_reducible refine sqQ_l ?_)
  | (with_reducible refine sqQ_t ?_)
  | ((with_reducible refine' sqQ_r ?h1 ?_); (case h1 => first | assumption | exact get_set (by assumption)))
  | ((with_reducible refine' ixQ_mk ?h1 ?_); (case h1 => first | rfl | assumption))
  | (with_reducible refine dtQ_d ?_)
  | ((with_reducible refine' dtQ_r ?h1 ?_); (case h1 => first | assumption | exact get_set (by assumption)))
  | ((with_reducible refine' asQ_mk ?h1 ?_); (case h1 => rfl))
  | ((with_reducible refine' rgQ_mk ?h1 ?h2 ?_); (case h1 => first | assumption | decide | omega); (case h2 => first | assumption | decide | omega))
  | (with_reducible refine sdQ_l ?_)
  | (with_reducible refine sdQ_t ?_)
  | ((with_reducible refine' bnQ_mk ?h1 ?_); (case h1 => rfl))
  | (with_reducible refine n_not ?_)
  | (with_reducible refine n_cmp ?_)
  | (with_reducible refine n_and ?_)
  | (with_reducible refine n_or ?_)
  | (with_reducible refine n_chn ?_)
  | (with_reducible refine n_ife ?_)
  | (with_reducible refine n_tup ?_)
  | (with_reducible refine n_lstF ?_)
  | (with_reducible refine n_lstT ?_)
  | (with_reducible refine n_idx ?_)
  | (with_reducible refine n_slcH ?_)
  | (with_reducible refine n_slcL ?_)
  | (with_reducible refine n_call ?_)
  | (with_reducible refine n_blt ?_)
  | (with_reducible refine n_cpy ?_)
  | (with_reducible refine n_isi ?_)
  | (with_reducible refine n_neg ?_)
  | (with_reducible refine n_nil ?_)
  | (with_reducible refine n_cons ?_)
  | (with_reducible refine o_addI ?_)
  | ((with_reducible refine' o_addT ?h1 ?_); (case h1 => first | rfl | decide | assumption))
  | ((with_reducible refine' o_addL ?h1 ?_); (case h1 => first | rfl | decide | assumption))
  | (with_reducible refine o_newF ?_)
  | (with_reducible refine o_sub ?_)
  | (with_reducible refine o_neg ?_)
  | (with_reducible refine o_lt ?_)
  | (with_reducible refine o_le ?_)
  | (with_reducible refine o_gt ?_)
  | (with_reducible refine o_ge ?_)
  | ((with_reducible refine' o_eq ?h1 ?_); (case h1 => first | rfl | assumption))
  | ((with_reducible refine' o_ne ?h1 ?_); (case h1 => first | rfl | assumption))
  | ((with_reducible refine' o_inL ?h1 ?_); (case h1 => first | rfl | assumption))
  | ((with_reducible refine' o_inT ?h1 ?_); (case h1 => first | rfl | assumption))
  | ((with_reducible refine' o_notinL ?h1 ?_); (case h1 => first | rfl | assumption))
  | ((with_reducible refine' o_notinT ?h1 ?_); (case h1 => first | rfl | assumption))
  | (with_reducible refine o_abs ?_)
  | (with_reducible refine o_int ?_)
  | (with_reducible refine o_max2 ?_)
  | (with_reducible refine o_min2 ?_)
  | (with_reducible refine o_lenT ?_)
  | (with_reducible refine o_lenL ?_)
  | (with_reducible refine o_slcT ?_)
  | ((with_reducible refine' o_mul ?h1 ?_); (case h1 => first | exact small_r (by decide) | exact small_l (by decide) | exact small_l (small_of (by omega) (by omega)) | exact small_r (small_of (by omega) (by omega))))
  | ((with_reducible refine' o_mod ?h1 ?_); (case h1 => first | assumption | decide))
  | ((with_reducible refine' o_fdiv ?h1 ?h2 ?_); (case h1 => first | assumption | decide); (case h2 => first | assumption | decide))
  | ((with_reducible refine' o_pow ?h1 ?_); (case h1 => first | decide | assumption))
  | ((with_reducible refine' o_setw ?h1 ?h2 ?_); (case h1 => first | assumption | exact get_set (by assumption)); (case h2 => rfl))
  | (with_reducible refine m_skip ?_)
  | (with_reducible refine m_seq ?_)
  | (with_reducible refine m_asg ?_)
  | (with_reducible refine m_asgT ?_)
  | (with_reducible refine m_par2 ?_)
  | (with_reducible refine m_setx ?_)
  | (with_reducible refine m_iff ?_)
  | (with_reducible refine m_ret ?_)
  | (with_reducible refine m_for ?_)
  | (with_reducible refine i_rng ?_)
  | (with_reducible refine i_seqL ?_)
  | ((with_reducible refine' l_rt ?h1 ?_); (case h1 => first | rfl | simp only [List.length_set]))
  | fail)
/-! ### a source that was drawn from -/
theorem draw2 {F k i : Nat} {S : Store} {p p0 : Int × Int} {m : Int} {Q : W → Store → Prop} (h : S[i]? = some (srcO p0)) (h1 : 0 < m) (h2 : m < 1073741824) (hp : 0 ≤ p.1)
    (q : ∀ v p', 0 ≤ v → v < m → 0 ≤ p'.1 → p'.1 ≤ p.1 → (1 < m → 0 < p.1 → p'.1 < p.1) → Q (.d (.int v)) (S.set i (srcO p'))) : (callP PD F (k + 1) 1 [.r i, .d (.int m)] (S.set i (srcO p))).to Q := by
  refine draw_to (get_set h) h1 h2 ?_
  rw [List.set_set]
  exact q _ _ (dr_range h1).1 (dr_range h1).2 (dr_le h1 hp).1 (dr_le h1 hp).2 dr_lt
theorem choice2 {F k i : Nat} {S : Store} {p p0 : Int × Int} {xs : List D} {Q : W → Store → Prop} (h : S[i]? = some (srcO p0)) (h1 : 0 < xs.length) (h2 : xs.length < 1073741824) (hp : 0 ≤ p.1)
    (q : ∀ v p', v ∈ xs → 0 ≤ p'.1 → p'.1 ≤ p.1 → (1 < xs.length → 0 < p.1 → p'.1 < p.1) → Q (.d v) (S.set i (srcO p'))) : (callP PD F (k + 2) 2 [.r i, .d (.list xs)] (S.set i (srcO p))).to Q := by
  refine choice_to (get_set h) h1 h2 fun v hv => ?_
  rw [List.set_set]
  exact q _ _ hv (dr_le (by omega) hp).1 (dr_le (by omega) hp).2 fun a b => dr_lt (by omega) b
theorem sz_all : ((List.range 3).all fun g => (List.range 3).all fun e => (List.range 3).all fun l => (List.range 3).all fun hi => (List.range 2).all fun ro => (List.range 3).all fun ev => decide (sizeF (g + 1 : Nat) (e : Nat) (l : Nat) (hi + 1 : Nat) (ro + 1 : Nat) (ev : Nat) ≤ 48672)) = true := by decide +kernel
theorem sz_le {g e l hi ro ev : Int} (g1 : 1 ≤ g) (g2 : g ≤ 3) (e1 : 0 ≤ e) (e2 : e ≤ 2) (l1 : 0 ≤ l) (l2 : l ≤ 2) (u1 : 1 ≤ hi) (u2 : hi ≤ 3) (r1 : 1 ≤ ro) (r2 : ro ≤ 2) (v1 : 0 ≤ ev) (v2 : ev ≤ 2) : sizeF g e l hi ro ev ≤ 48672 := by
  have h := sz_all
  simp only [List.all_eq_true, List.mem_range, decide_eq_true_eq] at h
  have := h (g - 1).toNat (by omega) e.toNat (by omega) l.toNat (by omega) (hi - 1).toNat (by omega) (ro - 1).toNat (by omega) ev.toNat (by omega)
  rw [show (((g - 1).toNat + 1 : Nat) : Int) = g by omega, show ((e.toNat : Nat) : Int) = e by omega, show ((l.toNat : Nat) : Int) = l by omega, show (((hi - 1).toNat + 1 : Nat) : Int) = hi by omega, show (((ro - 1).toNat + 1 : Nat) : Int) = ro by omega, show ((ev.toNat : Nat) : Int) = ev by omega] at this
  exact this
structure GoodH (v : D) : Prop where
  ex : ∃ (g e l lo hi ro ev : Int) (z : Str) (b : Bool), v = .tuple [.int g, .int e, .int l, .int lo, .int hi, .int ro, .str z, .int ev, .bool b] ∧ 1 ≤ g ∧ g ≤ 3 ∧ 0 ≤ e ∧ e ≤ 2 ∧ 0 ≤ l ∧ l ≤ 2 ∧ 1 ≤ hi ∧ hi ≤ 3 ∧ 1 ≤ ro ∧ ro ≤ 2 ∧ 0 ≤ ev ∧ ev ≤ 2
def intW : Option (Option W) → Int
  | some (some (.d (.int m))) => m
  | _ => 0
def srcW : Option SO → Nat
  | some (.list [.int a, _]) => a.toNat
  | _ => 0
def muH (i : Nat) (ls : MI.Loc) (S : Store) : Nat := srcW S[i]? + (50000 - intW ls[1]?).toNat
theorem muH_eq {i : Nat} {S : Store} {p p0 : Int × Int} {m : Int} {w : Option W} {r : MI.Loc} (h : S[i]? = some (srcO p0)) : muH i (w :: some (.d (.int m)) :: r) (S.set i (srcO p)) = p.1.toNat + (50000 - m).toNat := by
  unfold muH
  rw [get_set h]
  rfl
def InvH (i : Nat) (S : Store) (p : Int × Int) (ls : MI.Loc) (S' : Store) : Prop := ∃ (p' : Int × Int) (m : Int) (fv : D) (t3 t4 t5 t6 : Option W), S' = S.set i (srcO p') ∧ ls = [some (.r i), some (.d (.int m)), some (.d fv), t3, t4, t5, t6] ∧ 0 ≤ p'.1 ∧ p'.1 ≤ p.1 ∧ 0 ≤ m ∧ ((fv = .tuple [] ∧ m < 50000) ∨ GoodH fv)
def bodyH : M := match m4 with
  | .seq _ (.seq (.whl _ b) _) => b
  | _ => .skip
theorem body_to {F k i : Nat} {S : Store} {p p0 : Int × Int} {m : Int} {w2 t3 t4 t5 t6 : Option W} (h : S[i]? = some (srcO p0)) (hp : 0 ≤ p.1) :
    (exM (callP PD F (k + 2)) F bodyH [some (.r i), some (.d (.int m)), w2, t3, t4, t5, t6] (S.set i (srcO p))).to fun f S2 => ∃ (p' : Int × Int) (m' : Int) (v : D) (u3 u4 u5 u6 : Option W), f = .nx [some (.r i), some (.d (.int m')), some (.d v), u3, u4, u5, u6] ∧ S2 = S.set i (srcO p') ∧
      GoodH v ∧ 0 ≤ p'.1 ∧ p'.1 ≤ p.1 ∧ (0 < p.1 → p'.1 < p.1) ∧ m ≤ m' ∧ (p'.1 = 0 → m + 20 ≤ m') := by
  unfold bodyH m4
  repeat' walk_at "mi"
  refine choice2 h (by decide) (by decide) hp fun v1 p1 hv1 a1 b1 c1 => ?_
  repeat' walk_at "mi"
  refine draw2 h (by decide) (by decide) a1 fun v2 p2 x2 y2 a2 b2 c2 => ?_
  repeat' walk_at "mi"
  refine draw2 h (by decide) (by decide) a2 fun v3 p3 x3 y3 a3 b3 c3 => ?_
  repeat' walk_at "mi"
  refine draw2 h (by decide) (by decide) a3 fun v4 p4 x4 y4 a4 b4 c4 => ?_
  repeat' walk_at "mi"
  refine draw2 h (by omega) (by omega) a4 fun v5 p5 x5 y5 a5 b5 c5 => ?_
  repeat' walk_at "mi"
  refine choice2 h (by decide) (by decide) a5 fun v6 p6 hv6 a6 b6 c6 => ?_
  repeat' walk_at "mi"
  refine draw2 h (by decide) (by decide) a6 fun v7 p7 x7 y7 a7 b7 c7 => ?_
  repeat' walk_at "mi"
  refine choice2 h (by decide) (by decide) a7 fun v8 p8 hv8 a8 b8 c8 => ?_
  repeat' walk_at "mi"
  refine draw2 h (by decide) (by decide) a8 fun v9 p9 x9 y9 a9 b9 c9 => ?_
  repeat' walk_at "mi"
  all_goals
    rename_i hc
    have c1 := c1 (by decide)
    obtain ⟨g, rfl, g1, g2⟩ : ∃ g, v1 = .int g ∧ 1 ≤ g ∧ g ≤ 3 := by
      simp only [List.mem_cons, List.not_mem_nil, or_false] at hv1
      rcases hv1 with h | h | h | h | h <;> exact ⟨_, h, by decide, by decide⟩
    obtain ⟨z, rfl⟩ : ∃ z, v6 = .str z := by
      simp only [List.mem_cons, List.not_mem_nil, or_false] at hv6
      rcases hv6 with h | h | h <;> exact ⟨_, h⟩
    obtain ⟨ev, rfl, w1, w2⟩ : ∃ g, v8 = .int g ∧ 0 ≤ g ∧ g ≤ 2 := by
      simp only [List.mem_cons, List.not_mem_nil, or_false] at hv8
      rcases hv8 with h | h | h | h <;> exact ⟨_, h, by decide, by decide⟩
  · refine ⟨p9, _, _, _, _, _, _, rfl, rfl, ⟨g, v3, v4, 1 + v5, 1 + v2, 1 + v7, ev, z, _, rfl, g1, g2, x3, by omega, x4, by omega, by omega, by omega, by omega, by omega, w1, w2⟩, a9, by omega, fun hq => ?_, ?_, fun hq => ?_⟩
    · have := c1 hq; omega
    · split <;> omega
    · split <;> omega
  · have hne : p9.1 ≠ 0 := fun e => by rw [e] at hc; cases hc
    refine ⟨p9, _, _, _, _, _, _, rfl, rfl, ⟨g, v3, v4, 1 + v5, 1 + v2, 1 + v7, ev, z, _, rfl, g1, g2, x3, by omega, x4, by omega, by omega, by omega, by omega, by omega, w1, w2⟩, a9, by omega, fun hq => ?_, ?_, fun hq => ?_⟩
    · have := c1 hq; omega
    · split <;> omega
    · exact absurd hq hne
theorem flat_good {g e l lo hi ro ev : Int} {z : Str} {b : Bool} : flat (.tuple [.int g, .int e, .int l, .int lo, .int hi, .int ro, .str z, .int ev, .bool b]) = true := rfl
theorem house_to {F k i : Nat} {S : Store} {p : Int × Int} {most : Int} {Q : W → Store → Prop} (h : S[i]? = some (srcO p)) (hp : 0 ≤ p.1) (hm : 0 ≤ most) (hm2 : most < 50000) (hF : p.1.toNat + 60000 ≤ F)
    (q : ∀ v p', GoodH v → 0 ≤ p'.1 → p'.1 ≤ p.1 → Q (.d v) (S.set i (srcO p'))) : (callP PD F (k + 3) 4 [.r i, .d (.int most)] S).to Q := by
  have hS : S = S.set i (srcO p) := by
    obtain ⟨hl, e⟩ := List.getElem?_eq_some_iff.mp h
    rw [← e, List.set_getElem_self]
  refine p_call pd4 rfl ?_
  show (exM _ F m4 (startL 7 _) S).to _
  unfold m4
  refine m_seq ?_
  refine m_asg ?_
  repeat' walk_at "mi"
  refine m_whl (InvH i S p) (muH i) ⟨p, most, .tuple [], none, none, none, none, hS, rfl, hp, Int.le_refl _, hm, .inl ⟨rfl, hm2⟩⟩ ?_ ?_
  · show muH i [some (.r i), some (.d (.int most)), some (.d (.tuple [])), none, none, none, none] S < F
    rw [hS, muH_eq h]
    omega
  · rintro ls S' ⟨p', m, fv, t3, t4, t5, t6, rfl, rfl, hp1, hp2, hm1, hfv⟩
    have stepB : m < 50000 → (exM (callP PD F (k + 2)) F bodyH [some (.r i), some (.d (.int m)), some (.d fv), t3, t4, t5, t6] (S.set i (srcO p'))).to fun f S2 => match f with
      | .nx l' => InvH i S p l' S2 ∧ muH i l' S2 < muH i [some (.r i), some (.d (.int m)), some (.d fv), t3, t4, t5, t6] (S.set i (srcO p'))
      | .rt w => False := fun hlt => by
      refine (body_to h hp1).mono fun f S2 hb => ?_
      obtain ⟨p2, m2, v, u3, u4, u5, u6, rfl, rfl, gv, a1, a2, a3, a4, a5⟩ := hb
      refine ⟨⟨p2, m2, v, u3, u4, u5, u6, rfl, rfl, a1, by omega, by omega, .inr gv⟩, ?_⟩
      rw [muH_eq h, muH_eq h]
      by_cases c : 0 < p'.1
      · have := a3 c; omega
      · have := a5 (by omega); omega
    show (evE _ _ _ _).to fun w S1 => br w ((exM _ F bodyH _ S1).to _) _
    rcases hfv with ⟨rfl, hm3⟩ | gv
    · repeat' walk_at "mi"
      refine (stepB hm3).mono fun f S2 hb => ?_
      cases f with
      | nx l => exact hb
      | rt w => exact hb.elim
    · obtain ⟨g, e, l, lo, hi, ro, ev, z, b, rfl, g1, g2, e1, e2, l1, l2, u1, u2, r1, r2, v1, v2⟩ := id gv
      repeat' first | walk_at "mi" | (with_reducible refine law_size_to g1 (by omega) e1 (by omega) l1 (by omega) u1 (by omega) (by omega) (by omega) v1 v2 ?_)
      · rename_i _ hc
        have hc := of_decide_eq_true hc
        have hs := sz_le g1 g2 e1 e2 l1 l2 u1 u2 r1 r2 v1 v2
        refine (stepB (by omega)).mono fun f S2 hb => ?_
        cases f with
        | nx l => exact hb
        | rt w => exact hb.elim
      · repeat' walk_at "mi"
        exact q _ p' gv hp1 hp2
/-! ### the law -/
theorem abs_sum : ∀ {ns : List Int} {n : Int}, n ∈ ns → n.natAbs ≤ (ns.map Int.natAbs).sum
  | a :: ns, n, h => by
    rw [List.map_cons, List.sum_cons]
    rcases List.mem_cons.mp h with h | h
    · rw [h]; omega
    · have := abs_sum h; omega
theorem source_to {F k : Nat} {S : Store} {ns : List Int} {j : Nat} {Q : W → Store → Prop} (hj : j ≤ 1000) (hl : ns.length ≤ 63)
    (q : ∀ p : Int × Int, 0 ≤ p.1 → p.1.toNat ≤ (ns.map Int.natAbs).sum + 60000 → Q (.r S.length) (S ++ [srcO p])) : (callP PD F (k + 1) 0 [.d (.list (ns.map .int)), .d (.int (j : Nat))] S).to Q := by
  refine p_call pd0 rfl ?_
  show (exM _ F m0 (startL 3 _) S).to _
  unfold m0
  repeat' walk_at "mi"
  · rename_i hc
    have hc := of_decide_eq_true hc
    rw [List.length_map] at hc
    have hj' : j < ns.length := by omega
    have hn : ns[j] ∈ ns := List.getElem_mem hj'
    have hs := abs_sum hn
    have e : L2.atI (ns.map PyData.int) (j : Nat) = some (.int ns[j]) := by
      unfold L2.atI L2.ixN
      rw [if_pos (by omega), List.length_map, if_pos (by omega)]
      simp [hj']
    generalize ns[j] = n at e hs
    refine ixQ_mk e ?_
    repeat' walk_at "mi"
    · refine l_nw rfl (q (_, _) ?_ ?_)
      · show 0 ≤ (if n < 0 then -n else n); split <;> omega
      · show (if n < 0 then -n else n).toNat ≤ _; split <;> omega
    · refine l_nw rfl (q (_, _) (Int.le_refl _) (Nat.zero_le _))
  · refine l_nw rfl (q (_, _) ?_ ?_)
    · show 0 ≤ 31 * (j : Int) + 5; omega
    · show (31 * (j : Int) + 5).toNat ≤ _; omega
  · refine l_nw rfl (q (_, _) (Int.le_refl _) (Nat.zero_le _))
theorem law_to {F : Nat} {ns : List Int} (hl : ns.length ≤ 63) (hF : (ns.map Int.natAbs).sum + 120000 ≤ F) : (callP PD F 30 11 [.d (.list (ns.map .int))] []).to fun w _ => w = .d (.bool true) := by
  refine p_call pd11 rfl ?_
  show (exM (callP PD F 29) F m11 (startL 10 _) []).to _
  unfold m11
  repeat' first | walk_at "mi" | (with_reducible refine right_to ?_)
  refine foQ_mk (fun _ ls S => ∃ t1 t2 t3 t4 t5 t6 t7 t8 t9, ls = [some (.d (.list (ns.map .int))), t1, t2, t3, t4, t5, t6, t7, t8, t9]) ⟨_, _, _, _, _, _, _, _, _, rfl⟩ ?_ ?_
  · rintro j x hx ls S ⟨t1, t2, t3, t4, t5, t6, t7, t8, t9, rfl⟩
    obtain ⟨rfl, hj⟩ := rng_get hx
    have hj' : j ≤ 1000 := by
      revert hj; split <;> omega
    repeat' walk_at "mi"
    refine source_to hj' hl fun p hp0 hpF => ?_
    repeat' walk_at "mi"
    refine house_to get_end hp0 (by decide) (by decide) (by omega) fun v p1 gv hp1 hp2 => ?_
    obtain ⟨hs, rfl, hs9⟩ : ∃ hs, v = .tuple hs ∧ hs.length = 9 := by
      obtain ⟨g, e, l, lo, hi, ro, ev, z, b, rfl, _⟩ := gv
      exact ⟨_, rfl, rfl⟩
    repeat' walk_at "mi"
    refine foQ_mk (fun _ ls S' => ∃ (p' : Int × Int) (t4 t5 t6 t7 t8 t9 : Option W), 0 ≤ p'.1 ∧ S' = (S ++ [srcO p]).set S.length (srcO p') ∧ ls = [some (.d (.list (ns.map .int))), some (.d (.int (j : Nat))), some (.r S.length), some (.d (.tuple hs)), t4, t5, t6, t7, t8, t9]) ⟨p1, _, _, _, _, _, _, hp1, rfl, rfl⟩ ?_ ?_
    · rintro i x hx ls S' ⟨p', u4, u5, u6, u7, u8, u9, hp', rfl, rfl⟩
      repeat' walk_at "mi"
      refine draw2 get_end (by decide) (by decide) hp' fun at_ p2 x2 y2 a2 b2 c2 => ?_
      repeat' walk_at "mi"
      refine choice2 get_end (by decide) (by decide) a2 fun new p3 hv3 a3 b3 c3 => ?_
      have k1 := cut_len hs none (some at_)
      have k2 := cut_len hs (some (at_ + 1)) none
      repeat' first | walk_at "mi" | ((with_reducible refine' o_addT ?h1 ?_); (case h1 => exact fits_of (by (try simp only [List.length_append, List.length_cons, List.length_nil]); omega))) | (with_reducible refine right_to ?_)
      refine choice2 get_end (by exact Nat.succ_pos _) (by show 4 < 1073741824; decide) a3 fun bt p4 hv4 a4 b4 c4 => ?_
      repeat' first | walk_at "mi" | (with_reducible refine right_to ?_)
      exact ⟨p4, _, _, _, _, _, _, a4, rfl, rfl⟩
    · rintro ls S' ⟨p', u4, u5, u6, u7, u8, u9, hp', rfl, rfl⟩
      exact ⟨_, _, _, _, _, _, _, _, _, rfl⟩
  · rintro ls S ⟨t1, t2, t3, t4, t5, t6, t7, t8, t9, rfl⟩
    repeat' walk_at "mi"
    refine foQ_mk (fun _ ls S => ∃ t1 t2 t3 t4 t5 t6 t7 t8 t9, ls = [some (.d (.list (ns.map .int))), t1, t2, t3, t4, t5, t6, t7, t8, t9]) ⟨_, _, _, _, _, _, _, _, _, rfl⟩ ?_ ?_
    · rintro j x hx ls S ⟨t1, t2, t3, t4, t5, t6, t7, t8, t9, rfl⟩
      repeat' first | walk_at "mi" | (with_reducible refine right_to ?_)
      exact ⟨_, _, _, _, _, _, _, _, _, rfl⟩
    · rintro ls S ⟨t1, t2, t3, t4, t5, t6, t7, t8, t9, rfl⟩
      repeat' walk_at "mi"
      exact l_rt0 rfl
theorem law_true (ns : List Int) (h : ns.length ≤ 63) : ∃ F S', callP PD F 30 11 [.d (.list (ns.map .int))] [] = .ok (.d (.bool true)) S' := by
  obtain ⟨w, S', e, hw⟩ := (law_to h (Nat.le_refl _)).ex
  rw [hw] at e
  exact ⟨_, S', e⟩
end K01

/-! K01z: the statement; printed by gen.py (own work). -/
open PySem PySem.W PyProof.Rows in
set_option maxRecDepth 100000 in
set_option maxHeartbeats 0 in
theorem PySem.Challenge.cw_lateturns_k01_houses_recognized_holds : PySem.Challenge.rw_lateturns_k01_houses_recognized.Holds := by
  w_on; o_law; k_head; (case hw => w_witness2)
  k_fill
  refine K01.walk (l := PySem.Challenge.rw_lateturns_k01_houses_recognized) rfl rfl (fun w h Y => PySem.W.kIn_of Y) K01.law_true ?F
  case F =>
    intro w mg fa h KX G hmg
    refine' K01.all_mk KX G hmg (fun _ => .none) ?hg_ORDERS ?hg_MOST_SIZE ?x0 ?l0 ?c0 ?k0 ?x1 ?l1 ?c1 ?k1 ?x2 ?l2 ?c2 ?k2 ?x3 ?l3 ?c3 ?k3 ?x4 ?l4 ?c4 ?k4 ?x5 ?l5 ?c5 ?k5 ?x6 ?l6 ?c6 ?k6 ?x7 ?l7 ?c7 ?k7 ?x8 ?l8 ?c8 ?k8 ?x9 ?l9 ?c9 ?k9 ?x10 ?l10 ?c10 ?k10 ?x11 ?l11 ?c11 ?k11 ?z_abs ?z_bool ?z_int ?z_isinstance ?z_len ?z_list ?z_max ?z_min ?z_range ?z_str ?z_tuple
    (case hg_ORDERS => refine' MI.gs_tup ?h1 ?h2 ?h3 ?h4; (case h1 => k_is); (case h2 => k_is); (case h3 => rfl); (case h4 => decide))
    (case hg_MOST_SIZE => refine' MI.gs_int ?h1; (case h1 => k_is))
    (case x0 => k_is)
    (case l0 => k_is)
    (case c0 => k_is)
    (case k0 => k_is)
    (case x1 => k_is)
    (case l1 => k_is)
    (case c1 => k_is)
    (case k1 => k_is)
    (case x2 => k_is)
    (case l2 => k_is)
    (case c2 => k_is)
    (case k2 => k_is)
    (case x3 => k_is)
    (case l3 => k_is)
    (case c3 => k_is)
    (case k3 => k_is)
    (case x4 => k_is)
    (case l4 => k_is)
    (case c4 => k_is)
    (case k4 => k_is)
    (case x5 => k_is)
    (case l5 => k_is)
    (case c5 => k_is)
    (case k5 => k_is)
    (case x6 => k_is)
    (case l6 => k_is)
    (case c6 => k_is)
    (case k6 => k_is)
    (case x7 => k_is)
    (case l7 => k_is)
    (case c7 => k_is)
    (case k7 => k_is)
    (case x8 => k_is)
    (case l8 => k_is)
    (case c8 => k_is)
    (case k8 => k_is)
    (case x9 => k_is)
    (case l9 => k_is)
    (case c9 => k_is)
    (case k9 => k_is)
    (case x10 => k_is)
    (case l10 => k_is)
    (case c10 => k_is)
    (case k10 => k_is)
    (case x11 => k_is)
    (case l11 => k_is)
    (case c11 => k_is)
    (case k11 => k_is)
    (case z_abs => k_is)
    (case z_bool => k_is)
    (case z_int => k_is)
    (case z_isinstance => k_is)
    (case z_len => k_is)
    (case z_list => k_is)
    (case z_max => k_is)
    (case z_min => k_is)
    (case z_range => k_is)
    (case z_str => k_is)
    (case z_tuple => k_is)

