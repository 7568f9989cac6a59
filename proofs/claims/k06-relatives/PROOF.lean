import PyProof.Rows.All
import PySem.Str
import PyProof.P3Statements
import PySem.Builtin.IntDigits
import HandS.ForMost
import HandS.ForExc
import HandS.Defaults
import HandS.Wide
import HandS.Flow
import HandS.Gcd
import HandS.IsInst
import HandS.ExcInit
import HandS.ExcCtx
import HandS.CallSlots
import HandS.WideBits
import HandS.Deep
import HandS.WideMore
import HandS.EndBits
import HandS.Text
import HandS.RaiseMore
import HandS.Style
import HandS.RevRange
import KE.KMathGC
import HandS.HotCalls
import HandS.ExcField
import HandS.ExcInitHot
import HandS.ExcIs
import KE.GoesMore
import KE.GoesEnum
import Wide.All
import OpenK.AllK
import Wide.FinOn
import PySem.Challenge.RW_everystretch_k06_relatives
set_option Elab.async false
set_option linter.all false
/-! EvD: what a def computes, over data without addresses: values D, slots, environments, results R, and one combinator a construct. Plain Lean. -/
namespace EV
open PySem
noncomputable section

/-! ### lists, as the kernel reckons them well -/
def nth {α : Type} (xs : List α) : Nat → Option α := List.rec (motive := fun _ => Nat → Option α) (fun _ => none) (fun x _ ih n => Nat.rec (motive := fun _ => Option α) (some x) (fun m _ => ih m) n) xs
def setN {α : Type} (xs : List α) (v : α) : Nat → List α := List.rec (motive := fun _ => Nat → List α) (fun _ => []) (fun x r ih n => Nat.rec (motive := fun _ => List α) (v :: r) (fun m _ => x :: ih m) n) xs
def snoc {α : Type} (xs : List α) (v : α) : List α := List.rec (motive := fun _ => List α) [v] (fun x _ ih => x :: ih) xs
def len {α : Type} (xs : List α) : Nat := List.rec (motive := fun _ => Nat) 0 (fun _ _ ih => ih + 1) xs
theorem nth_eq {α : Type} : ∀ (xs : List α) (n : Nat), nth xs n = xs[n]?
  | [], n => by simp [nth]
  | x :: xs, 0 => by
    rw [List.getElem?_cons_zero]
    rfl
  | x :: xs, n + 1 => by
    rw [List.getElem?_cons_succ, ← nth_eq xs n]
    rfl
theorem setN_eq {α : Type} (v : α) : ∀ (xs : List α) (n : Nat), setN xs v n = xs.set n v
  | [], n => rfl
  | x :: xs, 0 => rfl
  | x :: xs, n + 1 => by
    rw [List.set_cons_succ, ← setN_eq v xs n]
    rfl
theorem snoc_eq {α : Type} (v : α) : ∀ (xs : List α), snoc xs v = xs ++ [v]
  | [] => rfl
  | x :: xs => by
    rw [List.cons_append, ← snoc_eq v xs]
    rfl
theorem len_eq {α : Type} : ∀ (xs : List α), len xs = xs.length
  | [] => rfl
  | x :: xs => by
    rw [List.length_cons, ← len_eq xs]
    rfl

/-- a value with all that hangs on it -/
inductive D where
  | non
  | bl (b : Bool)
  | int (i : Int)
  | str (x : Str)
  | lst (xs : List D)
  | tup (xs : List D)
  | ins (c : Nat) (fs : List D)
  | scr (ns : List Int)
  | exc (c : Nat) (fs : List D)
  deriving Inhabited
/-- an object that one name alone holds -/
inductive O where
  | l (xs : List D)
  | i (c : Nat) (fs : List (Str × D))
  | d (kvs : List ((Int ⊕ Str) × D))
/-- a local name: not known | a value that stays as it is | an object of one's own (k: the k-th thing handed in to be changed) -/
inductive Slot where
  | no
  | sh (d : D)
  | ow (k : Option Nat) (o : O)
abbrev Env := List Slot
/-- nothing told | a value | an exception: its class, its fields -/
inductive R (α : Type) where
  | bot
  | ok (a : α) (e : Env)
  | ex (c : Nat) (fs : List D) (e : Env)
def R.bind {α β : Type} (m : R α) (k : α → Env → R β) : R β := match m with
  | .bot => .bot
  | .ok a e => k a e
  | .ex c fs e => .ex c fs e
/-- as bind; nothing told of exceptions -/
def R.bindB {α β : Type} (m : R α) (k : α → Env → R β) : R β := match m with
  | .ok a e => k a e
  | _ => .bot
def R.of {α β : Type} (o : Option α) (k : α → R β) : R β := match o with
  | some a => k a
  | none => .bot
abbrev FE := Env → R D
abbrev FT := Env → R Bool
abbrev FO := Env → R O
abbrev FA := Env → R (List D)
inductive Fl where
  | nx | br | ct
  | rt (d : D)
  | ro (o : O)
abbrev FS := Env → R Fl
/-- what a call of a def gives -/
inductive FR where
  | bot
  | ret (d : D)
  | rto (o : O)
  | rse (c : Nat) (fs : List D)
/-- the same of a def whose first argument is an object that it changes -/
inductive FQ where
  | bot
  | ret (d : D) (o : O)
  | rse (c : Nat) (fs : List D)

def O.toD? : O → Option D
  | .l xs => some (.lst xs)
  | .i _ _ => none
  | .d _ => none

/-! ### expressions -/
def cC (d : D) : FE := fun ε => .ok d ε
/-- a name; an own list is from now on shared -/
def nm (i : Nat) : FE := fun ε => match ε[i]? with
  | some (.sh d) => .ok d ε
  | some (.ow none (.l xs)) => .ok (.lst xs) (ε.set i (.sh (.lst xs)))
  | _ => .bot
/-- a name whose own object moves out -/
def nmO (i : Nat) : FO := fun ε => match ε[i]? with
  | some (.ow none o) => .ok o (ε.set i .no)
  | _ => .bot
def frz (f : FO) : FE := fun ε => (f ε).bind fun o ε1 => .of o.toD? fun d => .ok d ε1
def bin (g : D → D → Option D) (fa fb : FE) : FE := fun ε => (fa ε).bind fun x ε1 => (fb ε1).bind fun y ε2 => .of (g x y) fun z => .ok z ε2
def un (g : D → Option D) (fa : FE) : FE := fun ε => (fa ε).bind fun x ε1 => .of (g x) fun z => .ok z ε1
def aNil : FA := fun ε => .ok [] ε
def aCons (fa : FE) (fr : FA) : FA := fun ε => (fa ε).bind fun x ε1 => (fr ε1).bind fun xs ε2 => .ok (x :: xs) ε2
def bi (g : List D → Option D) (fr : FA) : FE := fun ε => (fr ε).bind fun xs ε1 => .of (g xs) fun z => .ok z ε1
def biO (g : List D → Option O) (fr : FA) : FO := fun ε => (fr ε).bind fun xs ε1 => .of (g xs) fun z => .ok z ε1
def binO (g : D → D → Option O) (fa fb : FE) : FO := fun ε => (fa ε).bind fun x ε1 => (fb ε1).bind fun y ε2 => .of (g x y) fun z => .ok z ε2
def FR.toE (ε : Env) : FR → R D
  | .bot => .bot
  | .ret d => .ok d ε
  | .rto o => .of o.toD? fun d => .ok d ε
  | .rse c fs => .ex c fs ε
def FR.toO (ε : Env) : FR → R O
  | .rto o => .ok o ε
  | .rse c fs => .ex c fs ε
  | _ => .bot
def call (m : List D → FR) (fr : FA) : FE := fun ε => (fr ε).bind fun xs ε1 => (m xs).toE ε1
def callO (m : List D → FR) (fr : FA) : FO := fun ε => (fr ε).bind fun xs ε1 => (m xs).toO ε1
/-- the name is known -/
def has (ε : Env) (i : Nat) : Bool := match ε[i]? with
  | some (.sh _) => true
  | some (.ow _ _) => true
  | _ => false
def hasL (ε : Env) (i : Nat) : Bool := match ε[i]? with
  | some (.ow _ (.l _)) => true
  | _ => false
/-- f(x, ..): f changes the own object at the name x -/
def callQ (m : O → List D → FQ) (i : Nat) (fr : FA) : FE := fun ε => if has ε i = true then (fr ε).bind fun xs ε1 => match ε1[i]? with
  | some (.ow k o) => (match m o xs with
    | .ret d o' => .ok d (ε1.set i (.ow k o'))
    | _ => .bot)
  | _ => .bot
  else .bot
def getN {α : Type} (xs : List α) (i : Int) : Option α :=
  if 0 ≤ i then nth xs i.toNat else if -(xs.length : Int) ≤ i then nth xs (i + xs.length).toNat else none
theorem getN_def {α : Type} (xs : List α) (i : Int) : getN xs i = if 0 ≤ i then xs[i.toNat]? else if -(xs.length : Int) ≤ i then xs[(i + xs.length).toNat]? else none := by
  unfold getN
  simp only [nth_eq]
def fld (ix : Nat → Option Nat) (fa : FE) : FE := fun ε => (fa ε).bind fun x ε1 => match x with
  | .ins c fs => .of (ix c) fun j => .of fs[j]? fun z => .ok z ε1
  | _ => .bot
/-- self.f where self is being made -/
def fldN (c i : Nat) (f : Str) : FE := fun ε => match ε[i]? with
  | some (.ow _ (.i c' fs)) => if c' = c then .of (fs.lookup f) fun z => .ok z ε else .bot
  | _ => .bot
def ifE (t : FT) (a b : FE) : FE := fun ε => (t ε).bind fun c ε1 => if c = true then a ε1 else b ε1

def line : Nat := 16000000
def lstO (fr : FA) : FO := fun ε => (fr ε).bind fun xs ε1 => if xs.length ≤ line then .ok (.l xs) ε1 else .bot
def tupE (fr : FA) : FE := fun ε => (fr ε).bind fun xs ε1 => if xs.length ≤ line then .ok (.tup xs) ε1 else .bot

/-! ### tests -/
def tru : D → Option Bool
  | .non => some false
  | .bl b => some b
  | .int i => some (i != 0)
  | .str x => if x.length ≤ 16000000 then some ((x.length : Int) != 0) else none
  | .lst xs => some (!xs.isEmpty)
  | .tup xs => some (!xs.isEmpty)
  | _ => none
def tB (fa : FE) : FT := fun ε => (fa ε).bind fun x ε1 => match x with
  | .bl b => .ok b ε1
  | _ => .bot
def tT (fa : FE) : FT := fun ε => (fa ε).bind fun x ε1 => .of (tru x) fun b => .ok b ε1
def tAnd (s t : FT) : FT := fun ε => (s ε).bind fun c ε1 => if c = true then t ε1 else .ok false ε1
def tOr (s t : FT) : FT := fun ε => (s ε).bind fun c ε1 => if c = true then .ok true ε1 else t ε1
def tNot (s : FT) : FT := fun ε => (s ε).bind fun c ε1 => .ok (!c) ε1
def eB (t : FT) : FE := fun ε => (t ε).bind fun c ε1 => .ok (.bl c) ε1
def andV (fa fb : FE) : FE := fun ε => (fa ε).bind fun x ε1 => .of (tru x) fun c => if c = true then fb ε1 else .ok x ε1
def orV (fa fb : FE) : FE := fun ε => (fa ε).bind fun x ε1 => .of (tru x) fun c => if c = true then .ok x ε1 else fb ε1

/-! ### targets -/
abbrev FG := D → Env → Option Env
def gN (i : Nat) : FG := fun d ε => some (ε.set i (.sh d))
abbrev FGs := List D → Env → Option Env
def gsNil : FGs := fun ds ε => match ds with
  | [] => some ε
  | _ => none
def gsCons (h : FG) (r : FGs) : FGs := fun ds ε => match ds with
  | [] => none
  | d :: ds => match h d ε with
    | some ε1 => r ds ε1
    | none => none
def gT (hs : FGs) : FG := fun d ε => match d with
  | .tup xs => hs xs ε
  | _ => none

/-! ### statements -/
def sNx : FS := fun ε => .ok .nx ε
def sBr : FS := fun ε => .ok .br ε
def sCt : FS := fun ε => .ok .ct ε
def seq (g1 g2 : FS) : FS := fun ε => (g1 ε).bind fun fl ε1 => match fl with
  | .nx => g2 ε1
  | fl => .ok fl ε1
def asg (h : FG) (fa : FE) : FS := fun ε => (fa ε).bind fun d ε1 => .of (h d ε1) fun ε2 => .ok .nx ε2
def asgO (i : Nat) (fo : FO) : FS := fun ε => (fo ε).bind fun o ε1 => .ok .nx (ε1.set i (.ow none o))
def exprS (fa : FE) : FS := fun ε => (fa ε).bind fun _ ε1 => .ok .nx ε1
def ret (fa : FE) : FS := fun ε => (fa ε).bind fun d ε1 => .ok (.rt d) ε1
def retO (fo : FO) : FS := fun ε => (fo ε).bind fun o ε1 => .ok (.ro o) ε1
def retN : FS := fun ε => .ok (.rt .non) ε
def ifS (t : FT) (a b : FS) : FS := fun ε => (t ε).bind fun c ε1 => if c = true then a ε1 else b ε1
def ixP (n : Nat) (i : Int) : Option Nat := if 0 ≤ i then (if i < n then some i.toNat else none) else if -(n : Int) ≤ i then some (i + n).toNat else none
/-- x[e] = v at a name of an own list -/
def setI (i : Nat) (fi fv : FE) : FS := fun ε => (fv ε).bind fun v ε1 => if has ε1 i = true then (fi ε1).bind fun k ε2 => match k with
  | .int n => (match ε2[i]? with
    | some (.ow kk (.l xs)) => .of (ixP (len xs) n) fun j => .ok .nx (ε2.set i (.ow kk (.l (setN xs v j))))
    | _ => .bot)
  | _ => .bot
  else .bot
/-- x[e] op= v -/
def augI (g : D → D → Option D) (i : Nat) (fi fv : FE) : FS := fun ε => if has ε i = true then (fi ε).bind fun k ε1 => match k with
  | .int n => (match ε1[i]? with
    | some (.ow _ (.l xs)) => .of (getN xs n) fun x => (fv ε1).bind fun y ε2 => .of (g x y) fun z => (match ε2[i]? with
      | some (.ow kk (.l ys)) => .of (ixP (len ys) n) fun j => .ok .nx (ε2.set i (.ow kk (.l (setN ys z j))))
      | _ => .bot)
    | _ => .bot)
  | _ => .bot
  else .bot
/-- self.f = v where self is being made -/
def setF (c i : Nat) (f : Str) (fv : FE) : FS := fun ε => (fv ε).bind fun v ε1 => match ε1[i]? with
  | some (.ow k (.i c' fs)) => if c' = c ∧ (fs.lookup f).isNone ∧ fs.length < 100 then .ok .nx (ε1.set i (.ow k (.i c' (fs ++ [(f, v)])))) else .bot
  | _ => .bot
def app (i : Nat) (fa : FE) : FS := fun ε => if hasL ε i = true then (fa ε).bind fun x ε1 => match ε1[i]? with
  | some (.ow k (.l xs)) => if len xs < line then .ok .nx (ε1.set i (.ow k (.l (snoc xs x)))) else .bot
  | _ => .bot
  else .bot
def aug (g : D → D → Option D) (i : Nat) (fa : FE) : FS := fun ε => match ε[i]? with
  | some (.sh x) => (fa ε).bind fun y ε1 => .of (g x y) fun z => .ok .nx (ε1.set i (.sh z))
  | _ => .bot
def rse (c : Nat) (fr : FA) : FS := fun ε => (fr ε).bind fun xs ε1 => .ex c xs ε1
def forL (h : FG) (body : FS) : List D → FS
  | [], ε => .ok .nx ε
  | x :: xs, ε => .of (h x ε) fun ε1 => (body ε1).bind fun fl ε2 => match fl with
    | .nx => forL h body xs ε2
    | .ct => forL h body xs ε2
    | .br => .ok .nx ε2
    | fl => .ok fl ε2
def forS (fi : FA) (h : FG) (body : FS) : FS := fun ε => (fi ε).bind fun items ε1 => forL h body items ε1
def whl (t : FT) (body : FS) : Nat → FS
  | 0, _ => .bot
  | n + 1, ε => (t ε).bind fun c ε1 => if c = true then (body ε1).bind fun fl ε2 => (match fl with
    | .nx => whl t body n ε2
    | .ct => whl t body n ε2
    | .br => .ok .nx ε2
    | fl => .ok fl ε2) else .ok .nx ε1

/-! ### dicts with ints and texts for keys -/
def kvGet (kvs : List ((Int ⊕ Str) × D)) (k : Int ⊕ Str) : Option D := (kvs.find? fun kv => decide (kv.1 = k)).map (·.2)
def kvPut (kvs : List ((Int ⊕ Str) × D)) (k : Int ⊕ Str) (v : D) : List ((Int ⊕ Str) × D) :=
  if (kvs.any fun kv => decide (kv.1 = k)) = true then kvs.map (fun kv => if kv.1 = k then (kv.1, v) else kv) else kvs ++ [(k, v)]
def toK : D → Option (Int ⊕ Str)
  | .int i => some (.inl i)
  | .str x => some (.inr x)
  | _ => none
def ofK : Int ⊕ Str → D
  | .inl i => .int i
  | .inr x => .str x
def hasD (ε : Env) (i : Nat) : Bool := match ε[i]? with
  | some (.ow _ (.d _)) => true
  | _ => false
def newD : FO := fun ε => .ok (.d []) ε
def dGet2 (i : Nat) (fk fv : FE) : FE := fun ε => if hasD ε i = true then (fk ε).bind fun y ε1 => (fv ε1).bind fun z ε2 => .of (toK y) fun k => match ε2[i]? with
  | some (.ow _ (.d kvs)) => .ok ((kvGet kvs k).getD z) ε2
  | _ => .bot
  else .bot
/-- x[k] -/
def dIxN (i : Nat) (fk : FE) : FE := fun ε => if hasD ε i = true then (fk ε).bind fun y ε1 => .of (toK y) fun k => match ε1[i]? with
  | some (.ow _ (.d kvs)) => .of (kvGet kvs k) fun v => .ok v ε1
  | _ => .bot
  else .bot
def dPut (i : Nat) (fk fv : FE) : FS := fun ε => (fv ε).bind fun v ε1 => if hasD ε1 i = true then (fk ε1).bind fun y ε2 => .of (toK y) fun k => match ε2[i]? with
  | some (.ow kk (.d kvs)) => if kvs.length < line then .ok .nx (ε2.set i (.ow kk (.d (kvPut kvs k v)))) else .bot
  | _ => .bot
  else .bot
/-- for .. in x.items(): the dict is used up -/
def forItems (i : Nat) (h : FG) (body : FS) : FS := fun ε => match ε[i]? with
  | some (.ow none (.d kvs)) => forL h body (kvs.map fun p => .tup [ofK p.1, p.2]) (ε.set i .no)
  | _ => .bot

/-! ### what is walked -/
def iSeq (fa : FE) : FA := fun ε => (fa ε).bind fun x ε1 => match x with
  | .lst xs => .ok xs ε1
  | .tup xs => .ok xs ε1
  | .scr ns => .ok (ns.map .int) ε1
  | _ => .bot
def small (i : Int) : Bool := decide (-(2 ^ 62) ≤ i) && decide (i < 2 ^ 62)
def rngL (lo : Int) : Nat → List D
  | 0 => []
  | n + 1 => .int lo :: rngL (lo + 1) n
def iRng1 (fr : FA) : FA := fun ε => (fr ε).bind fun xs ε1 => match xs with
  | [.int j] => if small j = true then .ok (rngL 0 j.toNat) ε1 else .bot
  | _ => .bot
def iRng2 (fr : FA) : FA := fun ε => (fr ε).bind fun xs ε1 => match xs with
  | [.int i, .int j] => if small i = true ∧ small j = true then .ok (rngL i (j - i).toNat) ε1 else .bot
  | _ => .bot
def pairL : Nat → List D → List D
  | _, [] => []
  | n, x :: xs => .tup [.int n, x] :: pairL (n + 1) xs
def iEnum (fa : FE) : FA := fun ε => (fa ε).bind fun x ε1 => match x with
  | .lst xs => .ok (pairL 0 xs) ε1
  | _ => .bot

/-! ### comprehensions -/
def wipeE (ε : Env) : List Nat → Env
  | [] => ε
  | v :: vs => (wipeE ε vs).set v .no
def backE (ε0 ε : Env) : List Nat → Env
  | [] => ε
  | v :: vs => (backE ε0 ε vs).set v (match ε0[v]? with
    | some (.sh d) => .sh d
    | _ => .no)
def lcL (own : List Nat) (h : FG) (tt : FT) (fe : FE) : List D → FA
  | [], ε => .ok [] ε
  | x :: xs, ε => .of (h x ε) fun ε1 => (tt ε1).bindB fun b ε2 => if b = true then (fe ε2).bindB fun y ε3 => (lcL own h tt fe xs (wipeE ε3 own)).bindB fun ys ε4 => .ok (y :: ys) ε4 else lcL own h tt fe xs (wipeE ε2 own)
def tYes : FT := fun ε => .ok true ε
def lc (own : List Nat) (fi : FA) (h : FG) (tt : FT) (fe : FE) : FO := fun ε => (fi ε).bind fun items ε1 =>
  if items.length < line then (lcL own h tt fe items (wipeE ε1 own)).bindB fun ys ε2 => .ok (.l ys) (backE ε1 ε2 own) else .bot

/-! ### defs -/
def start (n : Nat) (ds : List D) : Env := ds.map .sh ++ List.replicate (n - ds.length) .no
def fn (np n : Nat) (g : FS) : List D → FR := fun ds => if ds.length = np then match g (start n ds) with
  | .ok (.rt d) _ => .ret d
  | .ok (.ro o) _ => .rto o
  | .ok .nx _ => .ret .non
  | .ex c fs _ => .rse c fs
  | _ => .bot else .bot
def outQ (d : D) (ε : Env) : FQ := match ε.head? with
  | some (.ow (some 0) o) => .ret d o
  | _ => .bot
def fnQ (np n : Nat) (g : FS) : O → List D → FQ := fun o ds => if ds.length + 1 = np then match g (.ow (some 0) o :: start (n - 1) ds) with
  | .ok (.rt d) ε => outQ d ε
  | .ok .nx ε => outQ .non ε
  | .ex c fs _ => .rse c fs
  | _ => .bot else .bot
/-- a class by its __init__: the fields told by their names in the class's own order -/
def mk (c : Nat) (names : List Str) (m : O → List D → FQ) : List D → FR := fun ds => match m (.i c []) ds with
  | .ret .non (.i c' fs) => if c' = c ∧ fs.map (·.1) = names then .ret (.ins c (fs.map (·.2))) else .bot
  | .rse c fs => .rse c fs
  | _ => .bot

/-! ### operators on values -/
def bits (i : Int) : Nat := i.natAbs.log2 + 1
def wide (i j : Int) : Bool := decide (bits i + bits j ≤ 134217728)
def dAdd : D → D → Option D
  | .int i, .int j => some (.int (i + j))
  | .str x, .str y => if x.length + y.length ≤ line then some (.str (x ++ y)) else none
  | .lst xs, .lst ys => if xs.length + ys.length ≤ line then some (.lst (xs ++ ys)) else none
  | .tup (x :: xs), .tup (y :: ys) => if xs.length + ys.length + 2 ≤ line then some (.tup (x :: xs ++ y :: ys)) else none
  | _, _ => none
def dCatO : D → D → Option O
  | .lst xs, .lst ys => if xs.length + ys.length ≤ line then some (.l (xs ++ ys)) else none
  | _, _ => none
def dSub : D → D → Option D
  | .int i, .int j => some (.int (i - j))
  | _, _ => none
def dMul : D → D → Option D
  | .int i, .int j => if wide i j = true then some (.int (i * j)) else none
  | .lst xs, .int k => if -(2 ^ 63) ≤ k ∧ k < 2 ^ 63 ∧ xs.length * k.toNat ≤ line then some (.lst (List.replicate k.toNat xs).flatten) else none
  | _, _ => none
def dRepO : D → D → Option O
  | .lst xs, .int k => if -(2 ^ 63) ≤ k ∧ k < 2 ^ 63 ∧ xs.length * k.toNat ≤ line then some (.l (List.replicate k.toNat xs).flatten) else none
  | _, _ => none
def dMod : D → D → Option D
  | .int i, .int j => if j ≠ 0 then some (.int (i.fmod j)) else none
  | _, _ => none
def dDiv : D → D → Option D
  | .int i, .int j => if j ≠ 0 ∧ j.natAbs.log2 < 9000 then some (.int (i.fdiv j)) else none
  | _, _ => none
def dPow : D → D → Option D
  | .int i, .int j => if 0 ≤ j ∧ (bits i : Int) * j ≤ 2 ^ 27 then some (.int (i ^ j.toNat)) else none
  | _, _ => none
def dAnd1 : D → D → Option D
  | .int (.ofNat n), .int 1 => some (.int ((n % 2 : Nat) : Int))
  | _, _ => none
def dNeg : D → Option D
  | .int i => some (.int (-i))
  | _ => none
def dLt : D → D → Option D
  | .int i, .int j => some (.bl (decide (i < j)))
  | _, _ => none
def dLe : D → D → Option D
  | .int i, .int j => some (.bl (decide (i ≤ j)))
  | _, _ => none
def dGt : D → D → Option D
  | .int i, .int j => some (.bl (decide (j < i)))
  | _, _ => none
def dGe : D → D → Option D
  | .int i, .int j => some (.bl (decide (j ≤ i)))
  | _, _ => none
def dIx : D → D → Option D
  | .lst xs, .int i => getN xs i
  | .tup xs, .int i => getN xs i
  | .scr ns, .int i => (getN ns i).map .int
  | .str x, .int i => if x.length ≤ line then (getN x.cps.toList i).map fun c => .str ⟨#[c]⟩ else none
  | _, _ => none
def dIsN : D → D → Option D
  | x, .non => some (.bl (match x with | .non => true | _ => false))
  | _, _ => none
def dNotN : D → D → Option D
  | x, .non => some (.bl (match x with | .non => false | _ => true))
  | _, _ => none

/-- x[e] at a name -/
def ixN (i : Nat) (fb : FE) : FE := fun ε => if has ε i = true then (fb ε).bind fun y ε1 => match ε1[i]? with
  | some (.ow _ (.l xs)) => (match y with
    | .int n => .of (getN xs n) fun z => .ok z ε1
    | _ => .bot)
  | some (.sh d) => .of (dIx d y) fun z => .ok z ε1
  | _ => .bot
  else .bot

/-! ### data as the model compares it -/
mutual
def toP : D → PyData
  | .non => .none
  | .bl b => .bool b
  | .int i => .int i
  | .str x => .str x
  | .lst xs => .list (toPs xs)
  | .tup xs => .tuple (toPs xs)
  | .ins _ _ => .dict []
  | .scr _ => .dict []
  | .exc _ _ => .dict []
def toPs : List D → List PyData
  | [] => []
  | d :: ds => toP d :: toPs ds
end
def shp (d : PyData) : Bool := d.canLay0 && decide (d.depth ≤ 64)
def dEq (x y : D) : Option D := if shp (toP x) = true ∧ shp (toP y) = true then some (.bl (PyData.eqv (toP x) (toP y))) else none
def dNe (x y : D) : Option D := if shp (toP x) = true ∧ shp (toP y) = true then some (.bl (!PyData.eqv (toP x) (toP y))) else none
def dIn (x y : D) : Option D := match y with
  | .lst ys => if shp (toP x) = true ∧ shp (toP y) = true then some (.bl ((toPs ys).any fun z => PyData.eqv z (toP x))) else none
  | _ => none
def dNotIn (x y : D) : Option D := match y with
  | .lst ys => if shp (toP x) = true ∧ shp (toP y) = true then some (.bl (!(toPs ys).any fun z => PyData.eqv z (toP x))) else none
  | _ => none

/-! ### built-ins -/
def bLen : List D → Option D
  | [.lst xs] => some (.int (len xs))
  | [.tup xs] => some (.int (len xs))
  | [.scr ns] => some (.int ns.length)
  | [.str x] => if x.length ≤ line then some (.int x.length) else none
  | _ => none
def bAbs : List D → Option D
  | [.int i] => some (.int (if i < 0 then -i else i))
  | _ => none
def bInt : List D → Option D
  | [.int i] => some (.int i)
  | [.bl b] => some (.int (if b then 1 else 0))
  | _ => none
def bMin : List D → Option D
  | [.int i, .int j] => some (.int (if j < i then j else i))
  | _ => none
def bMax : List D → Option D
  | [.int i, .int j] => some (.int (if j > i then j else i))
  | _ => none
def bGcd : List D → Option D
  | [.int i, .int j] => some (.int ((Nat.gcd i.natAbs j.natAbs : Nat) : Int))
  | _ => none
def bLcm : List D → Option D
  | [.int i, .int j] => if i.natAbs.log2 < 13000 ∧ j.natAbs.log2 < 13000 then some (.int ((Nat.lcm i.natAbs j.natAbs : Nat) : Int)) else none
  | _ => none
def intsD : List D → Option (List Int)
  | [] => some []
  | .int i :: r => (intsD r).map (i :: ·)
  | _ => none
def bSum : List D → Option D
  | [.lst xs] => (intsD xs).map fun ns => .int ns.sum
  | _ => none
def bList : List D → Option O
  | [.lst xs] => some (.l xs)
  | [.tup xs] => some (.l xs)
  | [.scr ns] => some (.l (ns.map .int))
  | _ => none
def bTuple : List D → Option D
  | [.lst xs] => some (.tup xs)
  | [.tup xs] => some (.tup xs)
  | _ => none
/-- isinstance(x, T), T a built-in class: yes where the value is of one of these kinds -/
inductive Ty where
  | int | bool | str | list | tuple
def isTy : Ty → D → Option Bool
  | _, .non => some false
  | .int, .bl _ => some true
  | .bool, .bl _ => some true
  | _, .bl _ => some false
  | .int, .int _ => some true
  | _, .int _ => some false
  | .str, .str _ => some true
  | _, .str _ => some false
  | .list, .lst _ => some true
  | _, .lst _ => some false
  | .tuple, .tup _ => some true
  | _, .tup _ => some false
  | .list, .scr _ => some true
  | _, .scr _ => some false
  | _, .ins _ _ => some false
  | _, .exc _ _ => none
def bIsTy (t : Ty) : List D → Option D
  | [x] => (isTy t x).map .bl
  | _ => none
/-- isinstance(x, C), C an own class -/
def bIsC (n c : Nat) : List D → Option D
  | [.ins c' _] => if c' < n then some (.bl (decide (c' = c))) else none
  | [.exc _ _] => none
  | [_] => some (.bl false)
  | _ => none

/-- len(x) at a name -/
def lenN (i : Nat) : FE := fun ε => match ε[i]? with
  | some (.ow _ (.l xs)) => .ok (.int (len xs)) ε
  | some (.ow _ (.d kvs)) => .ok (.int kvs.length) ε
  | some (.sh d) => .of (bLen [d]) fun z => .ok z ε
  | _ => .bot
def bBits : D → Option D
  | .int i => some (.int (Builtin.Int.intBits i : Nat))
  | _ => none
/-- a and b, a or b of truth values; any values -/
def eAnd (fa fb : FE) : FE := fun ε => (fa ε).bind fun x ε1 => .of (tru x) fun c => if c = true then fb ε1 else .ok x ε1
def eOr (fa fb : FE) : FE := fun ε => (fa ε).bind fun x ε1 => .of (tru x) fun c => if c = true then .ok x ε1 else fb ε1
def eNot (fa : FE) : FE := fun ε => (fa ε).bind fun x ε1 => .of (tru x) fun c => .ok (.bl (!c)) ε1
/-- f(e, .., k = e, ..): p puts the values in the parameters' order -/
def callK (m : List D → FR) (p : List D → List D → List D) (fr fk : FA) : FE := fun ε => (fr ε).bind fun xs ε1 => (fk ε1).bind fun ys ε2 => (m (p xs ys)).toE ε2

/-! ### slices -/
def slIx (n d : Nat) : Option Int → Nat
  | none => d
  | some v => if v < 0 then (v + n).toNat else min v.toNat n
def cutN {α : Type} (xs : List α) (lo hi : Option Int) : List α := (xs.drop (slIx xs.length 0 lo)).take (slIx xs.length xs.length hi - slIx xs.length 0 lo)
abbrev FP := Env → R (Option Int)
def pNo : FP := fun ε => .ok none ε
def pSo (fa : FE) : FP := fun ε => (fa ε).bind fun x ε1 => match x with
  | .int i => .ok (some i) ε1
  | _ => .bot
def dSl : D → Option Int → Option Int → Option D
  | .lst xs, lo, hi => some (.lst (cutN xs lo hi))
  | .tup xs, lo, hi => if slIx xs.length 0 lo = 0 ∧ slIx xs.length xs.length hi = xs.length then none else some (.tup (cutN xs lo hi))
  | _, _, _ => none
def slE (fa : FE) (fl fh : FP) : FE := fun ε => (fa ε).bind fun x ε1 => (fl ε1).bind fun lo ε2 => (fh ε2).bind fun hi ε3 => .of (dSl x lo hi) fun z => .ok z ε3
def slO (fa : FE) (fl fh : FP) : FO := fun ε => (fa ε).bind fun x ε1 => (fl ε1).bind fun lo ε2 => (fh ε2).bind fun hi ε3 => match x with
  | .lst xs => .ok (.l (cutN xs lo hi)) ε3
  | _ => .bot
end
end EV
set_option maxRecDepth 100000
/-! EvS: the combinators of EvD are what the text does: over HandS. -/
namespace EV
open PySem L2

/-- the classes: where they stand, their fields in order; the exceptions'; the exception that is being handled -/
structure Tb where
  K : PySem.W.Frag
  ad : Nat → Addr
  nm : Nat → List Str
  xc : Nat → Value
  xn : Nat → List Str
  xh : Option (Addr × Obj) := none

section
variable (T : Tb) (F : Hp)
mutual
/-- the value v stands for d, as F tells -/
def Rep : D → V → Prop
  | .non, v => v = .non
  | .bl b, v => v = .bl b
  | .int i, v => v = .int i
  | .str x, v => v = .str x
  | .lst xs, v => ∃ a vs, v = .ref a ∧ F a = some (.lst vs) ∧ Reps xs vs
  | .tup xs, v => ∃ a vs, v = .ref a ∧ F a = some (.tup vs) ∧ Reps xs vs
  | .ins c fs, v => ∃ a dx vs, v = .ref a ∧ F a = some (.ins (T.ad c) dx ((T.nm c).zip vs)) ∧ vs.length = (T.nm c).length ∧ Reps fs vs
  | .scr ns, v => ∃ a, v = .ref a ∧ SqL T.K F a (ns.map V.int)
  | .exc c fs, v => ∃ a oe d vs, v = .ref a ∧ T.xh = some (a, oe) ∧ oe.cls = T.xc c ∧ oe.dict = some d ∧ (∃ ws, oe.data = .fields ws) ∧ F d = some (.xd ((T.xn c).zip vs)) ∧ vs.length = (T.xn c).length ∧ Reps fs vs
def Reps : List D → List V → Prop
  | [], vs => vs = []
  | d :: ds, vs => ∃ v us, vs = v :: us ∧ Rep d v ∧ Reps ds us
end
end
section
variable {T : Tb} {F F' : Hp}
mutual
theorem Rep.mono (s : Same F F') : ∀ {d : D} {v : V}, Rep T F d v → Rep T F' d v
  | .non, v, h => by simpa only [Rep] using h
  | .bl b, v, h => by simpa only [Rep] using h
  | .int b, v, h => by simpa only [Rep] using h
  | .str b, v, h => by simpa only [Rep] using h
  | .lst xs, v, h => by
    simp only [Rep] at h ⊢
    obtain ⟨a, vs, e, h1, h2⟩ := h
    exact ⟨a, vs, e, s _ _ h1, Reps.mono s h2⟩
  | .tup xs, v, h => by
    simp only [Rep] at h ⊢
    obtain ⟨a, vs, e, h1, h2⟩ := h
    exact ⟨a, vs, e, s _ _ h1, Reps.mono s h2⟩
  | .ins c fs, v, h => by
    simp only [Rep] at h ⊢
    obtain ⟨a, dx, vs, e, h1, hl, h2⟩ := h
    exact ⟨a, dx, vs, e, s _ _ h1, hl, Reps.mono s h2⟩
  | .scr ns, v, h => by
    simp only [Rep] at h ⊢
    obtain ⟨a, e, h1⟩ := h
    exact ⟨a, e, s.seq h1⟩
  | .exc c fs, v, h => by
    simp only [Rep] at h ⊢
    obtain ⟨a, oe, d, vs, e, h1, g1, g2, g3, h2, hl, h3⟩ := h
    exact ⟨a, oe, d, vs, e, h1, g1, g2, g3, s _ _ h2, hl, Reps.mono s h3⟩
theorem Reps.mono (s : Same F F') : ∀ {ds : List D} {vs : List V}, Reps T F ds vs → Reps T F' ds vs
  | [], vs, h => by simpa only [Reps] using h
  | d :: ds, vs, h => by
    simp only [Reps] at h ⊢
    obtain ⟨v, us, e, h1, h2⟩ := h
    exact ⟨v, us, e, Rep.mono s h1, Reps.mono s h2⟩
end
theorem reps_nil {vs : List V} : Reps T F [] vs ↔ vs = [] := by simp only [Reps]
theorem reps_cons {d : D} {ds : List D} {vs : List V} : Reps T F (d :: ds) vs ↔ ∃ v us, vs = v :: us ∧ Rep T F d v ∧ Reps T F ds us := by simp only [Reps]
theorem Reps.nil : Reps T F [] [] := reps_nil.mpr rfl
theorem Reps.cons {d : D} {ds : List D} {v : V} {vs : List V} (h : Rep T F d v) (t : Reps T F ds vs) : Reps T F (d :: ds) (v :: vs) := reps_cons.mpr ⟨v, vs, rfl, h, t⟩
theorem Reps.length : ∀ {ds : List D} {vs : List V}, Reps T F ds vs → ds.length = vs.length
  | [], vs, h => by rw [reps_nil.mp h]; rfl
  | d :: ds, vs, h => by
    obtain ⟨v, us, rfl, _, h2⟩ := reps_cons.mp h
    simp [h2.length]
theorem Reps.get : ∀ {ds : List D} {vs : List V} {i : Nat} {d : D}, Reps T F ds vs → ds[i]? = some d → ∃ v, vs[i]? = some v ∧ Rep T F d v
  | [], vs, i, d, h, e => by simp at e
  | x :: ds, vs, 0, d, h, e => by
    obtain ⟨v, us, rfl, h1, h2⟩ := reps_cons.mp h
    simp at e
    subst e
    exact ⟨v, by simp, h1⟩
  | x :: ds, vs, i + 1, d, h, e => by
    obtain ⟨v, us, rfl, h1, h2⟩ := reps_cons.mp h
    simp at e
    obtain ⟨w, e1, e2⟩ := h2.get e
    exact ⟨w, by simpa using e1, e2⟩
theorem Reps.get' : ∀ {ds : List D} {vs : List V} {i : Nat} {v : V}, Reps T F ds vs → vs[i]? = some v → ∃ d, ds[i]? = some d ∧ Rep T F d v
  | [], vs, i, d, h, e => by rw [reps_nil.mp h] at e; simp at e
  | x :: ds, vs, 0, w, h, e => by
    obtain ⟨v, us, rfl, h1, h2⟩ := reps_cons.mp h
    simp at e
    subst e
    exact ⟨x, by simp, h1⟩
  | x :: ds, vs, i + 1, w, h, e => by
    obtain ⟨v, us, rfl, h1, h2⟩ := reps_cons.mp h
    simp at e
    obtain ⟨w, e1, e2⟩ := h2.get' e
    exact ⟨w, by simpa using e1, e2⟩
theorem Reps.set {d : D} {v : V} (r : Rep T F d v) : ∀ {ds : List D} {vs : List V} (i : Nat), Reps T F ds vs → Reps T F (ds.set i d) (vs.set i v)
  | [], vs, i, h => by rw [reps_nil.mp h]; exact .nil
  | x :: ds, vs, 0, h => by
    obtain ⟨v, us, rfl, h1, h2⟩ := reps_cons.mp h
    exact .cons r h2
  | x :: ds, vs, i + 1, h => by
    obtain ⟨v, us, rfl, h1, h2⟩ := reps_cons.mp h
    exact .cons h1 (h2.set r i)
theorem Reps.append : ∀ {ds es : List D} {vs us : List V}, Reps T F ds vs → Reps T F es us → Reps T F (ds ++ es) (vs ++ us)
  | [], es, vs, us, h, g => by rw [reps_nil.mp h]; exact g
  | x :: ds, es, vs, us, h, g => by
    obtain ⟨v, ws, rfl, h1, h2⟩ := reps_cons.mp h
    exact .cons h1 (h2.append g)
theorem Reps.flat : ∀ {xs : List D} {vs : List V} (n : Nat), Reps T F xs vs → Reps T F (List.replicate n xs).flatten (List.replicate n vs).flatten
  | xs, vs, 0, h => .nil
  | xs, vs, n + 1, h => by
    simp only [List.replicate_succ, List.flatten_cons]
    exact h.append (h.flat n)
theorem Reps.ints : ∀ {ns : List Int}, Reps T F (ns.map D.int) (ns.map V.int)
  | [] => .nil
  | n :: ns => .cons (by simp only [Rep]) Reps.ints
end

/-- nothing changed, new things only -/
structure Grow (F H F' H' : Hp) : Prop where
  ff : Same F F'
  fh : Same F' H'
  hh : Same H H'
  nw : ∀ p, F' p ≠ none → F p ≠ none ∨ H p = none
theorem Grow.refl {F H : Hp} (s : Same F H) : Grow F H F H := ⟨.refl _, s, .refl _, fun p h => .inl h⟩
theorem Same.new {H : Hp} {p : Addr} {o : HO} (h : H p = none) : Same H (upd H p o) := fun a u e => by
  rw [upd_ne (ne_of_none e h)]
  exact e
theorem Same.none {F H : Hp} {p : Addr} (s : Same F H) (h : H p = Option.none) : F p = Option.none := s.free h
/-- a new thing, known to F -/
theorem Grow.new {F H : Hp} {p : Addr} {o : HO} (s : Same F H) (h : H p = none) : Grow F H (upd F p o) (upd H p o) where
  ff := Same.new (Same.none s h)
  fh := fun a u e => by
    by_cases e1 : a = p
    · subst e1
      rw [upd_same] at e ⊢
      exact e
    · rw [upd_ne e1] at e ⊢
      exact s _ _ e
  hh := Same.new h
  nw := fun q hq => by
    by_cases e1 : q = p
    · subst e1
      exact .inr h
    · rw [upd_ne e1] at hq
      exact .inl hq
theorem Grow.trans {F H F1 H1 F2 H2 : Hp} (a : Grow F H F1 H1) (b : Grow F1 H1 F2 H2) : Grow F H F2 H2 where
  ff := a.ff.trans b.ff
  fh := b.fh
  hh := a.hh.trans b.hh
  nw := fun p h => by
    rcases b.nw p h with h | h
    · exact a.nw p h
    · exact .inr (a.hh.free h)

section
variable (T : Tb)
def RepO (F : Hp) : O → HO → Prop
  | .l xs, .lst vs => Reps T F xs vs
  | .d kvs, .dK kws => kws.map (·.1) = kvs.map (·.1) ∧ Reps T F (kvs.map (·.2)) (kws.map (·.2))
  | .i c fs, .ins C _ gs => C = T.ad c ∧ gs.map (·.1) = fs.map (·.1) ∧ Reps T F (fs.map (·.2)) (gs.map (·.2))
  | _, _ => False
def RelS (B0 : Hp) (A : List Addr) (F H : Hp) (v : Option (Option V)) : Slot → Prop
  | .no => True
  | .sh d => ∃ u, v = some (some u) ∧ Rep T F d u
  | .ow k o => ∃ a ho, v = some (some (.ref a)) ∧ F a = none ∧ B0 a = none ∧ (∀ n, k = some n → A[n]? = some a) ∧ H a = some ho ∧ RepO T F o ho
def OwnA (ε : Env) (σ : St) (i : Nat) (a : Addr) : Prop := (∃ k o, ε[i]? = some (.ow k o)) ∧ σ[i]? = some (some (.ref a))
structure RelE (F0 B0 : Hp) (A : List Addr) (F H : Hp) (σ : St) (ε : Env) : Prop where
  f0 : Same F0 F
  fh : Same F H
  bh : Same B0 H
  fr : ∀ p, F p ≠ none → F0 p ≠ none ∨ B0 p = none
  len : ε.length = σ.length
  sl : ∀ (i : Nat) (s : Slot), ε[i]? = some s → RelS T B0 A F H σ[i]? s
  nd : ∀ (i j : Nat) (a : Addr), OwnA ε σ i a → OwnA ε σ j a → i = j
def XRep (F H : Hp) (c : Nat) (fs : List D) (cls : Value) (dx : Option Addr) : Prop := cls = T.xc c ∧
  ((∃ d vs, dx = some d ∧ F d = some (.xd ((T.xn c).zip vs)) ∧ vs.length = (T.xn c).length ∧ Reps T F fs vs) ∨ (dx = none ∧ fs = [] ∧ T.xn c = []))
def Post {α : Type} (W : WX) (F0 B0 : Hp) (A : List Addr) (F : Hp) (σ : St) (m : R α) (K : α → Env → Hp → Hp → Prop) : Prop := match m with
  | .bot => False
  | .ok a ε => ∀ F' H', Same F F' → RelE T F0 B0 A F' H' σ ε → K a ε F' H'
  | .ex c fs ε => ∀ F' H' cls dx, Same F F' → RelE T F0 B0 A F' H' σ ε → XRep T F' H' c fs cls dx → W cls dx σ H'
def PostS (W : WX) (F0 B0 : Hp) (A : List Addr) (F : Hp) (m : R Fl) (Dn : Ends) : Prop := match m with
  | .bot => False
  | .ok fl ε => ∀ σ' F' H', Same F F' → RelE T F0 B0 A F' H' σ' ε → (match fl with
    | .nx => Dn.nx σ' H'
    | .br => Dn.bk σ' H'
    | .ct => Dn.ct σ' H'
    | .rt d => ∀ v, Rep T F' d v → Dn.rt v H'
    | .ro o => ∀ p ho, F' p = none → B0 p = none → H' p = some ho → RepO T F' o ho → (∀ i, ¬ OwnA ε σ' i p) → Dn.rt (.ref p) H')
  | .ex c fs ε => ∀ σ' F' H' cls dx, Same F F' → RelE T F0 B0 A F' H' σ' ε → XRep T F' H' c fs cls dx → W cls dx σ' H'
def EvP (W : WX) (f : FE) : TE := fun σ H Q => ∃ F0 B0 A F ε, RelE T F0 B0 A F H σ ε ∧ Post T W F0 B0 A F σ (f ε) fun d _ F' H' => ∀ v, Rep T F' d v → Q v H'
def EvT (W : WX) (f : FT) : TT := fun σ H Q => ∃ F0 B0 A F ε, RelE T F0 B0 A F H σ ε ∧ Post T W F0 B0 A F σ (f ε) fun b _ _ H' => Q b H'
def EvO (W : WX) (f : FO) : TE := fun σ H Q => ∃ F0 B0 A F ε, RelE T F0 B0 A F H σ ε ∧ Post T W F0 B0 A F σ (f ε) fun o ε' F' H' => ∀ p ho, F' p = none → B0 p = none → H' p = some ho → RepO T F' o ho → (∀ i, ¬ OwnA ε' σ i p) → Q (.ref p) H'
def EvA (W : WX) (f : FA) : TA := fun σ H Q => ∃ F0 B0 A F ε, RelE T F0 B0 A F H σ ε ∧ Post T W F0 B0 A F σ (f ε) fun ds _ F' H' => ∀ vs, Reps T F' ds vs → Q vs H'
def EvS (W : WX) (g : FS) : TS := fun Dn σ H => ∃ F0 B0 A F ε, RelE T F0 B0 A F H σ ε ∧ PostS T W F0 B0 A F (g ε) Dn
end
abbrev SE (X : Cx) (T : Tb) (W : WX) (e : Expr) (f : FE) : Prop := PE X e (EvP T W f)
abbrev SO (X : Cx) (T : Tb) (W : WX) (e : Expr) (f : FO) : Prop := PE X e (EvO T W f)
abbrev ST (X : Cx) (T : Tb) (W : WX) (e : Expr) (f : FT) : Prop := PT X e (EvT T W f)
abbrev SW (X : Cx) (T : Tb) (W : WX) (e : Expr) (f : FT) : Prop := PW X e (EvT T W f)
abbrev SA (X : Cx) (T : Tb) (W : WX) (es : List Expr) (f : FA) : Prop := PA X es (EvA T W f)
abbrev SS (X : Cx) (T : Tb) (W : WX) (st : Stmt) (g : FS) : Prop := PS X st (EvS T W g)
abbrev SSs (X : Cx) (T : Tb) (W : WX) (st : List Stmt) (g : FS) : Prop := PSs X st (EvS T W g)

section
variable {X : Cx}
theorem impE {e : Expr} {t t' : TE} (h : PE X e t) (i : ∀ σ H Q, t' σ H Q → t σ H Q) : PE X e t' := ⟨fun pins s σ H Q I x => h.run pins s σ H Q I (i _ _ _ x)⟩
theorem impT {e : Expr} {t t' : TT} (h : PT X e t) (i : ∀ σ H Q, t' σ H Q → t σ H Q) : PT X e t' := ⟨fun pins s σ H Q I x => h.run pins s σ H Q I (i _ _ _ x)⟩
theorem impW {e : Expr} {t t' : TT} (h : PW X e t) (i : ∀ σ H Q, t' σ H Q → t σ H Q) : PW X e t' := ⟨fun whole pins s σ H Q I x => h.run whole pins s σ H Q I (i _ _ _ x)⟩
theorem impA {e : List Expr} {t t' : TA} (h : PA X e t) (i : ∀ σ H Q, t' σ H Q → t σ H Q) : PA X e t' := ⟨fun p pins s σ H Q I x => h.run p pins s σ H Q I (i _ _ _ x)⟩
theorem impS {e : Stmt} {t t' : TS} (h : PS X e t) (i : ∀ D σ H, t' D σ H → t D σ H) : PS X e t' := ⟨fun pins s σ H D I x => h.run pins s σ H D I (i _ _ _ x)⟩
theorem impSs {e : List Stmt} {t t' : TS} (h : PSs X e t) (i : ∀ D σ H, t' D σ H → t D σ H) : PSs X e t' := ⟨fun pins s σ H D I x => h.run pins s σ H D I (i _ _ _ x)⟩
theorem impI {tg e : Expr} {t t' : TI} (h : PI X tg e t) (i : ∀ σ H Q, t' σ H Q → t σ H Q) : PI X tg e t' := ⟨fun pins s σ H Q I x => h.run pins s σ H Q I (i _ _ _ x)⟩
end

section
variable {T : Tb} {W : WX} {F0 B0 F F' H H' : Hp} {A : List Addr} {σ : St} {ε : Env}
theorem RepO.mono (s : Same F F') {o : O} {ho : HO} (h : RepO T F o ho) : RepO T F' o ho := by
  cases o with
  | l xs =>
    cases ho with
    | lst vs => exact Reps.mono s h
    | _ => exact h.elim
  | i c fs =>
    cases ho with
    | ins C dx gs => exact ⟨h.1, h.2.1, Reps.mono s h.2.2⟩
    | _ => exact h.elim
  | d kvs =>
    cases ho with
    | dK kws => exact ⟨h.1, Reps.mono s h.2⟩
    | _ => exact h.elim
theorem RelS.grow {v : Option (Option V)} {sl : Slot} (g : Grow F H F' H') (h : RelS T B0 A F H v sl) : RelS T B0 A F' H' v sl := by
  cases sl with
  | no => trivial
  | sh d =>
    obtain ⟨u, e, r⟩ := h
    exact ⟨u, e, r.mono g.ff⟩
  | ow k o =>
    obtain ⟨a, ho, e, fa, ba, ka, ha, r⟩ := h
    refine ⟨a, ho, e, ?_, ba, ka, g.hh _ _ ha, r.mono g.ff⟩
    cases q : F' a with
    | none => rfl
    | some x =>
      rcases g.nw a (by rw [q]; simp) with z | z
      · exact absurd fa z
      · rw [ha] at z; cases z
theorem RelE.grow (r : RelE T F0 B0 A F H σ ε) (g : Grow F H F' H') : RelE T F0 B0 A F' H' σ ε where
  f0 := r.f0.trans g.ff
  fh := g.fh
  bh := r.bh.trans g.hh
  fr := fun p h => by
    rcases g.nw p h with z | z
    · exact r.fr p z
    · exact .inr (r.bh.free z)
  len := r.len
  sl := fun i s e => (r.sl i s e).grow g
  nd := r.nd
theorem Post.monoF {α : Type} {m : R α} {K : α → Env → Hp → Hp → Prop} (s : Same F F') (h : Post T W F0 B0 A F σ m K) : Post T W F0 B0 A F' σ m K := by
  cases m with
  | bot => exact h
  | ok a e => exact fun F1 H1 s1 r => h F1 H1 (s.trans s1) r
  | ex c fs e => exact fun F1 H1 cls dx s1 r x => h F1 H1 cls dx (s.trans s1) r x
theorem PostS.monoF {m : R Fl} {Dn : Ends} (s : Same F F') (h : PostS T W F0 B0 A F m Dn) : PostS T W F0 B0 A F' m Dn := by
  cases m with
  | bot => exact h
  | ok a e => exact fun σ1 F1 H1 s1 r => h σ1 F1 H1 (s.trans s1) r
  | ex c fs e => exact fun σ1 F1 H1 cls dx s1 r x => h σ1 F1 H1 cls dx (s.trans s1) r x
theorem Post.imp {α : Type} {m : R α} {K K' : α → Env → Hp → Hp → Prop} (h : Post T W F0 B0 A F σ m K) (i : ∀ a ε' F' H', Same F F' → RelE T F0 B0 A F' H' σ ε' → K a ε' F' H' → K' a ε' F' H') : Post T W F0 B0 A F σ m K' := by
  cases m with
  | bot => exact h
  | ok a e => exact fun F1 H1 s1 r => i _ _ _ _ s1 r (h F1 H1 s1 r)
  | ex c fs e => exact h
theorem post_bind {α β : Type} {m : R α} {k : α → Env → R β} {K : β → Env → Hp → Hp → Prop} (h : Post T W F0 B0 A F σ (m.bind k) K) :
    Post T W F0 B0 A F σ m fun a ε' F' _ => Post T W F0 B0 A F' σ (k a ε') K := by
  cases m with
  | bot => exact h
  | ok a e => exact fun F1 H1 s1 r => Post.monoF s1 h
  | ex c fs e => exact h
theorem postS_bind {α : Type} {m : R α} {k : α → Env → R Fl} {Dn : Ends} (h : PostS T W F0 B0 A F (m.bind k) Dn) :
    Post T W F0 B0 A F σ m fun a ε' F' _ => PostS T W F0 B0 A F' (k a ε') Dn := by
  cases m with
  | bot => exact h
  | ok a e => exact fun F1 H1 s1 r => PostS.monoF s1 h
  | ex c fs e => exact fun F1 H1 cls dx s1 r x => h σ F1 H1 cls dx s1 r x
theorem post_of {α β : Type} {o : Option α} {k : α → R β} {K : β → Env → Hp → Hp → Prop} (h : Post T W F0 B0 A F σ (R.of o k) K) : ∃ a, o = some a ∧ Post T W F0 B0 A F σ (k a) K := by
  cases o with
  | none => exact h.elim
  | some a => exact ⟨a, rfl, h⟩
theorem postS_of {α : Type} {o : Option α} {k : α → R Fl} {Dn : Ends} (h : PostS T W F0 B0 A F (R.of o k) Dn) : ∃ a, o = some a ∧ PostS T W F0 B0 A F (k a) Dn := by
  cases o with
  | none => exact h.elim
  | some a => exact ⟨a, rfl, h⟩

/-! ### slots -/
theorem slot_get {i : Nat} {s : Slot} (r : RelE T F0 B0 A F H σ ε) (e : ε[i]? = some s) : RelS T B0 A F H σ[i]? s := r.sl i s e
theorem lt_of_get {α : Type} {l : List α} {i : Nat} {x : α} (h : l[i]? = some x) : i < l.length := (List.getElem?_eq_some_iff.mp h).1
theorem ownA_set_no {i j : Nat} {s : Slot} {v : Option V} {a : Addr} (ns : ∀ k o, s ≠ .ow k o) (h : OwnA (ε.set i s) (σ.set i v) j a) : j ≠ i ∧ OwnA ε σ j a := by
  obtain ⟨⟨k, o, h1⟩, h2⟩ := h
  by_cases e : j = i
  · subst e
    have hl : j < (ε.set j s).length := lt_of_get h1
    rw [List.length_set] at hl
    rw [List.getElem?_set_self hl] at h1
    exact absurd (Option.some.inj h1) (ns k o)
  · rw [List.getElem?_set_ne (Ne.symm e)] at h1 h2
    exact ⟨e, ⟨k, o, h1⟩, h2⟩
/-- a name gets a value -/
theorem RelE.setSh {i : Nat} {d : D} {v : V} (r : RelE T F0 B0 A F H σ ε) (h : Rep T F d v) : RelE T F0 B0 A F H (σ.set i (some v)) (ε.set i (.sh d)) where
  f0 := r.f0
  fh := r.fh
  bh := r.bh
  fr := r.fr
  len := by simpa using r.len
  sl := fun j s e => by
    by_cases q : j = i
    · subst q
      have hl : j < (ε.set j (.sh d)).length := lt_of_get e
      rw [List.length_set] at hl
      rw [List.getElem?_set_self hl] at e
      cases e
      rw [List.getElem?_set_self (by rw [← r.len]; exact hl)]
      exact ⟨v, rfl, h⟩
    · rw [List.getElem?_set_ne (Ne.symm q)] at e ⊢
      exact r.sl j s e
  nd := fun j k a h1 h2 => by
    have z1 := ownA_set_no (by intro _ _; simp) h1
    have z2 := ownA_set_no (by intro _ _; simp) h2
    exact r.nd j k a z1.2 z2.2
/-- what was known of a name is forgotten -/
theorem RelE.setNo {i : Nat} {v : Option V} (r : RelE T F0 B0 A F H σ ε) : RelE T F0 B0 A F H (σ.set i v) (ε.set i .no) where
  f0 := r.f0
  fh := r.fh
  bh := r.bh
  fr := r.fr
  len := by simpa using r.len
  sl := fun j s e => by
    by_cases q : j = i
    · subst q
      have hl : j < (ε.set j .no).length := lt_of_get e
      rw [List.length_set] at hl
      rw [List.getElem?_set_self hl] at e
      cases e
      trivial
    · rw [List.getElem?_set_ne (Ne.symm q)] at e ⊢
      exact r.sl j s e
  nd := fun j k a h1 h2 => by
    have z1 := ownA_set_no (by intro _ _; simp) h1
    have z2 := ownA_set_no (by intro _ _; simp) h2
    exact r.nd j k a z1.2 z2.2
theorem RelE.setNo' {i : Nat} (r : RelE T F0 B0 A F H σ ε) : RelE T F0 B0 A F H σ (ε.set i .no) where
  f0 := r.f0
  fh := r.fh
  bh := r.bh
  fr := r.fr
  len := by simpa using r.len
  sl := fun j s e => by
    by_cases q : j = i
    · subst q
      have hl : j < (ε.set j .no).length := lt_of_get e
      rw [List.length_set] at hl
      rw [List.getElem?_set_self hl] at e
      cases e
      trivial
    · rw [List.getElem?_set_ne (Ne.symm q)] at e
      exact r.sl j s e
  nd := fun j k a h1 h2 => by
    have go : ∀ {j}, OwnA (ε.set i .no) σ j a → OwnA ε σ j a := by
      rintro j ⟨⟨k, o, h1⟩, h2⟩
      by_cases e : j = i
      · subst e
        have hl : j < (ε.set j .no).length := lt_of_get h1
        rw [List.length_set] at hl
        rw [List.getElem?_set_self hl] at h1
        cases h1
      · rw [List.getElem?_set_ne (Ne.symm e)] at h1
        exact ⟨⟨k, o, h1⟩, h2⟩
    exact r.nd j k a (go h1) (go h2)
/-- an object of one's own, at a name -/
theorem RelE.setOw {i : Nat} {o : O} {p : Addr} {ho : HO} (r : RelE T F0 B0 A F H σ ε) (fp : F p = none) (bp : B0 p = none) (hp : H p = some ho) (ro : RepO T F o ho) (np : ∀ j, ¬ OwnA ε σ j p) :
    RelE T F0 B0 A F H (σ.set i (some (.ref p))) (ε.set i (.ow none o)) where
  f0 := r.f0
  fh := r.fh
  bh := r.bh
  fr := r.fr
  len := by simpa using r.len
  sl := fun j s e => by
    by_cases q : j = i
    · subst q
      have hl : j < (ε.set j (.ow none o)).length := lt_of_get e
      rw [List.length_set] at hl
      rw [List.getElem?_set_self hl] at e
      cases e
      rw [List.getElem?_set_self (by rw [← r.len]; exact hl)]
      exact ⟨p, ho, rfl, fp, bp, (fun n z => by cases z), hp, ro⟩
    · rw [List.getElem?_set_ne (Ne.symm q)] at e ⊢
      exact r.sl j s e
  nd := fun j k a h1 h2 => by
    have cs : ∀ {j}, OwnA (ε.set i (.ow none o)) (σ.set i (some (.ref p))) j a → (j = i ∧ a = p) ∨ (j ≠ i ∧ OwnA ε σ j a) := by
      rintro j ⟨⟨k, o, h1⟩, h2⟩
      by_cases e : j = i
      · subst e
        have hl : j < _ := lt_of_get h2
        rw [List.length_set] at hl
        rw [List.getElem?_set_self hl] at h2
        cases h2
        exact .inl ⟨rfl, rfl⟩
      · rw [List.getElem?_set_ne (Ne.symm e)] at h1 h2
        exact .inr ⟨e, ⟨k, o, h1⟩, h2⟩
    rcases cs h1 with ⟨rfl, rfl⟩ | ⟨_, z1⟩
    · rcases cs h2 with ⟨rfl, _⟩ | ⟨_, z2⟩
      · rfl
      · exact absurd z2 (np _)
    · rcases cs h2 with ⟨rfl, rfl⟩ | ⟨_, z2⟩
      · exact absurd z1 (np _)
      · exact r.nd j k a z1 z2
/-- an object of one's own is changed -/
theorem RelE.wrOw {i : Nat} {k : Option Nat} {o o' : O} {a : Addr} {ho : HO} (r : RelE T F0 B0 A F H σ ε) (e : ε[i]? = some (.ow k o)) (ev : σ[i]? = some (some (.ref a))) (ro : RepO T F o' ho) :
    RelE T F0 B0 A F (upd H a ho) σ (ε.set i (.ow k o')) := by
  obtain ⟨a', ho', e1, fa, ba, ka, ha, _⟩ := r.sl i _ e
  have ea : a' = a := by
    rw [ev] at e1
    cases e1
    rfl
  subst ea
  have iε : i < ε.length := lt_of_get e
  refine ⟨r.f0, fun p u h => ?_, fun p u h => ?_, r.fr, by simpa using r.len, fun j s ej => ?_, fun j l b h1 h2 => ?_⟩
  · rw [upd_ne (ne_of_none h fa)]
    exact r.fh p u h
  · rw [upd_ne (ne_of_none h ba)]
    exact r.bh p u h
  · by_cases q : j = i
    · subst q
      rw [List.getElem?_set_self iε] at ej
      cases ej
      exact ⟨a', ho, ev, fa, ba, ka, upd_same, ro⟩
    · rw [List.getElem?_set_ne (Ne.symm q)] at ej
      have z := r.sl j s ej
      cases s with
      | no => trivial
      | sh d => exact z
      | ow k1 o1 =>
        obtain ⟨b, hb, e2, fb, bb, kb, hhb, rb⟩ := z
        refine ⟨b, hb, e2, fb, bb, kb, ?_, rb⟩
        rw [upd_ne]
        · exact hhb
        · rintro rfl
          exact q (r.nd j i b ⟨⟨_, _, ej⟩, e2⟩ ⟨⟨_, _, e⟩, ev⟩)
  · have go : ∀ {j}, OwnA (ε.set i (.ow k o')) σ j b → OwnA ε σ j b := by
      rintro j ⟨⟨k, o, g1⟩, g2⟩
      by_cases q : j = i
      · subst q
        exact ⟨⟨_, _, e⟩, g2⟩
      · rw [List.getElem?_set_ne (Ne.symm q)] at g1
        exact ⟨⟨k, o, g1⟩, g2⟩
    exact r.nd j l b (go h1) (go h2)
/-- an own list is shared from now on -/
theorem RelE.share {i : Nat} {xs : List D} {a : Addr} {vs : List V} (r : RelE T F0 B0 A F H σ ε) (e : ε[i]? = some (.ow none (.l xs))) (ev : σ[i]? = some (some (.ref a))) (ha : H a = some (.lst vs)) (rv : Reps T F xs vs) (fa : F a = none) (ba : B0 a = none) :
    Same F (upd F a (.lst vs)) ∧ RelE T F0 B0 A (upd F a (.lst vs)) H σ (ε.set i (.sh (.lst xs))) ∧ Rep T (upd F a (.lst vs)) (.lst xs) (.ref a) := by
  have sf : Same F (upd F a (.lst vs)) := Same.new fa
  have ro : Rep T (upd F a (.lst vs)) (.lst xs) (.ref a) := by
    simp only [Rep]
    exact ⟨a, vs, rfl, upd_same, rv.mono sf⟩
  have iε : i < ε.length := lt_of_get e
  refine ⟨sf, ⟨r.f0.trans sf, fun p u h => ?_, r.bh, fun p h => ?_, by simpa using r.len, fun j s ej => ?_, fun j l b h1 h2 => ?_⟩, ro⟩
  · by_cases q : p = a
    · subst q
      rw [upd_same] at h
      cases h
      exact ha
    · rw [upd_ne q] at h
      exact r.fh p u h
  · by_cases q : p = a
    · subst q
      exact .inr ba
    · rw [upd_ne q] at h
      exact r.fr p h
  · by_cases q : j = i
    · subst q
      rw [List.getElem?_set_self iε] at ej
      cases ej
      exact ⟨_, ev, ro⟩
    · rw [List.getElem?_set_ne (Ne.symm q)] at ej
      have z := r.sl j s ej
      cases s with
      | no => trivial
      | sh d =>
        obtain ⟨u, e1, e2⟩ := z
        exact ⟨u, e1, e2.mono sf⟩
      | ow k1 o1 =>
        obtain ⟨b, hb, e2, fb, bb, kb, hhb, rb⟩ := z
        refine ⟨b, hb, e2, ?_, bb, kb, hhb, rb.mono sf⟩
        rw [upd_ne]
        · exact fb
        · rintro rfl
          exact q (r.nd j i b ⟨⟨_, _, ej⟩, e2⟩ ⟨⟨_, _, e⟩, ev⟩)
  · have go : ∀ {j}, OwnA (ε.set i (.sh (.lst xs))) σ j b → OwnA ε σ j b := by
      rintro j ⟨⟨k, o, h1⟩, h2⟩
      by_cases q : j = i
      · subst q
        rw [List.getElem?_set_self iε] at h1
        cases h1
      · rw [List.getElem?_set_ne (Ne.symm q)] at h1
        exact ⟨⟨k, o, h1⟩, h2⟩
    exact r.nd j l b (go h1) (go h2)
/-- a new list, at no name yet -/
theorem RelE.newOwn {p : Addr} {ho : HO} (r : RelE T F0 B0 A F H σ ε) (hp : H p = none) : RelE T F0 B0 A F (upd H p ho) σ ε ∧ F p = none ∧ B0 p = none ∧ ∀ i, ¬ OwnA ε σ i p := by
  refine ⟨r.grow ⟨.refl _, r.fh.trans (Same.new hp), Same.new hp, fun q h => .inl h⟩, r.fh.free hp, r.bh.free hp, fun i ⟨⟨k, o, e1⟩, e2⟩ => ?_⟩
  obtain ⟨b, hb, e3, _, _, _, hhb, _⟩ := r.sl i _ e1
  rw [e2] at e3
  cases e3
  rw [hp] at hhb
  cases hhb
end
end EV
set_option maxRecDepth 100000
/-! EvR: one rule a construct. -/
namespace EV
open PySem L2
section
variable {X : Cx} {T : Tb} {W : WX} {pos : Pos} {a b e : Expr} {fa fb fe : FE}

/-! ### constants, names -/
theorem sE_const {d : D} {v : V} (h : PE X e (tC v)) (r : ∀ F, Rep T F d v) : SE X T W e (cC d) := impE h fun σ H Q ⟨F0, B0, A, F, ε, rel, p⟩ => p F H (.refl _) rel v (r F)
theorem sE_int {i : Int} {j pos} : SE X T W (.Constant (.int i) j pos) (cC (.int i)) := sE_const pe_int fun F => by simp only [Rep]
theorem sE_bl {i : Bool} {j pos} : SE X T W (.Constant (.bool i) j pos) (cC (.bl i)) := sE_const pe_bl fun F => by simp only [Rep]
theorem sE_non {j pos} : SE X T W (.Constant .none j pos) (cC .non) := sE_const pe_non fun F => by simp only [Rep]
theorem sE_str {i : Str} {j pos} : SE X T W (.Constant (.str i) j pos) (cC (.str i)) := sE_const pe_str fun F => by simp only [Rep]
/-- a module's constant -/
theorem sE_glob {x : Str} {d : D} {v : V} (h : PE X (.Name x pos) (tC v)) (r : ∀ F, Rep T F d v) : SE X T W (.Name x pos) (cC d) := sE_const h r
theorem sE_nm {i : Nat} (h : PE X e (tVar i)) : SE X T W e (nm i) := impE h fun σ H Q ⟨F0, B0, A, F, ε, rel, p⟩ => by
  unfold nm at p
  split at p
  · rename_i d he
    obtain ⟨u, e1, r⟩ := rel.sl i _ he
    exact ⟨u, e1, p F H (.refl _) rel u r⟩
  · rename_i xs he
    obtain ⟨a, ho, e1, fa, ba, _, ha, ro⟩ := rel.sl i _ he
    cases ho with
    | lst vs =>
      obtain ⟨s1, rel1, r1⟩ := rel.share he e1 ha ro fa ba
      exact ⟨_, e1, p _ H s1 rel1 _ r1⟩
    | _ => exact ro.elim
  · exact p.elim
theorem sO_nm {i : Nat} (h : PE X e (tVar i)) : SO X T W e (nmO i) := impE h fun σ H Q ⟨F0, B0, A, F, ε, rel, p⟩ => by
  unfold nmO at p
  split at p
  · rename_i o he
    obtain ⟨a, ho, e1, fa, ba, _, ha, ro⟩ := rel.sl i _ he
    refine ⟨_, e1, p F H (.refl _) rel.setNo' a ho fa ba ha ro fun j hj => ?_⟩
    obtain ⟨⟨k, o2, h1⟩, h2⟩ := hj
    have iε : i < ε.length := lt_of_get he
    by_cases q : j = i
    · subst q
      rw [List.getElem?_set_self iε] at h1
      cases h1
    · rw [List.getElem?_set_ne (Ne.symm q)] at h1
      exact q (rel.nd j i a ⟨⟨_, _, h1⟩, h2⟩ ⟨⟨_, _, he⟩, e1⟩)
  · exact p.elim
/-- an own object is shared at once -/
theorem sE_frz {f : FO} (h : SO X T W e f) : SE X T W e (frz f) := impE h fun σ H Q ⟨F0, B0, A, F, ε, rel, p⟩ => ⟨F0, B0, A, F, ε, rel, (post_bind p).imp fun o ε1 F1 H1 s1 rel1 p1 => by
  intro q ho fq bq hq ro no
  obtain ⟨d, e1, p2⟩ := post_of p1
  cases o with
  | i c fs => cases e1
  | d kvs => cases e1
  | l xs =>
    cases e1
    cases ho with
    | lst vs =>
      have sf : Same F1 (upd F1 q (.lst vs)) := Same.new fq
      have r2 : Rep T (upd F1 q (.lst vs)) (.lst xs) (.ref q) := by
        simp only [Rep]
        exact ⟨q, vs, rfl, upd_same, Reps.mono sf ro⟩
      refine p2 (upd F1 q (.lst vs)) H1 sf ⟨rel1.f0.trans sf, fun y u hy => ?_, rel1.bh, fun y hy => ?_, rel1.len, fun j s ej => ?_, rel1.nd⟩ _ r2
      · by_cases z : y = q
        · subst z
          rw [upd_same] at hy
          cases hy
          exact hq
        · rw [upd_ne z] at hy
          exact rel1.fh y u hy
      · by_cases z : y = q
        · subst z
          exact .inr bq
        · rw [upd_ne z] at hy
          exact rel1.fr y hy
      · have z := rel1.sl j s ej
        cases s with
        | no => trivial
        | sh d =>
          obtain ⟨u, e1, e2⟩ := z
          exact ⟨u, e1, e2.mono sf⟩
        | ow k1 o1 =>
          obtain ⟨b, hb, e2, fb, bb, kb, hhb, rb⟩ := z
          refine ⟨b, hb, e2, ?_, bb, kb, hhb, rb.mono sf⟩
          rw [upd_ne]
          · exact fb
          · rintro rfl
            exact no j ⟨⟨_, _, ej⟩, e2⟩
    | _ => exact ro.elim⟩

/-! ### operators -/
def OpS (T : Tb) (r : R2) (g : D → D → Option D) : Prop := ∀ F H x y z v u Q, Rep T F x v → Rep T F y u → Same F H → g x y = some z → (∀ w F' H', Grow F H F' H' → Rep T F' z w → Q w H') → r v u H Q
def UnS (T : Tb) (r : V → Hp → VK → Prop) (g : D → Option D) : Prop := ∀ F H x z v Q, Rep T F x v → Same F H → g x = some z → (∀ w F' H', Grow F H F' H' → Rep T F' z w → Q w H') → r v H Q
def CaS (T : Tb) (r : List V → Hp → VK → Prop) (g : List D → Option D) : Prop := ∀ F H xs z vs Q, Reps T F xs vs → Same F H → g xs = some z → (∀ w F' H', Grow F H F' H' → Rep T F' z w → Q w H') → r vs H Q
theorem op2 {r : R2} {g : D → D → Option D} (hs : OpS T r g) {σ : St} {H : Hp} {Q : VK} (h : EvP T W (bin g fa fb) σ H Q) : tOp r (EvP T W fa) (EvP T W fb) σ H Q := by
  obtain ⟨F0, B0, A, F, ε, rel, p⟩ := h
  exact ⟨F0, B0, A, F, ε, rel, (post_bind p).imp fun x ε1 F1 H1 s1 rel1 p1 v rv => ⟨F0, B0, A, F1, ε1, rel1, (post_bind p1).imp fun y ε2 F2 H2 s2 rel2 p2 u ru => by
    obtain ⟨z, e, hz⟩ := post_of p2
    exact hs F2 H2 x y z v u Q (rv.mono s2) ru rel2.fh e fun w F' H' gr rw => hz F' H' gr.ff (rel2.grow gr) w rw⟩⟩
theorem sE_bin {op : Operator} {r : R2} {g : D → D → Option D} (ho : OpR X (binaryOp op) r) (hs : OpS T r g) (ha : SE X T W a fa) (hb : SE X T W b fb) : SE X T W (.BinOp a op b pos) (bin g fa fb) := impE (pe_op ho ha hb) fun _ _ _ h => op2 hs h
theorem sE_cmp {op : CmpOp} {r : R2} {g : D → D → Option D} (ho : OpR X (compareOp op) r) (hs : OpS T r g) (ha : SE X T W a fa) (hb : SE X T W b fb) (hm : behindInMarks op b = false) : SE X T W (.Compare a [op] [b] pos) (bin g fa fb) := impE (pe_cmpR ho ha hb hm) fun _ _ _ h => op2 hs h
theorem sT_cmp {op : CmpOp} {r : R2} {g : D → D → Option D} (ho : OpR X (compareOp op) r) (hs : OpS T r g) (ha : SE X T W a fa) (hb : SE X T W b fb) (hm : behindInMarks op b = false) : ST X T W (.Compare a [op] [b] pos) (tB (bin g fa fb)) := impT (pt_cmpR ho ha hb hm) fun σ H Q ⟨F0, B0, A, F, ε, rel, p⟩ => op2 (W := W) (fa := fa) (fb := fb) hs ⟨F0, B0, A, F, ε, rel, (post_bind p).imp fun x ε1 F1 H1 s1 rel1 p1 v rv => by
    cases x with
    | bl k =>
      simp only [Rep] at rv
      exact ⟨k, rv, p1 F1 H1 (.refl _) rel1⟩
    | _ => exact p1.elim⟩
theorem sE_un {op : UnaryOp} {r : V → Hp → VK → Prop} {g : D → Option D} (ho : UnR X (unaryOp op) r) (hs : UnS T r g) (ha : SE X T W a fa) : SE X T W (.UnaryOp op a pos) (un g fa) := impE (pe_un ho ha) fun σ H Q ⟨F0, B0, A, F, ε, rel, p⟩ =>
  ⟨F0, B0, A, F, ε, rel, (post_bind p).imp fun x ε1 F1 H1 s1 rel1 p1 v rv => by
    obtain ⟨z, e, hz⟩ := post_of p1
    exact hs F1 H1 x z v Q rv rel1.fh e fun w F' H' gr rw => hz F' H' gr.ff (rel1.grow gr) w rw⟩

/-! ### subscripts, arguments, calls of built-ins -/
theorem sE_ix {r : R2} {g : D → D → Option D} (hr : IxR X r) (hs : OpS T r g) (ha : SE X T W a fa) (hb : SE X T W b fb) (hp : PlainIx b) : SE X T W (.Subscript a b pos) (bin g fa fb) := impE (pe_ix hr ha hb hp) fun _ _ _ h => op2 hs h
theorem sA_nil : SA X T W [] aNil := impA pa_nil fun σ H Q ⟨F0, B0, A, F, ε, rel, p⟩ => p F H (.refl _) rel [] .nil
theorem sA_cons {es : List Expr} {fr : FA} (ha : SE X T W e fe) (hr : SA X T W es fr) (hs : starEach (e :: es) X.env = (false, eval e X.env) :: starEach es X.env := by rfl) : SA X T W (e :: es) (aCons fe fr) := impA (pa_cons ha hr hs) fun σ H Q ⟨F0, B0, A, F, ε, rel, p⟩ =>
  ⟨F0, B0, A, F, ε, rel, (post_bind p).imp fun x ε1 F1 H1 s1 rel1 p1 v rv => ⟨F0, B0, A, F1, ε1, rel1, (post_bind p1).imp fun xs ε2 F2 H2 s2 rel2 p2 vs rvs => p2 F2 H2 (.refl _) rel2 (v :: vs) (.cons (rv.mono s2) rvs)⟩⟩
theorem tcb {r : List V → Hp → VK → Prop} {g : List D → Option D} {fr : FA} (hs : CaS T r g) {σ : St} {H : Hp} {Q : VK} (h : EvP T W (bi g fr) σ H Q) : tCB r (EvA T W fr) σ H Q := by
  obtain ⟨F0, B0, A, F, ε, rel, p⟩ := h
  exact ⟨F0, B0, A, F, ε, rel, (post_bind p).imp fun xs ε1 F1 H1 s1 rel1 p1 vs rvs => by
    obtain ⟨z, e, hz⟩ := post_of p1
    exact hs F1 H1 xs z vs Q rvs rel1.fh e fun w F' H' gr rw => hz F' H' gr.ff (rel1.grow gr) w rw⟩
theorem sE_imp {t : TE} {f : FE} (h : PE X e t) (i : ∀ σ H Q, EvP T W f σ H Q → t σ H Q) : SE X T W e f := impE h i

/-! ### displays -/
theorem line_le {n : Nat} (h : n ≤ line) : n ≤ sizeLine := Nat.le_trans h (by rw [sizeLine_eq]; decide)
theorem line_lt {n : Nat} (h : n < line) : n < sizeLine := Nat.lt_of_lt_of_le h (by rw [sizeLine_eq]; decide)

/-! ### fields -/
structure Fd (K : PySem.W.Frag) (T : Tb) (f : Str) (ix : Nat → Option Nat) : Prop where
  ok : ∀ c j, ix c = some j → (T.nm c)[j]? = some f ∧ (T.nm c).Nodup ∧ Cls K (T.ad c) ∧ NoAttr K (T.ad c) f
theorem lookup_zip : ∀ {ns : List Str} {vs : List V} {j : Nat} {f : Str} {v : V}, ns.Nodup → ns[j]? = some f → vs[j]? = some v → (ns.zip vs).lookup f = some v
  | [], _, j, f, v, _, h, _ => by simp at h
  | n :: ns, [], j, f, v, _, _, h => by simp at h
  | n :: ns, u :: vs, 0, f, v, nd, h, g => by
    simp at h g
    subst h g
    simp [List.zip_cons_cons]
  | n :: ns, u :: vs, j + 1, f, v, nd, h, g => by
    simp at h g
    have nd' := List.nodup_cons.mp nd
    have ne : f ≠ n := fun z => nd'.1 (z ▸ List.mem_of_getElem? h)
    have ne' : (f == n) = false := by simpa using ne
    simp only [List.zip_cons_cons, List.lookup_cons, ne']
    exact lookup_zip nd'.2 h g
theorem sE_fld {f : Str} {ix : Nat → Option Nat} (hf : Fd X.K T f ix) (ha : SE X T W a fa) (hb : attributeBase a f X.env (eval a X.env) = eval a X.env) : SE X T W (.Attribute a f pos) (fld ix fa) := impE (pe_fld ha hb) fun σ H Q ⟨F0, B0, A, F, ε, rel, p⟩ =>
  ⟨F0, B0, A, F, ε, rel, (post_bind p).imp fun x ε1 F1 H1 s1 rel1 p1 v rv => by
    cases x with
    | ins c fs =>
      obtain ⟨j, e1, p2⟩ := post_of p1
      obtain ⟨z, e2, p3⟩ := post_of p2
      obtain ⟨n1, n2, n3, n4⟩ := hf.ok c j e1
      simp only [Rep] at rv
      obtain ⟨q, dx, vs, rfl, h1, hl, h2⟩ := rv
      obtain ⟨w, e3, rw⟩ := h2.get e2
      exact ⟨q, _, dx, _, w, rfl, rel1.fh _ _ h1, n3, n4, lookup_zip n2 n1 e3, p3 F1 H1 (.refl _) rel1 w rw⟩
    | _ => exact p1.elim⟩

/-! ### if-expressions, and, or, not -/
theorem sE_if {c : Expr} {t : FT} (hc : ST X T W c t) (ha : SE X T W a fa) (hb : SE X T W b fb) : SE X T W (.IfExp c a b pos) (ifE t fa fb) := impE (pe_ifExp hc ha hb) fun σ H Q ⟨F0, B0, A, F, ε, rel, p⟩ =>
  ⟨F0, B0, A, F, ε, rel, (post_bind p).imp fun c ε1 F1 H1 s1 rel1 p1 => by
    cases c with
    | true => exact iteT ⟨F0, B0, A, F1, ε1, rel1, p1⟩
    | false => exact iteF ⟨F0, B0, A, F1, ε1, rel1, p1⟩⟩
theorem sT_and1 {t : FT} (ha : ST X T W a t) : SW X T W (.BoolOp .And [a] pos) t := pw_and1 ha
theorem sT_or1 {t : FT} (ha : ST X T W a t) : SW X T W (.BoolOp .Or [a] pos) t := pw_or1 ha
theorem sT_and {t u : FT} {rest : List Expr} (ha : ST X T W a t) (hb : SW X T W (.BoolOp .And (b :: rest) pos) u) : SW X T W (.BoolOp .And (a :: b :: rest) pos) (tAnd t u) := impW (pw_and ha hb) fun σ H Q ⟨F0, B0, A, F, ε, rel, p⟩ =>
  ⟨F0, B0, A, F, ε, rel, (post_bind p).imp fun c ε1 F1 H1 s1 rel1 p1 => by
    cases c with
    | true => exact iteT ⟨F0, B0, A, F1, ε1, rel1, p1⟩
    | false => exact iteF (p1 F1 H1 (.refl _) rel1)⟩
theorem sT_or {t u : FT} {rest : List Expr} (ha : ST X T W a t) (hb : SW X T W (.BoolOp .Or (b :: rest) pos) u) : SW X T W (.BoolOp .Or (a :: b :: rest) pos) (tOr t u) := impW (pw_or ha hb) fun σ H Q ⟨F0, B0, A, F, ε, rel, p⟩ =>
  ⟨F0, B0, A, F, ε, rel, (post_bind p).imp fun c ε1 F1 H1 s1 rel1 p1 => by
    cases c with
    | true => exact iteT (p1 F1 H1 (.refl _) rel1)
    | false => exact iteF ⟨F0, B0, A, F1, ε1, rel1, p1⟩⟩
theorem sT_bo {t : FT} (h : SW X T W e t) : ST X T W e t := h.pt
theorem sT_not {t : FT} (ha : ST X T W a t) : ST X T W (.UnaryOp .Not a pos) (tNot t) := impT (pt_not ha) fun σ H Q ⟨F0, B0, A, F, ε, rel, p⟩ =>
  ⟨F0, B0, A, F, ε, rel, (post_bind p).imp fun c ε1 F1 H1 s1 rel1 p1 => p1 F1 H1 (.refl _) rel1⟩
/-- a True or False as a test -/
theorem sT_val (ha : SE X T W e fa) (he : ∀ whole, isTrue e X.env whole = (do let v ← whole; standAt e.pos; holding [v] (truthy v)) := by intro _; rfl) : ST X T W e (EV.tB fa) := impT (pt_val ha he) fun σ H Q ⟨F0, B0, A, F, ε, rel, p⟩ =>
  ⟨F0, B0, A, F, ε, rel, (post_bind p).imp fun x ε1 F1 H1 s1 rel1 p1 v rv => by
    cases x with
    | bl k =>
      simp only [Rep] at rv
      exact ⟨k, rv, p1 F1 H1 (.refl _) rel1⟩
    | _ => exact p1.elim⟩
end
end EV
set_option maxRecDepth 100000
/-! EvT: statements, loops, what is walked, comprehensions. -/
namespace EV
open PySem L2
section
variable {X : Cx} {T : Tb} {W : WX} {pos : Pos} {a b e : Expr} {fa fb fe : FE} {st : Stmt} {sts : List Stmt} {g1 g2 : FS}
theorem post_seq {F0 B0 F : Hp} {A : List Addr} {ε : Env} {Dn : Ends} (p : PostS T W F0 B0 A F (EV.seq g1 g2 ε) Dn) : PostS T W F0 B0 A F (g1 ε) { Dn with nx := EvS T W g2 Dn } := by
  unfold EV.seq at p
  cases h : g1 ε with
  | bot => rw [h] at p; exact p
  | ex c fs ε' => rw [h] at p; exact p
  | ok fl ε' =>
    rw [h] at p
    cases fl with
    | nx => exact fun σ' F' H' s rel => ⟨F0, B0, A, F', ε', rel, PostS.monoF s p⟩
    | br => exact p
    | ct => exact p
    | rt d => exact p
    | ro o => exact p
theorem sSs_nil : SSs X T W [] sNx := impSs pss_nil fun Dn σ H ⟨F0, B0, A, F, ε, rel, p⟩ => p σ F H (.refl _) rel
theorem sSs_cons (h1 : SS X T W st g1) (h2 : SSs X T W sts g2) : SSs X T W (st :: sts) (EV.seq g1 g2) := impSs (pss_cons h1 h2) fun Dn σ H ⟨F0, B0, A, F, ε, rel, p⟩ => ⟨F0, B0, A, F, ε, rel, post_seq p⟩
theorem sSs_one (h1 : SS X T W st g1) : SSs X T W [st] g1 := impSs (pss_one h1) fun Dn σ H p => p
theorem sS_pass : SS X T W (.Pass pos) sNx := impS ps_pass fun Dn σ H ⟨F0, B0, A, F, ε, rel, p⟩ => p σ F H (.refl _) rel
theorem sS_break : SS X T W (.Break pos) sBr := impS ps_break fun Dn σ H ⟨F0, B0, A, F, ε, rel, p⟩ => p σ F H (.refl _) rel
theorem sS_continue : SS X T W (.Continue pos) sCt := impS ps_continue fun Dn σ H ⟨F0, B0, A, F, ε, rel, p⟩ => p σ F H (.refl _) rel
theorem sS_expr (he : SE X T W e fe) (hs : swapsWith e none pos.line X.env = pure false := by rfl) : SS X T W (.Expr e pos) (exprS fe) := impS (ps_expr he hs) fun Dn σ H ⟨F0, B0, A, F, ε, rel, p⟩ =>
  ⟨F0, B0, A, F, ε, rel, (postS_bind p).imp fun x ε1 F1 H1 s1 rel1 p1 v rv => p1 σ F1 H1 (.refl _) rel1⟩
theorem sS_ret (he : SE X T W e fe) : SS X T W (.Return (some e) pos) (EV.ret fe) := impS (ps_ret he) fun Dn σ H ⟨F0, B0, A, F, ε, rel, p⟩ =>
  ⟨F0, B0, A, F, ε, rel, (postS_bind p).imp fun x ε1 F1 H1 s1 rel1 p1 v rv => p1 σ F1 H1 (.refl _) rel1 v rv⟩
theorem sS_retO {fo : FO} (he : SO X T W e fo) : SS X T W (.Return (some e) pos) (EV.retO fo) := impS (ps_ret he) fun Dn σ H ⟨F0, B0, A, F, ε, rel, p⟩ =>
  ⟨F0, B0, A, F, ε, rel, (postS_bind p).imp fun x ε1 F1 H1 s1 rel1 p1 q ho h1 h2 h3 h4 h5 => p1 σ F1 H1 (.refl _) rel1 q ho h1 h2 h3 h4 h5⟩
theorem sS_retN : SS X T W (.Return none pos) EV.retN := impS ps_retN fun Dn σ H ⟨F0, B0, A, F, ε, rel, p⟩ => p σ F H (.refl _) rel .non (by simp only [Rep])
theorem sS_if {c : Expr} {xs ys : List Stmt} {t : FT} (hc : ST X T W c t) (ha : SSs X T W xs g1) (hb : SSs X T W ys g2) : SS X T W (.If c xs ys pos) (EV.ifS t g1 g2) := impS (ps_if hc ha hb) fun Dn σ H ⟨F0, B0, A, F, ε, rel, p⟩ =>
  ⟨F0, B0, A, F, ε, rel, (postS_bind p).imp fun c ε1 F1 H1 s1 rel1 p1 => by
    cases c with
    | true => exact iteT ⟨F0, B0, A, F1, ε1, rel1, p1⟩
    | false => exact iteF ⟨F0, B0, A, F1, ε1, rel1, p1⟩⟩

/-! ### targets -/
def GS (T : Tb) (g : TG) (h : FG) (ws : List Nat) : Prop := ∀ F0 B0 A F H σ ε d v ε' (Q : St → Hp → Prop), RelE T F0 B0 A F H σ ε → Rep T F d v → h d ε = some ε' →
  (∀ σ', RelE T F0 B0 A F H σ' ε' → (∀ vs : List Nat, (∀ j ∈ ws, j ∈ vs) → wipe σ' vs = wipe σ vs) → Q σ' H) → g v σ H Q
def GsS (T : Tb) (g : TGs) (h : FGs) (ws : List Nat) (n : Nat) : Prop := (∀ ds ε ε', h ds ε = some ε' → ds.length = n) ∧ ∀ F0 B0 A F H σ ε ds vs ε' (Q : St → Hp → Prop), RelE T F0 B0 A F H σ ε → Reps T F ds vs → h ds ε = some ε' →
  (∀ σ', RelE T F0 B0 A F H σ' ε' → (∀ vs : List Nat, (∀ j ∈ ws, j ∈ vs) → wipe σ' vs = wipe σ vs) → Q σ' H) → g vs σ H Q
theorem wipe_get : ∀ {vs : List Nat} {σ : L2.St} {j : Nat}, (wipe σ vs)[j]? = if j ∈ vs then (if j < σ.length then some none else none) else σ[j]?
  | [], σ, j => by simp [wipe]
  | v :: vs, σ, j => by
    unfold wipe
    by_cases e : j = v
    · subst e
      by_cases hl : j < σ.length
      · rw [List.getElem?_set_self (by rw [wipe_length]; exact hl)]
        simp [hl]
      · rw [List.getElem?_eq_none (by rw [List.length_set, wipe_length]; omega)]
        simp [hl]
    · rw [List.getElem?_set_ne (Ne.symm e), wipe_get]
      simp [e]
theorem wipe_set {σ : L2.St} {i : Nat} {x : Option V} {vs : List Nat} (h : i ∈ vs) : wipe (σ.set i x) vs = wipe σ vs := by
  apply List.ext_getElem?
  intro j
  rw [wipe_get, wipe_get]
  by_cases e : j ∈ vs
  · simp [e]
  · simp only [e, if_false]
    rw [List.getElem?_set_ne]
    rintro rfl
    exact e h
theorem gs_N {i : Nat} : GS T (gName i) (gN i) [i] := fun F0 B0 A F H σ ε d v ε' Q rel r e k => by
  cases e
  exact k _ (rel.setSh r) fun vs hv => wipe_set (hv i (by simp))
theorem gs_nil : GsS T gNil gsNil [] 0 := by
  refine ⟨fun ds ε ε' e => ?_, fun F0 B0 A F H σ ε ds vs ε' Q rel r e k => ?_⟩
  · cases ds with
    | nil => rfl
    | cons d ds => cases e
  · cases ds with
    | nil =>
      cases e
      exact ⟨reps_nil.mp r, k σ rel fun _ _ => rfl⟩
    | cons d ds => cases e
theorem gs_cons {g : TG} {gs : TGs} {h : FG} {hs : FGs} {ws ws' : List Nat} {n : Nat} (h1 : GS T g h ws) (h2 : GsS T gs hs ws' n) : GsS T (gCons g gs) (gsCons h hs) (ws ++ ws') (n + 1) := by
  refine ⟨fun ds ε ε' e => ?_, fun F0 B0 A F H σ ε ds vs ε' Q rel r e k => ?_⟩
  · cases ds with
    | nil => cases e
    | cons d ds =>
      simp only [gsCons] at e
      split at e
      · simp [h2.1 _ _ _ e]
      · cases e
  · cases ds with
    | nil => cases e
    | cons d ds =>
      obtain ⟨v, us, rfl, r1, r2⟩ := reps_cons.mp r
      simp only [gsCons] at e
      split at e
      · rename_i ε1 e1
        refine ⟨v, us, rfl, h1 F0 B0 A F H σ ε d v ε1 _ rel r1 e1 fun σ1 rel1 w1 => h2.2 F0 B0 A F H σ1 ε1 ds us ε' Q rel1 r2 e fun σ2 rel2 w2 => k σ2 rel2 fun vs hv => ?_⟩
        rw [w2 vs fun j hj => hv j (List.mem_append_right _ hj), w1 vs fun j hj => hv j (List.mem_append_left _ hj)]
      · cases e
theorem gs_T {K : PySem.W.Frag} {gs : TGs} {hs : FGs} {ws : List Nat} {n : Nat} (h2 : GsS T gs hs ws n) : GS T (gTup K n gs) (gT hs) ws := fun F0 B0 A F H σ ε d v ε' Q rel r e k => by
  cases d with
  | tup xs =>
    simp only [Rep] at r
    obtain ⟨a, vs, rfl, h1, r1⟩ := r
    refine ⟨a, vs, rfl, SqT.of (rel.fh _ _ h1), ?_, h2.2 F0 B0 A F H σ ε xs vs ε' Q rel r1 e k⟩
    rw [← r1.length]
    exact h2.1 _ _ _ e
  | _ => cases e

/-! ### assignments -/
theorem asg_of {te : TE} {i : Nat} {f : FE} (h : PS X st (tAsg te (gName i))) (k : ∀ σ H Q, EvP T W f σ H Q → te σ H Q) : SS X T W st (asg (gN i) f) := impS h fun Dn σ H ⟨F0, B0, A, F, ε, rel, p⟩ =>
  k _ _ _ ⟨F0, B0, A, F, ε, rel, (postS_bind p).imp fun d ε1 F1 H1 s1 rel1 p1 v rv => by
    obtain ⟨ε2, e, p2⟩ := postS_of p1
    exact gs_N F0 B0 A F1 H1 σ ε1 d v ε2 Dn.nx rel1 rv e fun σ' rel' _ => p2 σ' F1 H1 (.refl _) rel'⟩
theorem asgO_of {te : TE} {i : Nat} {f : FO} (h : PS X st (tAsg te (gName i))) (k : ∀ σ H Q, EvO T W f σ H Q → te σ H Q) : SS X T W st (asgO i f) := impS h fun Dn σ H ⟨F0, B0, A, F, ε, rel, p⟩ =>
  k _ _ _ ⟨F0, B0, A, F, ε, rel, (postS_bind p).imp fun o ε1 F1 H1 s1 rel1 p1 q ho fq bq hq ro no => p1 _ F1 H1 (.refl _) (rel1.setOw fq bq hq ro no)⟩
theorem sS_asg {tg : Expr} {g : TG} {h : FG} {ws : List Nat} (he : SE X T W e fe) (hg : PG X tg g) (gs : GS T g h ws) (hs : swapsWithSole [tg] e pos.line X.env = pure false := by rfl) (hw : swappedStores [tg] e X.env = pure none := by rfl)
    (h1 : (assignEach [tg] X.env).map (·.2) = [assign tg X.env] := by rfl) : SS X T W (.Assign [tg] e pos) (asg h fe) := impS (ps_asg he hg hs hw h1) fun Dn σ H ⟨F0, B0, A, F, ε, rel, p⟩ =>
  ⟨F0, B0, A, F, ε, rel, (postS_bind p).imp fun d ε1 F1 H1 s1 rel1 p1 v rv => by
    obtain ⟨ε2, e, p2⟩ := postS_of p1
    exact gs F0 B0 A F1 H1 σ ε1 d v ε2 Dn.nx rel1 rv e fun σ' rel' _ => p2 σ' F1 H1 (.refl _) rel'⟩
theorem has_get {F0 B0 F H : Hp} {A : List Addr} {σ : L2.St} {ε : Env} {i : Nat} (r : RelE T F0 B0 A F H σ ε) (h : has ε i = true) : ∃ v, σ[i]? = some (some v) := by
  unfold has at h
  split at h
  · rename_i d e
    obtain ⟨u, e1, _⟩ := r.sl i _ e
    exact ⟨u, e1⟩
  · rename_i k o e
    obtain ⟨a, _, e1, _⟩ := r.sl i _ e
    exact ⟨_, e1⟩
  · cases h
/-- x[e] = v -/
theorem sS_setI {o ie : Expr} {i : Nat} {fi fv : FE} {pos' : Pos} (ho : PE X o (tVar i)) (hi : SE X T W ie fi) (hv : SE X T W e fv) (hs : swapsWithSole [.Subscript o ie pos'] e pos.line X.env = pure false := by rfl) (hw : swappedStores [.Subscript o ie pos'] e X.env = pure none := by rfl)
    (h1 : (assignEach [.Subscript o ie pos'] X.env).map (·.2) = [assign (.Subscript o ie pos') X.env] := by rfl) (hg : PG X (.Subscript o ie pos') (gSub (tVar i) (EvP T W fi) rSetL)) : SS X T W (.Assign [.Subscript o ie pos'] e pos) (setI i fi fv) :=
  impS (ps_asg hv hg hs hw h1) fun Dn σ H ⟨F0, B0, A, F, ε, rel, p⟩ =>
  ⟨F0, B0, A, F, ε, rel, (postS_bind p).imp fun v ε1 F1 H1 s1 rel1 p1 vv rv => by
    simp only [len_eq, setN_eq] at p1
    split at p1
    · rename_i hh
      obtain ⟨a, ea⟩ := has_get rel1 hh
      refine ⟨a, ea, F0, B0, A, F1, ε1, rel1, (postS_bind p1).imp fun k ε2 F2 H2 s2 rel2 p2 kv rk => ?_⟩
      cases k with
      | int n =>
        simp only [Rep] at rk
        simp only at p2
        split at p2
        · rename_i kk xs he
          obtain ⟨j, ej, p3⟩ := postS_of p2
          obtain ⟨a', ho', e1, fa, ba, ka, ha, ro⟩ := rel2.sl i _ he
          have z : a = .ref a' := by rw [ea] at e1; cases e1; rfl
          subst z
          cases ho' with
          | lst vs =>
            have hl : xs.length = vs.length := Reps.length ro
            refine ⟨a', vs, n, j, rfl, rk, ha, ?_, ?_⟩
            · rw [← hl]
              exact ej
            · exact p3 σ F2 _ (.refl _) (rel2.wrOw he e1 (ho := .lst (vs.set j vv)) (Reps.set (rv.mono s2) j ro))
          | _ => exact ro.elim
        · exact p2.elim
      | _ => exact p2.elim
    · exact p1.elim⟩
end
end EV
set_option maxRecDepth 100000
/-! EvU: what is done to an own object; loops; what is walked. -/
namespace EV
open PySem L2
theorem getN_atI {α : Type} {xs : List α} {i : Int} {v : α} (h : getN xs i = some v) : atI xs i = some v := by
  rw [getN_def] at h
  unfold atI L2.ixN
  split at h
  · rename_i h0
    have := lt_of_get h
    rw [if_pos h0, if_pos (by omega)]
    exact h
  · rename_i h0
    split at h
    · rename_i h1
      rw [if_neg h0, if_pos h1]
      exact h
    · cases h
theorem getN_reps {T : Tb} {F : Hp} {xs : List D} {vs : List V} {i : Int} {d : D} (r : Reps T F xs vs) (h : getN xs i = some d) : ∃ v, getN vs i = some v ∧ Rep T F d v := by
  rw [getN_def] at h
  rw [getN_def]
  rw [← r.length]
  split at h
  · rename_i h0
    rw [if_pos h0]
    exact r.get h
  · rename_i h0
    rw [if_neg h0]
    split at h
    · rename_i h1
      rw [if_pos h1]
      exact r.get h
    · cases h
section
variable {X : Cx} {T : Tb} {W : WX} {pos : Pos} {a b e : Expr} {fa fb fe : FE} {st : Stmt} {sts : List Stmt} {g1 g2 : FS}
theorem hasL_get {F0 B0 F H : Hp} {A : List Addr} {σ : L2.St} {ε : Env} {i : Nat} (r : RelE T F0 B0 A F H σ ε) (h : hasL ε i = true) : ∃ a vs, σ[i]? = some (some (.ref a)) ∧ H a = some (.lst vs) := by
  unfold hasL at h
  split at h
  · rename_i k xs e
    obtain ⟨a, ho, e1, _, _, _, ha, ro⟩ := r.sl i _ e
    cases ho with
    | lst vs => exact ⟨a, vs, e1, ha⟩
    | _ => exact ro.elim
  · cases h
/-- x.append(e) -/
theorem sS_app {i : Nat} (h : PE X e (tBM X.K "list" rAppend (tVar i) (EvA T W (aCons fa aNil)))) (hs : swapsWith e none pos.line X.env = pure false := by rfl) : SS X T W (.Expr e pos) (app i fa) := impS (ps_expr h hs) fun Dn σ H ⟨F0, B0, A, F, ε, rel, p⟩ => by
  unfold app at p
  simp only [len_eq, snoc_eq] at p
  split at p
  · rename_i hh
    obtain ⟨a, vs0, ev, hv0⟩ := hasL_get rel hh
    have pb := postS_bind (σ := σ) p
    refine ⟨_, ev, .inl ⟨rfl, _, SqL.of hv0⟩, F0, B0, A, F, ε, rel, ?_⟩
    unfold aCons aNil
    cases hfa : fa ε with
    | bot => rw [hfa] at pb; exact pb
    | ex c fs ε' => rw [hfa] at pb; exact pb
    | ok x ε1 =>
      rw [hfa] at pb
      intro F1 H1 s1 rel1 vs rvs
      obtain ⟨w, us, rfl, rw, r2⟩ := reps_cons.mp rvs
      cases reps_nil.mp r2
      have p1 := pb F1 H1 s1 rel1
      dsimp only at p1
      split at p1
      · rename_i k xs he
        obtain ⟨a', ho, e1, fa, ba, ka, ha, ro⟩ := rel1.sl i _ he
        have q : a = a' := by rw [ev] at e1; cases e1; rfl
        subst q
        split at p1
        · rename_i hl
          cases ho with
          | lst vs =>
            have hl2 : xs.length = vs.length := Reps.length ro
            refine ⟨a, vs, w, rfl, rfl, ha, line_lt (by rw [← hl2]; exact hl), ?_⟩
            exact p1 σ F1 _ (.refl _) (rel1.wrOw he e1 (ho := .lst (vs ++ [w])) (Reps.append ro (.cons rw .nil)))
          | _ => exact ro.elim
        · exact p1.elim
      · exact p1.elim
  · exact p.elim
/-- x op= e -/
theorem sS_aug {i : Nat} {ti : TIp} {g : D → D → Option D} (h : PS X st (tAug i (EvP T W fa) ti)) (hs : OpS T ti g) : SS X T W st (aug g i fa) := impS h fun Dn σ H ⟨F0, B0, A, F, ε, rel, p⟩ => by
  unfold aug at p
  split at p
  · rename_i x he
    obtain ⟨u, e1, r⟩ := rel.sl i _ he
    refine ⟨u, e1, F0, B0, A, F, ε, rel, (postS_bind p).imp fun y ε1 F1 H1 s1 rel1 p1 v rv => ?_⟩
    obtain ⟨z, ez, p2⟩ := postS_of p1
    exact hs F1 H1 x y z u v _ (r.mono s1) rv rel1.fh ez fun w F' H' gr rw => p2 _ F' H' gr.ff ((rel1.grow gr).setSh rw)
  · exact p.elim

/-! ### an object that is being made -/
theorem putF_new : ∀ {gs : List (Str × V)} {f : Str} {v : V}, gs.lookup f = none → putF f v gs = gs ++ [(f, v)]
  | [], f, v, _ => rfl
  | (g, u) :: gs, f, v, h => by
    simp only [List.lookup_cons] at h
    split at h
    · cases h
    · rename_i hne
      have ne : ¬ g = f := fun z => by simp [z] at hne
      unfold putF
      rw [if_neg ne, putF_new h]
      rfl
theorem lookup_none_of {gs : List (Str × V)} {fs : List (Str × D)} (h : gs.map (·.1) = fs.map (·.1)) {f : Str} (n : fs.lookup f = none) : gs.lookup f = none := by
  induction fs generalizing gs with
  | nil =>
    cases gs with
    | nil => rfl
    | cons g gs => simp at h
  | cons p fs ih =>
    cases gs with
    | nil => simp at h
    | cons g gs =>
      obtain ⟨g1, g2⟩ := g
      obtain ⟨p1, p2⟩ := p
      simp at h
      obtain ⟨h1, h2⟩ := h
      subst h1
      simp only [List.lookup_cons] at n ⊢
      split at n
      · cases n
      · exact ih h2 n
theorem lookup_some_of {F : Hp} {gs : List (Str × V)} {fs : List (Str × D)} (h : gs.map (·.1) = fs.map (·.1)) (r : Reps T F (fs.map (·.2)) (gs.map (·.2))) {f : Str} {d : D} (n : fs.lookup f = some d) : ∃ v, gs.lookup f = some v ∧ Rep T F d v := by
  induction fs generalizing gs with
  | nil => simp at n
  | cons p fs ih =>
    cases gs with
    | nil => simp at h
    | cons g gs =>
      obtain ⟨g1, g2⟩ := g
      obtain ⟨p1, p2⟩ := p
      simp at h
      obtain ⟨h1, h2⟩ := h
      subst h1
      simp only [List.map_cons] at r
      obtain ⟨v, us, e, r1, r2⟩ := reps_cons.mp r
      cases e
      simp only [List.lookup_cons] at n ⊢
      split at n
      · rename_i he
        cases n
        exact ⟨g2, rfl, r1⟩
      · rename_i hne
        exact ih h2 r2 n
/-- self.f = e -/
theorem sS_setF {i c : Nat} {f : Str} (h : PS X st (sFld X.K (tVar i) (EvP T W fa) f)) (hc : Cls X.K (T.ad c)) (hn : NoAttr X.K (T.ad c) f) : SS X T W st (setF c i f fa) := impS h fun Dn σ H ⟨F0, B0, A, F, ε, rel, p⟩ =>
  ⟨F0, B0, A, F, ε, rel, (postS_bind p).imp fun x ε1 F1 H1 s1 rel1 p1 v rv => by
    split at p1
    · rename_i k c' fs he
      split at p1
      · rename_i hk
        obtain ⟨rfl, h1, h2⟩ := hk
        obtain ⟨a', ho, e1, fa, ba, ka, ha, ro⟩ := rel1.sl i _ he
        cases ho with
        | ins C dx gs =>
          obtain ⟨rfl, r1, r2⟩ := ro
          have hl : gs.length = fs.length := by simpa using congrArg List.length r1
          have nn : fs.lookup f = none := by simpa using h1
          have n2 := lookup_none_of r1 nn
          refine ⟨_, e1, a', _, dx, gs, rfl, ha, hc, hn, by omega, ?_⟩
          rw [putF_new n2]
          refine p1 σ F1 _ (.refl _) (rel1.wrOw he e1 (ho := .ins _ dx (gs ++ [(f, v)])) ⟨rfl, by simp [r1], ?_⟩)
          rw [List.map_append, List.map_append]
          exact Reps.append r2 (.cons rv .nil)
        | _ => exact ro.elim
      · exact p1.elim
    · exact p1.elim⟩
/-- self.f -/
theorem sE_fldN {i c : Nat} {f : Str} (h : PE X e (tFld X.K (tVar i) f)) (hc : Cls X.K (T.ad c)) (hn : NoAttr X.K (T.ad c) f) : SE X T W e (fldN c i f) := impE h fun σ H Q ⟨F0, B0, A, F, ε, rel, p⟩ => by
  unfold fldN at p
  split at p
  · rename_i k c' fs he
    split at p
    · rename_i hk
      subst hk
      obtain ⟨z, ez, p2⟩ := post_of p
      obtain ⟨a', ho, e1, fa, ba, ka, ha, ro⟩ := rel.sl i _ he
      cases ho with
      | ins C dx gs =>
        obtain ⟨rfl, r1, r2⟩ := ro
        obtain ⟨v, ev, rv⟩ := lookup_some_of r1 r2 ez
        exact ⟨_, e1, a', _, dx, gs, v, rfl, ha, hc, hn, ev, p2 F H (.refl _) rel v rv⟩
      | _ => exact ro.elim
    · exact p.elim
  · exact p.elim

/-! ### what is walked -/
def IterS (T : Tb) (J : It) (F : Hp) (items : List D) : Prop := ∀ (i : Nat) F1 H1, Same F F1 → Same F1 H1 → (items.length ≤ i → J.stop i H1) ∧
  (i < items.length → J.go i H1 ∧ ∀ x H2, J.yld i H1 x H2 → ∃ F2 d, Grow F1 H1 F2 H2 ∧ items[i]? = some d ∧ Rep T F2 d x)
def EvI (T : Tb) (W : WX) (f : FA) : TI := fun σ H R => ∃ F0 B0 A F ε, RelE T F0 B0 A F H σ ε ∧ Post T W F0 B0 A F σ (f ε) fun items _ F' H' => ∀ J, IterS T J F' items → R J H'
abbrev SI (X : Cx) (T : Tb) (W : WX) (tg e : Expr) (f : FA) : Prop := PI X tg e (EvI T W f)
theorem iter_list {K : PySem.W.Frag} {F : Hp} {a : Addr} {xs : List D} {vs : List V} (h : F a = some (.lst vs)) (r : Reps T F xs vs) : IterS T (Itl K a) F xs := fun i F1 H1 s1 s2 => by
  have h1 := s2 _ _ (s1 _ _ h)
  refine ⟨fun hl => ⟨vs, SqL.of h1, by rw [← r.length]; exact hl⟩, fun hl => ?_⟩
  have hl2 : i < vs.length := by rw [← r.length]; exact hl
  refine ⟨⟨vs, vs[i], SqL.of h1, by simp [hl2]⟩, fun x H2 y => ?_⟩
  obtain ⟨rfl, y⟩ := y
  obtain ⟨d, e1, r1⟩ := r.get' (y vs (SqL.of h1))
  exact ⟨F1, d, Grow.refl s2, e1, r1.mono s1⟩
theorem iter_tup {K : PySem.W.Frag} {F : Hp} {a : Addr} {xs : List D} {vs : List V} (h : F a = some (.tup vs)) (r : Reps T F xs vs) : IterS T (Itt K a) F xs := fun i F1 H1 s1 s2 => by
  have h1 := s2 _ _ (s1 _ _ h)
  refine ⟨fun hl => ⟨vs, SqT.of h1, by rw [← r.length]; exact hl⟩, fun hl => ?_⟩
  have hl2 : i < vs.length := by rw [← r.length]; exact hl
  refine ⟨⟨vs, vs[i], SqT.of h1, by simp [hl2]⟩, fun x H2 y => ?_⟩
  obtain ⟨rfl, y⟩ := y
  obtain ⟨d, e1, r1⟩ := r.get' (y vs (SqT.of h1))
  exact ⟨F1, d, Grow.refl s2, e1, r1.mono s1⟩
theorem iter_scr {K : PySem.W.Frag} {F : Hp} {a : Addr} {ns : List Int} (h : SqL K F a (ns.map V.int)) : IterS T (Itl K a) F (ns.map D.int) := fun i F1 H1 s1 s2 => by
  have h1 : SqL K H1 a (ns.map V.int) := s2.seq (s1.seq h)
  refine ⟨fun hl => ⟨_, h1, by simpa using hl⟩, fun hl => ?_⟩
  have hl2 : i < (ns.map V.int).length := by simpa using hl
  refine ⟨⟨_, (ns.map V.int)[i], h1, by simp at hl2; simp [hl2]⟩, fun x H2 y => ?_⟩
  obtain ⟨rfl, y⟩ := y
  obtain ⟨d, e1, r1⟩ := (Reps.ints (T := T) (F := F1) (ns := ns)).get' (y _ h1)
  exact ⟨F1, d, Grow.refl s2, e1, r1⟩
theorem rngL_length : ∀ (n : Nat) (lo : Int), (rngL lo n).length = n
  | 0, lo => rfl
  | n + 1, lo => by simp [rngL, rngL_length n]
theorem rngL_get : ∀ (n : Nat) (lo : Int) (i : Nat), i < n → (rngL lo n)[i]? = some (.int (lo + i))
  | 0, lo, i, h => by omega
  | n + 1, lo, 0, h => by simp [rngL]
  | n + 1, lo, i + 1, h => by
    simp only [rngL, List.getElem?_cons_succ]
    rw [rngL_get n (lo + 1) i (by omega)]
    congr 2
    omega
theorem iter_rng {F : Hp} {lo : Int} {n : Nat} : IterS T (Itr lo n) F (rngL lo n) := fun i F1 H1 s1 s2 => by
  rw [rngL_length]
  refine ⟨fun hl => hl, fun hl => ⟨hl, fun x H2 y => ?_⟩⟩
  obtain ⟨rfl, rfl⟩ := y
  exact ⟨F1, _, Grow.refl s2, rngL_get n lo i hl, by simp only [Rep]⟩
theorem PI.or {tg e : Expr} {t t' : TI} (h : PI X tg e t) (h' : PI X tg e t') : PI X tg e fun σ H R => t σ H R ∨ t' σ H R := ⟨fun pins s σ H R I x => x.elim (h.run pins s σ H R I) (h'.run pins s σ H R I)⟩
end
end EV
set_option maxRecDepth 100000
/-! EvW: loops and comprehensions. -/
namespace EV
open PySem L2
section
variable {X : Cx} {T : Tb} {W : WX} {pos : Pos} {a b e tg : Expr} {fa fb fe : FE} {st : Stmt} {sts : List Stmt} {g1 g2 body : FS}
theorem sI_seq (hK : T.K = X.K) (h : SE X T W e fa) : SI X T W tg e (iSeq fa) := impI (PI.or (pi_list h) (pi_tup h)) fun σ H R ⟨F0, B0, A, F, ε, rel, p⟩ => by
  have pb := post_bind p
  cases hfa : fa ε with
  | bot => rw [hfa] at pb; exact pb.elim
  | ex c fs ε' => rw [hfa] at pb; exact .inl ⟨F0, B0, A, F, ε, rel, by rw [hfa]; exact pb⟩
  | ok x ε1 =>
    rw [hfa] at pb
    cases x with
    | lst xs =>
      refine .inl ⟨F0, B0, A, F, ε, rel, ?_⟩
      rw [hfa]
      intro F1 H1 s1 rel1 v rv
      simp only [Rep] at rv
      obtain ⟨a, vs, rfl, h1, h2⟩ := rv
      exact ⟨a, rfl, ⟨vs, SqL.of (rel1.fh _ _ h1)⟩, pb F1 H1 s1 rel1 F1 H1 (.refl _) rel1 _ (iter_list h1 h2)⟩
    | tup xs =>
      refine .inr ⟨F0, B0, A, F, ε, rel, ?_⟩
      rw [hfa]
      intro F1 H1 s1 rel1 v rv
      simp only [Rep] at rv
      obtain ⟨a, vs, rfl, h1, h2⟩ := rv
      exact ⟨a, rfl, ⟨vs, SqT.of (rel1.fh _ _ h1)⟩, pb F1 H1 s1 rel1 F1 H1 (.refl _) rel1 _ (iter_tup h1 h2)⟩
    | scr ns =>
      refine .inl ⟨F0, B0, A, F, ε, rel, ?_⟩
      rw [hfa]
      intro F1 H1 s1 rel1 v rv
      simp only [Rep] at rv
      obtain ⟨a, rfl, h1⟩ := rv
      rw [hK] at h1
      exact ⟨a, rfl, ⟨_, rel1.fh.seq h1⟩, pb F1 H1 s1 rel1 F1 H1 (.refl _) rel1 _ (iter_scr h1)⟩
    | _ =>
      refine .inl ⟨F0, B0, A, F, ε, rel, ?_⟩
      rw [hfa]
      exact fun F1 H1 s1 rel1 v rv => (pb F1 H1 s1 rel1).elim
theorem small_iff {i : Int} (h : small i = true) : -(2 ^ 62) ≤ i ∧ i < 2 ^ 62 := by
  simpa only [small, Bool.and_eq_true, decide_eq_true_eq] using h
theorem sI_rng1 {fr : FA} (h : PI X tg e (L2.iRng1 (EvA T W fr))) : SI X T W tg e (EV.iRng1 fr) := impI h fun σ H R ⟨F0, B0, A, F, ε, rel, p⟩ => ⟨F0, B0, A, F, ε, rel, (post_bind p).imp fun xs ε1 F1 H1 s1 rel1 p1 vs rvs => by
  split at p1
  · rename_i j
    obtain ⟨w, us, rfl, rw, r2⟩ := reps_cons.mp rvs
    cases reps_nil.mp r2
    simp only [Rep] at rw
    subst rw
    split at p1
    · rename_i hs
      exact ⟨j, rfl, (small_iff hs).1, (small_iff hs).2, p1 F1 H1 (.refl _) rel1 _ iter_rng⟩
    · exact p1.elim
  · exact p1.elim⟩
theorem sI_rng2 {fr : FA} (h : PI X tg e (L2.iRng2 (EvA T W fr))) : SI X T W tg e (EV.iRng2 fr) := impI h fun σ H R ⟨F0, B0, A, F, ε, rel, p⟩ => ⟨F0, B0, A, F, ε, rel, (post_bind p).imp fun xs ε1 F1 H1 s1 rel1 p1 vs rvs => by
  split at p1
  · rename_i i j
    obtain ⟨w, us, rfl, rw, r2⟩ := reps_cons.mp rvs
    obtain ⟨w2, us2, rfl, rw2, r3⟩ := reps_cons.mp r2
    cases reps_nil.mp r3
    simp only [Rep] at rw rw2
    subst rw rw2
    split at p1
    · rename_i hs
      exact ⟨i, j, rfl, ⟨(small_iff hs.1).1, (small_iff hs.1).2, (small_iff hs.2).1, (small_iff hs.2).2⟩, p1 F1 H1 (.refl _) rel1 _ iter_rng⟩
    · exact p1.elim
  · exact p1.elim⟩
theorem pairL_length : ∀ (xs : List D) (n : Nat), (pairL n xs).length = xs.length
  | [], n => rfl
  | x :: xs, n => by simp [pairL, pairL_length xs]
theorem pairL_get : ∀ (xs : List D) (n i : Nat) (d : D), xs[i]? = some d → (pairL n xs)[i]? = some (.tup [.int ((n + i : Nat) : Int), d])
  | [], n, i, d, h => by simp at h
  | x :: xs, n, 0, d, h => by simp at h; subst h; simp [pairL]
  | x :: xs, n, i + 1, d, h => by
    simp only [List.getElem?_cons_succ] at h
    simp only [pairL, List.getElem?_cons_succ]
    rw [pairL_get xs (n + 1) i d h, show n + 1 + i = n + (i + 1) by omega]
theorem iter_enum {K : PySem.W.Frag} {F : Hp} {a : Addr} {xs : List D} {vs : List V} (h : F a = some (.lst vs)) (r : Reps T F xs vs) : IterS T (Ite K a) F (pairL 0 xs) := fun i F1 H1 s1 s2 => by
  have h1 := s2 _ _ (s1 _ _ h)
  rw [pairL_length]
  refine ⟨fun hl => ⟨vs, SqL.of h1, by rw [← r.length]; exact hl⟩, fun hl => ?_⟩
  have hl2 : i < vs.length := by rw [← r.length]; exact hl
  refine ⟨⟨vs, vs[i], SqL.of h1, by simp [hl2]⟩, fun x H2 y => ?_⟩
  obtain ⟨q, u, rfl, hq, rfl, y⟩ := y
  obtain ⟨d, e1, r1⟩ := r.get' (y vs (SqL.of h1))
  refine ⟨_, _, Grow.new (o := .tup [.int (i : Nat), u]) s2 hq, pairL_get xs 0 i d e1, ?_⟩
  simp only [Rep]
  refine ⟨q, _, rfl, upd_same, .cons (by simp only [Rep, Nat.zero_add]) (.cons (r1.mono (s1.trans (Same.new (s2.free hq)))) .nil)⟩
theorem sI_enum {fa : FE} (h : PI X tg e (L2.iEnum X.K (EvA T W (aCons fa aNil)))) : SI X T W tg e (EV.iEnum fa) := impI h fun σ H R ⟨F0, B0, A, F, ε, rel, p⟩ => ⟨F0, B0, A, F, ε, rel, by
  have pb := post_bind p
  unfold aCons aNil
  cases hfa : fa ε with
  | bot => rw [hfa] at pb; exact pb.elim
  | ex c fs ε' => rw [hfa] at pb; exact pb
  | ok x ε1 =>
    rw [hfa] at pb
    intro F1 H1 s1 rel1 vs rvs
    obtain ⟨w, us, rfl, rw, r2⟩ := reps_cons.mp rvs
    cases reps_nil.mp r2
    have p1 := pb F1 H1 s1 rel1
    cases x with
    | lst xs =>
      simp only [Rep] at rw
      obtain ⟨a, vs, rfl, h1, h2⟩ := rw
      exact ⟨a, vs, rfl, SqL.of (rel1.fh _ _ h1), p1 F1 H1 (.refl _) rel1 _ (iter_enum h1 h2)⟩
    | _ => exact p1.elim⟩
/-! ### for, while -/
theorem post_loop {F0 B0 F : Hp} {A : List Addr} {m : R Fl} {k : Env → R Fl} {Dn : Ends} {N : L2.St → Hp → Prop}
    (p : PostS T W F0 B0 A F (m.bind fun fl ε2 => match fl with
      | .nx => k ε2
      | .ct => k ε2
      | .br => .ok .nx ε2
      | fl => .ok fl ε2) Dn)
    (hN : ∀ ε2 σ' F' H', Same F F' → RelE T F0 B0 A F' H' σ' ε2 → PostS T W F0 B0 A F' (k ε2) Dn → N σ' H') :
    PostS T W F0 B0 A F m { Dn with nx := N, ct := N, bk := Dn.nx } := by
  cases m with
  | bot => exact p
  | ex c fs ε' => exact p
  | ok fl ε' =>
    cases fl with
    | nx => exact fun σ' F' H' s rel => hN ε' σ' F' H' s rel (PostS.monoF s p)
    | ct => exact fun σ' F' H' s rel => hN ε' σ' F' H' s rel (PostS.monoF s p)
    | br => exact p
    | rt d => exact p
    | ro o => exact p
theorem sS_for {iter : Expr} {fi : FA} {h : FG} {g : TG} {ws : List Nat} {sts : List Stmt} (hp : PassesOwn (model X.prog X.w) X.A X.env X.xe) (hc : X.calm = true) (hi : SI X T W tg iter fi) (hg : PG X tg g) (gs : GS T g h ws) (hb : SSs X T W sts body)
    (hs : ∀ x, foldedSetIterable iter X.env x = pure x := by intro _; rfl) : SS X T W (.For tg iter sts [] pos) (EV.forS fi h body) := impS (ps_for hp hc hi hg hb hs) fun Dn σ H ⟨F0, B0, A, F, ε, rel, p⟩ =>
  ⟨F0, B0, A, F, ε, rel, (postS_bind p).imp fun items ε1 F1 H1 s1 rel1 p1 J hJ => by
    refine ⟨fun i m σ2 H2 => ∃ F2 ε2, Same F1 F2 ∧ RelE T F0 B0 A F2 H2 σ2 ε2 ∧ i ≤ items.length ∧ m = items.length - i ∧ PostS T W F0 B0 A F2 (forL h body (items.drop i) ε2) Dn, ⟨items.length, F1, ε1, .refl _, rel1, Nat.zero_le _, rfl, p1⟩, ?_⟩
    rintro i m σ2 H2 ⟨F2, ε2, s2, rel2, hi, rfl, p2⟩
    obtain ⟨stop, go⟩ := hJ i F2 H2 s2 rel2.fh
    by_cases hlt : i < items.length
    · obtain ⟨g0, yl⟩ := go hlt
      refine .inr ⟨g0, fun σ3 H3 => ∃ F3 ε3, Same F1 F3 ∧ RelE T F0 B0 A F3 H3 σ3 ε3 ∧ i + 1 ≤ items.length ∧ PostS T W F0 B0 A F3 (forL h body (items.drop (i + 1)) ε3) Dn, fun σ' H' ⟨F3, ε3, s3, rel3, hi3, p3⟩ => ⟨items.length - (i + 1), by omega, F3, ε3, s3, rel3, hi3, rfl, p3⟩, fun x H3 y => ?_⟩
      obtain ⟨F3, d, gr, ed, rd⟩ := yl x H3 y
      have ed' : items.drop i = d :: items.drop (i + 1) := by
        rw [List.drop_eq_getElem_cons hlt]
        rw [List.getElem?_eq_getElem hlt] at ed
        rw [Option.some.inj ed]
      rw [ed'] at p2
      unfold forL at p2
      obtain ⟨ε3, e3, p3⟩ := postS_of p2
      refine gs F0 B0 A F3 H3 σ2 ε2 d x ε3 _ (rel2.grow gr) rd e3 fun σ' rel' _ => ⟨F0, B0, A, F3, ε3, rel', ?_⟩
      exact post_loop (PostS.monoF gr.ff p3) fun ε4 σ4 F4 H4 s4 rel4 p4 => ⟨F4, ε4, (s2.trans gr.ff).trans s4, rel4, hlt, p4⟩
    · have e : i = items.length := by omega
      subst e
      rw [List.drop_length] at p2
      exact .inl ⟨stop (Nat.le_refl _), p2 σ2 F2 H2 (.refl _) rel2⟩⟩
theorem sS_while {c : Expr} {t : FT} {sts : List Stmt} {n : Nat} (hp : PassesOwn (model X.prog X.w) X.A X.env X.xe) (hc : ST X T W c t) (hb : SSs X T W sts body) : SS X T W (.While c sts [] pos) (EV.whl t body n) := impS (ps_while hp hc hb) fun Dn σ H ⟨F0, B0, A, F, ε, rel, p⟩ => by
  refine ⟨fun m σ2 H2 => ∃ F2 ε2, RelE T F0 B0 A F2 H2 σ2 ε2 ∧ PostS T W F0 B0 A F2 (EV.whl t body m ε2) Dn, ⟨n, F, ε, rel, p⟩, ?_⟩
  rintro m σ2 H2 ⟨F2, ε2, rel2, p2⟩
  cases m with
  | zero => exact p2.elim
  | succ m =>
    unfold EV.whl at p2
    refine ⟨F0, B0, A, F2, ε2, rel2, (postS_bind p2).imp fun c ε3 F3 H3 s3 rel3 p3 => ?_⟩
    cases c with
    | true =>
      refine iteT ⟨fun σ4 H4 => ∃ F4 ε4, RelE T F0 B0 A F4 H4 σ4 ε4 ∧ PostS T W F0 B0 A F4 (EV.whl t body m ε4) Dn, fun σ' H' q => ⟨m, Nat.lt_succ_self _, q⟩, F0, B0, A, F3, ε3, rel3, ?_⟩
      rw [if_pos rfl] at p3
      exact post_loop p3 fun ε4 σ4 F4 H4 s4 rel4 p4 => ⟨F4, ε4, rel4, p4⟩
    | false =>
      refine iteF ?_
      rw [if_neg Bool.false_ne_true] at p3
      exact p3 σ2 F3 H3 (.refl _) rel3
end
end EV
set_option maxRecDepth 100000
/-! EvC: list comprehensions. -/
namespace EV
open PySem L2
/-- a wish about exceptions that does not hang on the slots; none at all -/
def WK (E : XK) : WX := fun c d _ H => E c d H
abbrev W0 : WX := WK fun _ _ _ => False
section
variable {T : Tb} {W : WX} {F0 B0 F F' H H' : Hp} {A : List Addr} {σ : L2.St} {ε : Env} {q : Addr} {o : HO}
theorem RelE.guard (r : RelE T F0 B0 A F H σ ε) (fq : F q = none) (bq : B0 q = none) (hq : H q = some o) (no : ∀ i, ¬ OwnA ε σ i q) : RelE T F0 (upd B0 q o) A F H σ ε where
  f0 := r.f0
  fh := r.fh
  bh := fun p u h => by
    by_cases e : p = q
    · subst e
      rw [upd_same] at h
      cases h
      exact hq
    · rw [upd_ne e] at h
      exact r.bh p u h
  fr := fun p h => by
    by_cases e : p = q
    · subst e
      exact absurd fq h
    · rw [upd_ne e]
      exact r.fr p h
  len := r.len
  sl := fun j s ej => by
    have z := r.sl j s ej
    cases s with
    | no => trivial
    | sh d => exact z
    | ow k1 o1 =>
      obtain ⟨b, hb, e2, fb, bb, kb, hhb, rb⟩ := z
      refine ⟨b, hb, e2, fb, ?_, kb, hhb, rb⟩
      rw [upd_ne]
      · exact bb
      · rintro rfl
        exact no j ⟨⟨_, _, ej⟩, e2⟩
  nd := r.nd
theorem RelE.unguard (r : RelE T F0 (upd B0 q o) A F H σ ε) (bq : B0 q = none) (fq : F0 q = none) : RelE T F0 B0 A F H σ ε ∧ F q = none ∧ H q = some o ∧ ∀ i, ¬ OwnA ε σ i q := by
  have ne : ∀ p, upd B0 q o p = none → p ≠ q := fun p h z => by subst z; rw [upd_same] at h; cases h
  refine ⟨⟨r.f0, r.fh, fun p u h => ?_, fun p h => ?_, r.len, fun j s ej => ?_, r.nd⟩, ?_, r.bh q o upd_same, fun i hi => ?_⟩
  · by_cases e : p = q
    · subst e
      rw [bq] at h
      cases h
    · exact r.bh p u (by rw [upd_ne e]; exact h)
  · rcases r.fr p h with z | z
    · exact .inl z
    · refine .inr ?_
      rw [upd_ne (ne p z)] at z
      exact z
  · have z := r.sl j s ej
    cases s with
    | no => trivial
    | sh d => exact z
    | ow k1 o1 =>
      obtain ⟨b, hb, e2, fb, bb, kb, hhb, rb⟩ := z
      refine ⟨b, hb, e2, fb, ?_, kb, hhb, rb⟩
      rw [upd_ne (ne b bb)] at bb
      exact bb
  · cases z : F q with
    | none => rfl
    | some u =>
      rcases r.fr q (by rw [z]; simp) with y | y
      · exact absurd fq y
      · rw [upd_same] at y; cases y
  · obtain ⟨⟨k, o1, h1⟩, h2⟩ := hi
    obtain ⟨b, hb, e2, fb, bb, _⟩ := r.sl i _ h1
    rw [h2] at e2
    cases e2
    exact ne q bb rfl
theorem RelE.chg (r : RelE T F0 B0 A F H σ ε) (fq : F q = none) (bq : B0 q = none) (no : ∀ i, ¬ OwnA ε σ i q) : RelE T F0 B0 A F (upd H q o) σ ε where
  f0 := r.f0
  fh := fun p u h => by
    rw [upd_ne (ne_of_none h fq)]
    exact r.fh p u h
  bh := fun p u h => by
    rw [upd_ne (ne_of_none h bq)]
    exact r.bh p u h
  fr := r.fr
  len := r.len
  sl := fun j s ej => by
    have z := r.sl j s ej
    cases s with
    | no => trivial
    | sh d => exact z
    | ow k1 o1 =>
      obtain ⟨b, hb, e2, fb, bb, kb, hhb, rb⟩ := z
      refine ⟨b, hb, e2, fb, bb, kb, ?_, rb⟩
      rw [upd_ne]
      · exact hhb
      · rintro rfl
        exact no j ⟨⟨_, _, ej⟩, e2⟩
  nd := r.nd
theorem RelE.wipe (r : RelE T F0 B0 A F H σ ε) : ∀ vs : List Nat, RelE T F0 B0 A F H (L2.wipe σ vs) (wipeE ε vs)
  | [] => r
  | v :: vs => (r.wipe vs).setNo
theorem wipeE_get : ∀ {vs : List Nat} {ε : Env} {j : Nat}, (wipeE ε vs)[j]? = if j ∈ vs then (if j < ε.length then some .no else none) else ε[j]?
  | [], ε, j => by simp [wipeE]
  | v :: vs, ε, j => by
    have wl : ∀ vs : List Nat, (wipeE ε vs).length = ε.length := fun vs => by
      induction vs with
      | nil => rfl
      | cons v vs ih => unfold wipeE; rw [List.length_set, ih]
    unfold wipeE
    by_cases e : j = v
    · subst e
      by_cases hl : j < ε.length
      · rw [List.getElem?_set_self (by rw [wl]; exact hl)]
        simp [hl]
      · rw [List.getElem?_eq_none (by rw [List.length_set, wl]; omega)]
        simp [hl]
    · rw [List.getElem?_set_ne (Ne.symm e), wipeE_get]
      simp [e]
theorem ownA_wipe {vs : List Nat} {i : Nat} {a : Addr} (h : OwnA (wipeE ε vs) (L2.wipe σ vs) i a) : OwnA ε σ i a := by
  obtain ⟨⟨k, o, h1⟩, h2⟩ := h
  rw [wipeE_get] at h1
  rw [wipe_get] at h2
  by_cases e : i ∈ vs
  · rw [if_pos e] at h1
    split at h1 <;> cases h1
  · rw [if_neg e] at h1 h2
    exact ⟨⟨k, o, h1⟩, h2⟩
theorem backE_len {ε0 ε : Env} : ∀ vs : List Nat, (backE ε0 ε vs).length = ε.length
  | [] => rfl
  | v :: vs => by unfold backE; rw [List.length_set, backE_len vs]
theorem backE_get {ε0 ε : Env} {j : Nat} {s : Slot} : ∀ {vs : List Nat}, (backE ε0 ε vs)[j]? = some s → (j ∈ vs ∧ (s = .no ∨ ∃ d, s = .sh d ∧ ε0[j]? = some (.sh d))) ∨ (j ∉ vs ∧ ε[j]? = some s)
  | [], h => .inr ⟨by simp, h⟩
  | v :: vs, h => by
    unfold backE at h
    by_cases e : j = v
    · subst e
      have hl : j < _ := lt_of_get h
      rw [List.length_set] at hl
      rw [List.getElem?_set_self hl] at h
      have h := Option.some.inj h
      refine .inl ⟨by simp, ?_⟩
      split at h
      · rename_i d hd
        exact .inr ⟨d, h.symm, hd⟩
      · exact .inl h.symm
    · rw [List.getElem?_set_ne (Ne.symm e)] at h
      rcases backE_get h with ⟨z, y⟩ | ⟨z, y⟩
      · exact .inl ⟨List.mem_cons_of_mem _ z, y⟩
      · exact .inr ⟨by simp [e, z], y⟩
theorem RelE.back {ε0 : Env} {F1 H1 : Hp} {vs : List Nat} (r0 : RelE T F0 B0 A F1 H1 σ ε0) (s : Same F1 F) (r : RelE T F0 B0 A F H (L2.wipe σ vs) ε) : RelE T F0 B0 A F H σ (backE ε0 ε vs) where
  f0 := r.f0
  fh := r.fh
  bh := r.bh
  fr := r.fr
  len := by rw [backE_len, r.len, wipe_length]
  sl := fun j sl ej => by
    rcases backE_get ej with ⟨_, rfl | ⟨d, rfl, e0⟩⟩ | ⟨z, y⟩
    · trivial
    · obtain ⟨u, e1, e2⟩ := r0.sl j _ e0
      exact ⟨u, e1, e2.mono s⟩
    · have q := r.sl j sl y
      rw [wipe_get, if_neg z] at q
      exact q
  nd := fun i j a h1 h2 => by
    have go : ∀ {i}, OwnA (backE ε0 ε vs) σ i a → OwnA ε (L2.wipe σ vs) i a := by
      rintro i ⟨⟨k, o, g1⟩, g2⟩
      rcases backE_get g1 with ⟨_, z | ⟨d, z, _⟩⟩ | ⟨z, y⟩
      · cases z
      · cases z
      · refine ⟨⟨k, o, y⟩, ?_⟩
        rw [wipe_get, if_neg z]
        exact g2
    exact r.nd i j a (go h1) (go h2)
theorem ownA_back {ε0 : Env} {vs : List Nat} {i : Nat} {a : Addr} (h : OwnA (backE ε0 ε vs) σ i a) : OwnA ε (L2.wipe σ vs) i a := by
  obtain ⟨⟨k, o, g1⟩, g2⟩ := h
  rcases backE_get g1 with ⟨_, z | ⟨d, z, _⟩⟩ | ⟨z, y⟩
  · cases z
  · cases z
  · refine ⟨⟨k, o, y⟩, ?_⟩
    rw [wipe_get, if_neg z]
    exact g2
theorem bindB_ok {α β : Type} {m : R α} {k : α → Env → R β} {b : β} {ε' : Env} (h : m.bindB k = .ok b ε') : ∃ a ε1, m = .ok a ε1 ∧ k a ε1 = .ok b ε' := by
  cases m with
  | ok a e => exact ⟨a, e, rfl, h⟩
  | bot => cases h
  | ex c fs e => cases h
theorem of_ok {α β : Type} {o : Option α} {k : α → R β} {b : β} {ε' : Env} (h : R.of o k = .ok b ε') : ∃ a, o = some a ∧ k a = .ok b ε' := by
  cases o with
  | none => cases h
  | some a => exact ⟨a, rfl, h⟩
end
section
variable {X : Cx} {T : Tb} {W : WX} {pos : Pos} {e tg : Expr} {fe : FE}
/-- the reading of a comprehension -/
theorem lc_ev {σ : L2.St} {H : Hp} {Q : VK} {fi : FA} {h : FG} {g : TG} {ftt : FT} {ws own : List Nat} (gs : GS T g h ws) (hw : ∀ j ∈ ws, j ∈ own) (ev : EvO T W (EV.lc own fi h ftt fe) σ H Q) :
    tLc (EvI T W fi) g (EvT T W0 ftt) (EvP T W0 fe) own σ H Q := by
  obtain ⟨F0, B0, A, F, ε, rel, p⟩ := ev
  refine ⟨F0, B0, A, F, ε, rel, (post_bind p).imp fun items ε1 F1 H1 s1 rel1 p1 J hJ => fun Dd hD => ?_⟩
  split at p1
  rotate_left
  · exact p1.elim
  rename_i hline
  obtain ⟨rel1', f1D, b0D, noD⟩ := rel1.newOwn (ho := .lst []) hD
  cases hall : (lcL own h ftt fe items (wipeE ε1 own)) with
  | bot => rw [hall] at p1; exact p1.elim
  | ex c fs e => rw [hall] at p1; exact p1.elim
  | ok ysAll εE =>
    rw [hall] at p1
    refine ⟨fun i m H2 => ∃ F2 ε2 ds vs, Same F1 F2 ∧ RelE T F0 B0 A F2 H2 (L2.wipe σ own) ε2 ∧ F2 Dd = none ∧ H2 Dd = some (.lst vs) ∧ Reps T F2 ds vs ∧ (∀ j, ¬ OwnA ε2 (L2.wipe σ own) j Dd) ∧ i ≤ items.length ∧ m = items.length - i ∧ ds.length ≤ i ∧
      ∃ ys, lcL own h ftt fe (items.drop i) ε2 = .ok ys εE ∧ ds ++ ys = ysAll,
      ⟨items.length, F1, wipeE ε1 own, [], [], .refl _, rel1'.wipe own, f1D, upd_same, .nil, fun j hj => noD j (ownA_wipe hj), Nat.zero_le _, rfl, Nat.le_refl _, ysAll, hall, rfl⟩, ?_⟩
    rintro i m H2 ⟨F2, ε2, ds, vs, s2, rel2, f2D, h2D, rds, no2, hi, rfl, hdl, ys, hys, hcat⟩
    obtain ⟨stop, go⟩ := hJ i F2 H2 s2 rel2.fh
    by_cases hlt : i < items.length
    · obtain ⟨g0, yl⟩ := go hlt
      refine .inr ⟨g0, fun H3 => ∃ F2 ε2 ds vs, Same F1 F2 ∧ RelE T F0 B0 A F2 H3 (L2.wipe σ own) ε2 ∧ F2 Dd = none ∧ H3 Dd = some (.lst vs) ∧ Reps T F2 ds vs ∧ (∀ j, ¬ OwnA ε2 (L2.wipe σ own) j Dd) ∧ i + 1 ≤ items.length ∧ ds.length ≤ i + 1 ∧
        ∃ ys, lcL own h ftt fe (items.drop (i + 1)) ε2 = .ok ys εE ∧ ds ++ ys = ysAll, ?_, ?_⟩
      · rintro H3 ⟨F3, ε3, ds3, vs3, a1, a2, a3, a4, a5, a6, a7, a8, a9⟩
        exact ⟨items.length - (i + 1), by omega, F3, ε3, ds3, vs3, a1, a2, a3, a4, a5, a6, a7, rfl, a8, a9⟩
      · intro x H3 y
        obtain ⟨F3, d, gr, ed, rd⟩ := yl x H3 y
        have ed' : items.drop i = d :: items.drop (i + 1) := by
          rw [List.drop_eq_getElem_cons hlt]
          rw [List.getElem?_eq_getElem hlt] at ed
          rw [Option.some.inj ed]
        rw [ed'] at hys
        unfold lcL at hys
        obtain ⟨ε3, e3, hys⟩ := of_ok hys
        obtain ⟨b, ε4, e4, hys⟩ := bindB_ok hys
        have f3D : F3 Dd = none := by
          cases z : F3 Dd with
          | none => rfl
          | some u =>
            rcases gr.nw Dd (by rw [z]; simp) with y | y
            · exact absurd f2D y
            · rw [h2D] at y; cases y
        have rel3 := (rel2.grow gr).guard f3D b0D (gr.hh _ _ h2D) no2
        have f0D : F0 Dd = none := rel2.f0.free f2D
        refine gs F0 _ A F3 H3 _ ε2 d x ε3 _ rel3 rd e3 fun σ' rel' hwipe => ?_
        have hwp : L2.wipe σ' own = L2.wipe σ own := by
          rw [hwipe own hw]
          apply List.ext_getElem?
          intro j
          rw [wipe_get, wipe_get]
          by_cases e : j ∈ own
          · simp only [e, if_true, wipe_length]
          · simp only [e, if_false]
        refine ⟨hwp, F0, _, A, F3, ε3, rel', ?_⟩
        rw [e4]
        intro F4 H4 s4 rel4
        cases b with
        | true =>
          refine iteT ⟨F0, _, A, F4, ε4, rel4, ?_⟩
          rw [if_pos rfl] at hys
          obtain ⟨y', ε5, e5, hys⟩ := bindB_ok hys
          obtain ⟨ys', ε6, e6, hys⟩ := bindB_ok hys
          rw [e5]
          intro F5 H5 s5 rel5 v rv
          obtain ⟨rel5', f5D, h5D, no5⟩ := rel5.unguard b0D f0D
          have e7 : ε6 = εE ∧ y' :: ys' = ys := by
            cases hys
            exact ⟨rfl, rfl⟩
          have sAll : Same F2 F5 := (gr.ff.trans s4).trans s5
          have hlen : vs.length = ds.length := rds.length.symm
          refine ⟨vs, h5D, line_lt (by omega), F5, wipeE ε5 own, ds ++ [y'], vs ++ [v], s2.trans sAll, ?_, f5D, upd_same, Reps.append (rds.mono sAll) (.cons rv .nil), fun j hj => ?_, hlt, by simp; omega, ys', ?_, ?_⟩
          · rw [← hwp]
            exact (rel5'.chg f5D b0D no5).wipe own
          · rw [← hwp] at hj
            exact no5 j (ownA_wipe hj)
          · rw [e6, e7.1]
          · rw [← hcat, ← e7.2]
            simp
        | false =>
          refine iteF ?_
          rw [if_neg Bool.false_ne_true] at hys
          obtain ⟨rel5', f5D, h5D, no5⟩ := rel4.unguard b0D f0D
          have sAll : Same F2 F4 := gr.ff.trans s4
          refine ⟨F4, wipeE ε4 own, ds, vs, s2.trans sAll, ?_, f5D, h5D, rds.mono sAll, fun j hj => ?_, hlt, by omega, ys, hys, hcat⟩
          · rw [← hwp]
            exact rel5'.wipe own
          · rw [← hwp] at hj
            exact no5 j (ownA_wipe hj)
    · have e : i = items.length := by omega
      subst e
      rw [List.drop_length] at hys
      unfold lcL at hys
      cases hys
      rw [List.append_nil] at hcat
      subst hcat
      exact .inl ⟨stop (Nat.le_refl _), p1 F2 H2 s2 (rel1.back s2 rel2) Dd (.lst vs) f2D b0D h2D rds fun j hj => no2 j (ownA_back hj)⟩
theorem pts_yes {X : Cx} : PTs X [] (EvT T W0 EV.tYes) := ⟨fun pins s σ H Q I ⟨F0, B0, A, F, ε, rel, p⟩ => pts_nil.run pins s σ H Q I (p F H (.refl _) rel)⟩
theorem sO_lc {elt iter : Expr} {ifs : List Expr} {scope : Scope} {own : List (Str × Nat)} {fi : FA} {h : FG} {g : TG} {ftt : FT} {ws ix : List Nat} (hc : X.calm = true) (hN : X.N.Nodup) (hi : SI X T W tg iter fi) (ok : BlkOk X.N X.env.scope scope own)
    (hg : ∀ (s : Shared) (H : Hp) (C : Addr) (cl : List (Str × Addr)) (fp : List Addr), PG (X.blk s H scope (compEnvC scope cl C X.env) fp) tg g) (gs : GS T g h ws) (ht : ∀ (s : Shared) (H : Hp) (C : Addr) (cl : List (Str × Addr)) (fp : List Addr), PTs (X.blk s H scope (compEnvC scope cl C X.env) fp) ifs (EvT T W0 ftt))
    (he : ∀ (s : Shared) (H : Hp) (C : Addr) (cl : List (Str × Addr)) (fp : List Addr), SE (X.blk s H scope (compEnvC scope cl C X.env) fp) T W0 elt fe) (hix : own.map (·.2) = ix := by rfl) (hw : ∀ j ∈ ws, j ∈ ix := by decide) (hs : ∀ x, foldedSetIterable iter X.env x = pure x := by intro _; rfl) :
    SO X T W (.ListComp elt [⟨tg, iter, ifs, 0⟩] scope pos) (EV.lc ix fi h ftt fe) :=
  impE (pe_lc hc hN hi ok hg ht he hs) fun σ H Q ev => by
    subst hix
    exact lc_ev gs hw ev
theorem setLc {i : Nat} {y : Str} {py spos : Pos} {elt iter : Expr} {ifs : List Expr} {scope : Scope} {own : List (Str × Nat)} {fi : FA} {h : FG} {g : TG} {ftt : FT} {ws ix : List Nat} (hc : X.calm = true) (hN : X.N.Nodup) (hy : X.N[i]? = some y) (hyl : X.env.scope.names.lookup y = some .local)
    (hsw : swapsWith (.ListComp elt [⟨tg, iter, ifs, 0⟩] scope pos) (some (.Name y py)) spos.line X.env = pure true) (hi : SI X T W tg iter fi) (ok : BlkOk X.N X.env.scope scope own)
    (hg : ∀ (s : Shared) (H : Hp) (C : Addr) (cl : List (Str × Addr)) (fp : List Addr), PG (X.blk s H scope (compEnvC scope cl C X.env) fp) tg g) (gs : GS T g h ws) (ht : ∀ (s : Shared) (H : Hp) (C : Addr) (cl : List (Str × Addr)) (fp : List Addr), PTs (X.blk s H scope (compEnvC scope cl C X.env) fp) ifs (EvT T W0 ftt))
    (he : ∀ (s : Shared) (H : Hp) (C : Addr) (cl : List (Str × Addr)) (fp : List Addr), SE (X.blk s H scope (compEnvC scope cl C X.env) fp) T W0 elt fe) (hix : own.map (·.2) = ix := by rfl) (hw : ∀ j ∈ ws, j ∈ ix := by decide) (hs : ∀ x, foldedSetIterable iter X.env x = pure x := by intro _; rfl) :
    SS X T W (.Assign [.Name y py] (.ListComp elt [⟨tg, iter, ifs, 0⟩] scope pos) spos) (asgO i (EV.lc ix fi h ftt fe)) :=
  asgO_of (ps_setLc hc hN hy hyl hsw hi ok hg ht he hs) fun σ H Q ev => by
    subst hix
    exact lc_ev gs hw ev
end
end EV
set_option maxRecDepth 100000
/-! EvF: defs, their promises, their calls; instances made; exceptions raised. -/
namespace EV
open PySem L2
/-- the promise of a def: m of what is handed in -/
def spM (T : Tb) (np : Nat) (m : List D → FR) : Sp := fun vs H Q E => vs.length = np ∧ ∃ F ds, Same F H ∧ Reps T F ds vs ∧ (match m ds with
  | .bot => False
  | .ret d => ∀ v F' H', Grow F H F' H' → Rep T F' d v → Q v H'
  | .rto o => ∀ p ho F' H', Grow F H F' H' → F' p = none → H p = none → H' p = some ho → RepO T F' o ho → Q (.ref p) H'
  | .rse c fs => ∀ cls dx F' H', Grow F H F' H' → XRep T F' H' c fs cls dx → E cls dx H')
/-- nothing changed but what stands at a -/
structure GrowB (a : Addr) (F H F' H' : Hp) : Prop where
  ff : Same F F'
  fh : Same F' H'
  hh : ∀ p u, p ≠ a → H p = some u → H' p = some u
  nw : ∀ p, F' p ≠ none → F p ≠ none ∨ H p = none
  fa : F' a = none
structure GrowX (a : Addr) (F H F' H' : Hp) : Prop where
  ff : Same F F'
  fh : Same F' H'
  hh : ∀ p u, p ≠ a → H p = some u → H' p = some u
  nw : ∀ p, F' p ≠ none → F p ≠ none ∨ H p = none ∨ p = a
/-- the promise of a def that changes the object that it is handed first -/
def spQ (T : Tb) (np : Nat) (m : O → List D → FQ) : Sp := fun vs H Q E => vs.length = np ∧ ∃ F a us o ho ds, vs = .ref a :: us ∧ Same F H ∧ F a = none ∧ H a = some ho ∧ RepO T F o ho ∧ Reps T F ds us ∧ (match m o ds with
  | .bot => False
  | .ret d o' => ∀ v F' H' ho', GrowB a F H F' H' → H' a = some ho' → RepO T F' o' ho' → Rep T F' d v → Q v H'
  | .rse c fs => ∀ cls dx F' H', GrowX a F H F' H' → XRep T F' H' c fs cls dx → E cls dx H')
section
variable {T : Tb} {E : XK} {F H : Hp}
theorem get_start {n : Nat} {ds : List D} {vs : List V} {N : List Str} (hn : N.length = n) (r : Reps T F ds vs) (hl : vs.length ≤ n) : (start n ds).length = (L2.start N vs).length ∧ ∀ (i : Nat) (s : Slot), (start n ds)[i]? = some s → s = .no ∨ ∃ d v, s = .sh d ∧ (L2.start N vs)[i]? = some (some v) ∧ Rep T F d v := by
  have hd := r.length
  refine ⟨?_, fun i s e => ?_⟩
  · unfold start L2.start
    simp [hd, hn]
  · unfold start at e
    unfold L2.start
    by_cases h : i < ds.length
    · rw [List.getElem?_append_left (by simpa using h)] at e
      rw [List.getElem?_map, List.getElem?_eq_getElem h] at e
      have e := Option.some.inj e
      obtain ⟨v, e1, rv⟩ := r.get (List.getElem?_eq_getElem h)
      refine .inr ⟨_, v, e.symm, ?_, rv⟩
      rw [List.getElem?_append_left (by simp; omega), List.getElem?_map, e1]
      rfl
    · rw [List.getElem?_append_right (by simp; omega)] at e
      have z := List.mem_of_getElem? e
      exact .inl (List.eq_of_mem_replicate z)
theorem rel_start {n : Nat} {ds : List D} {vs : List V} {N : List Str} (hn : N.length = n) (s : Same F H) (r : Reps T F ds vs) (hl : vs.length ≤ n) : RelE T F H [] F H (L2.start N vs) (start n ds) := by
  obtain ⟨h1, h2⟩ := get_start hn r hl
  refine ⟨.refl _, s, .refl _, fun p h => .inl h, h1, fun i sl e => ?_, fun i j a h => ?_⟩
  · rcases h2 i sl e with rfl | ⟨d, v, rfl, e1, rv⟩
    · trivial
    · exact ⟨v, e1, rv⟩
  · obtain ⟨⟨k, o, g1⟩, g2⟩ := h
    rcases h2 i _ g1 with z | ⟨d, v, z, _⟩ <;> cases z
theorem grow_of {F' H' : Hp} {A : List Addr} {σ : L2.St} {ε : Env} (r : RelE T F H A F' H' σ ε) : Grow F H F' H' := ⟨r.f0, r.fh, r.bh, r.fr⟩
/-- the body at its end -/
theorem fn_end {np n : Nat} {g : FS} {ds : List D} {vs : List V} {N : List Str} {Q : VK} (hn : N.length = n) (h : spM T np (fn np n g) vs H Q E) (hle : np ≤ n) : EvS T (WK E) g { nx := fun _ H' => Q .non H', rt := Q } (L2.start N vs) H := by
  obtain ⟨hl, F, ds, s, r, h⟩ := h
  refine ⟨F, H, [], F, start n ds, rel_start hn s r (by omega), ?_⟩
  unfold fn at h
  rw [if_pos (by rw [r.length]; exact hl)] at h
  cases hg : g (start n ds) with
  | bot => rw [hg] at h; exact h
  | ex c fs ε => rw [hg] at h; exact fun σ' F' H' cls dx s' rel x => h cls dx F' H' (grow_of rel) x
  | ok fl ε =>
    rw [hg] at h
    cases fl with
    | nx => exact fun σ' F' H' s' rel => h .non F' H' (grow_of rel) (by simp only [Rep])
    | br => exact h.elim
    | ct => exact h.elim
    | rt d => exact fun σ' F' H' s' rel v rv => h v F' H' (grow_of rel) rv
    | ro o => exact fun σ' F' H' s' rel p ho h1 h2 h3 h4 h5 => h p ho F' H' (grow_of rel) h1 h2 h3 h4
end
section
variable {P : Program} {w : World} {K : PySem.W.Frag} {mg : Str → Option Value} {base : Heap} {T : Tb}
/-- a def of the text: where it stands, how it is called -/
structure Df (P : Program) (w : World) (K : PySem.W.Frag) (mg : Str → Option Value) (base : Heap) (T : Tb) (x : Str) (k : Nat) (ps : List Str) (m : List D → FR) : Prop where
  ex : ∃ (f : Addr) (fd : FuncData), mg x = some (.ref f) ∧ PySem.W.keepIn K (.ref f) = true ∧ FnOk P w K mg base (L2N.CX P w) k f fd ps (spM T ps.length m) ∧ Binds K fd ps []
/-- .. that changes its first argument -/
structure Dq (P : Program) (w : World) (K : PySem.W.Frag) (mg : Str → Option Value) (base : Heap) (T : Tb) (x : Str) (k : Nat) (ps : List Str) (m : O → List D → FQ) : Prop where
  ex : ∃ (f : Addr) (fd : FuncData), mg x = some (.ref f) ∧ PySem.W.keepIn K (.ref f) = true ∧ FnOk P w K mg base (L2N.CX P w) k f fd ps (spQ T ps.length m) ∧ Binds K fd ps []
/-- a def's promise from its body, whatever the wish of its exceptions -/
theorem okG {CX : CXT} {x qual : Str} {st : Stmt} {f : Addr} {fd : FuncData} {N ps : List Str} {k : Nat} {sp : Sp} (F : Fun K x qual st f fd) (S : FnScope N ps (defScope st)) (len : ∀ vs H Q E, sp vs H Q E → vs.length = ps.length)
    (hb : ∀ (cdv : Value) (A : Around) (outer : List PySem.Env) (s : Shared) (H : Hp) (vs : List V) (Q : VK) (E : XK), Room k (A.deeper (PyProof.Rows.envOfC qual (defScope st) s.heap.objs.size f cdv)) → sp vs H Q E →
      ∃ t, PSs (cxOf CX P w K mg base N qual (defScope st) f cdv A outer s H E) (defBody st) t ∧ t { nx := fun _ H' => Q .non H', rt := Q } (L2.start N vs) H) : FnOk P w K mg base CX (k + 1) f fd ps sp := by
  obtain ⟨_, _, _, _, _, _, _, _, _, rfl, lk, hcd⟩ := F.ex
  exact fn_of lk hcd S len fun A outer s H vs Q E hr hs => hb _ A outer s H vs Q E hr hs
theorem fn_ok {x qual : Str} {st : Stmt} {f : Addr} {fd : FuncData} {N ps : List Str} {k n : Nat} {g : FS} (F : Fun K x qual st f fd) (S : FnScope N ps (defScope st)) (hn : N.length = n) (hle : ps.length ≤ n)
    (hb : ∀ (cdv : Value) (A : Around) (outer : List PySem.Env) (s : Shared) (H : Hp) (E : XK), Room k (A.deeper (PyProof.Rows.envOfC qual (defScope st) s.heap.objs.size f cdv)) → SSs (cxOf (L2N.CX P w) P w K mg base N qual (defScope st) f cdv A outer s H E) T (WK E) (defBody st) g) :
    FnOk P w K mg base (L2N.CX P w) (k + 1) f fd ps (spM T ps.length (fn ps.length n g)) :=
  okG F S (fun vs H Q E h => h.1) fun cdv A outer s H vs Q E hr h => ⟨_, hb cdv A outer s H E hr, fn_end (ds := []) hn h hle⟩
end
section
variable {X : Cx} {T : Tb} {W : WX} {pos p : Pos} {e : Expr} {es : List Expr} {x : Str} {k : Nat} {ps : List Str} {fr : FA}
theorem relE_call {F0 B0 F H F' H' : Hp} {A : List Addr} {σ : L2.St} {ε : Env} (r : RelE T F0 B0 A F H σ ε) (g : Grow F H F' H') : RelE T F0 B0 A F' H' σ ε := r.grow g
theorem call_ev {m : List D → FR} {np : Nat} {σ : L2.St} {H : Hp} {Q : VK} (ev : EvP T W (EV.call m fr) σ H Q) (hnp : ∀ ds, ds.length ≠ np → m ds = .bot) : tCallSD (spM T np m) [] (WE W) (EvA T W fr) σ H Q := by
  obtain ⟨F0, B0, A, F, ε, rel, pp⟩ := ev
  refine ⟨F0, B0, A, F, ε, rel, (post_bind pp).imp fun xs ε1 F1 H1 s1 rel1 p1 vs rvs => ?_⟩
  show spM T np m (vs ++ []) H1 Q (WE W σ)
  rw [List.append_nil]
  refine ⟨?_, F1, xs, rel1.fh, rvs, ?_⟩
  · rw [← rvs.length]
    exact Classical.byContradiction fun hne => by
      rw [hnp xs hne] at p1
      exact p1
  · cases hm : m xs with
    | bot => rw [hm] at p1; exact p1
    | ret d => rw [hm] at p1; exact fun v F' H' g rv => p1 F' H' g.ff (rel1.grow g) v rv
    | rse c fs => rw [hm] at p1; exact fun cls dx F' H' g xr => p1 F' H' cls dx g.ff (rel1.grow g) xr
    | rto o =>
      rw [hm] at p1
      intro q ho F' H' g fq hq hq' ro
      obtain ⟨d, e1, p2⟩ := post_of p1
      cases o with
      | i c fs => cases e1
      | d kvs => cases e1
      | l xs2 =>
        cases e1
        cases ho with
        | lst vs2 =>
          have sf : Same F' (upd F' q (.lst vs2)) := Same.new fq
          have g2 : Grow F1 H1 (upd F' q (.lst vs2)) H' := ⟨g.ff.trans sf, fun y u hy => by
            by_cases z : y = q
            · subst z
              rw [upd_same] at hy
              cases hy
              exact hq'
            · rw [upd_ne z] at hy
              exact g.fh y u hy, g.hh, fun y hy => by
            by_cases z : y = q
            · subst z
              exact .inr hq
            · rw [upd_ne z] at hy
              exact g.nw y hy⟩
          refine p2 _ H' g2.ff (rel1.grow g2) _ ?_
          simp only [Rep]
          exact ⟨q, vs2, rfl, upd_same, Reps.mono sf ro⟩
        | _ => exact ro.elim
theorem callO_ev {m : List D → FR} {np : Nat} {σ : L2.St} {H : Hp} {Q : VK} (ev : EvO T W (EV.callO m fr) σ H Q) (hnp : ∀ ds, ds.length ≠ np → m ds = .bot) : tCallSD (spM T np m) [] (WE W) (EvA T W fr) σ H Q := by
  obtain ⟨F0, B0, A, F, ε, rel, pp⟩ := ev
  refine ⟨F0, B0, A, F, ε, rel, (post_bind pp).imp fun xs ε1 F1 H1 s1 rel1 p1 vs rvs => ?_⟩
  show spM T np m (vs ++ []) H1 Q (WE W σ)
  rw [List.append_nil]
  refine ⟨?_, F1, xs, rel1.fh, rvs, ?_⟩
  · rw [← rvs.length]
    exact Classical.byContradiction fun hne => by
      rw [hnp xs hne] at p1
      exact p1
  · cases hm : m xs with
    | bot => rw [hm] at p1; exact p1
    | ret d => rw [hm] at p1; exact p1.elim
    | rse c fs => rw [hm] at p1; exact fun cls dx F' H' g xr => p1 F' H' cls dx g.ff (rel1.grow g) xr
    | rto o =>
      rw [hm] at p1
      intro q ho F' H' g fq hq hq' ro
      refine p1 F' H' g.ff (rel1.grow g) q ho fq (rel1.bh.free hq) hq' ro fun i hi => ?_
      obtain ⟨⟨k, o1, h1⟩, h2⟩ := hi
      obtain ⟨b, hb, e2, _, _, _, hhb, _⟩ := rel1.sl i _ h1
      rw [h2] at e2
      cases e2
      rw [hq] at hhb
      cases hhb
theorem fn_np {np n : Nat} {g : FS} : ∀ ds : List D, ds.length ≠ np → fn np n g ds = .bot := fun ds h => by
  unfold fn
  rw [if_neg h]
/-- a def's mirror knows its own number of arguments -/
class Np (np : outParam Nat) (m : List D → FR) : Prop where
  np : ∀ ds : List D, ds.length ≠ np → m ds = .bot
instance {np n : Nat} {g : FS} : Np np (fn np n g) := ⟨fn_np⟩
theorem sE_call {m : List D → FR} (D0 : Df X.prog X.w X.K X.mg X.base T x k ps m) (hnp : ∀ ds, ds.length ≠ ps.length → m ds = .bot) (hr : Room k X.A) (hg : Gl X x) (tk : L2N.Takes X W) (ha : SA X T W (e :: es) fr)
    (hdb : (x == ("__debug__" : Str)) = false := by decide) (he : starEach (e :: es) X.env = (false, eval e X.env) :: starEach es X.env := by rfl) (hpl : (backTo pos (starEach es X.env)).any (·.1) = false := by rfl) :
    SE X T W (.Call (.Name x p) (e :: es) [] pos) (EV.call m fr) := by
  obtain ⟨f, fd, h1, h2, h3, h4⟩ := D0.ex
  exact impE (pe_callSD h3 hr hg h1 h2 h4 .nil (L2N.passAt tk) ha hdb he hpl) fun σ H Q ev => call_ev ev hnp
theorem sO_call {m : List D → FR} (D0 : Df X.prog X.w X.K X.mg X.base T x k ps m) (hnp : ∀ ds, ds.length ≠ ps.length → m ds = .bot) (hr : Room k X.A) (hg : Gl X x) (tk : L2N.Takes X W) (ha : SA X T W (e :: es) fr)
    (hdb : (x == ("__debug__" : Str)) = false := by decide) (he : starEach (e :: es) X.env = (false, eval e X.env) :: starEach es X.env := by rfl) (hpl : (backTo pos (starEach es X.env)).any (·.1) = false := by rfl) :
    SO X T W (.Call (.Name x p) (e :: es) [] pos) (EV.callO m fr) := by
  obtain ⟨f, fd, h1, h2, h3, h4⟩ := D0.ex
  exact impE (pe_callSD h3 hr hg h1 h2 h4 .nil (L2N.passAt tk) ha hdb he hpl) fun σ H Q ev => callO_ev ev hnp
/-- what a comprehension's element takes: nothing -/
theorem takesZ {X : Cx} : L2N.Takes X W0 := fun _ _ x => by
  obtain ⟨_, _, _, _, _, _, _, _, _, _, _, _, _, _, _, _, z⟩ := x
  exact z.elim
/-- what a def's own body takes -/
theorem takesK {P : Program} {w : World} {K : PySem.W.Frag} {mg : Str → Option Value} {base : Heap} {N : List Str} {qual : Str} {scope : Scope} {f : Addr} {cd : Value} {A : Around} {outer : List PySem.Env} {s : Shared} {H : Hp} {E : XK} :
    L2N.Takes (cxOf (L2N.CX P w) P w K mg base N qual scope f cd A outer s H E) (WK E) := L2N.takes_of rfl rfl rfl rfl
end
end EV
set_option maxRecDepth 100000
/-! EvQ: defs that change what they are handed; __init__ and instances. -/
namespace EV
open PySem L2
section
variable {T : Tb} {E : XK} {F0 B0 F H F' H' : Hp} {A : List Addr} {σ : L2.St} {ε : Env}
theorem RelE.growB {i : Nat} {k : Option Nat} {o o' : O} {a : Addr} {ho' : HO} (r : RelE T F0 B0 A F H σ ε) (e : ε[i]? = some (.ow k o)) (ev : σ[i]? = some (some (.ref a))) (g : GrowB a F H F' H') (ha' : H' a = some ho') (ro : RepO T F' o' ho') :
    RelE T F0 B0 A F' H' σ (ε.set i (.ow k o')) := by
  obtain ⟨a', ho, e1, fa, ba, ka, ha, _⟩ := r.sl i _ e
  have ea : a' = a := by rw [ev] at e1; cases e1; rfl
  subst ea
  have iε : i < ε.length := lt_of_get e
  refine ⟨r.f0.trans g.ff, g.fh, fun p u h => ?_, fun p h => ?_, by simpa using r.len, fun j s ej => ?_, fun j l b h1 h2 => ?_⟩
  · exact g.hh p u (ne_of_none h ba) (r.bh p u h)
  · rcases g.nw p h with z | z
    · exact r.fr p z
    · exact .inr (r.bh.free z)
  · by_cases q : j = i
    · subst q
      rw [List.getElem?_set_self iε] at ej
      cases ej
      exact ⟨a', ho', ev, g.fa, ba, ka, ha', ro⟩
    · rw [List.getElem?_set_ne (Ne.symm q)] at ej
      have z := r.sl j s ej
      cases s with
      | no => trivial
      | sh d =>
        obtain ⟨u, e1, e2⟩ := z
        exact ⟨u, e1, e2.mono g.ff⟩
      | ow k1 o1 =>
        obtain ⟨b, hb, e2, fb, bb, kb, hhb, rb⟩ := z
        have ne : b ≠ a' := by
          rintro rfl
          exact q (r.nd j i b ⟨⟨_, _, ej⟩, e2⟩ ⟨⟨_, _, e⟩, ev⟩)
        refine ⟨b, hb, e2, ?_, bb, kb, g.hh b _ ne hhb, rb.mono g.ff⟩
        cases z : F' b with
        | none => rfl
        | some u =>
          rcases g.nw b (by rw [z]; simp) with y | y
          · exact absurd fb y
          · rw [hhb] at y; cases y
  · have go : ∀ {j}, OwnA (ε.set i (.ow k o')) σ j b → OwnA ε σ j b := by
      rintro j ⟨⟨k, o, g1⟩, g2⟩
      by_cases q : j = i
      · subst q
        exact ⟨⟨_, _, e⟩, g2⟩
      · rw [List.getElem?_set_ne (Ne.symm q)] at g1
        exact ⟨⟨k, o, g1⟩, g2⟩
    exact r.nd j l b (go h1) (go h2)
/-- at the entry of a def that changes what stands at a -/
theorem rel_startQ {n : Nat} {o : O} {a : Addr} {ho : HO} {ds : List D} {us : List V} {N : List Str} (hn : N.length = n) (s : Same F H) (fa : F a = none) (ha : H a = some ho) (ro : RepO T F o ho) (r : Reps T F ds us) (hl : us.length + 1 ≤ n) :
    RelE T F (fun p => if p = a then none else H p) [a] F H (L2.start N (.ref a :: us)) (.ow (some 0) o :: start (n - 1) ds) := by
  have hb : ∀ p u, (if p = a then none else H p) = some u → p ≠ a ∧ H p = some u := fun p u h => by
    by_cases e : p = a
    · rw [if_pos e] at h; cases h
    · rw [if_neg e] at h; exact ⟨e, h⟩
  have st : L2.start N (.ref a :: us) = some (.ref a) :: L2.start (N.tail) us := by
    unfold L2.start
    simp only [List.map_cons, List.length_cons, List.length_tail, List.cons_append]
    congr 3
    omega
  have hN : N.tail.length = n - 1 := by simp [hn]
  obtain ⟨h1, h2⟩ := get_start (N := N.tail) hN r (by omega)
  rw [st]
  have no : ∀ j b, ¬ OwnA (start (n - 1) ds) (L2.start N.tail us) j b := fun j b hj => by
    obtain ⟨⟨k, o1, g1⟩, g2⟩ := hj
    rcases h2 j _ g1 with z | ⟨d, v, z, _⟩ <;> cases z
  refine ⟨.refl _, s, fun p u h => (hb p u h).2, fun p h => .inl h, by simp [h1], fun i sl e => ?_, fun i j b g1 g2 => ?_⟩
  · cases i with
    | zero =>
      simp at e
      subst e
      exact ⟨a, ho, by simp, fa, by simp, fun n z => by cases z; rfl, ha, ro⟩
    | succ i =>
      simp only [List.getElem?_cons_succ] at e ⊢
      rcases h2 i sl e with rfl | ⟨d, v, rfl, e1, rv⟩
      · trivial
      · exact ⟨v, e1, rv⟩
  · cases i with
    | zero =>
      cases j with
      | zero => rfl
      | succ j =>
        obtain ⟨⟨k, o1, q1⟩, q2⟩ := g2
        simp only [List.getElem?_cons_succ] at q1 q2
        exact absurd ⟨⟨k, o1, q1⟩, q2⟩ (no j b)
    | succ i =>
      obtain ⟨⟨k, o1, q1⟩, q2⟩ := g1
      simp only [List.getElem?_cons_succ] at q1 q2
      exact absurd ⟨⟨k, o1, q1⟩, q2⟩ (no i b)
theorem growB_of {a : Addr} (r : RelE T F (fun p => if p = a then none else H p) [a] F' H' σ ε) (fa : F a = none) (ha : F' a = none) (hne : H a ≠ none) : GrowB a F H F' H' := ⟨r.f0, r.fh, fun p u ne h => r.bh p u (by show (if p = a then none else H p) = some u; rw [if_neg ne]; exact h), fun p h => by
  by_cases e : p = a
  · subst e
    exact absurd ha h
  · rcases r.fr p h with z | z
    · exact .inl z
    · rw [if_neg e] at z
      exact .inr z, ha⟩
theorem growX_of {a : Addr} (r : RelE T F (fun p => if p = a then none else H p) [a] F' H' σ ε) : GrowX a F H F' H' := ⟨r.f0, r.fh, fun p u ne h => r.bh p u (by show (if p = a then none else H p) = some u; rw [if_neg ne]; exact h), fun p h => by
  by_cases e : p = a
  · exact .inr (.inr e)
  · rcases r.fr p h with z | z
    · exact .inl z
    · rw [if_neg e] at z
      exact .inr (.inl z)⟩
theorem outQ_of {d : D} {ε : Env} {o : O} (h : ε.head? = some (.ow (some 0) o)) : outQ d ε = .ret d o := by
  unfold outQ
  rw [h]
  rfl
theorem fnQ_end {np n : Nat} {g : FS} {vs : List V} {N : List Str} {Q : VK} (hn : N.length = n) (h : spQ T np (fnQ np n g) vs H Q E) (hle : np ≤ n) : EvS T (WK E) g { nx := fun _ H' => Q .non H', rt := Q } (L2.start N vs) H := by
  obtain ⟨hl, F, a, us, o, ho, ds, rfl, s, fa, ha, ro, r, h⟩ := h
  have hlu : us.length + 1 = np := by simpa using hl
  refine ⟨F, _, [a], F, _, rel_startQ hn s fa ha ro r (by omega), ?_⟩
  unfold fnQ at h
  rw [if_pos (by rw [r.length]; exact hlu)] at h
  have hne : H a ≠ none := by rw [ha]; simp
  -- what stands at the first name at the end
  have fin : ∀ {σ' : L2.St} {F' H' : Hp} {ε : Env} {d : D} {v : V}, RelE T F (fun p => if p = a then none else H p) [a] F' H' σ' ε → Rep T F' d v → (match outQ d ε with
      | .bot => False
      | .ret d o' => ∀ v F' H' ho', GrowB a F H F' H' → H' a = some ho' → RepO T F' o' ho' → Rep T F' d v → Q v H'
      | .rse c fs => ∀ cls dx F' H', GrowX a F H F' H' → XRep T F' H' c fs cls dx → E cls dx H') → Q v H' := by
    intro σ' F' H' ε d v rel rv h
    cases he : ε.head? with
    | none => unfold outQ at h; rw [he] at h; exact h.elim
    | some sl =>
      have e0 : ε[0]? = some sl := by rw [← List.head?_eq_getElem?]; exact he
      cases sl with
      | no => unfold outQ at h; rw [he] at h; exact h.elim
      | sh d => unfold outQ at h; rw [he] at h; exact h.elim
      | ow k o' =>
        cases k with
        | none => unfold outQ at h; rw [he] at h; exact h.elim
        | some k =>
          cases k with
          | succ k => unfold outQ at h; rw [he] at h; exact h.elim
          | zero =>
            rw [outQ_of he] at h
            obtain ⟨a', ho', e1, fa', ba', ka', ha', ro'⟩ := rel.sl 0 _ e0
            have ea : a' = a := by
              have := ka' 0 rfl
              simpa using this.symm
            subst ea
            exact h v F' H' ho' (growB_of rel fa fa' hne) ha' ro' rv
  cases hg : g (.ow (some 0) o :: start (n - 1) ds) with
  | bot => rw [hg] at h; exact h
  | ex c fs ε =>
    rw [hg] at h
    exact fun σ' F' H' cls dx s' rel x => h cls dx F' H' (growX_of rel) x
  | ok fl ε =>
    rw [hg] at h
    cases fl with
    | nx => exact fun σ' F' H' s' rel => fin (d := .non) rel (by simp only [Rep]) h
    | br => exact h.elim
    | ct => exact h.elim
    | rt d => exact fun σ' F' H' s' rel v rv => fin rel rv h
    | ro o => exact h.elim
end
section
variable {P : Program} {w : World} {K : PySem.W.Frag} {mg : Str → Option Value} {base : Heap} {T : Tb}
theorem fnQ_ok {x qual : Str} {st : Stmt} {f : Addr} {fd : FuncData} {N ps : List Str} {k n : Nat} {g : FS} (F : Fun K x qual st f fd) (S : FnScope N ps (defScope st)) (hn : N.length = n) (hle : ps.length ≤ n)
    (hb : ∀ (cdv : Value) (A : Around) (outer : List PySem.Env) (s : Shared) (H : Hp) (E : XK), Room k (A.deeper (PyProof.Rows.envOfC qual (defScope st) s.heap.objs.size f cdv)) → SSs (cxOf (L2N.CX P w) P w K mg base N qual (defScope st) f cdv A outer s H E) T (WK E) (defBody st) g) :
    FnOk P w K mg base (L2N.CX P w) (k + 1) f fd ps (spQ T ps.length (fnQ ps.length n g)) :=
  okG F S (fun vs H Q E h => h.1) fun cdv A outer s H vs Q E hr h => ⟨_, hb cdv A outer s H E hr, fnQ_end hn h hle⟩
end
section
variable {X : Cx} {T : Tb} {W : WX} {E : XK} {pos p : Pos} {e : Expr} {es : List Expr} {x : Str} {k : Nat} {ps : List Str} {fr : FA}
theorem callQ_ev {m : O → List D → FQ} {i np : Nat} {σ : L2.St} {H : Hp} {Q : VK} (ev : EvP T W (EV.callQ m i fr) σ H Q) (hnp : ∀ o ds, ds.length + 1 ≠ np → m o ds = .bot) : tCallSD (spQ T np m) [] (WE W) (tCons (tVar i) (EvA T W fr)) σ H Q := by
  obtain ⟨F0, B0, A, F, ε, rel, pp⟩ := ev
  unfold EV.callQ at pp
  split at pp
  rotate_left
  · exact pp.elim
  rename_i hh
  obtain ⟨v0, ev0⟩ := has_get rel hh
  refine ⟨v0, ev0, F0, B0, A, F, ε, rel, (post_bind pp).imp fun xs ε1 F1 H1 s1 rel1 p1 vs rvs => ?_⟩
  show spQ T np m (v0 :: vs ++ []) H1 Q (WE W σ)
  rw [List.append_nil]
  split at p1
  rotate_left
  · exact p1.elim
  rename_i k o he
  obtain ⟨a, ho, e1, fa, ba, ka, ha, ro⟩ := rel1.sl i _ he
  have q : v0 = .ref a := by rw [ev0] at e1; cases e1; rfl
  subst q
  refine ⟨?_, F1, a, vs, o, ho, xs, rfl, rel1.fh, fa, ha, ro, rvs, ?_⟩
  · show vs.length + 1 = np
    rw [← rvs.length]
    exact Classical.byContradiction fun hne => by
      rw [hnp o xs hne] at p1
      exact p1
  · cases hm : m o xs with
    | bot => rw [hm] at p1; exact p1
    | rse c fs => rw [hm] at p1; exact p1.elim
    | ret d o' =>
      rw [hm] at p1
      exact fun v F' H' ho' g ha' ro' rv => p1 F' H' g.ff (rel1.growB he e1 g ha' ro') v rv
theorem fnQ_np {np n : Nat} {g : FS} : ∀ (o : O) (ds : List D), ds.length + 1 ≠ np → fnQ np n g o ds = .bot := fun o ds h => by
  unfold fnQ
  rw [if_neg h]
/-- f(x, ..): f changes what stands at x -/
theorem sE_callQ {m : O → List D → FQ} {i : Nat} {y : Str} {py : Pos} (D0 : Dq X.prog X.w X.K X.mg X.base T x k ps m) (hnp : ∀ o ds, ds.length + 1 ≠ ps.length → m o ds = .bot) (hr : Room k X.A) (hg : Gl X x) (tk : L2N.Takes X W) (hv : PE X (.Name y py) (tVar i)) (ha : SA X T W es fr)
    (hs : starEach (.Name y py :: es) X.env = (false, eval (.Name y py) X.env) :: starEach es X.env := by rfl) (hdb : (x == ("__debug__" : Str)) = false := by decide) (hpl : (backTo pos (starEach es X.env)).any (·.1) = false := by rfl) :
    SE X T W (.Call (.Name x p) (.Name y py :: es) [] pos) (EV.callQ m i fr) := by
  obtain ⟨f, fd, h1, h2, h3, h4⟩ := D0.ex
  exact impE (pe_callSD h3 hr hg h1 h2 h4 .nil (L2N.passAt tk) (pa_cons hv ha hs) hdb hs hpl) fun σ H Q ev => callQ_ev ev hnp

/-! ### instances -/
theorem zip_of_map : ∀ (gs : List (Str × V)), gs = (gs.map (·.1)).zip (gs.map (·.2))
  | [] => rfl
  | g :: gs => by
    simp only [List.map_cons, List.zip_cons_cons]
    rw [← zip_of_map gs]
/-- the promise behind C(..) -/
theorem mk_sp {c np : Nat} {m : O → List D → FQ} {xs : List D} {vs : List V} {F1 H1 : Hp} {Q : VK} {E : XK} (hnp : ∀ o ds, ds.length + 1 ≠ np → m o ds = .bot) (sm : Same F1 H1) (rvs : Reps T F1 xs vs)
    (h : match mk c (T.nm c) m xs with
      | .bot => False
      | .ret d => ∀ v F' H', Grow F1 H1 F' H' → Rep T F' d v → Q v H'
      | .rto o => False
      | .rse c fs => ∀ cls dx F' H', Grow F1 H1 F' H' → XRep T F' H' c fs cls dx → E cls dx H') :
    ∀ x dx, H1 x = none → H1 dx = none → dx ≠ x → spQ T np m (.ref x :: vs) (upd (upd H1 dx (.own x)) x (.ins (T.ad c) dx [])) (fun v H2 => v = .non ∧ Q (.ref x) H2) E := by
  intro x dx hx hdx hne
  have hup : Same H1 (upd (upd H1 dx (.own x)) x (.ins (T.ad c) dx [])) := fun b o e => by
    rw [upd_ne (ne_of_none e hx), upd_ne (ne_of_none e hdx)]
    exact e
  have hnone : ∀ q, upd (upd H1 dx (.own x)) x (.ins (T.ad c) dx []) q = none → H1 q = none := fun q hq => hup.free hq
  have fx : F1 x = none := sm.free hx
  refine ⟨?_, F1, x, vs, .i c [], .ins (T.ad c) dx [], xs, rfl, sm.trans hup, fx, upd_same, ⟨rfl, rfl, .nil⟩, rvs, ?_⟩
  · show vs.length + 1 = np
    rw [← rvs.length]
    exact Classical.byContradiction fun hne => by
      unfold mk at h
      rw [hnp _ xs hne] at h
      exact h
  · unfold mk at h
    cases hm : m (.i c []) xs with
    | bot => rw [hm] at h; exact h
    | rse c' fs =>
      rw [hm] at h
      intro cls dx' F' H' g xr
      refine h cls dx' F' H' ⟨g.ff, g.fh, fun p u hp => g.hh p u (ne_of_none hp hx) (hup p u hp), fun p hp => ?_⟩ xr
      rcases g.nw p hp with z | z | z
      · exact .inl z
      · exact .inr (hnone p z)
      · subst z
        exact .inr hx
    | ret d o' =>
      rw [hm] at h
      cases d with
      | non =>
        cases o' with
        | l ys => exact h.elim
        | d kvs => exact h.elim
        | i c' fs =>
          dsimp only at h
          by_cases hnm : c' = c ∧ fs.map (·.1) = T.nm c
          rotate_left
          · rw [if_neg hnm] at h
            exact h.elim
          rw [if_pos hnm] at h
          obtain ⟨rfl, hnm⟩ := hnm
          intro v F' H' ho' g hx' ro' rv
          simp only [Rep] at rv
          refine ⟨rv, ?_⟩
          cases ho' with
          | ins C dx' gs =>
            obtain ⟨rfl, r1, r2⟩ := ro'
            have sf : Same F' (upd F' x (.ins (T.ad c') dx' gs)) := Same.new g.fa
            refine h (.ref x) (upd F' x (.ins (T.ad c') dx' gs)) H' ⟨g.ff.trans sf, fun p u hp => ?_, fun p u hp => g.hh p u (ne_of_none hp hx) (hup p u hp), fun p hp => ?_⟩ ?_
            · by_cases z : p = x
              · subst z
                rw [upd_same] at hp
                cases hp
                exact hx'
              · rw [upd_ne z] at hp
                exact g.fh p u hp
            · by_cases z : p = x
              · subst z
                exact .inr hx
              · rw [upd_ne z] at hp
                rcases g.nw p hp with y | y
                · exact .inl y
                · exact .inr (hnone p y)
            · simp only [Rep]
              have eg : gs = (T.nm c').zip (gs.map (·.2)) := by
                rw [← hnm, ← r1]
                exact zip_of_map gs
              refine ⟨x, dx', gs.map (·.2), rfl, ?_, ?_, Reps.mono sf r2⟩
              · rw [upd_same, ← eg]
              · rw [← hnm, ← r1]
                simp
          | _ => exact ro'.elim
      | _ => exact h.elim
theorem passK {X : Cx} {E : XK} (tk : L2N.Takes X (WK E)) : Passes (L2N.CX X.prog X.w) X E := L2N.passes_call tk fun _ _ _ _ h => h
/-- C(..): dd the defaults that fill up -/
theorem sE_make {c : Nat} {C fI : Addr} {fd : FuncData} {m : O → List D → FQ} {dd : List D} {dvs : List V} {ds : List Value} (M : Mk X.K C fI) (F : FnOk X.prog X.w X.K X.mg X.base (L2N.CX X.prog X.w) k fI fd ps (spQ T ps.length m)) (hC : T.ad c = C) (hr : Room (k + 1) X.A) (hg : Gl X x) (hm : X.mg x = some (.ref C)) (hb : Binds X.K fd ps ds) (hd : Vals dvs ds)
    (hdd : ∀ F, Reps T F dd dvs) (hnp : ∀ o ds, ds.length + 1 ≠ ps.length → m o ds = .bot) (tk : L2N.Takes X (WK E)) (ha : SA X T (WK E) (e :: es) fr)
    (hdb : (x == ("__debug__" : Str)) = false := by decide) (he : starEach (e :: es) X.env = (false, eval e X.env) :: starEach es X.env := by rfl) (hpl : (backTo pos (starEach es X.env)).any (·.1) = false := by rfl) :
    SE X T (WK E) (.Call (.Name x p) (e :: es) [] pos) (EV.call (fun xs => mk c (T.nm c) m (xs ++ dd)) fr) :=
  impE (pe_make M F hr hg hm hb hd (passK tk) ha hdb he hpl) fun σ H Q ⟨F0, B0, A, F, ε, rel, pp⟩ =>
  ⟨F0, B0, A, F, ε, rel, (post_bind pp).imp fun xs ε1 F1 H1 s1 rel1 p1 vs rvs => by
    subst hC
    refine mk_sp hnp rel1.fh (rvs.append (hdd F1)) ?_
    dsimp only at p1
    cases hm : mk c (T.nm c) m (xs ++ dd) with
    | bot => rw [hm] at p1; exact p1
    | ret d => rw [hm] at p1; exact fun v F' H' g rv => p1 F' H' g.ff (rel1.grow g) v rv
    | rto o =>
      unfold mk at hm
      split at hm
      · split at hm <;> cases hm
      · cases hm
      · cases hm
    | rse c fs => rw [hm] at p1; exact fun cls dx F' H' g xr => p1 F' H' cls dx g.ff (rel1.grow g) xr⟩
end
end EV
set_option maxRecDepth 100000
/-! EvB: the built-in operators and functions. -/
namespace EV
open PySem L2
section
variable {X : Cx} {T : Tb} {W : WX}
/-! ### what a value is -/
theorem rep_int {F : Hp} {i : Int} {v : V} : Rep T F (.int i) v ↔ v = .int i := by simp only [Rep]
theorem rep_str {F : Hp} {i : Str} {v : V} : Rep T F (.str i) v ↔ v = .str i := by simp only [Rep]
theorem rep_bl {F : Hp} {i : Bool} {v : V} : Rep T F (.bl i) v ↔ v = .bl i := by simp only [Rep]
theorem rep_non {F : Hp} {v : V} : Rep T F .non v ↔ v = .non := by simp only [Rep]
theorem rep_lst {F : Hp} {xs : List D} {v : V} : Rep T F (.lst xs) v ↔ ∃ a vs, v = .ref a ∧ F a = some (.lst vs) ∧ Reps T F xs vs := by simp only [Rep]
theorem rep_tup {F : Hp} {xs : List D} {v : V} : Rep T F (.tup xs) v ↔ ∃ a vs, v = .ref a ∧ F a = some (.tup vs) ∧ Reps T F xs vs := by simp only [Rep]
theorem rep_ins {F : Hp} {c : Nat} {fs : List D} {v : V} : Rep T F (.ins c fs) v ↔ ∃ a dx vs, v = .ref a ∧ F a = some (.ins (T.ad c) dx ((T.nm c).zip vs)) ∧ vs.length = (T.nm c).length ∧ Reps T F fs vs := by simp only [Rep]
theorem rep_exc {F : Hp} {c : Nat} {fs : List D} {v : V} : Rep T F (.exc c fs) v ↔ ∃ a oe d vs, v = .ref a ∧ T.xh = some (a, oe) ∧ oe.cls = T.xc c ∧ oe.dict = some d ∧ (∃ ws, oe.data = .fields ws) ∧ F d = some (.xd ((T.xn c).zip vs)) ∧ vs.length = (T.xn c).length ∧ Reps T F fs vs := by simp only [Rep]
theorem rep_scr {F : Hp} {ns : List Int} {v : V} : Rep T F (.scr ns) v ↔ ∃ a, v = .ref a ∧ SqL T.K F a (ns.map V.int) := by simp only [Rep]
/-- ints in, a flat value out -/
theorem opS_I {C : Int → Int → Prop} {g : Int → Int → V} {f : D → D → Option D} {h : Int → Int → D} (hf : ∀ x y z, f x y = some z → ∃ i j, x = .int i ∧ y = .int j ∧ C i j ∧ z = h i j) (hg : ∀ F i j, Rep T F (h i j) (g i j)) : OpS T (rI C g) f := by
  intro F H x y z v u Q rx ry s e k
  obtain ⟨i, j, rfl, rfl, c, rfl⟩ := hf x y z e
  exact ⟨i, j, rep_int.mp rx, rep_int.mp ry, c, k _ F H (Grow.refl s) (hg F i j)⟩
theorem opS_I0 {g : Int → Int → V} {f : D → D → Option D} {h : Int → Int → D} (hf : ∀ x y z, f x y = some z → ∃ i j, x = .int i ∧ y = .int j ∧ z = h i j) (hg : ∀ F i j, Rep T F (h i j) (g i j)) : OpS T (rI0 g) f := by
  intro F H x y z v u Q rx ry s e k
  obtain ⟨i, j, rfl, rfl, rfl⟩ := hf x y z e
  exact ⟨i, j, rep_int.mp rx, rep_int.mp ry, k _ F H (Grow.refl s) (hg F i j)⟩
/-- a new list -/
theorem new_lst {F H : Hp} {xs : List D} {vs : List V} {p : Addr} (s : Same F H) (hp : H p = none) (r : Reps T F xs vs) : Grow F H (upd F p (.lst vs)) (upd H p (.lst vs)) ∧ Rep T (upd F p (.lst vs)) (.lst xs) (.ref p) :=
  ⟨Grow.new s hp, rep_lst.mpr ⟨p, vs, rfl, upd_same, r.mono (Same.new (s.free hp))⟩⟩
theorem new_tup {F H : Hp} {xs : List D} {vs : List V} {p : Addr} (s : Same F H) (hp : H p = none) (r : Reps T F xs vs) : Grow F H (upd F p (.tup vs)) (upd H p (.tup vs)) ∧ Rep T (upd F p (.tup vs)) (.tup xs) (.ref p) :=
  ⟨Grow.new s hp, rep_tup.mpr ⟨p, vs, rfl, upd_same, r.mono (Same.new (s.free hp))⟩⟩
def rAddA (K : PySem.W.Frag) : R2 := fun x y H Q => ((rI0 fun i j => .int (i + j)) x y H Q) ∨ (∃ i j, x = .str i ∧ y = .str j ∧ i.length + j.length ≤ sizeLine ∧ Q (.str (i ++ j)) H) ∨ rCat x y H Q ∨ rCatT K x y H Q
theorem op_addA : OpR X (binaryOp .Add) (rAddA X.K) := op_add.or (op_add_str.or (op_cat.or op_catT))
theorem opS_add {K : PySem.W.Frag} : OpS T (rAddA K) dAdd := by
  intro F H x y z v u Q rx ry s e k
  unfold dAdd at e
  split at e
  · rename_i i j
    cases e
    exact .inl ⟨i, j, rep_int.mp rx, rep_int.mp ry, k _ F H (Grow.refl s) (rep_int.mpr rfl)⟩
  · rename_i i j
    split at e
    · rename_i h
      cases e
      exact .inr (.inl ⟨i, j, rep_str.mp rx, rep_str.mp ry, line_le h, k _ F H (Grow.refl s) (rep_str.mpr rfl)⟩)
    · cases e
  · rename_i xs ys
    split at e
    · rename_i h
      cases e
      obtain ⟨a, vs, rfl, h1, r1⟩ := rep_lst.mp rx
      obtain ⟨b, us, rfl, h2, r2⟩ := rep_lst.mp ry
      refine .inr (.inr (.inl ⟨a, b, vs, us, rfl, rfl, s _ _ h1, s _ _ h2, line_le (by rw [← r1.length, ← r2.length]; exact h), fun p hp => ?_⟩))
      obtain ⟨g, r⟩ := new_lst s hp (r1.append r2)
      exact k _ _ _ g r
    · cases e
  · rename_i x0 xs y0 ys
    split at e
    · rename_i h
      cases e
      obtain ⟨a, vs, rfl, h1, r1⟩ := rep_tup.mp rx
      obtain ⟨b, us, rfl, h2, r2⟩ := rep_tup.mp ry
      have l1 := r1.length
      have l2 := r2.length
      simp only [List.length_cons] at l1 l2
      have n1 : vs ≠ [] := by intro z; subst z; simp at l1
      have n2 : us ≠ [] := by intro z; subst z; simp at l2
      refine .inr (.inr (.inr ⟨a, b, vs, us, rfl, rfl, SqT.of (s _ _ h1), SqT.of (s _ _ h2), n1, line_le (by omega), fun z => absurd z n2, fun _ p hp => ?_⟩))
      obtain ⟨g, r⟩ := new_tup s hp (r1.append r2)
      exact k _ _ _ g r
    · cases e
  · cases e
theorem opS_sub : OpS T (rI0 fun i j => .int (i - j)) dSub := opS_I0 (h := fun i j => .int (i - j)) (fun x y z e => by
  unfold dSub at e
  split at e
  · cases e; exact ⟨_, _, rfl, rfl, rfl⟩
  · cases e) fun F i j => rep_int.mpr rfl
theorem intBits_le (x : Int) : Builtin.Int.intBits x ≤ bits x := by
  unfold Builtin.Int.intBits bits
  split <;> omega
def rMulA : R2 := fun x y H Q => ((rI CMulX fun i j => .int (i * j)) x y H Q) ∨ rRep x y H Q
theorem op_mulA : OpR X (binaryOp .Mult) rMulA := op_mulX.or op_rep
theorem opS_mul : OpS T rMulA dMul := by
  intro F H x y z v u Q rx ry s e k
  unfold dMul at e
  split at e
  · rename_i i j
    split at e
    · rename_i h
      cases e
      refine .inl ⟨i, j, rep_int.mp rx, rep_int.mp ry, ?_, k _ F H (Grow.refl s) (rep_int.mpr rfl)⟩
      have h' : bits i + bits j ≤ 134217728 := by simpa [wide] using h
      have h1 := intBits_le i
      have h2 := intBits_le j
      unfold CMulX
      omega
    · cases e
  · rename_i xs n
    split at e
    · rename_i h
      cases e
      obtain ⟨a, vs, rfl, h1, r1⟩ := rep_lst.mp rx
      refine .inr ⟨a, n, vs, rfl, rep_int.mp ry, s _ _ h1, h.1, h.2.1, line_le (by rw [← r1.length]; exact h.2.2), fun p hp => ?_⟩
      obtain ⟨g, r⟩ := new_lst s hp (r1.flat n.toNat)
      exact k _ _ _ g r
    · cases e
  · cases e
theorem opS_mod : OpS T (rI (fun _ j => j ≠ 0) fun i j => .int (i.fmod j)) dMod := opS_I (h := fun i j => .int (i.fmod j)) (fun x y z e => by
  unfold dMod at e
  split at e
  · split at e
    · rename_i h; cases e; exact ⟨_, _, rfl, rfl, h, rfl⟩
    · cases e
  · cases e) fun F i j => rep_int.mpr rfl
def CDivA (_ j : Int) : Prop := j ≠ 0 ∧ j.natAbs.log2 < 9000
theorem op_divA : OpR X (binaryOp .FloorDiv) (rI CDivA fun i j => .int (i.fdiv j)) := opI fun _ _ _ _ _ _ _ hc q => PyProof.Rows.floordiv_int hc.1 q (.inl (PyProof.noPylong_of_log2 hc.2))
theorem iop_divA : OpR X (inplaceOp .FloorDiv) (rI CDivA fun i j => .int (i.fdiv j)) := opI fun _ _ _ _ _ _ _ hc q => PyProof.Rows.ifloordiv_int hc.1 q (.inl (PyProof.noPylong_of_log2 hc.2))
theorem opS_div : OpS T (rI CDivA fun i j => .int (i.fdiv j)) dDiv := opS_I (h := fun i j => .int (i.fdiv j)) (fun x y z e => by
  unfold dDiv at e
  split at e
  · split at e
    · rename_i h; cases e; exact ⟨_, _, rfl, rfl, h, rfl⟩
    · cases e
  · cases e) fun F i j => rep_int.mpr rfl
def CPowA (i j : Int) : Prop := 0 ≤ j ∧ (bits i : Int) * j ≤ 2 ^ 27
theorem op_powA : OpR X (binaryOp .Pow) (rI CPowA fun i j => .int (i ^ j.toNat)) := opI fun i j _ _ _ _ _ hc q => PyProof.Rows.pow_int hc.1 (Int.le_trans (Int.mul_le_mul_of_nonneg_right (by have := intBits_le i; omega) hc.1) hc.2) q
theorem opS_pow : OpS T (rI CPowA fun i j => .int (i ^ j.toNat)) dPow := opS_I (h := fun i j => .int (i ^ j.toNat)) (fun x y z e => by
  unfold dPow at e
  split at e
  · split at e
    · rename_i h; cases e; exact ⟨_, _, rfl, rfl, h, rfl⟩
    · cases e
  · cases e) fun F i j => rep_int.mpr rfl
theorem opS_and1 : OpS T (fun x y H Q => ∃ n : Nat, x = .int (n : Int) ∧ y = .int 1 ∧ Q (.int ((n % 2 : Nat) : Int)) H) dAnd1 := by
  intro F H x y z v u Q rx ry s e k
  unfold dAnd1 at e
  split at e
  · rename_i n
    cases e
    exact ⟨n, rep_int.mp rx, rep_int.mp ry, k _ F H (Grow.refl s) (rep_int.mpr rfl)⟩
  · cases e
theorem opS_lt : OpS T (rI0 fun i j => .bl (decide (i < j))) dLt := opS_I0 (h := fun i j => .bl (decide (i < j))) (fun x y z e => by
  unfold dLt at e
  split at e
  · cases e; exact ⟨_, _, rfl, rfl, rfl⟩
  · cases e) fun F i j => rep_bl.mpr rfl
theorem opS_le : OpS T (rI0 fun i j => .bl (decide (i ≤ j))) dLe := opS_I0 (h := fun i j => .bl (decide (i ≤ j))) (fun x y z e => by
  unfold dLe at e
  split at e
  · cases e; exact ⟨_, _, rfl, rfl, rfl⟩
  · cases e) fun F i j => rep_bl.mpr rfl
theorem opS_gt : OpS T (rI0 fun i j => .bl (decide (j < i))) dGt := opS_I0 (h := fun i j => .bl (decide (j < i))) (fun x y z e => by
  unfold dGt at e
  split at e
  · cases e; exact ⟨_, _, rfl, rfl, rfl⟩
  · cases e) fun F i j => rep_bl.mpr rfl
theorem opS_ge : OpS T (rI0 fun i j => .bl (decide (j ≤ i))) dGe := opS_I0 (h := fun i j => .bl (decide (j ≤ i))) (fun x y z e => by
  unfold dGe at e
  split at e
  · cases e; exact ⟨_, _, rfl, rfl, rfl⟩
  · cases e) fun F i j => rep_bl.mpr rfl
theorem unS_neg : UnS T (rU fun i => .int (-i)) dNeg := by
  intro F H x z v Q rx s e k
  unfold dNeg at e
  split at e
  · cases e
    exact ⟨_, rep_int.mp rx, k _ F H (Grow.refl s) (rep_int.mpr rfl)⟩
  · cases e
theorem opS_isN : OpS T (fun x y H Q => y = .non ∧ Q (.bl (decide (x = .non))) H) dIsN := by
  intro F H x y z v u Q rx ry s e k
  unfold dIsN at e
  split at e
  · cases e
    refine ⟨rep_non.mp ry, k _ F H (Grow.refl s) ?_⟩
    cases x with
    | non => rw [rep_non.mp rx]; exact rep_bl.mpr (by simp)
    | bl b => rw [rep_bl.mp rx]; exact rep_bl.mpr (by simp)
    | int b => rw [rep_int.mp rx]; exact rep_bl.mpr (by simp)
    | str b => rw [rep_str.mp rx]; exact rep_bl.mpr (by simp)
    | lst b => obtain ⟨a, vs, rfl, _⟩ := rep_lst.mp rx; exact rep_bl.mpr (by simp)
    | tup b => obtain ⟨a, vs, rfl, _⟩ := rep_tup.mp rx; exact rep_bl.mpr (by simp)
    | ins c b => obtain ⟨a, _, vs, rfl, _⟩ := rep_ins.mp rx; exact rep_bl.mpr (by simp)
    | scr b => obtain ⟨a, rfl, _⟩ := rep_scr.mp rx; exact rep_bl.mpr (by simp)
    | exc c b => obtain ⟨a, _, _, _, rfl, _⟩ := rep_exc.mp rx; exact rep_bl.mpr (by simp)
  · cases e
theorem opS_notN : OpS T (fun x y H Q => y = .non ∧ Q (.bl (!decide (x = .non))) H) dNotN := by
  intro F H x y z v u Q rx ry s e k
  unfold dNotN at e
  split at e
  · cases e
    refine ⟨rep_non.mp ry, k _ F H (Grow.refl s) ?_⟩
    cases x with
    | non => rw [rep_non.mp rx]; exact rep_bl.mpr (by simp)
    | bl b => rw [rep_bl.mp rx]; exact rep_bl.mpr (by simp)
    | int b => rw [rep_int.mp rx]; exact rep_bl.mpr (by simp)
    | str b => rw [rep_str.mp rx]; exact rep_bl.mpr (by simp)
    | lst b => obtain ⟨a, vs, rfl, _⟩ := rep_lst.mp rx; exact rep_bl.mpr (by simp)
    | tup b => obtain ⟨a, vs, rfl, _⟩ := rep_tup.mp rx; exact rep_bl.mpr (by simp)
    | ins c b => obtain ⟨a, _, vs, rfl, _⟩ := rep_ins.mp rx; exact rep_bl.mpr (by simp)
    | scr b => obtain ⟨a, rfl, _⟩ := rep_scr.mp rx; exact rep_bl.mpr (by simp)
    | exc c b => obtain ⟨a, _, _, _, rfl, _⟩ := rep_exc.mp rx; exact rep_bl.mpr (by simp)
  · cases e

/-! ### == -/
mutual
theorem dp_of {K : PySem.W.Frag} {F H : Hp} (s : Same F H) : ∀ {d : D} {v : V}, Rep T F d v → (toP d).canLay0 = true → Dp K H v (toP d)
  | .non, v, r, _ => by rw [rep_non.mp r]; exact .non
  | .bl b, v, r, _ => by rw [rep_bl.mp r]; exact .bl b
  | .int b, v, r, _ => by rw [rep_int.mp r]; exact .int b
  | .str b, v, r, _ => by rw [rep_str.mp r]; exact .str b
  | .lst xs, v, r, h => by
    obtain ⟨a, vs, rfl, h1, r1⟩ := rep_lst.mp r
    simp only [toP, PyData.canLay0] at h ⊢
    exact .lst (SqL.of (s _ _ h1)) (dps_of s r1 h)
  | .tup xs, v, r, h => by
    obtain ⟨a, vs, rfl, h1, r1⟩ := rep_tup.mp r
    simp only [toP, PyData.canLay0] at h ⊢
    exact .tup (SqT.of (s _ _ h1)) (dps_of s r1 h)
  | .ins c fs, v, r, h => by simp [toP, PyData.canLay0] at h
  | .scr ns, v, r, h => by simp [toP, PyData.canLay0] at h
  | .exc c fs, v, r, h => by simp [toP, PyData.canLay0] at h
theorem dps_of {K : PySem.W.Frag} {F H : Hp} (s : Same F H) : ∀ {ds : List D} {vs : List V}, Reps T F ds vs → PyData.canLayAll0 (toPs ds) = true → DpAll K H vs (toPs ds)
  | [], vs, r, _ => by rw [reps_nil.mp r]; exact .nil
  | d :: ds, vs, r, h => by
    obtain ⟨v, us, rfl, r1, r2⟩ := reps_cons.mp r
    simp only [toPs, PyData.canLayAll0, Bool.and_eq_true] at h ⊢
    exact .cons (dp_of s r1 h.1) (dps_of s r2 h.2)
end
theorem shp_ok {d : PyData} (h : shp d = true) : SeqAt.shaped d = true ∧ d.canLay0 = true := ⟨h, (Bool.and_eq_true_iff.mp h).1⟩
theorem opS_eq {K : PySem.W.Frag} : OpS T (rEqD K) dEq := by
  intro F H x y z v u Q rx ry s e k
  unfold dEq at e
  split at e
  · rename_i h
    cases e
    exact ⟨_, _, dp_of s rx (shp_ok h.1).2, dp_of s ry (shp_ok h.2).2, (shp_ok h.1).1, (shp_ok h.2).1, k _ F H (Grow.refl s) (rep_bl.mpr rfl)⟩
  · cases e
theorem opS_ne {K : PySem.W.Frag} : OpS T (rNeD K) dNe := by
  intro F H x y z v u Q rx ry s e k
  unfold dNe at e
  split at e
  · rename_i h
    cases e
    exact ⟨_, _, dp_of s rx (shp_ok h.1).2, dp_of s ry (shp_ok h.2).2, (shp_ok h.1).1, (shp_ok h.2).1, k _ F H (Grow.refl s) (rep_bl.mpr rfl)⟩
  · cases e
theorem opS_in {K : PySem.W.Frag} : OpS T (rInD K) dIn := by
  intro F H x y z v u Q rx ry s e k
  unfold dIn at e
  split at e
  · split at e
    · rename_i ys h
      cases e
      exact ⟨_, _, dp_of s rx (shp_ok h.1).2, dp_of s ry (shp_ok h.2).2, (shp_ok h.1).1, (shp_ok h.2).1, k _ F H (Grow.refl s) (rep_bl.mpr rfl)⟩
    · cases e
  · cases e
theorem opS_notIn {K : PySem.W.Frag} : OpS T (rNotInD K) dNotIn := by
  intro F H x y z v u Q rx ry s e k
  unfold dNotIn at e
  split at e
  · split at e
    · rename_i ys h
      cases e
      exact ⟨_, _, dp_of s rx (shp_ok h.1).2, dp_of s ry (shp_ok h.2).2, (shp_ok h.1).1, (shp_ok h.2).1, k _ F H (Grow.refl s) (rep_bl.mpr rfl)⟩
    · cases e
  · cases e

/-! ### subscripts -/
theorem getN_map {α β : Type} {f : α → β} {xs : List α} {i : Int} {y : β} (h : (getN xs i).map f = some y) : getN (xs.map f) i = some y := by
  rw [getN_def] at h
  rw [getN_def]
  rw [List.length_map]
  split
  · rename_i h0
    rw [if_pos h0] at h
    rw [List.getElem?_map]
    exact h
  · rename_i h0
    rw [if_neg h0] at h
    split
    · rename_i h1
      rw [if_pos h1] at h
      rw [List.getElem?_map]
      exact h
    · rename_i h1
      rw [if_neg h1] at h
      cases h
theorem opS_ix {K : PySem.W.Frag} (hK : T.K = K) : OpS T (rIx K) dIx := by
  subst hK
  intro F H x y z v u Q rx ry s e k
  unfold dIx at e
  split at e
  · rename_i xs i
    obtain ⟨a, vs, rfl, h1, r1⟩ := rep_lst.mp rx
    obtain ⟨w, e1, rw⟩ := getN_reps r1 e
    exact .inl ⟨a, vs, i, w, rfl, rep_int.mp ry, SqL.of (s _ _ h1), getN_atI e1, k _ F H (Grow.refl s) rw⟩
  · rename_i xs i
    obtain ⟨a, vs, rfl, h1, r1⟩ := rep_tup.mp rx
    obtain ⟨w, e1, rw⟩ := getN_reps r1 e
    exact .inr (.inl ⟨a, vs, i, w, rfl, rep_int.mp ry, SqT.of (s _ _ h1), getN_atI e1, k _ F H (Grow.refl s) rw⟩)
  · rename_i ns i
    obtain ⟨a, rfl, h1⟩ := rep_scr.mp rx
    cases hg : getN ns i with
    | none => rw [hg] at e; cases e
    | some n =>
      rw [hg] at e
      cases e
      exact .inl ⟨a, _, i, .int n, rfl, rep_int.mp ry, s.seq h1, getN_atI (getN_map (by rw [hg]; rfl)), k _ F H (Grow.refl s) (rep_int.mpr rfl)⟩
  · rename_i t i
    split at e
    · rename_i hl
      cases hg : getN t.cps.toList i with
      | none => rw [hg] at e; cases e
      | some n =>
        rw [hg] at e
        cases e
        exact .inr (.inr ⟨t, i, n, rep_str.mp rx, rep_int.mp ry, line_le hl, getN_atI hg, k _ F H (Grow.refl s) (rep_str.mpr rfl)⟩)
    · cases e
  · cases e
/-- x[e] at a name -/
theorem sE_ixN {i : Nat} {a b : Expr} {fb : FE} {pos : Pos} (hK : T.K = X.K) (ha : PE X a (tVar i)) (hb : SE X T W b fb) (hp : PlainIx b) : SE X T W (.Subscript a b pos) (EV.ixN i fb) := impE (pe_ix ix_seq ha hb hp) fun σ H Q ⟨F0, B0, A, F, ε, rel, p⟩ => by
  unfold EV.ixN at p
  split at p
  · rename_i hh
    obtain ⟨v, ev⟩ := has_get rel hh
    refine ⟨v, ev, F0, B0, A, F, ε, rel, (post_bind p).imp fun k ε1 F1 H1 s1 rel1 p1 kv rk => ?_⟩
    split at p1
    · rename_i kk xs he
      split at p1
      · rename_i n
        obtain ⟨z, ez, p2⟩ := post_of p1
        obtain ⟨a', ho, e1, fa, ba, ka, ha, ro⟩ := rel1.sl i _ he
        have q : v = .ref a' := by rw [ev] at e1; cases e1; rfl
        cases ho with
        | lst vs =>
          obtain ⟨w, ew, rw⟩ := getN_reps ro ez
          exact .inl ⟨a', vs, n, w, q, rep_int.mp rk, SqL.of ha, getN_atI ew, p2 F1 H1 (.refl _) rel1 w rw⟩
        | _ => exact ro.elim
      · exact p1.elim
    · rename_i d he
      obtain ⟨z, ez, p2⟩ := post_of p1
      obtain ⟨u, e1, r⟩ := rel1.sl i _ he
      have q : v = u := by rw [ev] at e1; cases e1; rfl
      subst q
      exact opS_ix hK F1 H1 d k z v kv Q r rk rel1.fh ez fun w F' H' gr rw => p2 F' H' gr.ff (rel1.grow gr) w rw
    · exact p1.elim
  · exact p.elim
end
end EV
set_option maxRecDepth 100000
/-! EvB2: built-in functions; new lists; slices. -/
namespace EV
open PySem L2
section
variable {X : Cx} {T : Tb} {W : WX} {pos : Pos} {a b e : Expr} {fa fb fe : FE} {fr : FA} {es : List Expr}
theorem reps_one {F : Hp} {d : D} {vs : List V} (h : Reps T F [d] vs) : ∃ v, vs = [v] ∧ Rep T F d v := by
  obtain ⟨v, us, rfl, r, r2⟩ := reps_cons.mp h
  cases reps_nil.mp r2
  exact ⟨v, rfl, r⟩
theorem reps_two {F : Hp} {d e : D} {vs : List V} (h : Reps T F [d, e] vs) : ∃ v u, vs = [v, u] ∧ Rep T F d v ∧ Rep T F e u := by
  obtain ⟨v, us, rfl, r, r2⟩ := reps_cons.mp h
  obtain ⟨u, rfl, r3⟩ := reps_one r2
  exact ⟨v, u, rfl, r, r3⟩
theorem caS_len {K : PySem.W.Frag} (hK : T.K = K) : CaS T (fun xs H Q => ∃ x n, xs = [x] ∧ LenV K x H n ∧ Q (.int n) H) bLen := by
  intro F H xs z vs Q r s e k
  unfold bLen at e
  simp only [len_eq] at e
  split at e
  · cases e
    obtain ⟨v, rfl, rv⟩ := reps_one r
    obtain ⟨a, us, rfl, h1, r1⟩ := rep_lst.mp rv
    exact ⟨.ref a, _, rfl, .inl ⟨us, SqL.of (s _ _ h1), r1.length⟩, k _ F H (Grow.refl s) (rep_int.mpr rfl)⟩
  · cases e
    obtain ⟨v, rfl, rv⟩ := reps_one r
    obtain ⟨a, us, rfl, h1, r1⟩ := rep_tup.mp rv
    exact ⟨.ref a, _, rfl, .inr ⟨us, SqT.of (s _ _ h1), r1.length⟩, k _ F H (Grow.refl s) (rep_int.mpr rfl)⟩
  · rename_i ns
    cases e
    obtain ⟨v, rfl, rv⟩ := reps_one r
    obtain ⟨a, rfl, h1⟩ := rep_scr.mp rv
    rw [hK] at h1
    exact ⟨.ref a, ns.length, rfl, .inl ⟨_, s.seq h1, by simp⟩, k _ F H (Grow.refl s) (rep_int.mpr rfl)⟩
  · rename_i x
    split at e
    · rename_i hl
      cases e
      obtain ⟨v, rfl, rv⟩ := reps_one r
      exact ⟨v, x.length, rfl, by rw [rep_str.mp rv]; exact ⟨line_le hl, rfl⟩, k _ F H (Grow.refl s) (rep_int.mpr rfl)⟩
    · cases e
  · cases e
theorem caS_abs : CaS T (fun xs H Q => ∃ i, xs = [.int i] ∧ Q (.int (if i < 0 then -i else i)) H) bAbs := by
  intro F H xs z vs Q r s e k
  unfold bAbs at e
  split at e
  · cases e
    obtain ⟨v, rfl, rv⟩ := reps_one r
    rw [rep_int.mp rv]
    exact ⟨_, rfl, k _ F H (Grow.refl s) (rep_int.mpr rfl)⟩
  · cases e
theorem caS_int : CaS T (fun xs H Q => (∃ i, xs = [.int i] ∧ Q (.int i) H) ∨ ∃ k, xs = [.bl k] ∧ Q (.int (if k then 1 else 0)) H) bInt := by
  intro F H xs z vs Q r s e k
  unfold bInt at e
  split at e
  · cases e
    obtain ⟨v, rfl, rv⟩ := reps_one r
    rw [rep_int.mp rv]
    exact .inl ⟨_, rfl, k _ F H (Grow.refl s) (rep_int.mpr rfl)⟩
  · cases e
    obtain ⟨v, rfl, rv⟩ := reps_one r
    rw [rep_bl.mp rv]
    exact .inr ⟨_, rfl, k _ F H (Grow.refl s) (rep_int.mpr rfl)⟩
  · cases e
theorem caS_min : CaS T (fun xs H Q => ∃ i j, xs = [.int i, .int j] ∧ Q (.int (if j < i then j else i)) H) bMin := by
  intro F H xs z vs Q r s e k
  unfold bMin at e
  split at e
  · cases e
    obtain ⟨v, u, rfl, rv, ru⟩ := reps_two r
    rw [rep_int.mp rv, rep_int.mp ru]
    exact ⟨_, _, rfl, k _ F H (Grow.refl s) (rep_int.mpr rfl)⟩
  · cases e
theorem caS_max : CaS T (fun xs H Q => ∃ i j, xs = [.int i, .int j] ∧ Q (.int (if j > i then j else i)) H) bMax := by
  intro F H xs z vs Q r s e k
  unfold bMax at e
  split at e
  · cases e
    obtain ⟨v, u, rfl, rv, ru⟩ := reps_two r
    rw [rep_int.mp rv, rep_int.mp ru]
    exact ⟨_, _, rfl, k _ F H (Grow.refl s) (rep_int.mpr rfl)⟩
  · cases e
theorem caS_gcd : CaS T rGcd bGcd := by
  intro F H xs z vs Q r s e k
  unfold bGcd at e
  split at e
  · cases e
    obtain ⟨v, u, rfl, rv, ru⟩ := reps_two r
    rw [rep_int.mp rv, rep_int.mp ru]
    exact ⟨_, _, rfl, k _ F H (Grow.refl s) (rep_int.mpr rfl)⟩
  · cases e
def rLcm : List V → Hp → VK → Prop := fun vs H Q => ∃ a b : Int, vs = [.int a, .int b] ∧ (a.natAbs.log2 < 13000 ∧ b.natAbs.log2 < 13000) ∧ Q (.int ((Nat.lcm a.natAbs b.natAbs : Nat) : Int)) H
theorem mono_log2 {a b : Nat} (h : a ≤ b) : a.log2 ≤ b.log2 := by
  by_cases ha : a = 0
  · subst ha
    simp
  · exact (Nat.le_log2 (by omega)).mpr (Nat.le_trans (Nat.log2_self_le ha) h)
theorem lcm_log2 {a b : Nat} (h1 : a.log2 < 13000) (h2 : b.log2 < 13000) : (Nat.lcm a b).log2 < 26001 := by
  have e : bitsLine = 134217728 := by decide
  have l1 : a < 2 ^ 13000 := by
    by_cases ha : a = 0
    · subst ha; exact Nat.two_pow_pos _
    · exact (Nat.log2_lt ha).mp h1
  have l2 : b < 2 ^ 13000 := by
    by_cases ha : b = 0
    · subst ha; exact Nat.two_pow_pos _
    · exact (Nat.log2_lt ha).mp h2
  have l3 : Nat.lcm a b ≤ a * b := Nat.div_le_self _ _
  have l4 : a * b < 2 ^ 26000 := by
    rw [show 26000 = 13000 + 13000 from rfl, Nat.pow_add]
    exact Nat.mul_lt_mul'' l1 l2
  by_cases hz : Nat.lcm a b = 0
  · rw [hz]; simp
  · exact Nat.lt_succ_of_lt ((Nat.log2_lt hz).mpr (Nat.lt_of_le_of_lt l3 l4))
theorem cr_lcm : CallR X (.builtin "math.lcm") rLcm := by
  intro pins s σ H vs us Q I r h
  obtain ⟨a, b, rfl, ⟨h1, h2⟩, q⟩ := h
  obtain ⟨t, u, rfl⟩ := Vals.int2 r
  have e : bitsLine = 134217728 := by decide
  have m1 : (max 1 a.natAbs).log2 ≤ a.natAbs.log2 := by
    by_cases hz : a.natAbs = 0
    · rw [hz]; decide
    · rw [Nat.max_eq_right (by omega)]; exact Nat.le_refl _
  have m2 : (max a.natAbs b.natAbs).log2 < 13000 := by
    rcases Nat.le_total a.natAbs b.natAbs with z | z
    · rw [Nat.max_eq_right z]; exact h2
    · rw [Nat.max_eq_left z]; exact h1
  have l1 : Nat.lcm 1 a.natAbs = a.natAbs := Nat.lcm_one_left _
  have run := PySem.W.mg_run_lcm a t b u (by omega) (by omega) (by
    rw [l1]
    show (Int.natAbs _).log2 < _
    rw [Int.natAbs_natCast]
    have := lcm_log2 h1 h2
    omega)
  rw [l1] at run
  exact PySem.call_function_meets PySem.W.MGF.kind_lcm PySem.W.MGF.plain_lcm PySem.W.MGF.entry_lcm (PySem.W.MGF.args_lcm _ _) run.meets ⟨.int _, H, I.tok _, ⟨_, rfl⟩, q⟩
theorem caS_lcm : CaS T rLcm bLcm := by
  intro F H xs z vs Q r s e k
  unfold bLcm at e
  split at e
  · split at e
    · rename_i h
      cases e
      obtain ⟨v, u, rfl, rv, ru⟩ := reps_two r
      rw [rep_int.mp rv, rep_int.mp ru]
      exact ⟨_, _, rfl, h, k _ F H (Grow.refl s) (rep_int.mpr rfl)⟩
    · cases e
  · cases e
theorem ints_reps : ∀ {xs : List D} {ns : List Int} {F : Hp} {vs : List V}, intsD xs = some ns → Reps T F xs vs → vs = ns.map V.int
  | [], ns, F, vs, h, r => by
    cases h
    rw [reps_nil.mp r]
    rfl
  | d :: xs, ns, F, vs, h, r => by
    obtain ⟨v, us, rfl, r1, r2⟩ := reps_cons.mp r
    cases d with
    | int i =>
      simp only [intsD] at h
      cases hx : intsD xs with
      | none => rw [hx] at h; cases h
      | some ms =>
        rw [hx] at h
        cases h
        rw [rep_int.mp r1, ints_reps hx r2]
        rfl
    | _ => simp [intsD] at h
theorem caS_sum {K : PySem.W.Frag} : CaS T (rSum K) bSum := by
  intro F H xs z vs Q r s e k
  unfold bSum at e
  split at e
  · rename_i ys
    obtain ⟨v, rfl, rv⟩ := reps_one r
    obtain ⟨a, us, rfl, h1, r1⟩ := rep_lst.mp rv
    cases hx : intsD ys with
    | none => rw [hx] at e; cases e
    | some ms =>
      rw [hx] at e
      cases e
      have := ints_reps hx r1
      subst this
      exact ⟨a, ms, rfl, SqL.of (s _ _ h1), k _ F H (Grow.refl s) (rep_int.mpr rfl)⟩
  · cases e
theorem caS_tuple {K : PySem.W.Frag} : CaS T (fun xs H Q => ∃ p ys, xs = [.ref p] ∧ ((SqL K H p ys ∧ ∀ l, H l = none → Q (.ref l) (upd H l (.tup ys))) ∨ (SqT K H p ys ∧ Q (.ref p) H))) bTuple := by
  intro F H xs z vs Q r s e k
  unfold bTuple at e
  split at e
  · cases e
    obtain ⟨v, rfl, rv⟩ := reps_one r
    obtain ⟨a, us, rfl, h1, r1⟩ := rep_lst.mp rv
    exact ⟨a, us, rfl, .inl ⟨SqL.of (s _ _ h1), fun l hl => by
      obtain ⟨g, r⟩ := new_tup s hl r1
      exact k _ _ _ g r⟩⟩
  · cases e
    obtain ⟨v, rfl, rv⟩ := reps_one r
    obtain ⟨a, us, rfl, h1, r1⟩ := rep_tup.mp rv
    exact ⟨a, us, rfl, .inr ⟨SqT.of (s _ _ h1), k _ F H (Grow.refl s) (rep_tup.mpr ⟨a, us, rfl, h1, r1⟩)⟩⟩
  · cases e

/-! ### isinstance -/
def tyN : Ty → String
  | .int => "int" | .bool => "bool" | .str => "str" | .list => "list" | .tuple => "tuple"
/-- what isinstance asks of an own class -/
structure IsC (K : PySem.W.Frag) (C : Addr) : Prop where
  cl : Cls K C
  ha : PySem.W.findIn K (.ref C) "__class__" = some (some (.builtin "object.__class__"))
  hn : PySem.W.specialIn K (.builtin "object.__class__") "__get__" = some (some (.builtin "getset_descriptor.__get__"))
  htk : PySem.W.takesIn K (.builtin "object.__class__") = some true
  hm : PySem.W.mroIn K C (.type "object") = some true
  no : ∀ t : Ty, PySem.W.kitOne K (.ref C) (.type (tyN t)) = some false
/-- all own classes that values may have -/
def Alls (K : PySem.W.Frag) (T : Tb) : Prop := ∀ c fs F v, Rep T F (.ins c fs) v → IsC K (T.ad c)
def rIsTy (K : PySem.W.Frag) (t : Ty) : List V → Hp → VK → Prop := fun xs H Q => ∃ x tv b, xs = [x] ∧ TyX K H x tv ∧ PySem.W.kitOne K tv (.type (tyN t)) = some b ∧ Q (.bl b) H
theorem sq_ty {K : PySem.W.Frag} {H : Hp} {a : Addr} {xs : List V} (h : SqL K H a xs) : TyX K H (.ref a) (.type "list") := by
  rcases h with (h | ⟨o, h⟩) | ⟨o, its, n, h1, h2, h3, _⟩
  · exact .base (.lst h)
  · exact .base (.frz h)
  · exact .kList h1 (by first | exact h2 | exact h3)
theorem kit_b {K : PySem.W.Frag} {a b : String} {r : Bool} (h : kitB a b = some r) : PySem.W.kitOne K (.type a) (.type b) = some r := kit_ty h
theorem caS_isTy {K : PySem.W.Frag} {t : Ty} (hK : T.K = K) (al : ∀ c, IsC K (T.ad c)) : CaS T (rIsTy K t) (bIsTy t) := by
  intro F H xs z vs Q r s e k
  unfold bIsTy at e
  split at e
  · rename_i d
    obtain ⟨v, rfl, rv⟩ := reps_one r
    have fin : ∀ b, isTy t d = some b → Q (.bl b) H := fun b hb => by
      rw [hb] at e
      cases e
      exact k _ F H (Grow.refl s) (rep_bl.mpr rfl)
    have ty : ∀ (tv : String), TyX K H v (.type tv) → ∀ b, kitB tv (tyN t) = some b → isTy t d = some b → rIsTy K t [v] H Q := fun tv htv b hb hd => ⟨v, _, b, rfl, htv, kit_ty hb, fin b hd⟩
    cases d with
    | non =>
      rw [rep_non.mp rv] at ty ⊢
      cases t <;> exact ty "NoneType" (.base .non) false (by decide +kernel) rfl
    | bl b =>
      rw [rep_bl.mp rv] at ty ⊢
      cases t
      · exact ty "bool" (.base (.bl b)) true (by decide +kernel) rfl
      · exact ty "bool" (.base (.bl b)) true (by decide +kernel) rfl
      all_goals exact ty "bool" (.base (.bl b)) false (by decide +kernel) rfl
    | int b =>
      rw [rep_int.mp rv] at ty ⊢
      cases t
      · exact ty "int" (.base (.int b)) true (by decide +kernel) rfl
      all_goals exact ty "int" (.base (.int b)) false (by decide +kernel) rfl
    | str b =>
      rw [rep_str.mp rv] at ty ⊢
      cases t
      · exact ty "str" (.base (.str b)) false (by decide +kernel) rfl
      · exact ty "str" (.base (.str b)) false (by decide +kernel) rfl
      · exact ty "str" (.base (.str b)) true (by decide +kernel) rfl
      all_goals exact ty "str" (.base (.str b)) false (by decide +kernel) rfl
    | lst b =>
      obtain ⟨a, us, rfl, h1, r1⟩ := rep_lst.mp rv
      have h := s _ _ h1
      cases t
      · exact ty "list" (.base (.lst h)) false (by decide +kernel) rfl
      · exact ty "list" (.base (.lst h)) false (by decide +kernel) rfl
      · exact ty "list" (.base (.lst h)) false (by decide +kernel) rfl
      · exact ty "list" (.base (.lst h)) true (by decide +kernel) rfl
      · exact ty "list" (.base (.lst h)) false (by decide +kernel) rfl
    | tup b =>
      obtain ⟨a, us, rfl, h1, r1⟩ := rep_tup.mp rv
      have h := s _ _ h1
      cases t
      · exact ty "tuple" (.base (.tup h)) false (by decide +kernel) rfl
      · exact ty "tuple" (.base (.tup h)) false (by decide +kernel) rfl
      · exact ty "tuple" (.base (.tup h)) false (by decide +kernel) rfl
      · exact ty "tuple" (.base (.tup h)) false (by decide +kernel) rfl
      · exact ty "tuple" (.base (.tup h)) true (by decide +kernel) rfl
    | scr b =>
      obtain ⟨a, rfl, h1⟩ := rep_scr.mp rv
      rw [hK] at h1
      have h := sq_ty (s.seq h1)
      cases t
      · exact ty "list" h false (by decide +kernel) rfl
      · exact ty "list" h false (by decide +kernel) rfl
      · exact ty "list" h false (by decide +kernel) rfl
      · exact ty "list" h true (by decide +kernel) rfl
      · exact ty "list" h false (by decide +kernel) rfl
    | ins c fs =>
      obtain ⟨a, dx, us, rfl, h1, hl, r1⟩ := rep_ins.mp rv
      have h := s _ _ h1
      have I := al c
      exact ⟨_, _, false, rfl, .base (.ins h I.cl I.ha I.hn I.htk I.hm), I.no t, fin false (by cases t <;> rfl)⟩
    | exc c fs => cases t <;> cases e
  · cases e
def rIsC (K : PySem.W.Frag) (C : Addr) : List V → Hp → VK → Prop := fun xs H Q => ∃ x tv b, xs = [x] ∧ TyX K H x tv ∧ PySem.W.kitOne K tv (.ref C) = some b ∧ Q (.bl b) H
/-- isinstance(x, C): what the kit says of each kind -/
structure KitC (K : PySem.W.Frag) (T : Tb) (n c : Nat) : Prop where
  non : PySem.W.kitOne K (.type "NoneType") (.ref (T.ad c)) = some false
  bl : PySem.W.kitOne K (.type "bool") (.ref (T.ad c)) = some false
  int : PySem.W.kitOne K (.type "int") (.ref (T.ad c)) = some false
  str : PySem.W.kitOne K (.type "str") (.ref (T.ad c)) = some false
  lst : PySem.W.kitOne K (.type "list") (.ref (T.ad c)) = some false
  tup : PySem.W.kitOne K (.type "tuple") (.ref (T.ad c)) = some false
  ins : ∀ c', c' < n → PySem.W.kitOne K (.ref (T.ad c')) (.ref (T.ad c)) = some (decide (c' = c))
theorem caS_isC {K : PySem.W.Frag} {n c : Nat} (hK : T.K = K) (al : ∀ c, IsC K (T.ad c)) (kc : KitC K T n c) : CaS T (rIsC K (T.ad c)) (bIsC n c) := by
  intro F H xs z vs Q r s e k
  unfold bIsC at e
  have fin : ∀ b, some z = some (.bl b) → Q (.bl b) H := fun b hb => by
    cases hb
    exact k _ F H (Grow.refl s) (rep_bl.mpr rfl)
  split at e
  · rename_i c' fs
    obtain ⟨v, rfl, rv⟩ := reps_one r
    obtain ⟨a, dx, us, rfl, h1, hl, r1⟩ := rep_ins.mp rv
    have h := s _ _ h1
    have I := al c'
    split at e
    · rename_i hn
      exact ⟨_, _, _, rfl, .base (.ins h I.cl I.ha I.hn I.htk I.hm), kc.ins c' hn, fin _ e.symm⟩
    · cases e
  · cases e
  · rename_i d hd hx
    obtain ⟨v, rfl, rv⟩ := reps_one r
    have fin := fin _ e.symm
    cases d with
    | non => rw [rep_non.mp rv]; exact ⟨_, _, _, rfl, .base .non, kc.non, fin⟩
    | bl b => rw [rep_bl.mp rv]; exact ⟨_, _, _, rfl, .base (.bl b), kc.bl, fin⟩
    | int b => rw [rep_int.mp rv]; exact ⟨_, _, _, rfl, .base (.int b), kc.int, fin⟩
    | str b => rw [rep_str.mp rv]; exact ⟨_, _, _, rfl, .base (.str b), kc.str, fin⟩
    | lst b => obtain ⟨a, us, rfl, h1, r1⟩ := rep_lst.mp rv; exact ⟨_, _, _, rfl, .base (.lst (s _ _ h1)), kc.lst, fin⟩
    | tup b => obtain ⟨a, us, rfl, h1, r1⟩ := rep_tup.mp rv; exact ⟨_, _, _, rfl, .base (.tup (s _ _ h1)), kc.tup, fin⟩
    | scr b => obtain ⟨a, rfl, h1⟩ := rep_scr.mp rv; rw [hK] at h1; exact ⟨_, _, _, rfl, sq_ty (s.seq h1), kc.lst, fin⟩
    | ins c' fs => exact absurd rfl (hd c' fs)
    | exc c' fs => exact absurd rfl (hx c' fs)
  · cases e
/-- isinstance(e, T) -/
theorem sE_isTy {t : Ty} {e2 : Expr} {p : Pos} (hK : T.K = X.K) (al : ∀ c, IsC X.K (T.ad c)) (hg : Gl X "isinstance") (hm : X.mg "isinstance" = none) (ha : SE X T W e fe) (h2 : PE X e2 (tC (.ty (tyN t))))
    (he : starEach [e, e2] X.env = (false, eval e X.env) :: starEach [e2] X.env := by rfl) (he2 : starEach [e2] X.env = (false, eval e2 X.env) :: starEach [] X.env := by rfl) (hpl : (backTo pos (starEach [e2] X.env)).any (·.1) = false := by rfl) :
    SE X T W (.Call (.Name "isinstance" p) [e, e2] [] pos) (bi (bIsTy t) (aCons fe aNil)) :=
  impE (pe_callB call_isi hg hm (by decide +kernel) (pa_cons ha (pa_cons h2 pa_nil he2) he) (by decide) (by decide) he hpl) fun σ H Q ⟨F0, B0, A, F, ε, rel, p⟩ => ⟨F0, B0, A, F, ε, rel, by
    have pb := post_bind p
    unfold aCons aNil at pb
    cases hfe : fe ε with
    | bot => rw [hfe] at pb; exact pb
    | ex c fs ε' => rw [hfe] at pb; exact pb
    | ok x ε1 =>
      rw [hfe] at pb
      intro F1 H1 s1 rel1 v rv
      obtain ⟨z, e, hz⟩ := post_of (pb F1 H1 s1 rel1)
      obtain ⟨x', tv, b, ex, h1, h2, h3⟩ := caS_isTy (K := X.K) (t := t) hK al F1 H1 [x] z [v] Q (.cons rv .nil) rel1.fh e fun w F' H' gr rw => hz F' H' gr.ff (rel1.grow gr) w rw
      cases ex
      exact ⟨v, .ty (tyN t), tv, .type (tyN t), b, rfl, .ty _, h1, h2, h3⟩⟩
theorem sE_isC {n c : Nat} {e2 : Expr} {p : Pos} (hK : T.K = X.K) (al : ∀ c, IsC X.K (T.ad c)) (kc : KitC X.K T n c) (hg : Gl X "isinstance") (hm : X.mg "isinstance" = none) (ha : SE X T W e fe) (h2 : PE X e2 (tC (.ref (T.ad c))))
    (he : starEach [e, e2] X.env = (false, eval e X.env) :: starEach [e2] X.env := by rfl) (he2 : starEach [e2] X.env = (false, eval e2 X.env) :: starEach [] X.env := by rfl) (hpl : (backTo pos (starEach [e2] X.env)).any (·.1) = false := by rfl) :
    SE X T W (.Call (.Name "isinstance" p) [e, e2] [] pos) (bi (bIsC n c) (aCons fe aNil)) :=
  impE (pe_callB call_isi hg hm (by decide +kernel) (pa_cons ha (pa_cons h2 pa_nil he2) he) (by decide) (by decide) he hpl) fun σ H Q ⟨F0, B0, A, F, ε, rel, p⟩ => ⟨F0, B0, A, F, ε, rel, by
    have pb := post_bind p
    unfold aCons aNil at pb
    cases hfe : fe ε with
    | bot => rw [hfe] at pb; exact pb
    | ex c fs ε' => rw [hfe] at pb; exact pb
    | ok x ε1 =>
      rw [hfe] at pb
      intro F1 H1 s1 rel1 v rv
      obtain ⟨z, e, hz⟩ := post_of (pb F1 H1 s1 rel1)
      obtain ⟨x', tv, b, ex, h1, h2, h3⟩ := caS_isC (K := X.K) hK al kc F1 H1 [x] z [v] Q (.cons rv .nil) rel1.fh e fun w F' H' gr rw => hz F' H' gr.ff (rel1.grow gr) w rw
      cases ex
      exact ⟨v, .ref (T.ad c), tv, .ref (T.ad c), b, rfl, .own _, h1, h2, h3⟩⟩

/-! ### new lists of one's own -/
theorem fresh_done {F0 B0 F H : Hp} {A : List Addr} {σ : L2.St} {ε : Env} {o : O} {ho : HO} {p : Addr} {Q : VK} (rel : RelE T F0 B0 A F H σ ε) (hp : H p = none) (ro : RepO T F o ho)
    (h : ∀ F' H', Same F F' → RelE T F0 B0 A F' H' σ ε → ∀ p ho, F' p = none → B0 p = none → H' p = some ho → RepO T F' o ho → (∀ i, ¬ OwnA ε σ i p) → Q (.ref p) H') : Q (.ref p) (upd H p ho) := by
  obtain ⟨r1, r2, r3, r4⟩ := rel.newOwn (ho := ho) hp
  exact h F _ (.refl _) r1 p ho r2 r3 upd_same ro r4
theorem sO_lst (h : SA X T W es fr) : SO X T W (.List es pos) (lstO fr) := impE (pe_lst h) fun σ H Q ⟨F0, B0, A, F, ε, rel, p⟩ => ⟨F0, B0, A, F, ε, rel, (post_bind p).imp fun xs ε1 F1 H1 s1 rel1 p1 vs rvs => by
  split at p1
  · rename_i hl
    exact ⟨line_le (by rw [← rvs.length]; exact hl), fun q hq => fresh_done (o := .l xs) (ho := .lst vs) rel1 hq rvs p1⟩
  · exact p1.elim⟩
theorem sE_tup {x1} (h : SA X T W es fr) : SE X T W (.Tuple es x1 pos) (tupE fr) := impE (pe_tup h) fun σ H Q ⟨F0, B0, A, F, ε, rel, p⟩ => ⟨F0, B0, A, F, ε, rel, (post_bind p).imp fun xs ε1 F1 H1 s1 rel1 p1 vs rvs => by
  split at p1
  · rename_i hl
    refine ⟨line_le (by rw [← rvs.length]; exact hl), fun q hq => ?_⟩
    obtain ⟨g, r⟩ := new_tup rel1.fh hq rvs
    exact p1 _ _ g.ff (rel1.grow g) _ r
  · exact p1.elim⟩
def OpO (T : Tb) (r : R2) (g : D → D → Option O) : Prop := ∀ F H x y o v u Q, Rep T F x v → Rep T F y u → Same F H → g x y = some o → (∀ p ho, H p = none → RepO T F o ho → Q (.ref p) (upd H p ho)) → r v u H Q
def CaO (T : Tb) (r : List V → Hp → VK → Prop) (g : List D → Option O) : Prop := ∀ F H xs o vs Q, Reps T F xs vs → Same F H → g xs = some o → (∀ p ho, H p = none → RepO T F o ho → Q (.ref p) (upd H p ho)) → r vs H Q
theorem sO_bin {op : Operator} {r : R2} {g : D → D → Option O} (ho : OpR X (binaryOp op) r) (hs : OpO T r g) (ha : SE X T W a fa) (hb : SE X T W b fb) : SO X T W (.BinOp a op b pos) (binO g fa fb) := impE (pe_op ho ha hb) fun σ H Q ⟨F0, B0, A, F, ε, rel, p⟩ =>
  ⟨F0, B0, A, F, ε, rel, (post_bind p).imp fun x ε1 F1 H1 s1 rel1 p1 v rv => ⟨F0, B0, A, F1, ε1, rel1, (post_bind p1).imp fun y ε2 F2 H2 s2 rel2 p2 u ru => by
    obtain ⟨z, e, hz⟩ := post_of p2
    exact hs F2 H2 x y z v u Q (rv.mono s2) ru rel2.fh e fun p ho hp ro => fresh_done rel2 hp ro hz⟩⟩
theorem tcbO {r : List V → Hp → VK → Prop} {g : List D → Option O} (hs : CaO T r g) {σ : St} {H : Hp} {Q : VK} (h : EvO T W (biO g fr) σ H Q) : tCB r (EvA T W fr) σ H Q := by
  obtain ⟨F0, B0, A, F, ε, rel, p⟩ := h
  exact ⟨F0, B0, A, F, ε, rel, (post_bind p).imp fun xs ε1 F1 H1 s1 rel1 p1 vs rvs => by
    obtain ⟨z, e, hz⟩ := post_of p1
    exact hs F1 H1 xs z vs Q rvs rel1.fh e fun p ho hp ro => fresh_done rel1 hp ro hz⟩
theorem sE_cb {r : List V → Hp → VK → Prop} {g : List D → Option D} (h : PE X e (tCB r (EvA T W fr))) (hs : CaS T r g) : SE X T W e (bi g fr) := impE h fun _ _ _ q => tcb hs q
theorem sO_cb {r : List V → Hp → VK → Prop} {g : List D → Option O} (h : PE X e (tCB r (EvA T W fr))) (hs : CaO T r g) : SO X T W e (biO g fr) := impE h fun _ _ _ q => tcbO hs q
theorem opO_cat : OpO T rCat dCatO := by
  intro F H x y o v u Q rx ry s e k
  unfold dCatO at e
  split at e
  · split at e
    · rename_i h
      cases e
      obtain ⟨a, vs, rfl, h1, r1⟩ := rep_lst.mp rx
      obtain ⟨b, us, rfl, h2, r2⟩ := rep_lst.mp ry
      exact ⟨a, b, vs, us, rfl, rfl, s _ _ h1, s _ _ h2, line_le (by rw [← r1.length, ← r2.length]; exact h), fun p hp => k p (.lst _) hp (r1.append r2)⟩
    · cases e
  · cases e
theorem opO_rep : OpO T rRep dRepO := by
  intro F H x y o v u Q rx ry s e k
  unfold dRepO at e
  split at e
  · rename_i xs n
    split at e
    · rename_i h
      cases e
      obtain ⟨a, vs, rfl, h1, r1⟩ := rep_lst.mp rx
      exact ⟨a, n, vs, rfl, rep_int.mp ry, s _ _ h1, h.1, h.2.1, line_le (by rw [← r1.length]; exact h.2.2), fun p hp => k p (.lst _) hp (r1.flat n.toNat)⟩
    · cases e
  · cases e
theorem caO_list {K : PySem.W.Frag} (hK : T.K = K) : CaO T (fun xs H Q => ∃ p ys, xs = [.ref p] ∧ (SqL K H p ys ∨ SqT K H p ys) ∧ ∀ l, H l = none → Q (.ref l) (upd H l (.lst ys))) bList := by
  intro F H xs o vs Q r s e k
  unfold bList at e
  split at e
  · cases e
    obtain ⟨v, rfl, rv⟩ := reps_one r
    obtain ⟨a, us, rfl, h1, r1⟩ := rep_lst.mp rv
    exact ⟨a, us, rfl, .inl (SqL.of (s _ _ h1)), fun p hp => k p (.lst us) hp r1⟩
  · cases e
    obtain ⟨v, rfl, rv⟩ := reps_one r
    obtain ⟨a, us, rfl, h1, r1⟩ := rep_tup.mp rv
    exact ⟨a, us, rfl, .inr (SqT.of (s _ _ h1)), fun p hp => k p (.lst us) hp r1⟩
  · cases e
    obtain ⟨v, rfl, rv⟩ := reps_one r
    obtain ⟨a, rfl, h1⟩ := rep_scr.mp rv
    rw [hK] at h1
    exact ⟨a, _, rfl, .inl (s.seq h1), fun p hp => k p (.lst _) hp (Reps.ints)⟩
  · cases e
/-- nothing is told of this expression, of this statement -/
def stE : FE := fun _ => .bot
def stS : FS := fun _ => .bot
theorem sE_st : SE X T W e stE := ⟨fun _ _ _ _ _ _ ⟨_, _, _, _, _, _, p⟩ => p.elim⟩
theorem sS_st {st : Stmt} : SS X T W st stS := ⟨fun _ _ _ _ _ _ ⟨_, _, _, _, _, _, p⟩ => p.elim⟩
theorem sSs_st {st : List Stmt} : SSs X T W st stS := ⟨fun _ _ _ _ _ _ ⟨_, _, _, _, _, _, p⟩ => p.elim⟩
end
end EV
set_option maxRecDepth 100000
/-! EvM: dicts of one's own. -/
namespace EV
open PySem L2
section
variable {X : Cx} {T : Tb} {W : WX} {pos : Pos} {e : Expr} {fa fk fv : FE} {st : Stmt} {body : FS}
abbrev KVR (T : Tb) (F : Hp) (kvs : List ((Int ⊕ Str) × D)) (kws : List (Key × V)) : Prop := kws.map (·.1) = kvs.map (·.1) ∧ Reps T F (kvs.map (·.2)) (kws.map (·.2))
theorem kvr_nil {F : Hp} {kws : List (Key × V)} (h : KVR T F [] kws) : kws = [] := by
  have := h.1
  simpa using this
theorem kvr_cons {F : Hp} {p : (Int ⊕ Str) × D} {kvs : List ((Int ⊕ Str) × D)} {kws : List (Key × V)} (h : KVR T F (p :: kvs) kws) : ∃ v r, kws = (p.1, v) :: r ∧ Rep T F p.2 v ∧ KVR T F kvs r := by
  obtain ⟨h1, h2⟩ := h
  cases kws with
  | nil => simp at h1
  | cons q r =>
    obtain ⟨q1, q2⟩ := q
    simp only [List.map_cons, List.cons.injEq] at h1
    simp only [List.map_cons] at h2
    obtain ⟨v, us, e, r1, r2⟩ := reps_cons.mp h2
    cases e
    refine ⟨q2, r, ?_, r1, h1.2, r2⟩
    rw [h1.1]
theorem kvr_mk {F : Hp} {p : (Int ⊕ Str) × D} {kvs : List ((Int ⊕ Str) × D)} {v : V} {r : List (Key × V)} (h : Rep T F p.2 v) (t : KVR T F kvs r) : KVR T F (p :: kvs) ((p.1, v) :: r) := ⟨by simp [t.1], by
  simp only [List.map_cons]
  exact .cons h t.2⟩
theorem kvr_mono {F F' : Hp} {kvs : List ((Int ⊕ Str) × D)} {kws : List (Key × V)} (s : Same F F') (h : KVR T F kvs kws) : KVR T F' kvs kws := ⟨h.1, h.2.mono s⟩
theorem kvr_len {F : Hp} {kvs : List ((Int ⊕ Str) × D)} {kws : List (Key × V)} (h : KVR T F kvs kws) : kws.length = kvs.length := by simpa using congrArg List.length h.1
theorem kv_get {F : Hp} {k : Int ⊕ Str} : ∀ {kvs : List ((Int ⊕ Str) × D)} {kws : List (Key × V)}, KVR T F kvs kws → (kvGet kvs k = none ∧ valV kws k = none) ∨ ∃ d v, kvGet kvs k = some d ∧ valV kws k = some v ∧ Rep T F d v
  | [], kws, h => by
    cases kvr_nil h
    exact .inl ⟨rfl, rfl⟩
  | p :: kvs, kws, h => by
    obtain ⟨v, r, rfl, r1, r2⟩ := kvr_cons h
    unfold kvGet valV
    by_cases e : p.1 = k
    · refine .inr ⟨p.2, v, ?_, ?_, r1⟩
      · simp [List.find?_cons, e]
      · simp [List.find?_cons, e]
    · rcases kv_get (k := k) r2 with ⟨h1, h2⟩ | ⟨d, u, h1, h2, h3⟩
      · unfold kvGet at h1
        unfold valV at h2
        refine .inl ⟨?_, ?_⟩
        · simpa [List.find?_cons, e] using h1
        · simpa [List.find?_cons, e] using h2
      · unfold kvGet at h1
        unfold valV at h2
        refine .inr ⟨d, u, ?_, ?_, h3⟩
        · simpa [List.find?_cons, e] using h1
        · simpa [List.find?_cons, e] using h2
theorem kv_any {F : Hp} {k : Int ⊕ Str} : ∀ {kvs : List ((Int ⊕ Str) × D)} {kws : List (Key × V)}, KVR T F kvs kws → (kws.any fun kv => decide (kv.1 = k)) = kvs.any fun kv => decide (kv.1 = k)
  | [], kws, h => by
    cases kvr_nil h
    rfl
  | p :: kvs, kws, h => by
    obtain ⟨v, r, rfl, r1, r2⟩ := kvr_cons h
    simp only [List.any_cons]
    rw [kv_any r2]
theorem kv_map {F : Hp} {k : Int ⊕ Str} {d : D} {v : V} (rv : Rep T F d v) : ∀ {kvs : List ((Int ⊕ Str) × D)} {kws : List (Key × V)}, KVR T F kvs kws → KVR T F (kvs.map fun kv => if kv.1 = k then (kv.1, d) else kv) (kws.map fun kv => if kv.1 = k then (kv.1, v) else kv)
  | [], kws, h => by
    cases kvr_nil h
    exact ⟨rfl, .nil⟩
  | p :: kvs, kws, h => by
    obtain ⟨u, r, rfl, r1, r2⟩ := kvr_cons h
    have t := kv_map (k := k) rv r2
    simp only [List.map_cons]
    by_cases e : p.1 = k
    · simp only [e, if_true]
      exact kvr_mk (p := (k, d)) rv t
    · simp only [e, if_false]
      exact kvr_mk r1 t
theorem kv_app {F : Hp} {k : Int ⊕ Str} {d : D} {v : V} (rv : Rep T F d v) {kvs : List ((Int ⊕ Str) × D)} {kws : List (Key × V)} (h : KVR T F kvs kws) : KVR T F (kvs ++ [(k, d)]) (kws ++ [(k, v)]) := by
  refine ⟨by simp [h.1], ?_⟩
  rw [List.map_append, List.map_append]
  exact h.2.append (.cons rv .nil)
theorem kv_put {F : Hp} {k : Int ⊕ Str} {d : D} {v : V} (rv : Rep T F d v) {kvs : List ((Int ⊕ Str) × D)} {kws : List (Key × V)} (h : KVR T F kvs kws) : KVR T F (kvPut kvs k d) (putK kws k v) := by
  unfold kvPut putK
  rw [kv_any h]
  split
  · exact kv_map rv h
  · exact kv_app rv h
theorem toK_rep {F : Hp} {y : D} {k : Int ⊕ Str} {v : V} (h : toK y = some k) (r : Rep T F y v) : v = kV k := by
  cases y with
  | int i => cases h; exact rep_int.mp r
  | str i => cases h; exact rep_str.mp r
  | _ => cases h
theorem ofK_rep {F : Hp} {k : Int ⊕ Str} : Rep T F (ofK k) (kV k) := by
  cases k with
  | inl i => exact rep_int.mpr rfl
  | inr i => exact rep_str.mpr rfl
theorem hasD_get {F0 B0 F H : Hp} {A : List Addr} {σ : L2.St} {ε : Env} {i : Nat} (r : RelE T F0 B0 A F H σ ε) (h : hasD ε i = true) : ∃ a kws, σ[i]? = some (some (.ref a)) ∧ H a = some (.dK kws) := by
  unfold hasD at h
  split at h
  · rename_i k xs e
    obtain ⟨a, ho, e1, _, _, _, ha, ro⟩ := r.sl i _ e
    cases ho with
    | dK vs => exact ⟨a, vs, e1, ha⟩
    | _ => exact ro.elim
  · cases h
theorem sO_newD : SO X T W (.Dict [] [] pos) newD := impE pe_dnewK fun σ H Q ⟨F0, B0, A, F, ε, rel, p⟩ => fun q hq => fresh_done (o := .d []) (ho := .dK []) rel hq ⟨rfl, .nil⟩ p
theorem sE_dGet2 {i : Nat} (h : PE X e (tDGet2 (tVar i) (EvP T W fk) (EvP T W fv))) : SE X T W e (dGet2 i fk fv) := impE h fun σ H Q ⟨F0, B0, A, F, ε, rel, p⟩ => by
  unfold dGet2 at p
  split at p
  rotate_left
  · exact p.elim
  rename_i hh
  obtain ⟨a, kws0, ev, hv0⟩ := hasD_get rel hh
  refine ⟨_, ev, a, rfl, .inl ⟨_, .inl hv0⟩, F0, B0, A, F, ε, rel, (post_bind p).imp fun y ε1 F1 H1 s1 rel1 p1 v rv => ⟨F0, B0, A, F1, ε1, rel1, (post_bind p1).imp fun z ε2 F2 H2 s2 rel2 p2 u ru => ?_⟩⟩
  obtain ⟨k, ek, p3⟩ := post_of p2
  split at p3
  · rename_i kk kvs he
    obtain ⟨a', ho, e1, fa, ba, ka, ha, ro⟩ := rel2.sl i _ he
    have q : a = a' := by rw [ev] at e1; cases e1; rfl
    subst q
    cases ho with
    | dK kws =>
      have := toK_rep ek (rv.mono s2)
      subst this
      refine ⟨_, DGet.k ha, ?_⟩
      rcases kv_get (k := k) ro with ⟨h1, h2⟩ | ⟨d, w, h1, h2, h3⟩
      · rw [h2]
        rw [h1] at p3
        exact p3 F2 H2 (.refl _) rel2 u ru
      · rw [h2]
        rw [h1] at p3
        exact p3 F2 H2 (.refl _) rel2 w h3
    | _ => exact ro.elim
  · exact p3.elim
theorem sS_dPut {i : Nat} (h : PS X st (sDPut (tVar i) (EvP T W fk) (EvP T W fv))) : SS X T W st (dPut i fk fv) := impS h fun Dn σ H ⟨F0, B0, A, F, ε, rel, p⟩ =>
  ⟨F0, B0, A, F, ε, rel, (postS_bind p).imp fun v ε1 F1 H1 s1 rel1 p1 vv rv => by
    split at p1
    rotate_left
    · exact p1.elim
    rename_i hh
    obtain ⟨a, kws0, ev, hv0⟩ := hasD_get rel1 hh
    refine ⟨_, ev, F0, B0, A, F1, ε1, rel1, (postS_bind p1).imp fun y ε2 F2 H2 s2 rel2 p2 u ru => ?_⟩
    obtain ⟨k, ek, p3⟩ := postS_of p2
    split at p3
    · rename_i kk kvs he
      split at p3
      · rename_i hl
        obtain ⟨a', ho, e1, fa, ba, ka, ha, ro⟩ := rel2.sl i _ he
        have q : a = a' := by rw [ev] at e1; cases e1; rfl
        subst q
        cases ho with
        | dK kws =>
          have := toK_rep ek ru
          subst this
          refine ⟨a, _, rfl, DPut.k ha (line_lt (by rw [kvr_len ro]; exact hl)), p3 σ F2 _ (.refl _) (rel2.wrOw he ev (ho := .dK (putK kws k vv)) (kv_put (rv.mono s2) ro))⟩
        | _ => exact ro.elim
      · exact p3.elim
    · exact p3.elim⟩

/-! ### for .. in x.items() -/
def IterB (T : Tb) (J : It) (F B : Hp) (items : List D) : Prop := ∀ (i : Nat) F1 H1, Same F F1 → Same F1 H1 → Same B H1 → (items.length ≤ i → J.stop i H1) ∧
  (i < items.length → J.go i H1 ∧ ∀ x H2, J.yld i H1 x H2 → ∃ F2 d, Grow F1 H1 F2 H2 ∧ items[i]? = some d ∧ Rep T F2 d x)
theorem for_core {F0 B0 F1 H1 : Hp} {A : List Addr} {σ : L2.St} {ε1 : Env} {items : List D} {h : FG} {g : TG} {ws : List Nat} {Dn : Ends} {J : It} (gs : GS T g h ws) (rel1 : RelE T F0 B0 A F1 H1 σ ε1) (hJ : IterB T J F1 B0 items) (p1 : PostS T W F0 B0 A F1 (forL h body items ε1) Dn) :
    ∃ Wn : Nat → Nat → L2.St → Hp → Prop, (∃ m, Wn 0 m σ H1) ∧ ∀ i m σ H, Wn i m σ H →
      (J.stop i H ∧ Dn.nx σ H) ∨ (J.go i H ∧ ∃ N : L2.St → Hp → Prop, (∀ σ' H', N σ' H' → ∃ m', m' < m ∧ Wn (i + 1) m' σ' H') ∧ ∀ x H', J.yld i H x H' → g x σ H' fun σ2 H2 => EvS T W body { Dn with nx := N, ct := N, bk := Dn.nx } σ2 H2) := by
  refine ⟨fun i m σ2 H2 => ∃ F2 ε2, Same F1 F2 ∧ RelE T F0 B0 A F2 H2 σ2 ε2 ∧ i ≤ items.length ∧ m = items.length - i ∧ PostS T W F0 B0 A F2 (forL h body (items.drop i) ε2) Dn, ⟨items.length, F1, ε1, .refl _, rel1, Nat.zero_le _, rfl, p1⟩, ?_⟩
  rintro i m σ2 H2 ⟨F2, ε2, s2, rel2, hi, rfl, p2⟩
  obtain ⟨stop, go⟩ := hJ i F2 H2 s2 rel2.fh rel2.bh
  by_cases hlt : i < items.length
  · obtain ⟨g0, yl⟩ := go hlt
    refine .inr ⟨g0, fun σ3 H3 => ∃ F3 ε3, Same F1 F3 ∧ RelE T F0 B0 A F3 H3 σ3 ε3 ∧ i + 1 ≤ items.length ∧ PostS T W F0 B0 A F3 (forL h body (items.drop (i + 1)) ε3) Dn, fun σ' H' ⟨F3, ε3, s3, rel3, hi3, p3⟩ => ⟨items.length - (i + 1), by omega, F3, ε3, s3, rel3, hi3, rfl, p3⟩, fun x H3 y => ?_⟩
    obtain ⟨F3, d, gr, ed, rd⟩ := yl x H3 y
    have ed' : items.drop i = d :: items.drop (i + 1) := by
      rw [List.drop_eq_getElem_cons hlt]
      rw [List.getElem?_eq_getElem hlt] at ed
      rw [Option.some.inj ed]
    rw [ed'] at p2
    unfold forL at p2
    obtain ⟨ε3, e3, p3⟩ := postS_of p2
    refine gs F0 B0 A F3 H3 σ2 ε2 d x ε3 _ (rel2.grow gr) rd e3 fun σ' rel' _ => ⟨F0, B0, A, F3, ε3, rel', ?_⟩
    exact post_loop (PostS.monoF gr.ff p3) fun ε4 σ4 F4 H4 s4 rel4 p4 => ⟨F4, ε4, (s2.trans gr.ff).trans s4, rel4, hlt, p4⟩
  · have e : i = items.length := by omega
    subst e
    rw [List.drop_length] at p2
    exact .inl ⟨stop (Nat.le_refl _), p2 σ2 F2 H2 (.refl _) rel2⟩
/-- what is wanted while the thing at a is locked -/
def lockE (Dn : Ends) (a : Addr) (od : Obj) (u : HO) : Ends := ⟨fun σ' H' => H' a = some (.frz od u) ∧ Dn.nx σ' (upd H' a u), fun v H' => H' a = some (.frz od u) ∧ Dn.rt v (upd H' a u), fun σ' H' => H' a = some (.frz od u) ∧ Dn.bk σ' (upd H' a u), fun σ' H' => H' a = some (.frz od u) ∧ Dn.ct σ' (upd H' a u)⟩
theorem post_lock {F0 B0 F : Hp} {A : List Addr} {m : R Fl} {Dn : Ends} {a : Addr} {od : Obj} {u : HO} (b0 : B0 a = none) (f0 : F0 a = none) (p : PostS T W F0 B0 A F m Dn) : PostS T W F0 (upd B0 a (.frz od u)) A F m (lockE Dn a od u) := by
  cases m with
  | bot => exact p
  | ex c fs ε =>
    intro σ' F' H' cls dx s rel x
    obtain ⟨r1, r2, r3, r4⟩ := rel.unguard b0 f0
    exact p σ' F' H' cls dx s r1 x
  | ok fl ε =>
    intro σ' F' H' s rel
    obtain ⟨r1, r2, r3, r4⟩ := rel.unguard b0 f0
    have p1 := p σ' F' (upd H' a u) s (r1.chg r2 b0 r4)
    cases fl with
    | nx => exact ⟨r3, p1⟩
    | br => exact ⟨r3, p1⟩
    | ct => exact ⟨r3, p1⟩
    | rt d => exact fun v rv => ⟨r3, p1 v rv⟩
    | ro o =>
      intro q ho h1 h2 h3 h4 h5
      have ne : q ≠ a := by
        rintro rfl
        rw [upd_same] at h2
        cases h2
      rw [upd_ne ne] at h2
      exact ⟨r3, p1 q ho h1 h2 (by rw [upd_ne ne]; exact h3) h4 h5⟩
theorem sS_forItems {i : Nat} {iter tg : Expr} {g : TG} {h : FG} {ws : List Nat} {sts : List Stmt} (hp : PassesOwn (model X.prog X.w) X.A X.env X.xe) (hc : X.calm = true) (hi : PI X tg iter (iItems (tVar i))) (hg : PG X tg g) (gs : GS T g h ws) (hb : SSs X T W sts body)
    (hs : ∀ x, foldedSetIterable iter X.env x = pure x := by intro _; rfl) : SS X T W (.For tg iter sts [] pos) (forItems i h body) := impS (ps_lock (ps_for hp hc hi hg hb hs)) fun Dn σ H ⟨F0, B0, A, F, ε, rel, p⟩ => by
  unfold forItems at p
  split at p
  rotate_left
  · exact p.elim
  rename_i kvs he
  obtain ⟨a, ho, e1, fa, ba, _, ha, ro⟩ := rel.sl i _ he
  cases ho with
  | dK kws =>
    refine ⟨a, .dK kws, ha, trivial, fun od => ⟨_, e1, a, od, kws, rfl, upd_same, ?_⟩⟩
    have iε : i < ε.length := lt_of_get he
    have no : ∀ j, ¬ OwnA (ε.set i .no) σ j a := fun j hj => by
      obtain ⟨⟨k, o2, h1⟩, h2⟩ := hj
      by_cases q : j = i
      · subst q
        rw [List.getElem?_set_self iε] at h1
        cases h1
      · rw [List.getElem?_set_ne (Ne.symm q)] at h1
        exact q (rel.nd j i a ⟨⟨_, _, h1⟩, h2⟩ ⟨⟨_, _, he⟩, e1⟩)
    have rel1 := ((rel.setNo' (i := i)).chg (o := .frz od (.dK kws)) fa ba no).guard fa ba upd_same no
    have f0 : F0 a = none := rel.f0.free fa
    refine for_core gs rel1 (fun j F1 H1 s1 s2 s3 => ?_) (post_lock ba f0 p)
    have hd : H1 a = some (.frz od (.dK kws)) := s3 a _ upd_same
    have hl : kws.length = kvs.length := kvr_len ro
    refine ⟨fun hlj => ⟨hd, by rw [hl]; simpa using hlj⟩, fun hlj => ⟨⟨hd, by rw [hl]; simpa using hlj⟩, fun x H2 y => ?_⟩⟩
    obtain ⟨q, k, v, ek, rfl, hq, rfl⟩ := y
    have hlj : j < kvs.length := by simpa using hlj
    have ej : kvs[j]? = some kvs[j] := List.getElem?_eq_getElem hlj
    have k1 : kvs[j].1 = k := by
      have := congrArg (fun l => l[j]?) ro.1
      simp only [List.getElem?_map, ek, ej, Option.map_some] at this
      exact (Option.some.inj this).symm
    obtain ⟨w, ew, rw⟩ := ro.2.get (i := j) (d := kvs[j].2) (by simp [List.getElem?_map, ej])
    have ew2 : w = v := by
      simp only [List.getElem?_map, ek, Option.map_some] at ew
      exact (Option.some.inj ew).symm
    subst ew2
    have sq : Same F1 (upd F1 q (.tup [kV k, w])) := Same.new (s2.free hq)
    refine ⟨_, .tup [ofK kvs[j].1, kvs[j].2], Grow.new (o := .tup [kV k, w]) s2 hq, by simp [List.getElem?_map, ej], rep_tup.mpr ⟨q, _, rfl, upd_same, .cons ?_ (.cons (rw.mono (s1.trans sq)) .nil)⟩⟩
    rw [k1]
    exact ofK_rep
  | _ => exact ro.elim
end
end EV
set_option maxRecDepth 100000
/-! EvG: truth, values of and, or, not; slices; keywords; the end. -/
namespace EV
open PySem L2
section
variable {X : Cx} {T : Tb} {W : WX} {pos p2 : Pos} {a b e : Expr} {fa fb fe : FE} {fr fk : FA} {es : List Expr} {rest : List Expr}
theorem isEmpty_reps {F : Hp} {xs : List D} {vs : List V} (r : Reps T F xs vs) : xs.isEmpty = vs.isEmpty := by
  cases xs with
  | nil => rw [reps_nil.mp r]; rfl
  | cons x xs =>
    obtain ⟨v, us, rfl, _⟩ := reps_cons.mp r
    rfl
theorem tru_rep {K : PySem.W.Frag} {F H : Hp} {d : D} {v : V} {k : Bool} (s : Same F H) (r : Rep T F d v) (h : tru d = some k) : TruV K v H k := by
  cases d with
  | non => cases h; rw [rep_non.mp r]; rfl
  | bl b => cases h; rw [rep_bl.mp r]; rfl
  | int b => cases h; rw [rep_int.mp r]; rfl
  | str b =>
    have h : (if b.length ≤ 16000000 then some ((b.length : Int) != 0) else none) = some k := h
    by_cases hl : b.length ≤ 16000000
    · rw [if_pos hl] at h
      cases h
      rw [rep_str.mp r]
      exact ⟨line_le hl, rfl⟩
    · rw [if_neg hl] at h
      cases h
  | lst b =>
    cases h
    obtain ⟨a, vs, rfl, h1, r1⟩ := rep_lst.mp r
    exact .inl ⟨vs, SqL.of (s _ _ h1), by rw [isEmpty_reps r1]⟩
  | tup b =>
    cases h
    obtain ⟨a, vs, rfl, h1, r1⟩ := rep_tup.mp r
    exact .inr (.inl ⟨vs, SqT.of (s _ _ h1), by rw [isEmpty_reps r1]⟩)
  | ins c b => cases h
  | scr b => cases h
  | exc c b => cases h
/-- any value as a test -/
theorem sT_tru (ha : SE X T W a fa) (he : ∀ whole, isTrue a X.env whole = (do let v ← whole; standAt a.pos; holding [v] (truthy v)) := by intro _; rfl) : ST X T W a (tT fa) := impT (pt_truth ha he) fun σ H Q ⟨F0, B0, A, F, ε, rel, p⟩ =>
  ⟨F0, B0, A, F, ε, rel, (post_bind p).imp fun x ε1 F1 H1 s1 rel1 p1 v rv => by
    obtain ⟨k, ek, p2⟩ := post_of p1
    exact ⟨k, tru_rep rel1.fh rv ek, p2 F1 H1 (.refl _) rel1⟩⟩
theorem sE_one {op : BoolOp} (h : SE X T W a fa) : SE X T W (.BoolOp op [a] pos) fa := impE (pe_one h) fun _ _ _ q => q
theorem sE_or (ha : SE X T W a fa) (hb : SE X T W (.BoolOp .Or (b :: rest) pos) fb) : SE X T W (.BoolOp .Or (a :: b :: rest) pos) (eOr fa fb) := impE (pe_orT ha hb) fun σ H Q ⟨F0, B0, A, F, ε, rel, p⟩ =>
  ⟨F0, B0, A, F, ε, rel, (post_bind p).imp fun x ε1 F1 H1 s1 rel1 p1 v rv => by
    obtain ⟨k, ek, p2⟩ := post_of p1
    refine ⟨k, tru_rep rel1.fh rv ek, ?_⟩
    cases k with
    | true => exact iteT (p2 F1 H1 (.refl _) rel1 v rv)
    | false => exact iteF ⟨F0, B0, A, F1, ε1, rel1, p2⟩⟩
theorem sE_and (ha : SE X T W a fa) (hb : SE X T W (.BoolOp .And (b :: rest) pos) fb) : SE X T W (.BoolOp .And (a :: b :: rest) pos) (eAnd fa fb) := impE (pe_andT ha hb) fun σ H Q ⟨F0, B0, A, F, ε, rel, p⟩ =>
  ⟨F0, B0, A, F, ε, rel, (post_bind p).imp fun x ε1 F1 H1 s1 rel1 p1 v rv => by
    obtain ⟨k, ek, p2⟩ := post_of p1
    refine ⟨k, tru_rep rel1.fh rv ek, ?_⟩
    cases k with
    | true => exact iteT ⟨F0, B0, A, F1, ε1, rel1, p2⟩
    | false => exact iteF (p2 F1 H1 (.refl _) rel1 v rv)⟩
theorem sE_not (ha : SE X T W a fa) : SE X T W (.UnaryOp .Not a pos) (eNot fa) := impE (pe_notT ha) fun σ H Q ⟨F0, B0, A, F, ε, rel, p⟩ =>
  ⟨F0, B0, A, F, ε, rel, (post_bind p).imp fun x ε1 F1 H1 s1 rel1 p1 v rv => by
    obtain ⟨k, ek, p2⟩ := post_of p1
    exact ⟨k, tru_rep rel1.fh rv ek, p2 F1 H1 (.refl _) rel1 _ (rep_bl.mpr rfl)⟩⟩
theorem unS_bits : UnS T (fun x H Q => ∃ i, x = .int i ∧ Q (.int (Builtin.Int.intBits i : Nat)) H) bBits := by
  intro F H x z v Q rx s e k
  unfold bBits at e
  split at e
  · cases e
    exact ⟨_, rep_int.mp rx, k _ F H (Grow.refl s) (rep_int.mpr rfl)⟩
  · cases e
theorem sE_bits (h : PE X e (tBits (EvP T W fa))) : SE X T W e (un bBits fa) := impE h fun σ H Q ⟨F0, B0, A, F, ε, rel, p⟩ =>
  ⟨F0, B0, A, F, ε, rel, (post_bind p).imp fun x ε1 F1 H1 s1 rel1 p1 v rv => by
    obtain ⟨z, e, hz⟩ := post_of p1
    exact unS_bits F1 H1 x z v Q rv rel1.fh e fun w F' H' gr rw => hz F' H' gr.ff (rel1.grow gr) w rw⟩
/-- len(x) at a name: lists, tuples, texts; dicts -/
theorem call_lenA : CallR X (.builtin "len") (fun xs H Q => (∃ x n, xs = [x] ∧ LenV X.K x H n ∧ Q (.int n) H) ∨ (∃ a kvs, xs = [V.ref a] ∧ H a = some (.dK kvs) ∧ Q (.int kvs.length) H)) := CallR.or call_len call_lenD
theorem sE_lenN {i : Nat} (hK : T.K = X.K) (h : PE X e (tCB (fun xs H Q => (∃ x n, xs = [x] ∧ LenV X.K x H n ∧ Q (.int n) H) ∨ (∃ a kvs, xs = [V.ref a] ∧ H a = some (.dK kvs) ∧ Q (.int kvs.length) H)) (tCons (tVar i) tNil))) : SE X T W e (lenN i) := impE h fun σ H Q ⟨F0, B0, A, F, ε, rel, p⟩ => by
  unfold lenN at p
  simp only [len_eq] at p
  split at p
  · rename_i kk xs he
    obtain ⟨a', ho, e1, fa, ba, ka, ha, ro⟩ := rel.sl i _ he
    cases ho with
    | lst vs => exact ⟨_, e1, .inl ⟨_, xs.length, rfl, .inl ⟨vs, SqL.of ha, Reps.length ro⟩, p F H (.refl _) rel _ (rep_int.mpr rfl)⟩⟩
    | _ => exact ro.elim
  · rename_i kk kvs he
    obtain ⟨a', ho, e1, fa, ba, ka, ha, ro⟩ := rel.sl i _ he
    cases ho with
    | dK kws =>
      refine ⟨_, e1, .inr ⟨_, kws, rfl, ha, ?_⟩⟩
      rw [kvr_len ro]
      exact p F H (.refl _) rel _ (rep_int.mpr rfl)
    | _ => exact ro.elim
  · rename_i d he
    obtain ⟨z, ez, p2⟩ := post_of p
    obtain ⟨u, e1, r⟩ := rel.sl i _ he
    exact ⟨u, e1, .inl (caS_len hK F H [d] z [u] Q (.cons r .nil) rel.fh ez fun w F' H' gr rw => p2 F' H' gr.ff (rel.grow gr) w rw)⟩
  · exact p.elim

/-! ### slices -/
def EvPo (T : Tb) (W : WX) (f : FP) : TO := fun σ H Q => ∃ F0 B0 A F ε, RelE T F0 B0 A F H σ ε ∧ Post T W F0 B0 A F σ (f ε) fun o _ _ H' => Q o H'
theorem impO {eo : Option Expr} {t t' : TO} (h : PO X eo t) (i : ∀ σ H Q, t' σ H Q → t σ H Q) : PO X eo t' := ⟨fun pins s σ H Q I x => h.run pins s σ H Q I (i _ _ _ x)⟩
theorem sP_no : PO X none (EvPo T W pNo) := impO po_none fun σ H Q ⟨F0, B0, A, F, ε, rel, p⟩ => p F H (.refl _) rel
theorem sP_so (h : SE X T W e fe) : PO X (some e) (EvPo T W (pSo fe)) := impO (po_some h) fun σ H Q ⟨F0, B0, A, F, ε, rel, p⟩ =>
  ⟨F0, B0, A, F, ε, rel, (post_bind p).imp fun x ε1 F1 H1 s1 rel1 p1 v rv => by
    cases x with
    | int i => exact ⟨i, rep_int.mp rv, p1 F1 H1 (.refl _) rel1⟩
    | _ => exact p1.elim⟩
theorem sIx_eq (n d : Nat) (o : Option Int) (hd : o = none ∨ True) : HT.sIx n d o = slIx n d o := by
  cases o with
  | none => rfl
  | some v =>
    have h := HT.clip_eq v n d
    unfold slIx
    show HT.sIx n d (some v) = if v < 0 then (v + n).toNat else min v.toNat n
    split
    · rename_i hv
      rw [if_pos hv] at h
      omega
    · rename_i hv
      rw [if_neg hv] at h
      omega
theorem reps_drop {F : Hp} : ∀ {xs : List D} {vs : List V} (n : Nat), Reps T F xs vs → Reps T F (xs.drop n) (vs.drop n)
  | xs, vs, 0, r => r
  | [], vs, n + 1, r => by rw [reps_nil.mp r]; exact .nil
  | x :: xs, vs, n + 1, r => by
    obtain ⟨v, us, rfl, _, r2⟩ := reps_cons.mp r
    exact reps_drop n r2
theorem reps_take {F : Hp} : ∀ {xs : List D} {vs : List V} (n : Nat), Reps T F xs vs → Reps T F (xs.take n) (vs.take n)
  | xs, vs, 0, r => .nil
  | [], vs, n + 1, r => by rw [reps_nil.mp r]; exact .nil
  | x :: xs, vs, n + 1, r => by
    obtain ⟨v, us, rfl, r1, r2⟩ := reps_cons.mp r
    exact .cons r1 (reps_take n r2)
theorem cut_reps {F : Hp} {xs : List D} {vs : List V} {lo hi : Option Int} (r : Reps T F xs vs) : Reps T F (cutN xs lo hi) (cutV vs lo hi) := by
  unfold cutN cutV
  rw [sIx_eq _ _ _ (.inr trivial), sIx_eq _ _ _ (.inr trivial), r.length]
  exact reps_take _ (reps_drop _ r)
theorem sE_sl {lo hi : Option Expr} {fl fh : FP} (he : SE X T W e fe) (hl : PO X lo (EvPo T W fl)) (hh : PO X hi (EvPo T W fh)) : SE X T W (.Subscript e (.Slice lo hi none p2) pos) (slE fe fl fh) :=
  impE (pe_slice (sl_list.or sl_tup) he hl hh) fun σ H Q ⟨F0, B0, A, F, ε, rel, p⟩ =>
  ⟨F0, B0, A, F, ε, rel, (post_bind p).imp fun x ε1 F1 H1 s1 rel1 p1 v rv => ⟨F0, B0, A, F1, ε1, rel1, (post_bind p1).imp fun l ε2 F2 H2 s2 rel2 p2 => ⟨F0, B0, A, F2, ε2, rel2, (post_bind p2).imp fun h ε3 F3 H3 s3 rel3 p3 => by
    obtain ⟨z, ez, p4⟩ := post_of p3
    have rv3 := (rv.mono s2).mono s3
    cases x with
    | lst xs =>
      cases ez
      obtain ⟨a, vs, rfl, h1, r1⟩ := rep_lst.mp rv3
      refine .inl ⟨a, vs, rfl, SqL.of (rel3.fh _ _ h1), fun q hq => ?_⟩
      obtain ⟨g, r⟩ := new_lst rel3.fh hq (cut_reps (lo := l) (hi := h) r1)
      exact p4 _ _ g.ff (rel3.grow g) _ r
    | tup xs =>
      obtain ⟨a, vs, rfl, h1, r1⟩ := rep_tup.mp rv3
      have ez : (if slIx xs.length 0 l = 0 ∧ slIx xs.length xs.length h = xs.length then none else some (.tup (cutN xs l h))) = some z := ez
      by_cases hw : slIx xs.length 0 l = 0 ∧ slIx xs.length xs.length h = xs.length
      · rw [if_pos hw] at ez
        cases ez
      · rw [if_neg hw] at ez
        cases ez
        refine .inr ⟨a, vs, rfl, SqT.of (rel3.fh _ _ h1), ?_, fun q hq => ?_⟩
        · rw [sIx_eq _ _ _ (.inr trivial), sIx_eq _ _ _ (.inr trivial), ← r1.length]
          exact hw
        · obtain ⟨g, r⟩ := new_tup rel3.fh hq (cut_reps (lo := l) (hi := h) r1)
          exact p4 _ _ g.ff (rel3.grow g) _ r
    | _ => cases ez⟩⟩⟩
theorem sO_sl {lo hi : Option Expr} {fl fh : FP} (he : SE X T W e fe) (hl : PO X lo (EvPo T W fl)) (hh : PO X hi (EvPo T W fh)) : SO X T W (.Subscript e (.Slice lo hi none p2) pos) (slO fe fl fh) :=
  impE (pe_slice sl_list he hl hh) fun σ H Q ⟨F0, B0, A, F, ε, rel, p⟩ =>
  ⟨F0, B0, A, F, ε, rel, (post_bind p).imp fun x ε1 F1 H1 s1 rel1 p1 v rv => ⟨F0, B0, A, F1, ε1, rel1, (post_bind p1).imp fun l ε2 F2 H2 s2 rel2 p2 => ⟨F0, B0, A, F2, ε2, rel2, (post_bind p2).imp fun h ε3 F3 H3 s3 rel3 p3 => by
    have rv3 := (rv.mono s2).mono s3
    cases x with
    | lst xs =>
      obtain ⟨a, vs, rfl, h1, r1⟩ := rep_lst.mp rv3
      exact ⟨a, vs, rfl, SqL.of (rel3.fh _ _ h1), fun q hq => fresh_done (o := .l (cutN xs l h)) (ho := .lst _) rel3 hq (cut_reps r1) p3⟩
    | _ => exact p3.elim⟩⟩⟩

/-! ### keywords -/
theorem sK_nil : PK X [] (EvA T W aNil) := ⟨fun pos pins s σ H Q I ⟨F0, B0, A, F, ε, rel, p⟩ => pk_nil.run pos pins s σ H Q I (p F H (.refl _) rel [] .nil)⟩
theorem sK_cons {kws : List Keyword} {nm : Option Str} {kpos : Pos} (ha : SE X T W e fe) (hr : PK X kws (EvA T W fr)) : PK X (⟨nm, e, kpos⟩ :: kws) (EvA T W (aCons fe fr)) := ⟨fun pos pins s σ H Q I ⟨F0, B0, A, F, ε, rel, p⟩ => (pk_cons ha hr).run pos pins s σ H Q I
  ⟨F0, B0, A, F, ε, rel, (post_bind p).imp fun x ε1 F1 H1 s1 rel1 p1 v rv => ⟨F0, B0, A, F1, ε1, rel1, (post_bind p1).imp fun xs ε2 F2 H2 s2 rel2 p2 vs rvs => p2 F2 H2 (.refl _) rel2 (v :: vs) (.cons (rv.mono s2) rvs)⟩⟩⟩
/-- a def called with keywords alone: f(k = e, ..), the keywords in the parameters' order -/
theorem sE_callK0 {E : XK} {m : List D → FR} {x : Str} {k : Nat} {ps : List Str} {p : Pos} {kws : List Keyword} (h0 : ∃ (f : Addr) (fd : FuncData), X.mg x = some (.ref f) ∧ PySem.W.keepIn X.K (.ref f) = true ∧ FnOk X.prog X.w X.K X.mg X.base (L2N.CX X.prog X.w) k f fd ps (spM T ps.length m) ∧ KBn X.K fd ps 0 ps (fun _ ws => ws) (fun _ zs => zs))
    (hnp : ∀ ds, ds.length ≠ ps.length → m ds = .bot) (hr : Room k X.A) (hg : Gl X x) (tk : L2N.Takes X (WK E)) (hk : PK X kws (EvA T (WK E) fk))
    (hall : (backToKw pos (keywordEach kws X.env)).all (·.1.isSome) = true := by rfl) (hks : (backToKw pos (keywordEach kws X.env)).filterMap (·.1) = ps := by rfl) (hdb : (x == ("__debug__" : Str)) = false := by decide)
    (hpl : ((backTo pos (starEach [] X.env)).any (·.1) || (backToKw pos (keywordEach kws X.env)).any (·.1.isNone)) = false := by rfl) :
    SE X T (WK E) (.Call (.Name x p) [] kws pos) (EV.call m fk) := by
  obtain ⟨f, fd, h1, h2, h3, h4⟩ := h0
  refine ⟨fun pins s σ H Q I ev => ?_⟩
  have ev' := call_ev (np := ps.length) ev hnp
  refine wpAny_Call_Name_kw (ld_glob I hg h1 ?_ hdb)
  refine PySem.W.callWith_KW0 (h₀ := X.base) I.ok.mod.kin h2 hall (thn (hk.run pos pins s σ H _ I ev') fun ws s2 ⟨zs, H2, I2, rz, q2⟩ => ⟨I2.kIn, ?_⟩) hpl
  rw [hks]
  have q3 : spM T ps.length m (zs ++ []) H2 Q (WE (WK E) σ) := q2
  rw [List.append_nil] at q3
  exact run_fnN (us := []) (vs := []) h3 hr h4 (passK tk) I2 .nil rz rfl q3.1 q3
end
/-! ### the end -/
/-- the law's promise -/
theorem law_sp {T : Tb} {K : PySem.W.Frag} {m : List D → FR} {H : Hp} {a : Addr} {ns : List Int} (hK : T.K = K) (hS : SqL K H a (ns.map V.int)) (hm : m [.scr ns] = .ret (.bl true)) : spM T 1 m [.ref a] H (fun v _ => v = .bl true) fun _ _ _ => False := by
  refine ⟨rfl, H, [.scr ns], .refl _, .cons (rep_scr.mpr ⟨a, rfl, by rw [hK]; exact hS⟩) .nil, ?_⟩
  rw [hm]
  exact fun v F' H' _ r => rep_bl.mp r
theorem noCX {P : Program} {w : World} (H : Hp) (s : Shared) (e : Value) (s' : Shared) (h : L2N.CX P w [] H s (fun _ _ _ => False) e s') : False := by
  obtain ⟨_, _, _, _, _, _, _, _, _, _, _, _, z⟩ := h
  exact z
end EV
set_option maxRecDepth 100000
/-! EvH: what the printed walks name besides. -/
namespace EV
open PySem L2
theorem un65 {k : Nat} {A : Around} (hr : Room k A) (h : 1 ≤ k) : A.units + 65 < cLine := by
  have := hr.un
  omega
/-- return x at a name: its own list moves out, a shared value is told -/
def retNm (i : Nat) : FS := fun ε => match ε[i]? with
  | some (.sh d) => .ok (.rt d) ε
  | some (.ow none o) => .ok (.ro o) (ε.set i .no)
  | _ => .bot
def dAddI : D → D → Option D
  | .int i, .int j => some (.int (i + j))
  | _, _ => none
def dMulI : D → D → Option D
  | .int i, .int j => if wide i j = true then some (.int (i * j)) else none
  | _, _ => none
section
variable {X : Cx} {T : Tb} {W : WX} {pos : Pos} {e : Expr}
theorem sS_retNm {i : Nat} (h : PE X e (tVar i)) : SS X T W (.Return (some e) pos) (retNm i) := impS (ps_ret h) fun Dn σ H ⟨F0, B0, A, F, ε, rel, p⟩ => by
  unfold retNm at p
  split at p
  · rename_i d he
    obtain ⟨u, e1, r⟩ := rel.sl i _ he
    exact ⟨u, e1, p σ F H (.refl _) rel u r⟩
  · rename_i o he
    obtain ⟨a, ho, e1, fa, ba, _, ha, ro⟩ := rel.sl i _ he
    refine ⟨_, e1, p σ F H (.refl _) rel.setNo' a ho fa ba ha ro fun j hj => ?_⟩
    obtain ⟨⟨k, o2, h1⟩, h2⟩ := hj
    have iε : i < ε.length := lt_of_get he
    by_cases q : j = i
    · subst q
      rw [List.getElem?_set_self iε] at h1
      cases h1
    · rw [List.getElem?_set_ne (Ne.symm q)] at h1
      exact q (rel.nd j i a ⟨⟨_, _, h1⟩, h2⟩ ⟨⟨_, _, he⟩, e1⟩)
  · exact p.elim
theorem sT_st : ST X T W e (EV.tB stE) := ⟨fun _ _ _ _ _ _ ⟨_, _, _, _, _, _, p⟩ => p.elim⟩
theorem sO_st : SO X T W e (fun _ => .bot) := ⟨fun _ _ _ _ _ _ ⟨_, _, _, _, _, _, p⟩ => p.elim⟩
theorem sS_doc {x j pos'} : SS X T W (.Expr (.Constant (.str x) j pos) pos') sNx := impS ps_doc fun Dn σ H ⟨F0, B0, A, F, ε, rel, p⟩ => p σ F H (.refl _) rel
theorem opS_addI : OpS T (rI0 fun i j => .int (i + j)) dAddI := opS_I0 (h := fun i j => .int (i + j)) (fun x y z e => by
  unfold dAddI at e
  split at e
  · cases e; exact ⟨_, _, rfl, rfl, rfl⟩
  · cases e) fun F i j => rep_int.mpr rfl
theorem iop_mulA : OpR X (inplaceOp .Mult) (rI CMulX fun i j => .int (i * j)) := opI fun _ _ _ _ _ _ _ hc q => PyProof.Rows.imul_int q hc.ok
theorem opS_mulI : OpS T (rI CMulX fun i j => .int (i * j)) dMulI := opS_I (h := fun i j => .int (i * j)) (fun x y z e => by
  unfold dMulI at e
  split at e
  · rename_i i j
    split at e
    · rename_i h
      cases e
      refine ⟨i, j, rfl, rfl, ?_, rfl⟩
      have h' : bits i + bits j ≤ 134217728 := by simpa [wide] using h
      have h1 := intBits_le i
      have h2 := intBits_le j
      unfold CMulX
      omega
    · cases e
  · cases e) fun F i j => rep_int.mpr rfl
end
/-- a def with defaults, each argument given -/
structure FunB (K : PySem.W.Frag) (x qual : Str) (st : Stmt) (f : Addr) (fd : FuncData) (ps : List Str) : Prop where
  ex : ∃ (oc : Value) (od : Option Addr) (dV kV doc pm : Value) (an : Option Addr) (cdv ct : Value) (osl : Array (Option Value)),
    fd = PySem.W.fnOf x qual (defArgs st) (defBody st) (defScope st) dV kV doc pm an cdv ct ∧ K.lookup f = some ⟨oc, od, .func fd, osl⟩ ∧ PySem.W.codeIn K cdv qual = true
  bd : Binds K fd ps []
theorem fnQ_okB {P : Program} {w : World} {K : PySem.W.Frag} {mg : Str → Option Value} {base : Heap} {T : Tb} {x qual : Str} {st : Stmt} {f : Addr} {fd : FuncData} {N ps : List Str} {k n : Nat} {g : FS} (F : FunB K x qual st f fd ps) (S : FnScope N ps (defScope st)) (hn : N.length = n) (hle : ps.length ≤ n)
    (hb : ∀ (cdv : Value) (A : Around) (outer : List PySem.Env) (s : Shared) (H : Hp) (E : XK), Room k (A.deeper (PyProof.Rows.envOfC qual (defScope st) s.heap.objs.size f cdv)) → SSs (cxOf (L2N.CX P w) P w K mg base N qual (defScope st) f cdv A outer s H E) T (WK E) (defBody st) g) :
    FnOk P w K mg base (L2N.CX P w) (k + 1) f fd ps (spQ T ps.length (fnQ ps.length n g)) := by
  obtain ⟨oc, od, dV, kV, doc, pm, an, cdv, ct, osl, rfl, lk, hcd⟩ := F.ex
  exact fn_of lk hcd S (fun vs H Q E h => h.1) fun A outer s H vs Q E hr h => ⟨_, hb cdv A outer s H E hr, fnQ_end hn h hle⟩
end EV
set_option maxRecDepth 100000
/-! EvL: plain lemmas: what the combinators give on data that is known in part. -/
namespace EV
open PySem
@[simp] theorem bind_ok {α β : Type} {a : α} {e : Env} {k : α → Env → R β} : (R.ok a e).bind k = k a e := rfl
@[simp] theorem bindB_ok' {α β : Type} {a : α} {e : Env} {k : α → Env → R β} : (R.ok a e).bindB k = k a e := rfl
@[simp] theorem bind_bot {α β : Type} {k : α → Env → R β} : (R.bot : R α).bind k = .bot := rfl
@[simp] theorem bindB_bot {α β : Type} {k : α → Env → R β} : (R.bot : R α).bindB k = .bot := rfl
@[simp] theorem of_some {α β : Type} {a : α} {k : α → R β} : R.of (some a) k = k a := rfl
@[simp] theorem of_none {α β : Type} {k : α → R β} : R.of (none : Option α) k = .bot := rfl
@[simp] theorem dEq_int (i j : Int) : dEq (.int i) (.int j) = some (.bl (i == j)) := rfl
@[simp] theorem dNe_int (i j : Int) : dNe (.int i) (.int j) = some (.bl (!(i == j))) := rfl
@[simp] theorem toP_int (i : Int) : toP (.int i) = .int i := rfl
theorem getN_nat {α : Type} {xs : List α} {n : Nat} : getN xs (n : Int) = xs[n]? := by
  rw [getN_def, if_pos (by omega)]
  rfl
theorem bits_le {i : Int} {n : Nat} (h : i.natAbs < 2 ^ n) (hn : 0 < n) : bits i ≤ n := by
  unfold bits
  by_cases hz : i.natAbs = 0
  · rw [hz, Nat.log2_zero]
    omega
  · have := (Nat.log2_lt hz).mpr h
    omega
theorem wide_of {i j : Int} (h : bits i + bits j ≤ 134217728) : wide i j = true := by
  unfold wide
  simpa using h
theorem seq_assoc (a b c : FS) : EV.seq (EV.seq a b) c = EV.seq a (EV.seq b c) := by
  funext ε
  unfold EV.seq
  cases h : a ε with
  | bot => rfl
  | ex c fs e => rfl
  | ok fl e => cases fl <;> rfl
theorem seq_nx {a b : FS} {ε ε' : Env} (h : a ε = .ok .nx ε') : EV.seq a b ε = b ε' := by
  unfold EV.seq
  rw [h]
  rfl
theorem fmod_lt {i j : Int} (h : 0 < j) : 0 ≤ i.fmod j ∧ i.fmod j < j := by
  rw [Int.fmod_eq_emod_of_nonneg _ (by omega)]
  exact ⟨Int.emod_nonneg _ (by omega), Int.emod_lt_of_pos _ h⟩
theorem bits_small {i : Int} {n : Nat} (h : i.natAbs < 2 ^ n) : bits i ≤ n + 1 := by
  unfold bits
  by_cases hz : i.natAbs = 0
  · rw [hz, Nat.log2_zero]
    omega
  · have := (Nat.log2_lt hz).mpr h
    omega
theorem lt_bits (i : Int) : i.natAbs < 2 ^ bits i := by
  unfold bits
  exact Nat.lt_log2_self
theorem bits_mul (i j : Int) : bits (i * j) ≤ bits i + bits j := by
  have h : (i * j).natAbs < 2 ^ (bits i + bits j) := by
    rw [Int.natAbs_mul, Nat.pow_add]
    exact Nat.mul_lt_mul'' (lt_bits i) (lt_bits j)
  have h1 : 0 < bits i := by unfold bits; omega
  exact bits_le h (by omega)
theorem dPow_int (i j : Int) : dPow (.int i) (.int j) = if 0 ≤ j ∧ (bits i : Int) * j ≤ 2 ^ 27 then some (.int (i ^ j.toNat)) else none := rfl
theorem dMul_int (i j : Int) : dMul (.int i) (.int j) = if wide i j = true then some (.int (i * j)) else none := rfl
theorem mul_ok {i j : Int} (h : bits i + bits j ≤ 134217728) : dMul (.int i) (.int j) = some (.int (i * j)) := by
  rw [dMul_int, if_pos (wide_of h)]
theorem fnQ_ret {np n : Nat} {g : FS} {o : O} {ds : List D} {d : D} {ε : Env} (hl : ds.length + 1 = np) (h : g (.ow (some 0) o :: start (n - 1) ds) = .ok (.rt d) ε) : fnQ np n g o ds = outQ d ε := by
  unfold fnQ
  rw [if_pos hl, h]
theorem fn_ret {np n : Nat} {g : FS} {ds : List D} {d : D} {ε : Env} (hl : ds.length = np) (h : g (start n ds) = .ok (.rt d) ε) : fn np n g ds = .ret d := by
  unfold fn
  rw [if_pos hl, h]
theorem fn_rto {np n : Nat} {g : FS} {ds : List D} {o : O} {ε : Env} (hl : ds.length = np) (h : g (start n ds) = .ok (.ro o) ε) : fn np n g ds = .rto o := by
  unfold fn
  rw [if_pos hl, h]
theorem lcL_map {own : List Nat} {h : FG} {tt : FT} {fe : FE} {f : D → D} {ε : Env} : ∀ {items : List D}, (∀ x ∈ items, ∃ ε1 ε2 ε3, h x ε = some ε1 ∧ tt ε1 = .ok true ε2 ∧ fe ε2 = .ok (f x) ε3 ∧ wipeE ε3 own = ε) → lcL own h tt fe items ε = .ok (items.map f) ε
  | [], _ => rfl
  | x :: items, hx => by
    obtain ⟨ε1, ε2, ε3, e1, e2, e3, e4⟩ := hx x (by simp)
    unfold lcL
    rw [e1, of_some, e2, bindB_ok', if_pos rfl, e3, bindB_ok', e4, lcL_map fun y hy => hx y (List.mem_cons_of_mem _ hy)]
    rfl
theorem mem_rngL {x : D} : ∀ {n : Nat} {lo : Int}, x ∈ rngL lo n → ∃ i : Nat, i < n ∧ x = .int (lo + i)
  | 0, lo, h => by simp [rngL] at h
  | n + 1, lo, h => by
    simp only [rngL, List.mem_cons] at h
    rcases h with rfl | h
    · exact ⟨0, by omega, by simp⟩
    · obtain ⟨i, hi, rfl⟩ := mem_rngL h
      exact ⟨i + 1, by omega, by congr 1; omega⟩
def onI (f : Int → D) : D → D
  | .int i => f i
  | _ => .non
theorem line_ok {n : Nat} (h : n ≤ 1000000) : n ≤ line := Nat.le_trans h (by decide +kernel)
theorem line_lt' {n : Nat} (h : n ≤ 1000000) : n < line := Nat.lt_of_le_of_lt h (by decide +kernel)
theorem lstO_ok {fr : FA} {ε ε' : Env} {xs : List D} (h : fr ε = .ok xs ε') (hl : xs.length ≤ 1000000) : lstO fr ε = .ok (.l xs) ε' := by
  unfold lstO
  rw [h, bind_ok, if_pos (line_ok hl)]
theorem tupE_ok {fr : FA} {ε ε' : Env} {xs : List D} (h : fr ε = .ok xs ε') (hl : xs.length ≤ 1000000) : tupE fr ε = .ok (.tup xs) ε' := by
  unfold tupE
  rw [h, bind_ok, if_pos (line_ok hl)]
theorem lc_ok {own : List Nat} {fi : FA} {h : FG} {tt : FT} {fe : FE} {ε ε1 ε2 : Env} {items ys : List D} (hi : fi ε = .ok items ε1) (hl : items.length ≤ 1000000) (hb : lcL own h tt fe items (wipeE ε1 own) = .ok ys ε2) : EV.lc own fi h tt fe ε = .ok (.l ys) (backE ε1 ε2 own) := by
  unfold EV.lc
  rw [hi, bind_ok, if_pos (line_lt' hl), hb]
  rfl
theorem small_ok {i : Int} (h0 : -1000000000 ≤ i) (h1 : i ≤ 1000000000) : small i = true := by
  unfold small
  rw [decide_eq_true (Int.le_trans (by decide) h0), decide_eq_true (Int.lt_of_le_of_lt h1 (by decide))]
  rfl
theorem rng1_ok {fr : FA} {ε ε' : Env} {j : Int} (h : fr ε = .ok [.int j] ε') (h0 : -1000000000 ≤ j) (h1 : j ≤ 1000000000) : EV.iRng1 fr ε = .ok (rngL 0 j.toNat) ε' := by
  unfold EV.iRng1
  rw [h, bind_ok]
  show (if small j = true then R.ok (rngL 0 j.toNat) ε' else R.bot) = _
  rw [if_pos (small_ok h0 h1)]
theorem rng2_ok {fr : FA} {ε ε' : Env} {i j : Int} (h : fr ε = .ok [.int i, .int j] ε') (i0 : -1000000000 ≤ i) (i1 : i ≤ 1000000000) (h0 : -1000000000 ≤ j) (h1 : j ≤ 1000000000) : EV.iRng2 fr ε = .ok (rngL i (j - i).toNat) ε' := by
  unfold EV.iRng2
  rw [h, bind_ok]
  show (if small i = true ∧ small j = true then R.ok (rngL i (j - i).toNat) ε' else R.bot) = _
  rw [if_pos ⟨small_ok i0 i1, small_ok h0 h1⟩]
theorem rngL_map {f : Int → D} : ∀ (n : Nat) (lo : Int), (rngL lo n).map (onI f) = (List.range n).map fun i : Nat => f (lo + i)
  | 0, lo => rfl
  | n + 1, lo => by
    rw [List.range_succ_eq_map]
    simp only [rngL, List.map_cons, List.map_map, onI]
    rw [rngL_map n (lo + 1)]
    simp only [Int.natCast_zero, Int.add_zero, List.cons.injEq, true_and]
    apply List.map_congr_left
    intro i _
    simp only [Function.comp]
    congr 1
    omega
theorem range_get {ns : List Int} : (List.range ns.length).map (fun i : Nat => D.int ((ns[i]?).getD 0)) = ns.map D.int := by
  apply List.ext_getElem?
  intro i
  simp only [List.getElem?_map]
  by_cases h : i < ns.length
  · rw [List.getElem?_range h]
    simp [h]
  · rw [List.getElem?_eq_none (by simpa using h), List.getElem?_eq_none (by omega)]
    rfl
end EV
set_option maxRecDepth 100000
/-! EvE: the facts that the head tells, put together. -/
namespace EV
open PySem L2
/-- what the head tells of an own class -/
structure C0 (K : PySem.W.Frag) (C : Addr) : Prop where
  pg : PySem.W.plainGet K C Str.empty = true
  hd : PySem.W.hasDictIn K C = true
  po : PySem.W.plainOver K C = true
  sa : PySem.W.findIn K (.ref C) "__setattr__" = some (some (.builtin "object.__setattr__"))
  ha : PySem.W.findIn K (.ref C) "__class__" = some (some (.builtin "object.__class__"))
  hn : PySem.W.specialIn K (.builtin "object.__class__") "__get__" = some (some (.builtin "getset_descriptor.__get__"))
  htk : PySem.W.takesIn K (.builtin "object.__class__") = some true
  hm : PySem.W.mroIn K C (.type "object") = some true
  cd : PySem.W.isClsIn K C = true
  ty : PySem.W.typeIn K (.ref C) = some (.type "type")
  s1 : PySem.W.subIn K (.ref C) (.type "int") = some false
  s2 : PySem.W.subIn K (.ref C) (.type "bool") = some false
  s3 : PySem.W.subIn K (.ref C) (.type "str") = some false
  s4 : PySem.W.subIn K (.ref C) (.type "list") = some false
  s5 : PySem.W.subIn K (.ref C) (.type "tuple") = some false
  b1 : PySem.W.subIn K (.type "NoneType") (.ref C) = some false
  b2 : PySem.W.subIn K (.type "bool") (.ref C) = some false
  b3 : PySem.W.subIn K (.type "int") (.ref C) = some false
  b4 : PySem.W.subIn K (.type "str") (.ref C) = some false
  b5 : PySem.W.subIn K (.type "list") (.ref C) = some false
  b6 : PySem.W.subIn K (.type "tuple") (.ref C) = some false
section
variable {K : PySem.W.Frag} {C C' : Addr}
theorem C0.cls (h : C0 K C) : Cls K C := ⟨h.pg, h.hd, h.po, h.sa⟩
theorem kit_toTy {T : String} (hs : PySem.W.subIn K (.ref C) (.type T) = some false) (hm : PySem.W.kitMeta T = true) : PySem.W.kitOne K (.ref C) (.type T) = some false := by
  unfold PySem.W.kitOne
  rw [if_neg (by intro z; cases z)]
  show (if PySem.W.kitMeta T = true then PySem.W.subIn K (.ref C) (.type T) else none) = some false
  rw [if_pos hm, hs]
theorem clsIn_of (h : C0 K C) : (PySem.W.clsIn K C).isSome = true := by
  have := h.cd
  unfold PySem.W.isClsIn at this
  first
    | exact this
    | simpa using this
theorem kit_toC {t : Value} (h : C0 K C) (hne : (t == Value.ref C) = false) {b : Bool} (hs : PySem.W.subIn K t (.ref C) = some b) : PySem.W.kitOne K t (.ref C) = some b := by
  unfold PySem.W.kitOne
  rw [if_neg (by rw [hne]; decide)]
  show (if ((PySem.W.clsIn K C).isSome && PySem.W.typeIn K (.ref C) == some (.type "type")) = true then PySem.W.subIn K t (.ref C) else none) = some b
  rw [if_pos, hs]
  rw [clsIn_of h, h.ty]
  rfl
theorem kit_same : PySem.W.kitOne K (.ref C) (.ref C) = some true := by
  unfold PySem.W.kitOne
  rw [if_pos]
  exact beq_iff_eq.mpr rfl
theorem C0.isC (h : C0 K C) : IsC K C where
  cl := h.cls
  ha := h.ha
  hn := h.hn
  htk := h.htk
  hm := h.hm
  no := fun t => by
    cases t
    · exact kit_toTy h.s1 (by decide +kernel)
    · exact kit_toTy h.s2 (by decide +kernel)
    · exact kit_toTy h.s3 (by decide +kernel)
    · exact kit_toTy h.s4 (by decide +kernel)
    · exact kit_toTy h.s5 (by decide +kernel)
theorem C0.kit {T : Tb} {n c : Nat} (h : C0 K (T.ad c)) (o : ∀ c', c' < n → c' ≠ c → T.ad c' ≠ T.ad c ∧ PySem.W.subIn K (.ref (T.ad c')) (.ref (T.ad c)) = some false) : KitC K T n c where
  non := kit_toC h rfl h.b1
  bl := kit_toC h rfl h.b2
  int := kit_toC h rfl h.b3
  str := kit_toC h rfl h.b4
  lst := kit_toC h rfl h.b5
  tup := kit_toC h rfl h.b6
  ins := fun c' hc' => by
    by_cases e : c' = c
    · subst e
      rw [kit_same]
      simp
    · obtain ⟨h1, h2⟩ := o c' hc' e
      rw [kit_toC h (by
        cases z : (Value.ref (T.ad c') == Value.ref (T.ad c)) with
        | false => rfl
        | true =>
          have := beq_iff_eq.mp z
          injection this with q
          exact absurd q h1) h2]
      simp [e]
end
/-- a def with one default, told by the head -/
theorem funB_one {K : PySem.W.Frag} {x qual : Str} {st : Stmt} {f T0 : Addr} {oc : Value} {od an oT' : Option Addr} {osl sT : Array (Option Value)} {kV doc pm cdv ct oT : Value} {nT : Nat} {ps : List Str} {its : Array Value} {dv : V}
    (l : K.lookup f = some ⟨oc, od, .func (PySem.W.fnOf x qual (defArgs st) (defBody st) (defScope st) (.ref T0) kV doc pm an cdv ct), osl⟩)
    (c : PySem.W.codeIn K cdv qual = true) (k : PySem.W.keepIn K (.ref f) = true) (lT : K.lookup T0 = some ⟨oT, oT', .seq its nT, sT⟩) (hv : Vals [dv] its.toList)
    (h : ∀ (T : Addr) (kV doc pm : Value) (an : Option Addr) (cdv ct : Value) (us its : List Value), us.length = ps.length → its.length = 1 →
      ∃ k, bindArgs (PySem.W.fnOf x qual (defArgs st) (defBody st) (defScope st) (.ref T) kV doc pm an cdv ct) ⟨us, []⟩ = seqItems? (.ref T) >>= k ∧ k (some its.toArray) = pure (ps.zip (us ++ its.drop 1))) :
    FunB K x qual st f (PySem.W.fnOf x qual (defArgs st) (defBody st) (defScope st) (.ref T0) kV doc pm an cdv ct) ps := by
  have F : FunD K x qual (defArgs st) (defBody st) (defScope st) [dv] [] f (PySem.W.fnOf x qual (defArgs st) (defBody st) (defScope st) (.ref T0) kV doc pm an cdv ct) :=
    ⟨⟨oc, od, .ref T0, kV, doc, pm, an, cdv, ct, osl, rfl, l, c, .inr ⟨by simp, T0, _, its.toList, nT, rfl, lT, by simp, hv⟩, .inl rfl⟩, k⟩
  obtain ⟨ds, hd, hb⟩ := F.binds1 ps.length 1 (by simp) (by simp) h
  have : ds = [] := by
    cases hd
    rfl
  subst this
  exact ⟨⟨oc, od, _, kV, doc, pm, an, cdv, ct, osl, rfl, l, c⟩, hb⟩
/-- the law's promise, without a table -/
def spL (K : PySem.W.Frag) : Sp := fun vs H Q E => ∃ (a : Addr) (ns : List Int), vs = [.ref a] ∧ SqL K H a (ns.map V.int) ∧ ns.length ≤ 63 ∧ (∀ z ∈ ns, Builtin.Int.intBits z ≤ 1048576) ∧ ∀ H', Q (.bl true) H'
theorem spL_of {T : Tb} {K : PySem.W.Frag} {m : List D → FR} (hK : T.K = K) (hm : ∀ ns : List Int, ns.length ≤ 63 → (∀ z ∈ ns, Builtin.Int.intBits z ≤ 1048576) → m [.scr ns] = .ret (.bl true)) : ∀ vs H Q E, spL K vs H Q E → spM T 1 m vs H Q E := by
  rintro vs H Q E ⟨a, ns, rfl, hS, hl, hb, k⟩
  refine ⟨rfl, H, [.scr ns], .refl _, .cons (rep_scr.mpr ⟨a, rfl, by rw [hK]; exact hS⟩) .nil, ?_⟩
  rw [hm ns hl hb]
  intro v F' H' _ r
  rw [rep_bl.mp r]
  exact k H'
theorem walkL {l : PySem.W.OpenLaw} {k : Nat} {q : Program} {loose : List Str} {XP : (Str → Option Value) → Heap → Prop} {YP : World → Heap → Prop} {d : DefRec} {K : Params → PySem.W.Frag} (hn : l.most = some 63) (hdf : d.params.defaults = []) (hr : Room k callerA)
    (hY : ∀ (w : World) (h : Heap), YP w h → (K w.params).In h)
    (F : ∀ (w : World) (mg : Str → Option Value) (fa : Addr) (h : Heap), (K w.params).In h → h.Ns mainGlobals mg → mg d.name = some (.ref fa) →
      ∃ fd : FuncData, (∀ (s : Shared) (u : Value), BindsTo s fd ⟨[u], []⟩ [("script", u)]) ∧ ∀ base : Heap, (K w.params).In base → base.Ns mainGlobals mg → FnOk l.prog w (K w.params) mg base (L2N.CX l.prog w) k fa fd ["script"] (spL (K w.params))) :
    PySem.W.WalkO q loose XP YP l.row.toRowW d [] (fun f vs => PySem.call f vs) :=
  L2.walk_ofB (n := 63) (k := k) (x := "script") (CX := fun w => L2N.CX l.prog w) (sp := fun w => spL (K w.params)) hn (by decide) hdf hr hY F (fun _ _ a ns hl hb _ hS => ⟨a, ns, rfl, hS, hl, hb, fun _ => rfl⟩) fun w H s e s' z => noCX H s e s' z
end EV
set_option maxRecDepth 100000
/-! EvI: texts; constants of the top; shifts. -/
namespace EV
open PySem L2
noncomputable section
/-- str(x) -/
def bStr : List D → Option D
  | [.int i] => if i.natAbs.log2 < 1920 then some (.str (toString i)) else none
  | [.str x] => some (.str x)
  | _ => none
/-- int(x), texts too -/
def bIntT : List D → Option D
  | [.int i] => some (.int i)
  | [.bl b] => some (.int (if b then 1 else 0))
  | [.str x] => if x.length ≤ 640 then (PySem.intText? x).map .int else none
  | _ => none
/-- one sign in a text -/
def dInS : D → D → Option D
  | .str x, .str z => (match x.cps.toList with
    | [c] => some (.bl (decide (c ∈ z.cps.toList)))
    | _ => none)
  | _, _ => none
def dNotInS : D → D → Option D
  | .str x, .str z => (match x.cps.toList with
    | [c] => some (.bl (!decide (c ∈ z.cps.toList)))
    | _ => none)
  | _, _ => none
/-- x.partition(y) -/
def partE (fa fb : FE) : FE := fun ε => (fa ε).bind fun x ε1 => match x with
  | .str a => (fb ε1).bind fun y ε2 => (match y with
    | .str b => if (b.length == 0) = false ∧ a.length ≤ line then .ok (.tup [.str (Txt.partition a b).1, .str (Txt.partition a b).2.1, .str (Txt.partition a b).2.2]) ε2 else .bot
    | _ => .bot)
  | _ => .bot
/-- x.split(y) -/
def splitO (fa fb : FE) : FO := fun ε => (fa ε).bind fun x ε1 => match x with
  | .str a => (fb ε1).bind fun y ε2 => (match y with
    | .str b => if (b.length == 0) = false ∧ a.length + 2 ≤ line then .ok (.l ((Txt.split a b).map .str)) ε2 else .bot
    | _ => .bot)
  | _ => .bot
def strsOf : List D → Option (List Str)
  | [] => some []
  | .str x :: xs => (match strsOf xs with
    | some ys => some (x :: ys)
    | none => none)
  | _ => none
def itemsOf : D → Option (List D)
  | .lst xs => some xs
  | .tup xs => some xs
  | _ => none
/-- x.join(y) -/
def joinE (fa fb : FE) : FE := fun ε => (fa ε).bind fun x ε1 => match x with
  | .str a => (fb ε1).bind fun y ε2 => (match itemsOf y with
    | some xs => (match strsOf xs with
      | some ys => if (ys.map (·.length)).sum + ys.length * a.length ≤ line then .ok (.str (Txt.join a ys)) ε2 else .bot
      | none => .bot)
    | none => .bot)
  | _ => .bot
/-- a slice of a text -/
def dSlS : D → Option Int → Option Int → Option D
  | .str z, lo, hi => if z.length ≤ line then some (.str (cutS z lo hi)) else none
  | _, _, _ => none
def slS (fa : FE) (fl fh : FP) : FE := fun ε => (fa ε).bind fun x ε1 => (fl ε1).bind fun lo ε2 => (fh ε2).bind fun hi ε3 => .of (dSlS x lo hi) fun z => .ok z ε3
end
section
variable {X : Cx} {T : Tb} {W : WX} {pos : Pos} {a b e : Expr} {fa fb fe : FE} {fr : FA} {es : List Expr}
theorem call_strA : CallR X (.type "str") (fun xs H Q => (∃ i, xs = [.int i] ∧ i.natAbs.log2 < 1920 ∧ Q (.str (toString i)) H) ∨ ∃ a, xs = [.str a] ∧ Q (.str a) H) := CallR.or call_str_int SkE.call_str_str
theorem caS_str : CaS T (fun xs H Q => (∃ i, xs = [.int i] ∧ i.natAbs.log2 < 1920 ∧ Q (.str (toString i)) H) ∨ ∃ a, xs = [.str a] ∧ Q (.str a) H) bStr := by
  intro F H xs z vs Q r s e k
  unfold bStr at e
  split at e
  · split at e
    · rename_i hl
      cases e
      obtain ⟨v, rfl, rv⟩ := reps_one r
      rw [rep_int.mp rv]
      exact .inl ⟨_, rfl, hl, k _ F H (Grow.refl s) (rep_str.mpr rfl)⟩
    · cases e
  · cases e
    obtain ⟨v, rfl, rv⟩ := reps_one r
    rw [rep_str.mp rv]
    exact .inr ⟨_, rfl, k _ F H (Grow.refl s) (rep_str.mpr rfl)⟩
  · cases e
theorem call_intA : CallR X (.type "int") (fun xs H Q => ((∃ i, xs = [.int i] ∧ Q (.int i) H) ∨ ∃ k, xs = [.bl k] ∧ Q (.int (if k then 1 else 0)) H) ∨ ∃ a n, xs = [.str a] ∧ PySem.intText? a = some n ∧ a.length ≤ 640 ∧ Q (.int n) H) := CallR.or call_int1 call_int_str
theorem caS_intT : CaS T (fun xs H Q => ((∃ i, xs = [.int i] ∧ Q (.int i) H) ∨ ∃ k, xs = [.bl k] ∧ Q (.int (if k then 1 else 0)) H) ∨ ∃ a n, xs = [.str a] ∧ PySem.intText? a = some n ∧ a.length ≤ 640 ∧ Q (.int n) H) bIntT := by
  intro F H xs z vs Q r s e k
  unfold bIntT at e
  split at e
  · cases e
    obtain ⟨v, rfl, rv⟩ := reps_one r
    rw [rep_int.mp rv]
    exact .inl (.inl ⟨_, rfl, k _ F H (Grow.refl s) (rep_int.mpr rfl)⟩)
  · cases e
    obtain ⟨v, rfl, rv⟩ := reps_one r
    rw [rep_bl.mp rv]
    exact .inl (.inr ⟨_, rfl, k _ F H (Grow.refl s) (rep_int.mpr rfl)⟩)
  · rename_i x
    split at e
    · rename_i hl
      cases hn : PySem.intText? x with
      | none => rw [hn] at e; cases e
      | some n =>
        rw [hn] at e
        cases e
        obtain ⟨v, rfl, rv⟩ := reps_one r
        rw [rep_str.mp rv]
        exact .inr ⟨x, n, rfl, hn, hl, k _ F H (Grow.refl s) (rep_int.mpr rfl)⟩
    · cases e
  · cases e
theorem str_one {x : Str} {c : Nat} (h : x.cps.toList = [c]) : x = ⟨#[c]⟩ := by
  cases x with
  | mk cps => rw [show cps = #[c] from Array.toList_inj.mp h]
theorem opS_inS : OpS T (fun x y H Q => ∃ (c : Nat) (z : Str), x = .str ⟨#[c]⟩ ∧ y = .str z ∧ Q (.bl (decide (c ∈ z.cps.toList))) H) dInS := by
  intro F H x y z v u Q rx ry s e k
  unfold dInS at e
  split at e
  · split at e
    · rename_i c hc
      cases e
      rw [rep_str.mp rx, rep_str.mp ry, str_one hc]
      exact ⟨c, _, rfl, rfl, k _ F H (Grow.refl s) (rep_bl.mpr rfl)⟩
    · cases e
  · cases e
theorem opS_notInS : OpS T (fun x y H Q => ∃ (c : Nat) (z : Str), x = .str ⟨#[c]⟩ ∧ y = .str z ∧ Q (.bl (!decide (c ∈ z.cps.toList))) H) dNotInS := by
  intro F H x y z v u Q rx ry s e k
  unfold dNotInS at e
  split at e
  · split at e
    · rename_i c hc
      cases e
      rw [rep_str.mp rx, rep_str.mp ry, str_one hc]
      exact ⟨c, _, rfl, rfl, k _ F H (Grow.refl s) (rep_bl.mpr rfl)⟩
    · cases e
  · cases e
theorem rep_strs {F : Hp} : ∀ {l : List Str}, Reps T F (l.map D.str) (l.map V.str)
  | [] => .nil
  | x :: l => .cons (rep_str.mpr rfl) rep_strs
/-- a constant of the top -/
theorem sE_kInt {x : Str} {i : Int} (h : ∃ t, X.mg x = some (.int i t)) (hg : Gl X x) (hd : (x == ("__debug__" : Str)) = false := by decide +kernel) : SE X T W (.Name x pos) (cC (.int i)) := by
  obtain ⟨t, ht⟩ := h
  exact impE (pe_glob (v := .int i) hg ht ⟨t, rfl⟩ hd) fun σ H Q ⟨F0, B0, A, F, ε, rel, p⟩ => p F H (.refl _) rel _ (rep_int.mpr rfl)
theorem sE_kStr {x : Str} {i : Str} (h : ∃ t, X.mg x = some (.str i t)) (hg : Gl X x) (hd : (x == ("__debug__" : Str)) = false := by decide +kernel) : SE X T W (.Name x pos) (cC (.str i)) := by
  obtain ⟨t, ht⟩ := h
  exact impE (pe_glob (v := .str i) hg ht ⟨t, rfl⟩ hd) fun σ H Q ⟨F0, B0, A, F, ε, rel, p⟩ => p F H (.refl _) rel _ (rep_str.mpr rfl)
theorem sE_part {apos : Pos} (ha : SE X T W a fa) (hb : SE X T W b fb) (hs : starEach [b] X.env = [(false, eval b X.env)] := by rfl) (hbase : attributeBase a "partition" X.env (eval a X.env) = eval a X.env := by rfl) (hline : (apos.endLine == pos.line) = true := by rfl) :
    SE X T W (.Call (.Attribute a "partition" apos) [b] [] pos) (partE fa fb) := impE (pe_partition ha hb hs hbase hline) fun σ H Q ⟨F0, B0, A, F, ε, rel, p⟩ =>
  ⟨F0, B0, A, F, ε, rel, (post_bind p).imp fun x ε1 F1 H1 s1 rel1 p1 v rv => by
    cases x with
    | str xa =>
      refine ⟨⟨xa, rep_str.mp rv⟩, F0, B0, A, F1, ε1, rel1, (post_bind p1).imp fun y ε2 F2 H2 s2 rel2 p2 u ru => ?_⟩
      cases y with
      | str yb =>
        by_cases hh : (yb.length == 0) = false ∧ xa.length ≤ line
        · have p3 : Post T W F0 B0 A F2 σ (R.ok (D.tup [.str (Txt.partition xa yb).1, .str (Txt.partition xa yb).2.1, .str (Txt.partition xa yb).2.2]) ε2) fun d _ F' H' => ∀ v, Rep T F' d v → Q v H' := by
            have := p2
            simp only [if_pos hh] at this
            exact this
          refine ⟨xa, yb, rep_str.mp rv, by rw [rep_str.mp ru], hh.1, line_le hh.2, fun q hq => ?_⟩
          obtain ⟨g, r⟩ := new_tup rel2.fh hq (Reps.cons (rep_str.mpr rfl) (.cons (rep_str.mpr rfl) (.cons (rep_str.mpr rfl) .nil)) : Reps T F2 [.str (Txt.partition xa yb).1, .str (Txt.partition xa yb).2.1, .str (Txt.partition xa yb).2.2] _)
          exact p3 _ _ g.ff (rel2.grow g) _ r
        · have := p2
          simp only [if_neg hh] at this
          exact this.elim
      | _ => exact p2.elim
    | _ => exact p1.elim⟩
theorem sE_slS {p2 : Pos} {lo hi : Option Expr} {fl fh : FP} (he : SE X T W e fe) (hl : PO X lo (EvPo T W fl)) (hh : PO X hi (EvPo T W fh)) : SE X T W (.Subscript e (.Slice lo hi none p2) pos) (slS fe fl fh) :=
  impE (pe_slice sl_str he hl hh) fun σ H Q ⟨F0, B0, A, F, ε, rel, p⟩ =>
  ⟨F0, B0, A, F, ε, rel, (post_bind p).imp fun x ε1 F1 H1 s1 rel1 p1 v rv => ⟨F0, B0, A, F1, ε1, rel1, (post_bind p1).imp fun l ε2 F2 H2 s2 rel2 p2 => ⟨F0, B0, A, F2, ε2, rel2, (post_bind p2).imp fun h ε3 F3 H3 s3 rel3 p3 => by
    obtain ⟨z, ez, p4⟩ := post_of p3
    unfold dSlS at ez
    split at ez
    · split at ez
      · rename_i hz
        cases ez
        exact ⟨_, rep_str.mp rv, line_le hz, p4 F3 H3 (.refl _) rel3 _ (rep_str.mpr rfl)⟩
      · cases ez
    · cases ez⟩⟩⟩
theorem reps_strs {F : Hp} : ∀ {xs : List D} {ys : List Str} {vs : List V}, strsOf xs = some ys → Reps T F xs vs → vs = ys.map V.str
  | [], ys, vs, h, r => by
    cases h
    exact reps_nil.mp r
  | .str x :: xs, ys, vs, h, r => by
    simp only [strsOf] at h
    split at h
    · rename_i zs hz
      cases h
      obtain ⟨v, us, rfl, r1, r2⟩ := reps_cons.mp r
      rw [rep_str.mp r1, reps_strs hz r2]
      rfl
    · cases h
  | .non :: xs, ys, vs, h, r => by cases h
  | .bl _ :: xs, ys, vs, h, r => by cases h
  | .int _ :: xs, ys, vs, h, r => by cases h
  | .lst _ :: xs, ys, vs, h, r => by cases h
  | .tup _ :: xs, ys, vs, h, r => by cases h
  | .ins _ _ :: xs, ys, vs, h, r => by cases h
  | .scr _ :: xs, ys, vs, h, r => by cases h
  | .exc _ _ :: xs, ys, vs, h, r => by cases h
theorem sO_split {apos : Pos} (ha : SE X T W a fa) (hb : SE X T W b fb) (hs : starEach [b] X.env = [(false, eval b X.env)] := by rfl) (hbase : attributeBase a "split" X.env (eval a X.env) = eval a X.env := by rfl) (hline : (apos.endLine == pos.line) = true := by rfl) :
    SO X T W (.Call (.Attribute a "split" apos) [b] [] pos) (splitO fa fb) := impE (pe_split ha hb hs hbase hline) fun σ H Q ⟨F0, B0, A, F, ε, rel, p⟩ =>
  ⟨F0, B0, A, F, ε, rel, (post_bind p).imp fun x ε1 F1 H1 s1 rel1 p1 v rv => by
    cases x with
    | str xa =>
      refine ⟨⟨xa, rep_str.mp rv⟩, F0, B0, A, F1, ε1, rel1, (post_bind p1).imp fun y ε2 F2 H2 s2 rel2 p2 u ru => ?_⟩
      cases y with
      | str yb =>
        by_cases hh : (yb.length == 0) = false ∧ xa.length + 2 ≤ line
        · simp only [if_pos hh] at p2
          exact ⟨xa, yb, rep_str.mp rv, by rw [rep_str.mp ru], hh.1, line_le hh.2, fun q hq => fresh_done (o := .l ((Txt.split xa yb).map .str)) (ho := .lst ((Txt.split xa yb).map V.str)) rel2 hq rep_strs p2⟩
        · simp only [if_neg hh] at p2
          exact p2.elim
      | _ => exact p2.elim
    | _ => exact p1.elim⟩
theorem sE_join {apos : Pos} (hK : T.K = X.K) (ha : SE X T W a fa) (hb : SE X T W b fb) (hs : starEach [b] X.env = [(false, eval b X.env)] := by rfl) (hbase : attributeBase a "join" X.env (eval a X.env) = eval a X.env := by rfl) (hline : (apos.endLine == pos.line) = true := by rfl) :
    SE X T W (.Call (.Attribute a "join" apos) [b] [] pos) (joinE fa fb) := impE (pe_join ha hb hs hbase hline) fun σ H Q ⟨F0, B0, A, F, ε, rel, p⟩ =>
  ⟨F0, B0, A, F, ε, rel, (post_bind p).imp fun x ε1 F1 H1 s1 rel1 p1 v rv => by
    cases x with
    | str xa =>
      refine ⟨⟨xa, rep_str.mp rv⟩, F0, B0, A, F1, ε1, rel1, (post_bind p1).imp fun y ε2 F2 H2 s2 rel2 p2 u ru => ?_⟩
      split at p2
      · rename_i xs hx
        split at p2
        · rename_i ys hy
          split at p2
          · rename_i hl
            have hl' : (ys.map (·.length)).sum + ys.length * xa.length ≤ 16777216 := line_le hl
            have fin := p2 F2 H2 (.refl _) rel2 _ (rep_str.mpr rfl)
            cases y with
            | lst zs =>
              cases hx
              obtain ⟨q, vs, rfl, h1, r1⟩ := rep_lst.mp ru
              rw [reps_strs hy r1] at h1
              exact ⟨xa, q, ys, rep_str.mp rv, rfl, .inl (SqL.of (rel2.fh _ _ h1)), hl', fin⟩
            | tup zs =>
              cases hx
              obtain ⟨q, vs, rfl, h1, r1⟩ := rep_tup.mp ru
              rw [reps_strs hy r1] at h1
              exact ⟨xa, q, ys, rep_str.mp rv, rfl, .inr (SqT.of (rel2.fh _ _ h1)), hl', fin⟩
            | _ => cases hx
          · exact p2.elim
        · exact p2.elim
      · exact p2.elim
    | _ => exact p1.elim⟩
end
end EV
set_option maxRecDepth 100000
set_option maxHeartbeats 4000000
/-! EvJ: slices with a step. -/
namespace EV
open PySem L2 PyProof.Rows
/-- the items that xs[lo:hi:st] takes, of a list -/
def pickL {α : Type} (xs : List α) (lo hi st : Option Int) : List α :=
  (sliceRange (sliceBounds lo hi st xs.length).1 (sliceBounds lo hi st xs.length).2.1 (sliceBounds lo hi st xs.length).2.2).filterMap fun i => xs[i]?
/-- the same, of a tuple -/
def pickT {α : Type} (xs : List α) (lo hi : Option Int) (st : Int) : List α :=
  (List.range (Builtin.Slice.slicePlaces (Builtin.Slice.sliceAdjust lo hi st xs.length).1 (Builtin.Slice.sliceAdjust lo hi st xs.length).2 st)).filterMap fun (k : Nat) => xs[((Builtin.Slice.sliceAdjust lo hi st xs.length).1 + (k : Int) * st).toNat]?
theorem pickL_array (its : List Value) (lo hi st : Option Int) : slicePick its.toArray lo hi st = (pickL its lo hi st).toArray := by
  unfold slicePick pickL
  rw [List.size_toArray]
  congr 1
  congr 1
  funext i
  simp
theorem pickL_le {α : Type} (xs : List α) (lo hi st : Option Int) (f : α → Value) : (pickL xs lo hi st).length ≤ xs.length := by
  have h := slicePick_size_le ((xs.map f).toArray) lo hi st
  have e : (pickL (xs.map f) lo hi st) = (pickL xs lo hi st).map f := by
    unfold pickL
    rw [List.length_map, List.map_filterMap]
    congr 1
    funext i
    simp
  rw [pickL_array, e] at h
  simpa using h
section
variable {T : Tb} {F : Hp}
theorem reps_fm {ds : List D} {vs : List V} (r : Reps T F ds vs) (g : Nat → Nat) : ∀ l : List Nat, Reps T F (l.filterMap fun i => ds[g i]?) (l.filterMap fun i => vs[g i]?)
  | [] => .nil
  | i :: l => by
    simp only [List.filterMap_cons]
    cases e : ds[g i]? with
    | none =>
      have : vs[g i]? = none := by
        rw [List.getElem?_eq_none_iff, ← r.length]
        exact List.getElem?_eq_none_iff.mp e
      rw [this]
      exact reps_fm r g l
    | some d =>
      obtain ⟨v, ev, rv⟩ := r.get e
      rw [ev]
      exact .cons rv (reps_fm r g l)
theorem Reps.pickL {ds : List D} {vs : List V} (r : Reps T F ds vs) (lo hi st : Option Int) : Reps T F (pickL ds lo hi st) (pickL vs lo hi st) := by
  unfold EV.pickL
  rw [r.length]
  exact reps_fm r id _
theorem Reps.pickT {ds : List D} {vs : List V} (r : Reps T F ds vs) (lo hi : Option Int) (st : Int) : Reps T F (pickT ds lo hi st) (pickT vs lo hi st) := by
  unfold EV.pickT
  rw [r.length]
  exact reps_fm r _ _
theorem vals_fm {vs : List V} {us : List Value} (r : Vals vs us) (g : Nat → Nat) : ∀ l : List Nat, Vals (l.filterMap fun i => vs[g i]?) (l.filterMap fun i => us[g i]?)
  | [] => .nil
  | i :: l => by
    simp only [List.filterMap_cons]
    cases e : vs[g i]? with
    | none =>
      have : us[g i]? = none := by
        rw [List.getElem?_eq_none_iff, ← Vals.length r]
        exact List.getElem?_eq_none_iff.mp e
      rw [this]
      exact vals_fm r g l
    | some d =>
      obtain ⟨v, ev, rv⟩ := Vals.get r e
      rw [ev]
      exact .cons rv (vals_fm r g l)
theorem valsL {vs : List V} {us : List Value} (r : Vals vs us) (lo hi st : Option Int) : Vals (pickL vs lo hi st) (pickL us lo hi st) := by
  unfold EV.pickL
  rw [Vals.length r]
  exact vals_fm r id _
theorem valsT {vs : List V} {us : List Value} (r : Vals vs us) (lo hi : Option Int) (st : Int) : Vals (pickT vs lo hi st) (pickT us lo hi st) := by
  unfold EV.pickT
  rw [Vals.length r]
  exact vals_fm r _ _
end
section
variable {prog : Program} {w : World} {A : Around} {E : Value → Shared → Prop} {s : Shared}
theorem getItem_tuple_step {t sl : Addr} {items : List Value} {vl vu vs : Value} {lo hi : Option Int} {st : Int} {Q : Value → Shared → Prop} (ht : IsTup s.heap t items.toArray) (hs : s.heap.IsSliceOf sl vl vu vs) (pl : IsPart vl lo) (pu : IsPart vu hi) (ps : IsPart vs (some st))
    (h0 : st ≠ 0) (h1 : st ≠ 1) (h : Q (.ref s.heap.objs.size) { s with heap := s.heap.push { cls := .type "tuple", data := .seq (pickT items lo hi st).toArray } })
    (hsz : (pickT items lo hi st).length ≤ sizeLine) : wpAny (model prog w) A (getItem (.ref t) (.ref sl)) Q E s := by
  have htake : sizeOk (.seq (pickT items lo hi st).toArray) := by
    show (pickT items lo hi st).toArray.size ≤ sizeLine
    rw [List.size_toArray]
    exact hsz
  obtain ⟨os, hos, hcs, hds⟩ := id hs
  have hTs : s.TypeIs (.ref sl) "slice" := ⟨os, hos, hcs⟩
  unfold getItem
  try with_reducible refine wpAny_holding ?_
  first | refine wpAny_bind (wpAny_pure ?_) | skip
  refine wpAny_bind (wpAny_sequenceKey ht.typeIs (by decide) ?_)
  refine wpAny_bind (wpAny_callSpecial?_slot (name := Str.ofString "__getitem__") ht.typeIs PyProof.Rows.slot_tuple_getitem
    (wpAny_call_entry PyProof.Rows.slot_tuple_getitem ht.typeIs PyProof.Rows.entry_tuple_getitem ?_ (PyProof.Rows.args_tuple_getitem _ _)))
  show wpAny _ _ (Builtin.Tuple.tupleItemsOf (.ref t) >>= _) _ _ s
  refine wpAny_bind (PyProof.Rows.tupleItemsOf_ ht ?_)
  refine wpAny_bind (wpAny_typeOf hTs ?_)
  rw [if_pos (by decide)]
  have app : ∀ {Q : Int × Int × Nat → Shared → Prop}, Q ((Builtin.Slice.sliceAdjust lo hi st items.length).1, st, Builtin.Slice.slicePlaces (Builtin.Slice.sliceAdjust lo hi st items.length).1 (Builtin.Slice.sliceAdjust lo hi st items.length).2 st) s →
      ∀ E, wpAny (model prog w) (A.under (.builtin "tuple.__getitem__" ⟨[.ref t, .ref sl], []⟩)) (Builtin.Slice.sliceApplied (.ref sl) (pure (items.toArray.size : Int))) Q E s := by
    intro Q hq E
    unfold Builtin.Slice.sliceApplied Builtin.Slice.sliceFields
    refine wpAny_bind (wpAny_bind (wpAny_field hos hds (x := vl) rfl (wpAny_bind (wpAny_field hos hds (x := vu) rfl (wpAny_bind (wpAny_field hos hds (x := vs) rfl (wpAny_pure ?_)))))))
    refine wpAny_bind (HT.slicePart_ ps ?_)
    show wpAny _ _ (if (st == 0) = true then _ else _) _ _ s
    rw [if_neg (by simpa using h0)]
    refine wpAny_bind (HT.slicePart_ pl (wpAny_bind (HT.slicePart_ pu (wpAny_bind (wpAny_pure ?_)))))
    rw [List.size_toArray]
    exact wpAny_pure hq
  refine wpAny_bind (app ?_ _)
  have hno : ¬ (((Builtin.Slice.sliceAdjust lo hi st items.length).1 == 0 && st == 1 && (Builtin.Slice.slicePlaces (Builtin.Slice.sliceAdjust lo hi st items.length).1 (Builtin.Slice.sliceAdjust lo hi st items.length).2 st) == items.toArray.size) = true) := by
    intro q
    rw [Bool.and_eq_true, Bool.and_eq_true] at q
    exact h1 (eq_of_beq q.1.2)
  show wpAny _ _ (if ((Builtin.Slice.sliceAdjust lo hi st items.length).1 == 0 && st == 1 && (Builtin.Slice.slicePlaces (Builtin.Slice.sliceAdjust lo hi st items.length).1 (Builtin.Slice.sliceAdjust lo hi st items.length).2 st) == items.toArray.size) = true then _ else _) _ _ s
  rw [if_neg hno]
  have e : ((List.range (Builtin.Slice.slicePlaces (Builtin.Slice.sliceAdjust lo hi st items.length).1 (Builtin.Slice.sliceAdjust lo hi st items.length).2 st)).filterMap fun (k : Nat) => items.toArray[((Builtin.Slice.sliceAdjust lo hi st items.length).1 + (k : Int) * st).toNat]?).toArray = (pickT items lo hi st).toArray := by
    unfold pickT
    congr 1
    congr 1
    funext i
    simp
  rw [e]
  first
    | exact wpAny_bind (m := Builtin.Tuple.tupleExact _) (wpAny_newObj_type (wpAny_pure ⟨_, rfl, wpAny_pure h⟩) htake)
    | exact wpAny_bind (m := Builtin.Tuple.tupleExact _) (wpAny_newObj_type (wpAny_bind (wpAny_pure (wpAny_pure ⟨_, rfl, wpAny_pure h⟩))) htake)
    | exact wpAny_bind (wpAny_bind (m := Builtin.Tuple.tupleExact _) (wpAny_newObj_type (wpAny_pure (wpAny_pure ⟨_, rfl, wpAny_pure h⟩)) htake))
    | exact wpAny_bind (wpAny_bind (m := Builtin.Tuple.tupleExact _) (wpAny_newObj_type (wpAny_pure ⟨_, rfl, wpAny_pure h⟩) htake))
end

section
variable {X : Cx} {T : Tb} {W : WX} {pos p2 : Pos} {e : Expr} {te : TE} {lo hi : Option Expr} {es : Expr} {tl th ts : TO}
/-- a step slice of a list or a tuple -/
def rStep (K : PySem.W.Frag) : V → Option Int → Option Int → Option Int → Hp → VK → Prop := fun x l u o H Q => ∃ (a : Addr) (xs : List V) (st : Int), x = .ref a ∧ o = some st ∧ st ≠ 0 ∧
  ((SqL K H a xs ∧ ∀ p, H p = none → Q (.ref p) (upd H p (.lst (pickL xs l u (some st))))) ∨
   (SqT K H a xs ∧ st ≠ 1 ∧ (pickT xs l u st).length ≤ sizeLine ∧ ∀ p, H p = none → Q (.ref p) (upd H p (.tup (pickT xs l u st)))))
def tStep (K : PySem.W.Frag) (te : TE) (tl th ts : TO) : TE := fun σ H Q => te σ H fun x H1 => tl σ H1 fun l H2 => th σ H2 fun u H3 => ts σ H3 fun o H4 => rStep K x l u o H4 Q
theorem pe_step (he : PE X e te) (hl : PO X lo tl) (hu : PO X hi th) (hs : PO X (some es) ts) : PE X (.Subscript e (.Slice lo hi (some es) p2) pos) (tStep X.K te tl th ts) := by
  refine ⟨fun pins s σ H Q I h => ?_⟩
  refine Subscript_ (thn (he.run pins s σ H _ I h) fun v s1 ⟨x, H1, I1, r1, q1⟩ => ?_)
  refine wpAny_Slice (thn (hl.run pins s1 σ H1 _ I1 q1) fun vl s2 ⟨l, H2, I2, pl, q2⟩ => thn (hu.run pins s2 σ H2 _ I2 q2) fun vu s3 ⟨u, H3, I3, pu, q3⟩ => thn (hs.run pins s3 σ H3 _ I3 q3) fun vs s4 ⟨o, H4, I4, ps, q4⟩ => ?_)
  obtain ⟨a, xs, st, ex, eo, h0, q⟩ := q4
  subst ex eo
  cases r1
  have I5 : Inv X pins σ H4 { s4 with heap := s4.heap.push { cls := .type "slice", data := .fields #[vl, vu, vs] } } := I4.kept (t' := s4.toks) fun b ob q => Heap.get?_push_of_some _ q
  show wpAny (model X.prog X.w) X.A (subscriptTail e (.Slice lo hi (some es) p2) (.ref a) (.ref s4.heap.objs.size)) (EP X pins σ Q) X.xe { s4 with heap := s4.heap.push { cls := .type "slice", data := .fields #[vl, vu, vs] } }
  rcases q with ⟨hx, q⟩ | ⟨hx, h1, hz1, q⟩
  · obtain ⟨its, r, ht, hz⟩ := I5.list hx
    have hlen := r.length
    refine tail_any (ops := [.ref a, .ref s4.heap.objs.size]) ht.isList.typeIs (PySem.slot_list_getitem.lookup) ?_ (by with_unfolding_all rfl)
    refine wpAny_getItem_list_slice ht.isList (Heap.IsSliceOf.new _ vl vu vs) pl pu ps (by simpa using h0) ?_ (by rw [List.size_toArray]; omega)
    rw [pickL_array]
    refine ⟨.ref _, _, I5.laid (t' := s4.toks) (o := .lst (pickL xs l u (some st))) (fun b ob q => Heap.get?_push_of_some _ q) (Nat.le_refl _) ?_, rfl, q _ (I5.hok.fresh (Nat.le_refl _))⟩
    have r2 := valsL r l u (some st)
    exact ⟨Nat.le_trans (by rw [r2.length]; exact Nat.le_trans (pickL_le its l u (some st) id) (by omega)) hz, _, 0, r2, Heap.get?_push_size _ rfl⟩
  · obtain ⟨its, r, ht, hz⟩ := I5.tuple hx
    refine tail_any (ops := [.ref a, .ref s4.heap.objs.size]) ht.typeIs (PyProof.Rows.slot_tuple_getitem.lookup) ?_ (by with_unfolding_all rfl)
    have r2 := valsT r l u st
    refine getItem_tuple_step ht (Heap.IsSliceOf.new _ vl vu vs) pl pu ps h0 h1 ?_ (by rw [← r2.length]; exact hz1)
    refine ⟨.ref _, _, I5.laid (t' := s4.toks) (o := .tup (pickT xs l u st)) (fun b ob q => Heap.get?_push_of_some _ q) (Nat.le_refl _) ?_, rfl, q _ (I5.hok.fresh (Nat.le_refl _))⟩
    exact ⟨hz1, _, r2, IsTup.new _ _⟩
end
end EV
set_option maxRecDepth 100000
set_option maxHeartbeats 4000000
/-! EvJ2: slices with a step, comb, reversed(range): over data. -/
namespace EV
open PySem L2 PyProof.Rows
noncomputable section
/-- x[lo:hi:st] -/
def dStp : D → Option Int → Option Int → Option Int → Option D
  | .lst xs, lo, hi, some st => if st ≠ 0 then some (.lst (pickL xs lo hi (some st))) else none
  | .tup xs, lo, hi, some st => if st ≠ 0 ∧ st ≠ 1 ∧ (pickT xs lo hi st).length ≤ line then some (.tup (pickT xs lo hi st)) else none
  | _, _, _, _ => none
def stpE (fa : FE) (fl fh fs : FP) : FE := fun ε => (fa ε).bind fun x ε1 => (fl ε1).bind fun lo ε2 => (fh ε2).bind fun hi ε3 => (fs ε3).bind fun st ε4 => .of (dStp x lo hi st) fun z => .ok z ε4
def bComb : List D → Option D
  | [.int a, .int b] => if 0 ≤ a ∧ 0 ≤ b ∧ a < 2 ^ 64 ∧ (b ≤ 9000 ∨ a ≤ 18000) then some (.int (PySem.W.mcComb a b)) else none
  | _ => none
/-- reversed(range(n)) -/
def iRevR1 (fa : FE) : FA := fun ε => (fa ε).bind fun x ε1 => match x with
  | .int j => if small j = true then .ok (rngL 0 j.toNat).reverse ε1 else .bot
  | _ => .bot
end
section
variable {X : Cx} {T : Tb} {W : WX} {pos p2 : Pos} {e es tg a : Expr} {fe fa : FE} {lo hi : Option Expr} {fl fh fs : FP}
theorem sE_stp (he : SE X T W e fe) (hl : PO X lo (EvPo T W fl)) (hh : PO X hi (EvPo T W fh)) (hs : PO X (some es) (EvPo T W fs)) : SE X T W (.Subscript e (.Slice lo hi (some es) p2) pos) (stpE fe fl fh fs) :=
  impE (pe_step he hl hh hs) fun σ H Q ⟨F0, B0, A, F, ε, rel, p⟩ =>
  ⟨F0, B0, A, F, ε, rel, (post_bind p).imp fun x ε1 F1 H1 s1 rel1 p1 v rv => ⟨F0, B0, A, F1, ε1, rel1, (post_bind p1).imp fun l ε2 F2 H2 s2 rel2 p2 => ⟨F0, B0, A, F2, ε2, rel2, (post_bind p2).imp fun h ε3 F3 H3 s3 rel3 p3 =>
   ⟨F0, B0, A, F3, ε3, rel3, (post_bind p3).imp fun o ε4 F4 H4 s4 rel4 p4 => by
    obtain ⟨z, ez, p5⟩ := post_of p4
    have rv4 := ((rv.mono s2).mono s3).mono s4
    unfold dStp at ez
    split at ez
    · rename_i xs st
      split at ez
      · rename_i h0
        cases ez
        obtain ⟨q, vs, rfl, h1, r1⟩ := rep_lst.mp rv4
        refine ⟨q, vs, st, rfl, rfl, h0, .inl ⟨SqL.of (rel4.fh _ _ h1), fun q' hq => ?_⟩⟩
        obtain ⟨g, r⟩ := new_lst rel4.fh hq (r1.pickL l h (some st))
        exact p5 _ _ g.ff (rel4.grow g) _ r
      · cases ez
    · rename_i xs st
      split at ez
      · rename_i h0
        cases ez
        obtain ⟨q, vs, rfl, h1, r1⟩ := rep_tup.mp rv4
        have r2 := r1.pickT l h st
        refine ⟨q, vs, st, rfl, rfl, h0.1, .inr ⟨SqT.of (rel4.fh _ _ h1), h0.2.1, line_le (by rw [← r2.length]; exact h0.2.2), fun q' hq => ?_⟩⟩
        obtain ⟨g, r⟩ := new_tup rel4.fh hq r2
        exact p5 _ _ g.ff (rel4.grow g) _ r
      · cases ez
    · cases ez⟩⟩⟩⟩
def rComb : List V → Hp → VK → Prop := fun vs H Q => ∃ a b : Int, vs = [.int a, .int b] ∧ (0 ≤ a ∧ 0 ≤ b ∧ a < 2 ^ 64 ∧ (b ≤ 9000 ∨ a ≤ 18000)) ∧ Q (.int (PySem.W.mcComb a b)) H
theorem cr_comb : CallR X (.builtin "math.comb") rComb := by
  intro pins s σ H vs us Q I r h
  obtain ⟨a, b, rfl, ⟨h1, h2, h3, h4⟩, q⟩ := h
  obtain ⟨t, u, rfl⟩ := Vals.int2 r
  exact PySem.call_function_meets PySem.W.MGF.kind_comb PySem.W.MGF.plain_comb PySem.W.MGF.entry_comb (PySem.W.MGF.args_comb _ _) (PySem.W.mc_gives_comb t u h1 h2 h3 h4).meets ⟨.int _, H, I.tok _, ⟨_, rfl⟩, q⟩
theorem caS_comb : CaS T rComb bComb := by
  intro F H xs z vs Q r s e k
  unfold bComb at e
  split at e
  · split at e
    · rename_i h
      cases e
      obtain ⟨v, u, rfl, rv, ru⟩ := reps_two r
      rw [rep_int.mp rv, rep_int.mp ru]
      exact ⟨_, _, rfl, h, k _ F H (Grow.refl s) (rep_int.mpr rfl)⟩
    · cases e
  · cases e
theorem iter_rev {F : Hp} {n : Nat} : IterS T (Itc ((n : Int) - 1) (-1) n) F (rngL 0 n).reverse := fun i F1 H1 s1 s2 => by
  have hn : (rngL 0 n).reverse.length = n := by rw [List.length_reverse, rngL_length]
  rw [hn]
  refine ⟨fun hl => hl, fun hl => ⟨hl, fun x H2 y => ?_⟩⟩
  obtain ⟨rfl, rfl⟩ := y
  refine ⟨F1, .int ((n : Int) - 1 + (i : Nat) * (-1)), Grow.refl s2, ?_, by simp only [Rep]⟩
  have hl2 : i < (rngL 0 n).length := by rw [rngL_length]; exact hl
  rw [List.getElem?_reverse hl2, rngL_length, rngL_get n 0 (n - 1 - i) (by omega)]
  congr 2
  omega
theorem sI_revR1 {p q pos : Pos} (hg : Gl X "reversed") (hm : X.mg "reversed" = none) (hg2 : Gl X "range") (hm2 : X.mg "range" = none) (ha : SE X T W a fa) (na : starEach [a] X.env = (false, eval a X.env) :: starEach [] X.env := by rfl)
    (hs : starEach [.Call (.Name "range" q) [a] [] p2] X.env = (false, eval (.Call (.Name "range" q) [a] [] p2) X.env) :: starEach [] X.env := by rfl) :
    SI X T W tg (.Call (.Name "reversed" p) [.Call (.Name "range" q) [a] [] p2] [] pos) (iRevR1 fa) := impI (pi_revR hg hm (prg_1 hg2 hm2 ha na) hs) fun σ H RR ⟨F0, B0, A, F, ε, rel, p⟩ => ⟨F0, B0, A, F, ε, rel, (post_bind p).imp fun x ε1 F1 H1 s1 rel1 p1 v rv => by
  cases x with
  | int j =>
    have p1' : Post T W F0 B0 A F1 σ (if small j = true then R.ok (rngL 0 j.toNat).reverse ε1 else R.bot) fun items _ F' H' => ∀ J, IterS T J F' items → RR J H' := p1
    split at p1'
    · rename_i hs
      have h1 := small_iff hs
      refine ⟨j, rep_int.mp rv, by decide, by decide, h1.1, h1.2, ?_⟩
      have e : (0 : Int) + (((j - 0).toNat : Nat) : Int) - 1 = ((j.toNat : Nat) : Int) - 1 := by rw [Int.sub_zero, Int.zero_add]
      rw [e, Int.sub_zero]
      exact p1' F1 H1 (.refl _) rel1 _ iter_rev
    · exact p1'.elim
  | _ => exact p1.elim⟩
end
end EV
set_option maxRecDepth 100000
set_option maxHeartbeats 4000000
/-! EvX: try with several except clauses, each one with a name or without; in a suite the exception is pinned and known to be handled. -/
namespace EVX
open PySem PySem.Spec PyProof.Rows L2
/-- what a suite of an except clause is handed: where the exception stands, its object, class, dict -/
abbrev SuT := Addr → Obj → Value → Option Addr → TS
/-- an end behind which a name is gone -/
def goneAt (i : Nat) (D : Ends) : Ends := { nx := fun τ G => D.nx (τ.set i none) G, rt := D.rt, bk := fun τ G => D.bk (τ.set i none) G, ct := fun τ G => D.ct (τ.set i none) G }
def wCl (K : PySem.W.Frag) (Wo : WX) (D : Ends) : List (Value × Option Nat × SuT) → WX
  | [] => Wo
  | (c, none, t) :: r => fun cls d τ G => ∃ b, PySem.W.exmOne K cls c = some b ∧ (b = true → ∀ a oe, G a = none → L2N.Zn cls d oe → (∃ vs, oe.data = .fields vs) → t a oe cls d D τ G) ∧ (b = false → wCl K Wo D r cls d τ G)
  | (c, some i, t) :: r => fun cls d τ G => ∃ b, PySem.W.exmOne K cls c = some b ∧ (b = true → ∀ a oe, G a = none → L2N.Zn cls d oe → (∃ vs, oe.data = .fields vs) → t a oe cls d (goneAt i D) (τ.set i (some (.ref a))) G) ∧ (b = false → wCl K Wo D r cls d τ G)
inductive Cls (X : Cx) : List ExceptHandler → List (Value × Option Nat × SuT) → Prop
  | nil : Cls X [] []
  | no {x : Str} {c : Value} {t : SuT} {b1 : Stmt} {bs : List Stmt} {np pos' : Pos} {hds : List ExceptHandler} {l : List (Value × Option Nat × SuT)} (hc : Names X x c)
      (hsu : ∀ (a : Addr) (oe : Obj) (cls : Value) (d : Option Addr) (pn : List (Addr × Obj)), L2N.Zn cls d oe → (∃ vs, oe.data = .fields vs) → PSs (X.suite a ((a, oe) :: pn)) (b1 :: bs) (t a oe cls d)) (r : Cls X hds l) :
      Cls X (.ExceptHandler (some (.Name x np)) none (b1 :: bs) pos' :: hds) ((c, none, t) :: l)
  | nm {x n : Str} {i : Nat} {c : Value} {t : SuT} {b1 : Stmt} {bs : List Stmt} {np pos' : Pos} {hds : List ExceptHandler} {l : List (Value × Option Nat × SuT)} (hc : Names X x c) (hN : X.N.Nodup) (hi : X.N[i]? = some n) (hln : X.env.kindOf n = some .local)
      (hsu : ∀ (a : Addr) (oe : Obj) (cls : Value) (d : Option Addr) (pn : List (Addr × Obj)), L2N.Zn cls d oe → (∃ vs, oe.data = .fields vs) → PSs (X.suite a ((a, oe) :: pn)) (b1 :: bs) (t a oe cls d)) (r : Cls X hds l) :
      Cls X (.ExceptHandler (some (.Name x np)) (some n) (b1 :: bs) pos' :: hds) ((c, some i, t) :: l)
section
variable {X : Cx} {body : List Stmt} {h1 : ExceptHandler} {hds : List ExceptHandler} {l : List (Value × Option Nat × SuT)} {pos : Pos} {tb : WX → TS} {Wo : WX}
/-- the whole of an exception's way into the clauses of a try: it stands at a -/
theorem clauses {pins : List (Addr × Obj)} {τ : L2.St} {G : Hp} {D : Ends} {a : Addr} {B : Heap} {sI z' : Shared} {cls : Value} {d : Option Addr} {g3 : Heap} (ok : X.Ok) (hs : X.stack = X.env :: X.outer) (hf : X.env.frame = some X.env.locals) (tk : L2N.Takes X Wo)
    (J : Inv X pins τ G sI) (nb : ∀ b o, sI.heap.get? b = some o → b ∉ frs X.stack → B.get? b = some o) (na : G a = none) (os : z'.os = sI.os) (ag : AllBare z'.gens)
    (fl3 : HandSPX.FlyingZ B (X.env :: X.outer) a (L2N.Zn cls d) g3) (up3 : sI.heap.UpToSlots g3) :
    ∀ {hs' : List ExceptHandler} {l' : List (Value × Option Nat × SuT)}, Cls X hs' l' → wCl X.K Wo D l' cls d τ G →
      wpAny (model X.prog X.w) X.A (handleBy (.ref a) X.env hs') (SP X pins D) X.xe { z' with heap := g3 } := by
  have frX : X.A.frames = some (X.env :: X.outer) := by rw [ok.frames, hs]
  have nofr : ∀ {g : Heap} {o : Obj} {vs : Array Value}, g.FunFrames B (X.env :: X.outer) → g.get? a = some o → o.data = .fields vs → a ∉ frs (X.env :: X.outer) := by
    intro g o vs ff e dd hm
    obtain ⟨_, o', e', q⟩ := ff.mem hm
    cases e.symm.trans e'
    exact q _ dd
  obtain ⟨o3, v3, at3, z3, dt3⟩ := fl3.there
  have na3 := nofr fl3.2.2.1 at3 dt3
  have neL : a ≠ X.env.locals := by
    intro z
    exact na3 (List.mem_filterMap.mpr ⟨X.env, List.mem_cons_self, by rw [hf, z]⟩)
  have neF : a ∉ X.fs := by
    intro hm
    obtain ⟨e, he, q⟩ := List.mem_filterMap.mp hm
    exact na3 (List.mem_filterMap.mpr ⟨e, List.mem_cons_of_mem _ he, q⟩)
  have land : ∀ {g : Heap} {o : Obj} {vs : Array Value}, HandSPX.FlyingZ B (X.env :: X.outer) a (L2N.Zn cls d) g → sI.heap.UpToSlots g → g.get? a = some o → o.data = .fields vs → Inv (X.suite a ((a, o) :: (X.pn ++ pins))) [] τ G { z' with heap := g } := by
    intro g o vs fl up e dd
    exact (J.landed (s' := { z' with heap := g }) nb fl.1 up os ag).suite e dd na neL neF
  have I3 := land fl3 up3 at3 dt3
  intro hs' l' hk
  induction hk with
  | nil =>
    intro w
    refine wpAny_handleBy_nil ?_
    obtain ⟨_, _, _, oe, vs, T, _, _, he, _, hd, h1, _⟩ := id fl3
    unfold PySem.passOn
    refine wpAny_bind (wpAny_field he hd h1 ?_)
    rw [if_neg (by simp : ¬ ((Value.ref T == Value.none) = true))]
    have fin : wpAny (model X.prog X.w) X.A (setFlight (.ref a) X.env.frame) (fun _ y => wpAny (model X.prog X.w) X.A (throw (.ref a) : Sem Flow) (SP X pins D) X.xe y) X.xe { z' with heap := g3 } := by
      rw [hf]
      refine HandSPX.setFlight_upZ fl3 fun g4 hh4 up4 => wpAny_throw (tk _ _ ?_)
      refine ⟨a, B, sI, pins, τ, G, cls, d, rfl, J, nb, up3.trans up4, ?_, na, os, ag, w⟩
      exact .inr (.inr (by rw [hs]; exact hh4))
    first
      | exact wpAny_bind (wpAny_pure (wpAny_bind fin))
      | exact wpAny_bind fin
  | @no x c t b1 bs np2 pos2 hds2 l2 hc hsu r ih =>
    intro w
    obtain ⟨b, hb1, yes, no⟩ := w
    refine wpAny_handleBy_cons (codeAny_handlers_test ?_) (by intro q; cases q)
    have lt : PySem.W.Looks (model X.prog X.w) g3 (typeOf (.ref a)) cls := by
      intro A Q E y k q
      exact wpAny_typeOf_ref (k _ _ at3) (by rw [z3.1]; exact q)
    have lm := PySem.W.exm_one (M := model X.prog X.w) (show X.K.In g3 from I3.kIn) lt hb1
    have test : ∀ {Q : Value → Shared → Prop} {E : Value → Shared → Prop}, Q c { z' with heap := g3 } → wpAny (model X.prog X.w) (X.A.mark (some (.ref a))) (eval (.Name x np2) X.env) Q E { z' with heap := g3 } := by
      intro Q E q
      obtain ⟨hg, hdb, hm | ⟨hm, hv, hnn⟩⟩ := hc
      · exact ld_glob (X := X.suite a ((a, o3) :: (X.pn ++ pins))) I3 hg hm q hdb
      · exact ld_blt (X := X.suite a ((a, o3) :: (X.pn ++ pins))) I3 hg hm hv q hnn hdb
    refine test (lm.here ?_)
    cases b with
    | false =>
      show wpAny _ X.A (handleBy (.ref a) X.env hds2) _ _ _
      exact ih (no rfl)
    | true =>
      refine codeAny_handlers_suite ?_
      refine HandSPX.lands_againZ fl3 fun g4 fl4 up4 => ?_
      obtain ⟨o4, v4, at4, z4, dt4⟩ := fl4.there
      have I4 := land fl4 (up3.trans up4) at4 dt4
      refine wpAny_mono ((hsu a o4 cls d (X.pn ++ pins) z4 ⟨_, dt4⟩).run [] _ _ _ _ I4 (yes rfl a o4 na z4 ⟨_, dt4⟩)) (fun f y hy => ?_) (fun _ _ q => q.elim)
      cases f with
      | next =>
        obtain ⟨τ6, G6, I6, q6⟩ := hy
        exact ⟨_, _, I6.unsuite ok, q6⟩
      | brk =>
        obtain ⟨τ6, G6, I6, q6⟩ := hy
        exact ⟨_, _, I6.unsuite ok, q6⟩
      | cont =>
        obtain ⟨τ6, G6, I6, q6⟩ := hy
        exact ⟨_, _, I6.unsuite ok, q6⟩
      | ret u =>
        obtain ⟨v6, τ6, G6, I6, r6, q6⟩ := hy
        exact ⟨_, _, _, I6.unsuite ok, r6, q6⟩
  | @nm x n i c t b1 bs np2 pos2 hds2 l2 hc hN hi hln hsu r ih =>
    intro w
    obtain ⟨b, hb1, yes, no⟩ := w
    refine wpAny_handleBy_cons (codeAny_handlers_test ?_) (by intro q; cases q)
    have lt : PySem.W.Looks (model X.prog X.w) g3 (typeOf (.ref a)) cls := by
      intro A Q E y k q
      exact wpAny_typeOf_ref (k _ _ at3) (by rw [z3.1]; exact q)
    have lm := PySem.W.exm_one (M := model X.prog X.w) (show X.K.In g3 from I3.kIn) lt hb1
    have test : ∀ {Q : Value → Shared → Prop} {E : Value → Shared → Prop}, Q c { z' with heap := g3 } → wpAny (model X.prog X.w) (X.A.mark (some (.ref a))) (eval (.Name x np2) X.env) Q E { z' with heap := g3 } := by
      intro Q E q
      obtain ⟨hg, hdb, hm | ⟨hm, hv, hnn⟩⟩ := hc
      · exact ld_glob (X := X.suite a ((a, o3) :: (X.pn ++ pins))) I3 hg hm q hdb
      · exact ld_blt (X := X.suite a ((a, o3) :: (X.pn ++ pins))) I3 hg hm hv q hnn hdb
    refine test (lm.here ?_)
    cases b with
    | false =>
      show wpAny _ X.A (handleBy (.ref a) X.env hds2) _ _ _
      exact ih (no rfl)
    | true =>
      refine codeAny_handlers_suite_as ?_
      refine HandSPX.lands_againZ fl3 fun g4 fl4 up4 => ?_
      obtain ⟨o4, v4, at4, z4, dt4⟩ := fl4.there
      have I4 := land fl4 (up3.trans up4) at4 dt4
      have lk : Loc X.env.scope n := .inl hln
      refine store_ok (X := X.suite a ((a, o4) :: (X.pn ++ pins))) (v := .ref a) I4 hN hi lk rfl (fun y5 I5 => ?_) (.inr hln)
      refine wpAny_mono ((hsu a o4 cls d (X.pn ++ pins) z4 ⟨_, dt4⟩).run [] y5 _ _ _ I5 (yes rfl a o4 na z4 ⟨_, dt4⟩)) (fun f y hy => ?_) (fun _ _ q => q.elim)
      have last : ∀ {τ6 : L2.St} {G6 : Hp} {Q : Shared → Prop}, Inv (X.suite a ((a, o4) :: (X.pn ++ pins))) [] τ6 G6 y → (∀ y7, Inv X pins (τ6.set i none) G6 y7 → Q y7) →
          wpAny (model X.prog X.w) X.A (do bindName X.env n .none; unbindBehindTheSuite X.env n pos2) (fun _ y7 => Q y7) X.xe y := by
        intro τ6 G6 Q I6 hq
        exact gone_ok (I6.unsuite ok) hN hi hln hq
      cases f with
      | next =>
        obtain ⟨τ6, G6, I6, q6⟩ := hy
        exact last I6 fun y7 J7 => ⟨_, _, J7, q6⟩
      | brk =>
        obtain ⟨τ6, G6, I6, q6⟩ := hy
        exact last I6 fun y7 J7 => ⟨_, _, J7, q6⟩
      | cont =>
        obtain ⟨τ6, G6, I6, q6⟩ := hy
        exact last I6 fun y7 J7 => ⟨_, _, J7, q6⟩
      | ret u =>
        obtain ⟨v6, τ6, G6, I6, r6, q6⟩ := hy
        exact last I6 fun y7 J7 => ⟨_, _, _, J7, r6, q6⟩
/-- try: body, except X1 as n1: .., except X2: .. -/
theorem ps_tryE (hs : X.stack = X.env :: X.outer) (hf : X.env.frame = some X.env.locals) (tk : L2N.Takes X Wo)
    (hb : ∀ (W : WX) (pn : List (Addr × Obj)) (xe : Value → Shared → Prop), L2N.Takes (X.tr pn xe) W → PassesOwn (model X.prog X.w) X.A X.env xe → PSs (X.tr pn xe) body (tb W))
    (hh : Cls X (h1 :: hds) l) : PS X (.Try body (h1 :: hds) [] [] pos) (fun D τ G => tb (wCl X.K Wo D l) D τ G) := by
  refine ⟨fun pins y τ0 G0 D I h => ?_⟩
  have ok := I.ok
  have frX : X.A.frames = some (X.env :: X.outer) := by rw [ok.frames, hs]
  refine wpAny_Try_except ?_
  refine wpAny_mono ((hb (wCl X.K Wo D l) (X.pn ++ pins) (fun e y1 => wpAny (model X.prog X.w) X.A (noteFrame e X.env) (fun _ y2 => wpAny (model X.prog X.w) X.A (setFlight e none) (fun _ y3 =>
    wpAny (model X.prog X.w) X.A (handleBy e X.env (h1 :: hds)) (SP X pins D) X.xe y3) X.xe y2) X.xe y1) (fun u z' xx => ?_) PassesOwn.looking).run [] y τ0 G0 D (I.toTry _) h) (fun f y1 hy => ?_) (fun _ _ q => q)
  · obtain ⟨a, B, sI, pins', τ, G, cls, d, rfl, J', nb, up, sky, na, os, ag, w⟩ := xx
    show wpAny (model X.prog X.w) X.A (noteFrame (.ref a) X.env) _ _ _
    refine L2N.Sky.land L2N.Zn.steady frX hf (show Sky B (X.env :: X.outer) a (L2N.Zn cls d) X.env.locals z'.heap by rw [← hs]; exact sky) fun g3 fl3 up3 => ?_
    exact clauses ok hs hf tk (J'.ofTry ok) nb na os ag fl3 (up.trans up3) hh w
  · cases f with
    | next =>
      obtain ⟨τ1, G1, J1, q⟩ := hy
      exact wpAny_execs_nil ⟨τ1, G1, J1.ofTry ok, q⟩
    | brk =>
      obtain ⟨τ1, G1, J1, q⟩ := hy
      exact ⟨τ1, G1, J1.ofTry ok, q⟩
    | cont =>
      obtain ⟨τ1, G1, J1, q⟩ := hy
      exact ⟨τ1, G1, J1.ofTry ok, q⟩
    | ret u =>
      obtain ⟨v, τ1, G1, J1, r, q⟩ := hy
      exact ⟨v, τ1, G1, J1.ofTry ok, r, q⟩
end
/-- a suite's context bears the handled exception -/
theorem hot_of {X : Cx} {a : Addr} {oe : Obj} {cls : Value} {d : Option Addr} {pn : List (Addr × Obj)} (hz : L2N.Zn cls d oe) (hv : ∃ vs, oe.data = .fields vs) : L2H.HotC (X.suite a ((a, oe) :: pn)) := by
  obtain ⟨vs, e⟩ := hv
  exact ⟨(a, oe), ⟨rfl, vs, e, hz.2.2 vs e⟩, List.mem_cons_self⟩
end EVX
set_option maxRecDepth 100000
set_option maxHeartbeats 4000000
/-! EvX2: the fields of the exception that is being handled. -/
namespace EV
open PySem PySem.Spec PyProof.Rows L2
/-- x.f, x the handled exception -/
def tXg (X : Cx) (f : Str) (te : TE) : TE := fun σ H Q => te σ H fun x H1 => ∃ (a : Addr) (oe : Obj) (C dd : Addr) (fs : List (Str × V)) (v : V), x = .ref a ∧ (a, oe) ∈ X.pn ∧ oe.cls = .ref C ∧ oe.dict = some dd ∧ (∃ vs, oe.data = .fields vs) ∧
  XfC X.K C ∧ PySem.W.findIn X.K (.ref C) f = some none ∧ H1 dd = some (.xd fs) ∧ fs.lookup f = some v ∧ Q v H1
theorem pe_xg {X : Cx} {e : Expr} {te : TE} {pos : Pos} {f : Str} (he : PE X e te) (hb : attributeBase e f X.env (eval e X.env) = eval e X.env := by rfl) : PE X (.Attribute e f pos) (tXg X f te) := by
  refine ⟨fun pins y σ H Q I h => attr_of hb (thn (he.run pins y σ H _ I h) fun u y1 hh => ?_)⟩
  obtain ⟨x, H1, I1, rx, a, oe, C, dd, fs, v, ex, hp, hc, hd, hv, T, no, hx, l, q⟩ := hh
  subst ex
  obtain rfl : u = Value.ref a := rx
  have at1 := (I1.pin (a, oe) (List.mem_append_left _ hp)).1
  obtain ⟨vs, dv⟩ := hv
  obtain ⟨mA, ns, hr⟩ : ObjOk X.prog X.w H1 y1.heap dd (.xd fs) := I1.hok dd _ hx
  obtain ⟨od, ho, hl⟩ := lookIn_ns ns
  obtain ⟨w, hw, rw'⟩ := RelO.some_of (v := v) (o := mA f) (by rw [← l]; exact hr f)
  have J : PySem.W.InstAt y1.heap a oe C (some od) := by
    refine ⟨at1, hc, ?_, ?_⟩
    · unfold PySem.W.notCls
      rw [dv]
    · rw [hd]
      exact ho
  exact HandSPX.exc_get I1.kIn J T.ga T.gg T.exC (PySem.W.findObj_own T.hdC no rfl (by rw [hl, hw])) (handed_of rw') ⟨v, H1, I1.tok _, rw', q⟩
/-- x.f over data -/
noncomputable def xfE (ix : Nat → Option Nat) (fa : FE) : FE := fun ε => (fa ε).bind fun x ε1 => match x with
  | .exc c fs => .of (ix c) fun j => .of fs[j]? fun z => .ok z ε1
  | _ => .bot
/-- which classes have the field f, and where -/
structure Xd (K : PySem.W.Frag) (T : Tb) (f : Str) (ix : Nat → Option Nat) : Prop where
  at_ : ∀ c j, ix c = some j → ∃ C : Addr, T.xc c = .ref C ∧ (T.xn c)[j]? = some f ∧ (T.xn c).Nodup ∧ XfC K C ∧ PySem.W.findIn K (.ref C) f = some none
theorem sE_xf {X : Cx} {T : Tb} {W : WX} {e : Expr} {fe : FE} {pos : Pos} {f : Str} {ix : Nat → Option Nat} (hK : Xd X.K T f ix) (hp : ∀ p, T.xh = some p → p ∈ X.pn) (he : SE X T W e fe) (hb : attributeBase e f X.env (eval e X.env) = eval e X.env := by rfl) :
    SE X T W (.Attribute e f pos) (xfE ix fe) := impE (pe_xg he hb) fun σ H Q ⟨F0, B0, A, F, ε, rel, p⟩ =>
  ⟨F0, B0, A, F, ε, rel, (post_bind p).imp fun x ε1 F1 H1 s1 rel1 p1 v rv => by
    cases x with
    | exc c fs =>
      obtain ⟨j, ej, p2⟩ := post_of p1
      obtain ⟨z, ez, p3⟩ := post_of p2
      obtain ⟨a, oe, d, vs, rfl, hh, hc, hd, hv, hx, hl, r1⟩ := rep_exc.mp rv
      obtain ⟨C, eC, h1, h2, h3, h4⟩ := hK.at_ c j ej
      obtain ⟨w, ew, rw'⟩ := r1.get ez
      exact ⟨a, oe, C, d, _, w, rfl, hp _ hh, hc.trans eC, hd, hv, h3, h4, rel1.fh _ _ hx, lookup_zip h2 h1 ew, p3 F1 H1 (.refl _) rel1 w rw'⟩
    | _ => exact p1.elim⟩
end EV
set_option maxRecDepth 100000
set_option maxHeartbeats 4000000
/-! EvX3: own exceptions made by their __init__ and raised. -/
namespace EV
open PySem PySem.Spec PyProof.Rows L2
theorem pmkN {X : Cx} {CX : CXT} {x : Str} {e : Expr} {es : List Expr} {ta : TA} {p pos : Pos} {C fI : Addr} {k : Nat} {fd : FuncData} {ps : List Str} {sp : Sp} (T : OexC X.K C) (iC : PySem.W.findIn X.K (.ref C) "__init__" = some (some (.ref fI)))
    (tI : PySem.W.typeIn X.K (.ref fI) = some (.type "function")) (F1 : FnOk X.prog X.w X.K X.mg X.base CX k fI fd ps sp) (hr : Room (k + 1) X.A) (hb : Binds X.K fd ps []) (hx : Passes CX X (fun _ _ _ => False)) (hg : Gl X x) (hm : X.mg x = some (.ref C)) (ha : PA X (e :: es) ta)
    (hdb : (x == ("__debug__" : Str)) = false := by decide) (he : starEach (e :: es) X.env = (false, eval e X.env) :: starEach es X.env := by rfl) (hpl : (backTo pos (starEach es X.env)).any (·.1) = false := by rfl) :
    L2N.PMk X (.Call (.Name x p) (e :: es) [] pos) (tMkO C sp [] ta) := by
  intro pins y σ H Q I h
  obtain ⟨c1, c2, c3, c4, bm, c6, c7, c8, c9, c10, c11, c12, c13, c14, c15, hC, hbm⟩ := T.cls
  refine wpAny_Call_Name_kw (ld_glob I hg hm ?_ hdb)
  refine PySem.W.callWith_K (h₀ := X.base) I.ok.mod.kin T.kC (thn (ha.run pos pins y σ H _ I h) fun us y1 ⟨vs, H1, I1, r1, hz, q1⟩ => ⟨I1.kIn, ?_⟩) he hpl
  show wpAny _ _ (PySem.call (.ref C) us) _ _ _
  obtain ⟨hp, g, dr, tk, os⟩ := y1
  have big : hp.objs.size ≤ hp.objs.size + 1 := Nat.le_succ _
  have new1 : H1 (hp.objs.size + 1) = none := I1.hok.fresh big
  have hq := q1 (hp.objs.size + 1) new1
  rw [List.append_nil] at hq
  have kk : ∀ b o, hp.get? b = some o → ((hp.push (PySem.W.kdv_tup us)).push (PySem.HandSPX.excO C hp.objs.size)).get? b = some o := by
    intro b o e1
    exact Heap.get?_push_of_some _ (Heap.get?_push_of_some _ e1)
  have got : ((hp.push (PySem.W.kdv_tup us)).push (PySem.HandSPX.excO C hp.objs.size)).get? (hp.objs.size + 1) = some (PySem.HandSPX.excO C hp.objs.size) := by heap_get
  have I2 := I1.laid (t' := tk) (a := hp.objs.size + 1) (o := exo (hp.objs.size + 1) C none) kk big (exo_ok got)
  have r2 : Vals (V.ref (hp.objs.size + 1) :: vs) (Value.ref (hp.objs.size + 1) :: us) := .cons rfl r1
  have len2 : (Value.ref (hp.objs.size + 1) :: us ++ []).length = ps.length := by
    rw [List.append_nil, ← r2.length]
    exact F1.len _ _ _ _ hq
  have small2 : us.length ≤ sizeLine := by
    rw [← Paired.length r1, sizeLine_eq]
    omega
  have b2 := hb _ (Value.ref (hp.objs.size + 1) :: us) I2.kIn len2
  rw [List.append_nil] at b2
  refine wpAny_call (PySem.HandSPX.call_own F.excBase_ValueError (fun Y => PySem.HandSPX.refsVE_contains Y bm hbm) (I1.kIn _ _ hC) (PySem.W.looks_findIn I1.kIn iC) (fun self => PySem.W.bind_fn I1.kIn self tI) small2
    (codeAny_mono (F1.run _ X.stack _ _ ⟨Value.ref (hp.objs.size + 1) :: us, []⟩ (Value.ref (hp.objs.size + 1) :: us) _ _ (fun _ _ _ => False) (hr.make C us []) (I2.env0.make C us []) b2 r2 hq) fun r z hz2 => ?_))
  cases r with
  | error er => exact hx pins σ _ _ er z I2 hz2
  | ok fl =>
    cases fl with
    | ret u =>
      obtain ⟨v, H2, os2, bare2, un2, hok2, rv, ev, d, fs, ea, ed, hd1, q2⟩ := hz2
      subst ev
      obtain ⟨h2, g2, d2, t2, os'⟩ := z
      refine ⟨rv, ?_⟩
      obtain ⟨t0, G, J, kG, ge, hoe, na⟩ := mk_end0 (d2 := d2) (t2 := t2) I1 big kk un2 hok2 os2 bare2 ea ed hd1
      exact ⟨hp.objs.size + 1, _, _, ⟨G, g2, d2, t2, os'⟩, _, .ref C, some d, rfl, J, kG, ge, hoe, ⟨rfl, rfl, fun ws e1 => by cases e1; rfl⟩, rfl, rfl, na, rfl, bare2, raises_own T.exC T.tyC, q2⟩
    | next => exact False.elim hz2
    | brk => exact False.elim hz2
    | cont => exact False.elim hz2
end EV
set_option maxRecDepth 100000
set_option maxHeartbeats 4000000
/-! EvX4: raise C(e, ..) over data. -/
namespace EV
open PySem PySem.Spec PyProof.Rows L2
/-- an __init__ that stores what it is given, in order -/
def spX (C : Addr) (names : List Str) : Sp := fun us H Q _ => ∃ (a : Addr) (ws : List V), us = .ref a :: ws ∧ ws.length = names.length ∧ H a = some (exo a C none) ∧
  ∀ (d : Addr) (H' : Hp), H d = none → d ≠ a → H' a = some (exo a C (some d)) → H' d = some (exd d (names.zip ws).reverse) → (∀ b, b ≠ a → b ≠ d → H' b = H b) → Q .non H'
noncomputable def rzS (c n : Nat) (fr : FA) : FS := fun ε => (fr ε).bind fun xs ε1 => if xs.length = n ∧ n ≤ 100 then .ex c xs.reverse ε1 else .bot
theorem zip_rev : ∀ {ns : List Str} {vs : List V}, ns.length = vs.length → (ns.zip vs).reverse = ns.reverse.zip vs.reverse
  | [], [], _ => rfl
  | [], _ :: _, h => by simp at h
  | _ :: _, [], h => by simp at h
  | n :: ns, v :: vs, h => by
    have h' : ns.length = vs.length := by simpa using h
    simp only [List.zip_cons_cons, List.reverse_cons]
    rw [zip_rev h', List.zip_append (by simp [h'])]
    rfl
theorem Reps.rev {T : Tb} {F : Hp} : ∀ {ds : List D} {vs : List V}, Reps T F ds vs → Reps T F ds.reverse vs.reverse
  | [], vs, h => by
    rw [reps_nil.mp h]
    exact .nil
  | d :: ds, vs, h => by
    obtain ⟨v, us, rfl, h1, h2⟩ := reps_cons.mp h
    rw [List.reverse_cons, List.reverse_cons]
    exact h2.rev.append (.cons h1 .nil)
theorem sS_raise {X : Cx} {CX : CXT} {T : Tb} {W : WX} {x : Str} {e : Expr} {es : List Expr} {fr : FA} {p pos pos2 : Pos} {c n : Nat} {C fI : Addr} {k : Nat} {fd : FuncData} {ps names : List Str} (hc : X.calm = true) (tk : L2N.Takes X W) (O : OexC X.K C)
    (iC : PySem.W.findIn X.K (.ref C) "__init__" = some (some (.ref fI))) (tI : PySem.W.typeIn X.K (.ref fI) = some (.type "function")) (F1 : FnOk X.prog X.w X.K X.mg X.base CX k fI fd ps (spX C names)) (hr : Room (k + 1) X.A) (hb : Binds X.K fd ps [])
    (hx : Passes CX X (fun _ _ _ => False)) (hg : Gl X x) (hm : X.mg x = some (.ref C)) (ha : SA X T W (e :: es) fr) (hxc : T.xc c = .ref C) (hxn : T.xn c = names.reverse) (hn : names.length = n)
    (hdb : (x == ("__debug__" : Str)) = false := by decide) (he : starEach (e :: es) X.env = (false, eval e X.env) :: starEach es X.env := by rfl) (hpl : (backTo pos (starEach es X.env)).any (·.1) = false := by rfl) :
    SS X T W (.Raise (some (.Call (.Name x p) (e :: es) [] pos)) none pos2) (rzS c n fr) := impS (L2N.ps_raise hc tk (pmkN O iC tI F1 hr hb hx hg hm ha hdb he hpl)) fun Dn σ H ⟨F0, B0, A, F, ε, rel, q⟩ =>
  ⟨F0, B0, A, F, ε, rel, (postS_bind q).imp fun xs ε1 F1 H1 s1 rel1 q1 vs rvs => by
    split at q1
    · rename_i hl
      have lv : vs.length = names.length := by rw [← rvs.length, hl.1, hn]
      refine ⟨by rw [lv, hn]; omega, fun a na => ?_⟩
      rw [List.append_nil]
      refine ⟨a, vs, rfl, lv, upd_same, fun d H2 hd nda e1 e2 keep => ⟨rfl, d, _, e1, e2, ?_, ?_⟩⟩
      · rw [upd_ne nda] at hd
        exact hd
      · rw [upd_ne nda] at hd
        have same : ∀ b u, H1 b = some u → upd (del H2 a) d (.xd (names.zip vs).reverse) b = some u := by
          intro b u eb
          have nb : b ≠ a := ne_of_none eb na
          have nd : b ≠ d := ne_of_none eb hd
          rw [upd_ne nd, del_ne nb, keep b nb nd, upd_ne nb]
          exact eb
        have fd0 : F1 d = none := rel1.fh.free hd
        have gr : Grow F1 H1 (upd F1 d (.xd (names.zip vs).reverse)) (upd (del H2 a) d (.xd (names.zip vs).reverse)) := {
          ff := Same.new fd0
          fh := fun b u eb => by
            by_cases h : b = d
            · subst h
              rw [upd_same] at eb ⊢
              exact eb
            · rw [upd_ne h] at eb
              exact same b u (rel1.fh _ _ eb)
          hh := same
          nw := fun b hb => by
            by_cases h : b = d
            · subst h
              exact .inr hd
            · rw [upd_ne h] at hb
              exact .inl hb }
        refine q1 σ _ _ (.ref C) (some d) gr.ff (rel1.grow gr) ⟨hxc.symm, .inl ⟨d, vs.reverse, rfl, ?_, ?_, ?_⟩⟩
        · rw [upd_same, hxn, zip_rev lv.symm]
        · rw [hxn, List.length_reverse, List.length_reverse, lv]
        · exact (rvs.mono gr.ff).rev
    · exact q1.elim⟩
end EV
set_option maxRecDepth 100000
set_option maxHeartbeats 4000000
/-! EvX5: in and out of a suite in which an exception is handled. -/
namespace EV
open PySem L2
mutual
/-- no exception within -/
def noX : D → Bool
  | .non => true
  | .bl _ => true
  | .int _ => true
  | .str _ => true
  | .lst xs => noXs xs
  | .tup xs => noXs xs
  | .ins _ fs => noXs fs
  | .scr _ => true
  | .exc _ _ => false
def noXs : List D → Bool
  | [] => true
  | d :: ds => noX d && noXs ds
end
def noXO : O → Bool
  | .l xs => noXs xs
  | .i _ fs => noXs (fs.map (·.2))
  | .d kvs => noXs (kvs.map (·.2))
def noXS : Slot → Bool
  | .no => true
  | .sh d => noX d
  | .ow _ o => noXO o
abbrev Tb.hot (T : Tb) (p : Addr × Obj) : Tb := { T with xh := some p }
section
variable {T : Tb} {F : Hp} {p : Addr × Obj}
mutual
theorem Rep.up (h0 : T.xh = none) : ∀ {d : D} {v : V}, Rep T F d v → Rep (T.hot p) F d v
  | .non, v, h => by simpa only [Rep] using h
  | .bl b, v, h => by simpa only [Rep] using h
  | .int b, v, h => by simpa only [Rep] using h
  | .str b, v, h => by simpa only [Rep] using h
  | .lst xs, v, h => by
    obtain ⟨a, vs, e, h1, h2⟩ := rep_lst.mp h
    exact rep_lst.mpr ⟨a, vs, e, h1, Reps.up h0 h2⟩
  | .tup xs, v, h => by
    obtain ⟨a, vs, e, h1, h2⟩ := rep_tup.mp h
    exact rep_tup.mpr ⟨a, vs, e, h1, Reps.up h0 h2⟩
  | .ins c fs, v, h => by
    obtain ⟨a, dx, vs, e, h1, hl, h2⟩ := rep_ins.mp h
    exact rep_ins.mpr ⟨a, dx, vs, e, h1, hl, Reps.up h0 h2⟩
  | .scr ns, v, h => by
    obtain ⟨a, e, h1⟩ := rep_scr.mp h
    exact rep_scr.mpr ⟨a, e, h1⟩
  | .exc c fs, v, h => by
    obtain ⟨a, oe, d, vs, e, h1, _⟩ := rep_exc.mp h
    rw [h0] at h1
    cases h1
theorem Reps.up (h0 : T.xh = none) : ∀ {ds : List D} {vs : List V}, Reps T F ds vs → Reps (T.hot p) F ds vs
  | [], vs, h => by simpa only [Reps] using h
  | d :: ds, vs, h => by
    obtain ⟨v, us, rfl, h1, h2⟩ := reps_cons.mp h
    exact .cons (Rep.up h0 h1) (Reps.up h0 h2)
end
mutual
theorem Rep.down : ∀ {d : D} {v : V}, noX d = true → Rep (T.hot p) F d v → Rep T F d v
  | .non, v, _, h => by simpa only [Rep] using h
  | .bl b, v, _, h => by simpa only [Rep] using h
  | .int b, v, _, h => by simpa only [Rep] using h
  | .str b, v, _, h => by simpa only [Rep] using h
  | .lst xs, v, n, h => by
    obtain ⟨a, vs, e, h1, h2⟩ := rep_lst.mp h
    exact rep_lst.mpr ⟨a, vs, e, h1, Reps.down (by simpa only [noX] using n) h2⟩
  | .tup xs, v, n, h => by
    obtain ⟨a, vs, e, h1, h2⟩ := rep_tup.mp h
    exact rep_tup.mpr ⟨a, vs, e, h1, Reps.down (by simpa only [noX] using n) h2⟩
  | .ins c fs, v, n, h => by
    obtain ⟨a, dx, vs, e, h1, hl, h2⟩ := rep_ins.mp h
    exact rep_ins.mpr ⟨a, dx, vs, e, h1, hl, Reps.down (by simpa only [noX] using n) h2⟩
  | .scr ns, v, _, h => by
    obtain ⟨a, e, h1⟩ := rep_scr.mp h
    exact rep_scr.mpr ⟨a, e, h1⟩
  | .exc c fs, v, n, h => by
    simp only [noX] at n
    cases n
theorem Reps.down : ∀ {ds : List D} {vs : List V}, noXs ds = true → Reps (T.hot p) F ds vs → Reps T F ds vs
  | [], vs, _, h => by simpa only [Reps] using h
  | d :: ds, vs, n, h => by
    obtain ⟨v, us, rfl, h1, h2⟩ := reps_cons.mp h
    have n' : noX d = true ∧ noXs ds = true := by simpa only [noXs, Bool.and_eq_true] using n
    exact .cons (Rep.down n'.1 h1) (Reps.down n'.2 h2)
end
theorem RepO.up (h0 : T.xh = none) {o : O} {ho : HO} (h : RepO T F o ho) : RepO (T.hot p) F o ho := by
  cases o with
  | l xs =>
    cases ho with
    | lst vs => exact Reps.up h0 h
    | _ => exact h.elim
  | i c fs =>
    cases ho with
    | ins C dx gs => exact ⟨h.1, h.2.1, Reps.up h0 h.2.2⟩
    | _ => exact h.elim
  | d kvs =>
    cases ho with
    | dK kws => exact ⟨h.1, Reps.up h0 h.2⟩
    | _ => exact h.elim
theorem RepO.down {o : O} {ho : HO} (n : noXO o = true) (h : RepO (T.hot p) F o ho) : RepO T F o ho := by
  cases o with
  | l xs =>
    cases ho with
    | lst vs => exact Reps.down n h
    | _ => exact h.elim
  | i c fs =>
    cases ho with
    | ins C dx gs => exact ⟨h.1, h.2.1, Reps.down n h.2.2⟩
    | _ => exact h.elim
  | d kvs =>
    cases ho with
    | dK kws => exact ⟨h.1, Reps.down n h.2⟩
    | _ => exact h.elim
theorem RelS.up (h0 : T.xh = none) {B0 H : Hp} {A : List Addr} {v : Option (Option V)} {s : Slot} (h : RelS T B0 A F H v s) : RelS (T.hot p) B0 A F H v s := by
  cases s with
  | no => trivial
  | sh d =>
    obtain ⟨u, e, r⟩ := h
    exact ⟨u, e, r.up h0⟩
  | ow k o =>
    obtain ⟨a, ho, e, fa, ba, ka, ha, r⟩ := h
    exact ⟨a, ho, e, fa, ba, ka, ha, r.up h0⟩
theorem RelS.down {B0 H : Hp} {A : List Addr} {v : Option (Option V)} {s : Slot} (n : noXS s = true) (h : RelS (T.hot p) B0 A F H v s) : RelS T B0 A F H v s := by
  cases s with
  | no => trivial
  | sh d =>
    obtain ⟨u, e, r⟩ := h
    exact ⟨u, e, r.down n⟩
  | ow k o =>
    obtain ⟨a, ho, e, fa, ba, ka, ha, r⟩ := h
    exact ⟨a, ho, e, fa, ba, ka, ha, r.down n⟩
theorem RelE.up (h0 : T.xh = none) {F0 B0 H : Hp} {A : List Addr} {σ : L2.St} {ε : Env} (r : RelE T F0 B0 A F H σ ε) : RelE (T.hot p) F0 B0 A F H σ ε :=
  ⟨r.f0, r.fh, r.bh, r.fr, r.len, fun i s e => (r.sl i s e).up h0, r.nd⟩
theorem RelE.down {F0 B0 H : Hp} {A : List Addr} {σ : L2.St} {ε : Env} (n : ε.all noXS = true) (r : RelE (T.hot p) F0 B0 A F H σ ε) : RelE T F0 B0 A F H σ ε :=
  ⟨r.f0, r.fh, r.bh, r.fr, r.len, fun i s e => (r.sl i s e).down (List.all_eq_true.mp n s (List.mem_of_getElem? e)), r.nd⟩
end
end EV
set_option maxRecDepth 100000
set_option maxHeartbeats 4000000
/-! EvX6: try .. except over data. -/
namespace EV
open PySem L2
noncomputable section
def noXF : Fl → Bool
  | .rt d => noX d
  | .ro o => noXO o
  | _ => true
def tidy : R Fl → R Fl
  | .ok fl ε => if ε.all noXS = true ∧ noXF fl = true then .ok fl ε else .bot
  | _ => .bot
def unset (i : Nat) : R Fl → R Fl
  | .ok fl ε => .ok fl (ε.set i .no)
  | r => r
/-- an except clause: its name's slot, which classes it takes, its suite -/
structure Clause where
  slot : Option Nat
  test : Nat → Option Bool
  body : FS
def hand : List Clause → Nat → List D → FS
  | [], c, fs, ε => .ex c fs ε
  | k :: r, c, fs, ε => match k.test c with
    | some true => (match k.slot with
      | none => tidy (k.body ε)
      | some i => tidy (unset i (k.body (ε.set i (.sh (.exc c fs))))))
    | some false => hand r c fs ε
    | none => .bot
def tryS (g : FS) (hs : List Clause) : FS := fun ε => match g ε with
  | .ex c fs ε1 => hand hs c fs ε1
  | r => r
end
section
variable {T : Tb} {p : Addr × Obj} {W : WX} {F0 B0 F : Hp} {A : List Addr}
theorem tidy_ok {W' : WX} {m : R Fl} {Dn : Ends} (h : PostS T W F0 B0 A F (tidy m) Dn) : PostS (T.hot p) W' F0 B0 A F m Dn := by
  cases m with
  | bot => exact h
  | ex c fs ε => exact h.elim
  | ok fl ε =>
    have h : PostS T W F0 B0 A F (if ε.all noXS = true ∧ noXF fl = true then R.ok fl ε else R.bot) Dn := h
    by_cases n : ε.all noXS = true ∧ noXF fl = true
    · rw [if_pos n] at h
      intro σ' F' H' s r
      have q := h σ' F' H' s (r.down n.1)
      cases fl with
      | nx => exact q
      | br => exact q
      | ct => exact q
      | rt d => exact fun v rv => q v (rv.down n.2)
      | ro o => exact fun a ho h1 h2 h3 h4 h5 => q a ho h1 h2 h3 (h4.down n.2) h5
    · rw [if_neg n] at h
      exact h.elim
theorem unset_ok {W' : WX} {i : Nat} {m : R Fl} {Dn : Ends} (h : PostS T W F0 B0 A F (tidy (unset i m)) Dn) : PostS (T.hot p) W' F0 B0 A F m (EVX.goneAt i Dn) := by
  cases m with
  | bot => exact h
  | ex c fs ε => exact h.elim
  | ok fl ε =>
    have h' : PostS T W F0 B0 A F (if (ε.set i .no).all noXS = true ∧ noXF fl = true then R.ok fl (ε.set i .no) else R.bot) Dn := h
    by_cases n : (ε.set i .no).all noXS = true ∧ noXF fl = true
    · rw [if_pos n] at h'
      intro σ' F' H' s r
      have q := h' (σ'.set i none) F' H' s (RelE.down n.1 r.setNo)
      have q2 := h' σ' F' H' s (RelE.down n.1 r.setNo')
      cases fl with
      | nx => exact q
      | br => exact q
      | ct => exact q
      | rt d => exact fun v rv => q v (rv.down n.2)
      | ro o =>
        refine fun a ho h1 h2 h3 h4 h5 => q a ho h1 h2 h3 (h4.down n.2) fun j hj => ?_
        exact h5 j (ownA_set_no (fun _ _ z => by cases z) hj).2
    · rw [if_neg n] at h'
      exact h'.elim
end
inductive ClsD (K : PySem.W.Frag) (T : Tb) : List Clause → List (Value × Option Nat × EVX.SuT) → Prop
  | nil : ClsD K T [] []
  | cons {k : Clause} {cv : Value} {ks : List Clause} {l : List (Value × Option Nat × EVX.SuT)} (ht : ∀ c b, k.test c = some b → PySem.W.exmOne K (T.xc c) cv = some b) (hn : ∀ i c, k.slot = some i → k.test c = some true → T.xn c ≠ []) (r : ClsD K T ks l) :
      ClsD K T (k :: ks) ((cv, k.slot, fun a oe _ _ => EvS (T.hot (a, oe)) W0 k.body) :: l)
theorem hand_ok {K : PySem.W.Frag} {T : Tb} {W : WX} {F0 B0 : Hp} {A : List Addr} {Dn : Ends} {c : Nat} {fs : List D} {ε1 : Env} {F1 H1 : Hp} {σ : L2.St} {cls : Value} {dx : Option Addr} (h0 : T.xh = none) (rel : RelE T F0 B0 A F1 H1 σ ε1) (x : XRep T F1 H1 c fs cls dx) :
    ∀ {ks : List Clause} {l : List (Value × Option Nat × EVX.SuT)}, ClsD K T ks l → PostS T W F0 B0 A F1 (hand ks c fs ε1) Dn → EVX.wCl K W Dn l cls dx σ H1 := by
  intro ks l hl
  induction hl with
  | nil => exact fun q => q σ F1 H1 cls dx (.refl _) rel x
  | @cons k cv ks l ht hn r ih =>
    intro q
    unfold hand at q
    obtain ⟨slot, test, body⟩ := k
    cases hb : test c with
    | none => simp only [hb] at q; exact q.elim
    | some b =>
      have hm := ht c b hb
      rw [← x.1] at hm
      cases slot with
      | none =>
        refine ⟨b, hm, fun e a oe na hz hv => ?_, fun e => ?_⟩
        · subst e
          simp only [hb] at q
          exact ⟨F0, B0, A, F1, ε1, rel.up h0, tidy_ok q⟩
        · subst e
          simp only [hb] at q
          exact ih q
      | some i =>
        refine ⟨b, hm, fun e a oe na hz hv => ?_, fun e => ?_⟩
        · subst e
          simp only [hb] at q
          have nn := hn i c rfl hb
          obtain ⟨hc, ⟨d, vs, rfl, hd, hl, r1⟩ | ⟨_, _, z⟩⟩ := x
          · have rp : Rep (T.hot (a, oe)) F1 (.exc c fs) (.ref a) := rep_exc.mpr ⟨a, oe, d, vs, rfl, rfl, hz.1.trans hc, hz.2.1, hv, hd, hl, Reps.up h0 r1⟩
            exact ⟨F0, B0, A, F1, _, (rel.up h0).setSh rp, unset_ok q⟩
          · exact absurd z nn
        · subst e
          simp only [hb] at q
          exact ih q
theorem sS_try {X : Cx} {T : Tb} {W : WX} {body : List Stmt} {h1 : ExceptHandler} {hds : List ExceptHandler} {pos : Pos} {g : FS} {hs : List Clause} {l : List (Value × Option Nat × EVX.SuT)} (hs0 : X.stack = X.env :: X.outer) (hf : X.env.frame = some X.env.locals) (h0 : T.xh = none)
    (tk : L2N.Takes X W) (hb : ∀ (W' : WX) (pn : List (Addr × Obj)) (xe : Value → Shared → Prop), L2N.Takes (X.tr pn xe) W' → PassesOwn (model X.prog X.w) X.A X.env xe → SSs (X.tr pn xe) T W' body g)
    (hh : EVX.Cls X (h1 :: hds) l) (hl : ClsD X.K T hs l) : SS X T W (.Try body (h1 :: hds) [] [] pos) (tryS g hs) := impS (EVX.ps_tryE (tb := fun W' => EvS T W' g) hs0 hf tk hb hh) fun Dn σ H ⟨F0, B0, A, F, ε, rel, q⟩ => by
  refine ⟨F0, B0, A, F, ε, rel, ?_⟩
  unfold tryS at q
  cases hg : g ε with
  | bot => rw [hg] at q; exact q
  | ok fl ε1 => rw [hg] at q; exact q
  | ex c fs ε1 =>
    rw [hg] at q
    intro σ' F' H' cls dx s rel' x
    exact hand_ok h0 rel' x hl (PostS.monoF s q)
end EV
set_option maxRecDepth 100000
set_option maxHeartbeats 4000000
/-! EvX7: isinstance of the handled exception, whatever its dict (modelled on HandS.ExcIs, which has it without a dict). -/
namespace EVX
open PySem PySem.Spec PySem.Calls PyProof.Rows PySem.W
section
variable {prog : Program} {w : World} {A : Around} {E : Value → Shared → Prop} {s : Shared} {K : Frag} {x D : Addr} {ox : Obj} {od : Option Obj}
theorem dataOf {C : Addr} {name : Str} {a g : Value} (hc : (clsIn K C).isSome = true) (ha : findIn K (.ref C) name = some (some a)) (hg : specialIn K a "__get__" = some (some g)) (ht : takesIn K a = some true) : findObj K C od name = some (.bind g a) := by
  cases q : clsIn K C with
  | none =>
    rw [q] at hc
    cases hc
  | some cd =>
    unfold findObj
    rw [q, Option.bind_some, ha, Option.bind_some]
    simp [hg, ht]
theorem class_of {Q : Option Value → Shared → Prop} (T : L2.ExcC K D) (X : K.In s.heap) (I : InstAt s.heap x ox D od) (h : Q (some (.ref D)) { s with toks := s.toks + 1 }) : wpAny (model prog w) A (getAttr? (.ref x) "__class__") Q E s := by
  have hf : findObj K D od "__class__" = some (.bind (.builtin "getset_descriptor.__get__") (.builtin "object.__class__")) := by
    refine dataOf ?_ T.ha T.hn T.ht
    obtain ⟨cd, hc, _⟩ := any_some T.hd
    rw [hc]
    rfl
  obtain ⟨hp, g, d, t, os⟩ := s
  have k0 := I.type (M := model prog w)
  have k1 := looks_findIn (M := model prog w) X T.hg
  have k2 := looks_findIn (M := model prog w) X T.hk
  have k3 := looks_find (M := model prog w) X I hf
  have kb : Looks (model prog w) hp (isInstance (.ref x) (.type "BaseException")) true := k0.andThen (looks_subIn X T.hs)
  have z2 : (Value.builtin "BaseException.__getattribute__" == Value.builtin "object.__getattribute__") = false := by decide +kernel
  have z1 : (onTheHeap (Value.ref D) && Value.builtin "BaseException.__getattribute__" == Value.builtin "object.__getattribute__") = false := by
    rw [z2]
    rfl
  unfold getAttr? getAttrBy? getAttrBy
  refine wpAny_bind (wpAny_mkText (wpAny_bind (wpAny_attempt (wpAny_holding (wpAny_bind (k0.at (wpAny_bind (k1.at ?_))))))))
  show wpAny _ _ (if (onTheHeap (Value.ref D) && Value.builtin "BaseException.__getattribute__" == Value.builtin "object.__getattribute__") = true then _ else _) _ _ _
  rw [z1, if_neg Bool.false_ne_true]
  unfold getAttrByItsOwn hookBefore
  refine wpAny_bind ?_
  rw [if_pos (show onTheHeap (Value.ref D) = true from rfl)]
  refine k2.at ?_
  refine wpAny_bind (wpAny_attempt (wpAny_holding ?_))
  unfold callGetattribute
  rw [show (false && onTheHeap (Value.builtin "BaseException.__getattribute__")) = false from rfl, if_neg Bool.false_ne_true]
  unfold boundAndCalled
  rw [PySem.F.excAttr_ValueError.ga.bind (.ref x)]
  refine wpAny_bind (wpAny_pure ?_)
  show wpAny _ _ (PySem.call (.builtin "BaseException.__getattribute__") [.ref x, .str "__class__" t]) _ _ _
  refine wpAny_call (codeAny_call_builtin PySem.F.excAttr_ValueError.ga.plain PySem.F.entry_bexc_ga ?_)
  refine @check_slot (model prog w) _ _ ⟨hp, g, d, t + 1, os⟩ "BaseException.__getattribute__" "BaseException" "__getattribute__" (.ref x) [.str "__class__" t] [] _ (by decide +kernel) (by decide +kernel) kb (PySem.F.args_bexc_ga (.ref x) (.str "__class__" t)) ?_
  unfold Builtin.«object.__getattribute__»
  refine wpAny_bind (wpAny_of_eq (a := ((Value.ref x : Value), [Value.str "__class__" t])) (by first | rfl | (simp only [slotArgs]; rfl)) ?_)
  refine wpAny_bind (wpAny_pure (wpAny_bind (k0.at (wpAny_bind (k3.at ?_)))))
  show wpAny _ _ (holding [Value.builtin "object.__class__"] (PySem.call (.builtin "getset_descriptor.__get__") [.builtin "object.__class__", .ref x, .ref D]) >>= ret) _ _ _
  refine wpAny_bind (wpAny_holding (wpAny_call (class_get (s := ⟨hp, g, d, t + 1, os⟩) (ox := ox) (od := od) X I T.hm ?_)))
  refine wpAny_pure ?_
  show wpAny _ _ (handedOut (.ref D)) _ _ _
  rw [handedOut_of (v := .ref D) rfl]
  first
    | exact wpAny_pure (wpAny_pure h)
    | exact wpAny_pure h
    | exact wpAny_pure (wpAny_bind (wpAny_pure (wpAny_pure h)))
end
theorem kit_exc {K : Frag} {x D : Addr} {ox : Obj} {od : Option Obj} (T : L2.ExcC K D) : KitX K (.ref x) (.ref D) (fun h => InstAt h x ox D od) := by
  have own : ∃ cd, clsIn K D = some cd := by
    obtain ⟨cd, hc, _⟩ := any_some T.hd
    exact ⟨cd, hc⟩
  refine ⟨fun _ _ _ I => I.type, fun M h X _ => ?_, fun h tp dd its n sl X htp => ?_, fun X I k => class_of T X I k⟩
  · obtain ⟨cd, hc⟩ := own
    unfold clsIn at hc
    split at hc
    · rename_i ho
      intro A' Q' E' y k q
      unfold isType loadHead
      exact wpAny_bind (wpAny_loadPart (k _ _ (X _ _ ho)) (wpAny_pure q))
    · cases hc
  · obtain ⟨cd, hc⟩ := own
    refine Bool.eq_false_iff.mpr fun q => ?_
    have e : D = tp := Value.ref.inj (beq_iff_eq.mp q)
    subst e
    unfold clsIn at hc
    split at hc
    · rename_i ho
      cases (X _ _ ho).symm.trans htp
    · cases hc
open L2
/-- isinstance(e, c), e the handled exception -/
def rIsG (X : Cx) : List V → Hp → VK → Prop := fun xs H Q => ∃ (a D dd : Addr) (oe : Obj) (fs : List (Str × V)) (c : V) (cv : Value) (b : Bool), xs = [.ref a, c] ∧ (a, oe) ∈ X.pn ∧ oe.cls = .ref D ∧ oe.dict = some dd ∧ (∃ vs, oe.data = .fields vs) ∧ H dd = some (.xd fs) ∧ ExcC X.K D ∧
  (∀ u, RelV c u → u = cv) ∧ kitOne X.K (.ref D) cv = some b ∧ Q (.bl b) H
theorem call_isG {X : Cx} : CallR X (.builtin "isinstance") (rIsG X) := by
  intro pins y σ H xs us Q I r h
  obtain ⟨a, D, dd, oe, fs, c, cv, b, rfl, hp, hc, hd, ⟨vs, hv⟩, hx, T, hcv, e, q⟩ := h
  cases r with
  | cons rx rr =>
    cases rr with
    | cons rt rr =>
      cases rr
      cases rx
      have ec := hcv _ rt
      subst ec
      have at1 := (I.pin (a, oe) (List.mem_append_left _ hp)).1
      obtain ⟨mA, ns, _⟩ : ObjOk X.prog X.w H y.heap dd (.xd fs) := I.hok dd _ hx
      obtain ⟨od, ho, _⟩ := lookIn_ns ns
      have J : InstAt y.heap a oe D (some od) := by
        refine ⟨at1, hc, ?_, ?_⟩
        · unfold notCls
          rw [hv]
        · rw [hd]
          exact ho
      exact kia_one (kit_exc T) I.kIn J e (fun z => nomatch z) fun tk => ⟨.bl b, H, I.kept (t' := tk) fun _ _ z => z, rfl, q⟩
end EVX
set_option maxRecDepth 100000
set_option maxHeartbeats 4000000
/-! EvX8: isinstance(error, C) over data. -/
namespace EV
open PySem L2
noncomputable def bIsX (t : Nat → Option Bool) : D → Option D
  | .exc c _ => (t c).map .bl
  | _ => none
/-- what the head tells of the exceptions' classes beside the class cv -/
def XI (K : PySem.W.Frag) (T : Tb) (t : Nat → Option Bool) (cv : Value) : Prop := ∀ c b, t c = some b → ∃ D : Addr, T.xc c = .ref D ∧ ExcC K D ∧ PySem.W.kitOne K (.ref D) cv = some b
theorem sE_isX {X : Cx} {T : Tb} {W : WX} {e e2 : Expr} {fe : FE} {p pos : Pos} {t : Nat → Option Bool} {cV : V} {cv : Value} (hK : XI X.K T t cv) (hp : ∀ q, T.xh = some q → q ∈ X.pn) (hcv : ∀ u, RelV cV u → u = cv) (hg : Gl X "isinstance") (hm : X.mg "isinstance" = none) (ha : SE X T W e fe) (h2 : PE X e2 (tC cV))
    (he : starEach [e, e2] X.env = (false, eval e X.env) :: starEach [e2] X.env := by rfl) (he2 : starEach [e2] X.env = (false, eval e2 X.env) :: starEach [] X.env := by rfl) (hpl : (backTo pos (starEach [e2] X.env)).any (·.1) = false := by rfl) :
    SE X T W (.Call (.Name "isinstance" p) [e, e2] [] pos) (un (bIsX t) fe) :=
  impE (pe_callB EVX.call_isG hg hm (by decide +kernel) (pa_cons ha (pa_cons h2 pa_nil he2) he) (by decide) (by decide) he hpl) fun σ H Q ⟨F0, B0, A, F, ε, rel, q⟩ => ⟨F0, B0, A, F, ε, rel, (post_bind q).imp fun x ε1 F1 H1 s1 rel1 q1 v rv => by
    obtain ⟨z, ez, q2⟩ := post_of q1
    cases x with
    | exc c fs =>
      cases ht : t c with
      | none =>
        have ez' : (t c).map D.bl = some z := ez
        rw [ht] at ez'
        cases ez'
      | some b =>
        have ez' : (t c).map D.bl = some z := ez
        rw [ht] at ez'
        cases ez'
        obtain ⟨a, oe, d, vs, rfl, hh, hc, hd, hv, hx, hl, r1⟩ := rep_exc.mp rv
        obtain ⟨D0, eD, O, hk⟩ := hK c b ht
        exact ⟨a, D0, d, oe, _, cV, cv, b, rfl, hp _ hh, hc.trans eD, hd, hv, rel1.fh _ _ hx, O, hcv, hk, q2 F1 H1 (.refl _) rel1 _ (rep_bl.mpr rfl)⟩
    | _ => cases ez⟩
end EV
set_option maxRecDepth 100000
set_option maxHeartbeats 4000000
/-! EvY: defs called while an exception is handled, told of that very exception; keyword calls anywhere; isinstance with several classes. -/
namespace EVX
open PySem PySem.Spec PyProof.Rows L2
/-- a def's promise where p is the handled exception (as the library's FnH, whose p stands within) -/
structure FnHp (P : Program) (w : World) (K : PySem.W.Frag) (mg : Str → Option Value) (base : Heap) (k : Nat) (f : Addr) (fd : FuncData) (ps : List Str) (p : Addr × Obj) (sp : Sp) : Prop where
  num : ∀ vs H Q E, sp vs H Q E → vs.length = ps.length
  go : ∀ (A : Around) (outer : List PySem.Env) (y : Shared) (H : Hp) (args : Args) (us : List Value) (vs : List V) (Q : VK) (E : XK), L2H.RoomH k A → L2H.Hot1 A p → L2H.PinOk outer H y p → Env0 P w K mg base A outer y H → BindsTo y fd args (ps.zip us) → Vals vs us → sp vs H Q E →
    codeAny (model P w) A (.call (.ref f) args) (CR (L2N.CX P w) outer P w H y Q E) y
/-- the context knows p as the handled exception -/
def HotP (X : Cx) (p : Addr × Obj) : Prop := L2H.Hot1 X.A p ∧ p ∈ X.pn
section
variable {P : Program} {w : World} {K : PySem.W.Frag} {mg : Str → Option Value} {base : Heap}
theorem okHp {x qual : Str} {st : Stmt} {f : Addr} {fd : FuncData} {N ps : List Str} {k : Nat} {p : Addr × Obj} {sp : Sp} (F : Fun K x qual st f fd) (S : FnScope N ps (defScope st)) (num : ∀ vs H Q E, sp vs H Q E → vs.length = ps.length)
    (hb : ∀ (cdv : Value) (A : Around) (outer : List PySem.Env) (y : Shared) (H : Hp) (vs : List V) (Q : VK) (E : XK), L2H.Hot1 A p → L2H.RoomH k (A.deeper (envOfC qual (defScope st) y.heap.objs.size f cdv)) → sp vs H Q E →
      ∃ t, PSs (L2H.cxH (L2N.CX P w) P w K mg base N qual (defScope st) f cdv A outer y H E p) (defBody st) t ∧ t { nx := fun _ H' => Q .non H', rt := Q } (L2.start N vs) H) : FnHp P w K mg base (k + 1) f fd ps p sp := by
  obtain ⟨_, _, _, _, _, _, cdv, _, _, rfl, lk, hcd⟩ := F.ex
  refine ⟨num, fun A outer y H args us vs Q E hr hot hpin e0 hbd r hsp => ?_⟩
  have hl := num _ _ _ _ hsp
  have inK : K.In y.heap := e0.mod.kin.keeps fun b o e => (e0.bs b o e).1
  have free : y.heap.NoLimit := e0.mod.nolimit.keeps fun b o e => (e0.bs b o e).1
  have kinds : ∀ z ∈ ps.zip us, (defScope st).names.lookup z.1 = some .local ∨ ((defScope st).names.lookup z.1 = some .cell ∧ ((cellsFrom (y.heap.objs.size + 1) (defScope st).names []).lookup z.1).isSome = true) := by
    rintro ⟨n, v⟩ hz
    rcases S.par n (List.of_mem_zip hz).1 with q | q
    · exact .inl q
    · exact .inr ⟨q, PySem.W.cellsFrom_some _ _ _ (.inl q)⟩
  refine codeAny_call_function hr.depth (inK _ _ lk) rfl S.co S.gen rfl (PySem.W.codeRec_of inK hcd) (hbd _ _ _ _ ?_)
  refine wpAny_newFunctionEnv_cells S.kind kinds fun env he s1 x => ?_
  subst he
  refine ⟨free.keeps x.toInCall.keep, codeAny_func ?_⟩
  obtain ⟨t, ht, hq⟩ := hb _ A outer y H vs Q E hot (hr.deeper _) hsp
  refine wpAny_mono (ht.run [] s1 (L2.start N vs) H _ (L2H.inv_startH S hpin e0 hl r x) hq) (fun fl y2 h2 => ?_) fun _ _ z => z
  have done : ∀ {τ : L2.St} {G : Hp} {v : V} {u : Value}, Inv (L2H.cxH (L2N.CX P w) P w K mg base N qual (defScope st) f cdv A outer y H E p) [] τ G y2 → RelV v u → Q v G → CE outer P w H y Q u y2 :=
    fun {τ G v u} J rv q => ⟨v, G, J.os, J.bare, J.base, J.hok, rv, q⟩
  cases fl with
  | next =>
    obtain ⟨τ, G, J, q⟩ := h2
    exact done (v := V.non) (u := Value.none) J rfl q
  | ret u =>
    obtain ⟨v, τ, G, J, rv, q⟩ := h2
    exact done J rv q
  | cont =>
    obtain ⟨_, _, _, q⟩ := h2
    exact q.elim
  | brk =>
    obtain ⟨_, _, _, q⟩ := h2
    exact q.elim
end
section
variable {X : Cx} {k : Nat} {f : Addr} {fd : FuncData} {ps : List Str} {sp : Sp} {E : L2.St → XK} {x : Str} {q pos : Pos} {e : Expr} {es : List Expr} {t : TA} {p : Addr × Obj}
theorem goHp {pins : List (Addr × Obj)} {σ : L2.St} {H : Hp} {y : Shared} {Q : VK} {us : List Value} {vs : List V} (F : FnHp X.prog X.w X.K X.mg X.base k f fd ps p sp) (hr : L2H.RoomH k X.A) (hc : HotP X p) (hb : Binds X.K fd ps []) (hx : PassesAt (L2N.CX X.prog X.w) X σ (E σ))
    (I : Inv X pins σ H y) (r : Vals vs us) (h : sp vs H Q (E σ)) : wpAny (model X.prog X.w) X.A (PySem.call (.ref f) us) (EP X pins σ Q) X.xe y := by
  obtain ⟨hot, hp⟩ := hc
  have hl : us.length = ps.length := by rw [← r.length]; exact F.num _ _ _ _ h
  have b := hb y us I.kIn (by rw [List.append_nil]; exact hl)
  rw [List.append_nil] at b
  have z := I.pin p (List.mem_append_left _ hp)
  have hpin : L2H.PinOk X.stack H y p := ⟨z.1, z.2.1, fun hm => (List.mem_cons.mp (I.stkSub p.1 hm)).elim z.2.2.1 z.2.2.2.1, z.2.2.2.2⟩
  refine wpAny_call (codeAny_mono (F.go X.A X.stack y H ⟨us, []⟩ us vs Q (E σ) hr hot hpin I.env0 b r h) fun r y2 hq => ?_)
  cases r with
  | ok fl =>
    cases fl with
    | ret u => exact I.after hq
    | next => exact False.elim hq
    | cont => exact False.elim hq
    | brk => exact False.elim hq
  | error e => exact hx pins H y e y2 I hq
theorem pe_callHp (F : FnHp X.prog X.w X.K X.mg X.base k f fd ps p sp) (hr : L2H.RoomH k X.A) (hc : HotP X p) (hg : Gl X x) (hm : X.mg x = some (.ref f)) (hk : PySem.W.keepIn X.K (.ref f) = true) (hb : Binds X.K fd ps []) (hx : ∀ σ, PassesAt (L2N.CX X.prog X.w) X σ (E σ))
    (ha : PA X (e :: es) t) (hdb : (x == ("__debug__" : Str)) = false := by decide) (he : starEach (e :: es) X.env = (false, eval e X.env) :: starEach es X.env := by rfl) (hpl : (backTo pos (starEach es X.env)).any (·.1) = false := by rfl) :
    PE X (.Call (.Name x q) (e :: es) [] pos) (tCallSD sp [] E t) := by
  refine ⟨fun pins y σ H Q I h => wpAny_Call_Name_kw (ld_glob I hg hm ?_ hdb)⟩
  refine PySem.W.callWith_K (h₀ := X.base) I.ok.mod.kin hk (thn (ha.run pos pins y σ H _ I h) fun us y1 ⟨vs, H1, I1, r, q1⟩ => ⟨I1.kIn, ?_⟩) he hpl
  have q2 : sp (vs ++ []) H1 Q (E σ) := q1
  rw [List.append_nil] at q2
  exact goHp F hr hc hb (hx σ) I1 r q2
/-- keywords: what the callee lets out, by the place -/
theorem goNA {n : Nat} {ks : List Str} {g : List Value → List Value → List Value} {gV : List V → List V → List V} {pins : List (Addr × Obj)} {σ : L2.St} {H : Hp} {y : Shared} {Q : VK} {us ws : List Value} {vs zs : List V} {E1 : XK} (F : FnOk X.prog X.w X.K X.mg X.base (L2N.CX X.prog X.w) k f fd ps sp) (hr : Room k X.A) (hb : KBn X.K fd ps n ks g gV) (hx : PassesAt (L2N.CX X.prog X.w) X σ E1)
    (I : Inv X pins σ H y) (r : Vals vs us) (rz : Vals zs ws) (l1 : vs.length = n) (l2 : zs.length = ks.length) (h : sp (gV vs zs) H Q E1) : wpAny (model X.prog X.w) X.A (PySem.call (.ref f) us (ks.zip ws)) (EP X pins σ Q) X.xe y := by
  have b := hb.to y us ws I.kIn (r.length.symm.trans l1) (rz.length.symm.trans l2)
  refine wpAny_call (codeAny_mono (F.run X.A X.stack y H ⟨us, ks.zip ws⟩ (g us ws) (gV vs zs) Q E1 hr I.env0 b (hb.rel r rz) h) fun r y2 hq => ?_)
  cases r with
  | ok fl =>
    cases fl with
    | ret u => exact I.after hq
    | next => exact False.elim hq
    | cont => exact False.elim hq
    | brk => exact False.elim hq
  | error e => exact hx pins H y e y2 I hq
end
end EVX
namespace EV
open PySem L2
section
variable {X : Cx} {T : Tb} {W : WX} {pos p : Pos} {e : Expr} {es : List Expr} {x : Str} {k : Nat} {ps : List Str} {fr fk : FA} {fe : FE}
theorem sE_callH {m : List D → FR} {hx : Addr × Obj} (D0 : ∃ (f : Addr) (fd : FuncData), X.mg x = some (.ref f) ∧ PySem.W.keepIn X.K (.ref f) = true ∧ EVX.FnHp X.prog X.w X.K X.mg X.base k f fd ps hx (spM T ps.length m) ∧ Binds X.K fd ps []) (hnp : ∀ ds, ds.length ≠ ps.length → m ds = .bot) (hr : L2H.RoomH k X.A) (hc : EVX.HotP X hx) (hg : Gl X x) (tk : L2N.Takes X W) (ha : SA X T W (e :: es) fr)
    (hdb : (x == ("__debug__" : Str)) = false := by decide) (he : starEach (e :: es) X.env = (false, eval e X.env) :: starEach es X.env := by rfl) (hpl : (backTo pos (starEach es X.env)).any (·.1) = false := by rfl) :
    SE X T W (.Call (.Name x p) (e :: es) [] pos) (EV.call m fr) := by
  obtain ⟨f, fd, h1, h2, h3, h4⟩ := D0
  exact impE (EVX.pe_callHp h3 hr hc hg h1 h2 h4 (L2N.passAt tk) ha hdb he hpl) fun σ H Q ev => call_ev ev hnp
theorem fnH_ok {P : Program} {w : World} {K : PySem.W.Frag} {mg : Str → Option Value} {base : Heap} {qual : Str} {st : Stmt} {f : Addr} {fd : FuncData} {N : List Str} {n : Nat} {g : FS} {hx : Addr × Obj} (F : Fun K x qual st f fd) (S : FnScope N ps (defScope st)) (hn : N.length = n) (hle : ps.length ≤ n)
    (hb : ∀ (cdv : Value) (A : Around) (outer : List PySem.Env) (s : Shared) (H : Hp) (E : XK), EVX.HotP (L2H.cxH (L2N.CX P w) P w K mg base N qual (defScope st) f cdv A outer s H E hx) hx → L2H.RoomH k (A.deeper (PyProof.Rows.envOfC qual (defScope st) s.heap.objs.size f cdv)) → SSs (L2H.cxH (L2N.CX P w) P w K mg base N qual (defScope st) f cdv A outer s H E hx) T (WK E) (defBody st) g) :
    EVX.FnHp P w K mg base (k + 1) f fd ps hx (spM T ps.length (fn ps.length n g)) :=
  EVX.okHp F S (fun vs H Q E h => h.1) fun cdv A outer s H vs Q E hot hr h => ⟨_, hb cdv A outer s H E ⟨hot, List.mem_cons_self⟩ hr, fn_end (ds := []) hn h hle⟩
/-- what a def's own body takes where an exception is handled -/
theorem takesH {P : Program} {w : World} {K : PySem.W.Frag} {mg : Str → Option Value} {base : Heap} {N : List Str} {qual : Str} {scope : Scope} {f : Addr} {cd : Value} {A : Around} {outer : List PySem.Env} {s : Shared} {H : Hp} {E : XK} {hx : Addr × Obj} :
    L2N.Takes (L2H.cxH (L2N.CX P w) P w K mg base N qual scope f cd A outer s H E hx) (WK E) := L2N.takes_of rfl rfl rfl rfl
theorem hotS {X : Cx} {a : Addr} {oe : Obj} {cls : Value} {d : Option Addr} {pn : List (Addr × Obj)} (hz : L2N.Zn cls d oe) (hv : ∃ vs, oe.data = .fields vs) : EVX.HotP (X.suite a ((a, oe) :: pn)) (a, oe) := by
  obtain ⟨vs, e⟩ := hv
  exact ⟨⟨rfl, vs, e, hz.2.2 vs e⟩, List.mem_cons_self⟩
theorem roomS {X : Cx} {a : Addr} {pn : List (Addr × Obj)} (r : Room k X.A) : L2H.RoomH k (X.suite a pn).A := ⟨r.dp, r.un⟩
theorem xhS {T : Tb} {hx : Addr × Obj} (c : EVX.HotP X hx) : ∀ q, (T.hot hx).xh = some q → q ∈ X.pn := fun q h => by
  cases h
  exact c.2
theorem unitsH {A : Around} (r : L2H.RoomH k A) : A.units + 64 < cLine := by
  have := r.un
  omega
/-- a def called with keywords alone, anywhere -/
theorem sE_callKA {m : List D → FR} {kws : List Keyword} (h0 : ∃ (f : Addr) (fd : FuncData), X.mg x = some (.ref f) ∧ PySem.W.keepIn X.K (.ref f) = true ∧ FnOk X.prog X.w X.K X.mg X.base (L2N.CX X.prog X.w) k f fd ps (spM T ps.length m) ∧ KBn X.K fd ps 0 ps (fun _ ws => ws) (fun _ zs => zs))
    (hnp : ∀ ds, ds.length ≠ ps.length → m ds = .bot) (hr : Room k X.A) (hg : Gl X x) (tk : L2N.Takes X W) (hk : PK X kws (EvA T W fk))
    (hall : (backToKw pos (keywordEach kws X.env)).all (·.1.isSome) = true := by rfl) (hks : (backToKw pos (keywordEach kws X.env)).filterMap (·.1) = ps := by rfl) (hdb : (x == ("__debug__" : Str)) = false := by decide)
    (hpl : ((backTo pos (starEach [] X.env)).any (·.1) || (backToKw pos (keywordEach kws X.env)).any (·.1.isNone)) = false := by rfl) :
    SE X T W (.Call (.Name x p) [] kws pos) (EV.call m fk) := by
  obtain ⟨f, fd, h1, h2, h3, h4⟩ := h0
  refine ⟨fun pins y σ H Q I ev => wpAny_Call_Name_kw (ld_glob I hg h1 ?_ hdb)⟩
  have ev2 := call_ev (np := ps.length) ev hnp
  refine PySem.W.callWith_KW0 (h₀ := X.base) I.ok.mod.kin h2 hall (thn (hk.run pos pins y σ H _ I ev2) fun ws y2 ⟨zs, H2, I2, rz, q2⟩ => ⟨I2.kIn, ?_⟩) hpl
  rw [hks]
  have q3 : spM T ps.length m (zs ++ []) H2 Q (WE W σ) := q2
  rw [List.append_nil] at q3
  exact EVX.goNA (us := []) (vs := []) h3 hr h4 (L2N.passAt tk σ) I2 .nil rz rfl q3.1 q3
end
end EV
set_option maxRecDepth 100000
set_option maxHeartbeats 4000000
/-! EvY2: isinstance(error, (C1, C2)); methods without arguments; shifts. -/
namespace EVX
open PySem PySem.Spec PySem.Calls PyProof.Rows PySem.W L2
def rIsGT (X : Cx) : List V → Hp → VK → Prop := fun xs H Q => ∃ (a D dd tp : Addr) (oe : Obj) (fs : List (Str × V)) (cs : List V) (cvs : List Value) (b : Bool), xs = [.ref a, .ref tp] ∧ (a, oe) ∈ X.pn ∧ oe.cls = .ref D ∧ oe.dict = some dd ∧ (∃ vs, oe.data = .fields vs) ∧ H dd = some (.xd fs) ∧ ExcC X.K D ∧
  H tp = some (.tup cs) ∧ Paired ClsV cs cvs ∧ kitAny X.K (.ref D) cvs = some b ∧ Q (.bl b) H
theorem call_isGT {X : Cx} : CallR X (.builtin "isinstance") (rIsGT X) := by
  intro pins y σ H xs us Q I r h
  obtain ⟨a, D, dd, tp, oe, fs, cs, cvs, b, rfl, hp, hc, hd, ⟨vs, hv⟩, hx, T, ht, hk, e, q⟩ := h
  cases r with
  | cons rx rr =>
    cases rr with
    | cons rt rr =>
      cases rr
      cases rx
      cases rt
      have at1 := (I.pin (a, oe) (List.mem_append_left _ hp)).1
      obtain ⟨mA, ns, _⟩ : ObjOk X.prog X.w H y.heap dd (.xd fs) := I.hok dd _ hx
      obtain ⟨od, ho, _⟩ := lookIn_ns ns
      have J : InstAt y.heap a oe D (some od) := by
        refine ⟨at1, hc, ?_, ?_⟩
        · unfold notCls
          rw [hv]
        · rw [hd]
          exact ho
      obtain ⟨_, its, rv, o, h1, h2, n, h3⟩ := (show ObjOk X.prog X.w H y.heap tp (.tup cs) from I.hok tp _ ht)
      have e3 := ClsV.all hk rv
      subst e3
      obtain ⟨oc, od2, dt, sl⟩ := o
      dsimp only at h2 h3
      subst h2 h3
      exact kia_tup (kit_exc T) I.kIn J h1 e (fun z => nomatch z) fun tk => ⟨.bl b, H, I.kept (t' := tk) fun _ _ z => z, rfl, q⟩
end EVX
namespace EV
open PySem L2
def XIs (K : PySem.W.Frag) (T : Tb) (t : Nat → Option Bool) (cvs : List Value) : Prop := ∀ c b, t c = some b → ∃ D : Addr, T.xc c = .ref D ∧ ExcC K D ∧ PySem.W.kitAny K (.ref D) cvs = some b
theorem sE_isXT {X : Cx} {T : Tb} {W : WX} {e : Expr} {es : List Expr} {fe : FE} {p pos p3 : Pos} {x1 : Nat} {t : Nat → Option Bool} {cs : List V} {cvs : List Value} {t2 : TA} (hK : XIs X.K T t cvs) (hp : ∀ q, T.xh = some q → q ∈ X.pn) (hcv : Paired ClsV cs cvs) (hl : cs.length ≤ 1000) (hg : Gl X "isinstance") (hm : X.mg "isinstance" = none) (ha : SE X T W e fe) (h2 : PA X es t2)
    (ht : ∀ σ H Q, Q cs H → t2 σ H Q) (he : starEach [e, .Tuple es x1 p3] X.env = (false, eval e X.env) :: starEach [.Tuple es x1 p3] X.env := by rfl) (he2 : starEach [.Tuple es x1 p3] X.env = (false, eval (.Tuple es x1 p3) X.env) :: starEach [] X.env := by rfl) (hpl : (backTo pos (starEach [.Tuple es x1 p3] X.env)).any (·.1) = false := by rfl) :
    SE X T W (.Call (.Name "isinstance" p) [e, .Tuple es x1 p3] [] pos) (un (bIsX t) fe) :=
  impE (pe_callB EVX.call_isGT hg hm (by decide +kernel) (pa_cons ha (pa_cons (pe_tup h2) pa_nil he2) he) (by decide) (by decide) he hpl) fun σ H Q ⟨F0, B0, A, F, ε, rel, q⟩ => ⟨F0, B0, A, F, ε, rel, (post_bind q).imp fun x ε1 F1 H1 s1 rel1 q1 v rv => by
    obtain ⟨z, ez, q2⟩ := post_of q1
    cases x with
    | exc c fs =>
      cases htc : t c with
      | none =>
        have ez2 : (t c).map D.bl = some z := ez
        rw [htc] at ez2
        cases ez2
      | some b =>
        have ez2 : (t c).map D.bl = some z := ez
        rw [htc] at ez2
        cases ez2
        obtain ⟨a, oe, d, vs, rfl, hh, hc, hd, hv, hx, hl2, r1⟩ := rep_exc.mp rv
        obtain ⟨D0, eD, O, hk⟩ := hK c b htc
        refine ht _ _ _ ⟨line_le (Nat.le_trans hl (by decide +kernel)), fun tp htp => ?_⟩
        have nd : d ≠ tp := ne_of_none (rel1.fh _ _ hx) htp
        refine ⟨a, D0, d, tp, oe, _, cs, cvs, b, rfl, hp _ hh, hc.trans eD, hd, hv, (upd_ne nd).trans (rel1.fh _ _ hx), O, upd_same, hcv, hk, ?_⟩
        exact q2 F1 _ (.refl _) (rel1.grow ⟨.refl _, rel1.fh.trans (Same.new htp), Same.new htp, fun q h => .inl h⟩) _ (rep_bl.mpr rfl)
    | _ => cases ez⟩
/-! ### methods -/
noncomputable def meth0 (c : Nat) (m : List D → FR) (fa : FE) : FE := fun ε => (fa ε).bind fun x ε1 => match x with
  | .ins c' fs => if c' = c then (m [.ins c' fs]).toE ε1 else .bot
  | _ => .bot
theorem lookup_not : ∀ {ns : List Str} {vs : List V} {f : Str}, f ∉ ns → (ns.zip vs).lookup f = none
  | [], _, f, _ => rfl
  | n :: ns, [], f, _ => rfl
  | n :: ns, v :: vs, f, h => by
    have h1 : f ≠ n := fun z => h (z ▸ List.mem_cons_self)
    have h2 : f ∉ ns := fun z => h (List.mem_cons_of_mem _ z)
    have h3 : (f == n) = false := by simpa using h1
    simp only [List.zip_cons_cons, List.lookup_cons, h3]
    exact lookup_not h2
theorem sp_call {T : Tb} {W : WX} {F0 B0 : Hp} {A : List Addr} {m : List D → FR} {np : Nat} {σ : L2.St} {Q : VK} {xs : List D} {vs : List V} {ε1 : Env} {F1 H1 : Hp} (rel1 : RelE T F0 B0 A F1 H1 σ ε1) (rvs : Reps T F1 xs vs) (hnp : ∀ ds, ds.length ≠ np → m ds = .bot)
    (p1 : Post T W F0 B0 A F1 σ ((m xs).toE ε1) fun d _ F' H' => ∀ v, Rep T F' d v → Q v H') : spM T np m vs H1 Q (WE W σ) := by
  refine ⟨?_, F1, xs, rel1.fh, rvs, ?_⟩
  · rw [← rvs.length]
    exact Classical.byContradiction fun hne => by
      rw [hnp xs hne] at p1
      exact p1
  · cases hm : m xs with
    | bot => rw [hm] at p1; exact p1
    | ret d => rw [hm] at p1; exact fun v F' H' g rv => p1 F' H' g.ff (rel1.grow g) v rv
    | rse c fs => rw [hm] at p1; exact fun cls dx F' H' g xr => p1 F' H' cls dx g.ff (rel1.grow g) xr
    | rto o =>
      rw [hm] at p1
      intro q ho F' H' g fq hq hq' ro
      obtain ⟨d, e1, p2⟩ := post_of p1
      cases o with
      | i c fs => cases e1
      | d kvs => cases e1
      | l xs2 =>
        cases e1
        cases ho with
        | lst vs2 =>
          have sf : Same F' (upd F' q (.lst vs2)) := Same.new fq
          have g2 : Grow F1 H1 (upd F' q (.lst vs2)) H' := ⟨g.ff.trans sf, fun y u hy => by
            by_cases z : y = q
            · subst z
              rw [upd_same] at hy
              cases hy
              exact hq'
            · rw [upd_ne z] at hy
              exact g.fh y u hy, g.hh, fun y hy => by
            by_cases z : y = q
            · subst z
              exact .inr hq
            · rw [upd_ne z] at hy
              exact g.nw y hy⟩
          refine p2 _ H' g2.ff (rel1.grow g2) _ ?_
          simp only [Rep]
          exact ⟨q, vs2, rfl, upd_same, Reps.mono sf ro⟩
        | _ => exact ro.elim
/-- x.m() -/
theorem sE_meth0 {X : Cx} {T : Tb} {E : XK} {e : Expr} {fa : FE} {apos pos : Pos} {c k : Nat} {ps : List Str} {m : List D → FR} {x : Str} {pl : Sem Bool} (al : IsC X.K (T.ad c)) (D0 : ∃ (f : Addr) (fd : FuncData), Meth X.K (T.ad c) x f ∧ FnOk X.prog X.w X.K X.mg X.base (L2N.CX X.prog X.w) k f fd ps (spM T ps.length m) ∧ Binds X.K fd ps [])
    (hnp : ∀ ds, ds.length ≠ ps.length → m ds = .bot) (hn : x ∉ T.nm c) (hr : Room k X.A) (tk : L2N.Takes X (WK E)) (ha : SE X T (WK E) e fa)
    (ht : eval (.Call (.Attribute e x apos) [] [] pos) X.env = (do
      let ov ← eval e X.env
      standAt apos.atName
      let (f, first) ← holding [ov] (getMethod ov x pl)
      callWith pos f first (backTo pos (starEach [] X.env)) (backToKw pos (keywordEach [] X.env))) := by rfl) :
    SE X T (WK E) (.Call (.Attribute e x apos) [] [] pos) (meth0 c m fa) := by
  obtain ⟨f, fd, h1, h2, h3⟩ := D0
  refine impE (pe_meth0 (pl := pl) ha al.cl h1 h2 hr h3 .nil (passK tk) ht) fun σ H Q ⟨F0, B0, A, F, ε, rel, q⟩ => ⟨F0, B0, A, F, ε, rel, (post_bind q).imp fun d ε1 F1 H1 s1 rel1 q1 v rv => ?_⟩
  cases d with
  | ins c' fs =>
    have q1 : Post T (WK E) F0 B0 A F1 σ (if c' = c then (m [.ins c' fs]).toE ε1 else R.bot) fun d _ F' H' => ∀ v, Rep T F' d v → Q v H' := q1
    by_cases hc : c' = c
    · subst hc
      rw [if_pos rfl] at q1
      obtain ⟨a, dx, vs, rfl, e1, hl, r1⟩ := rep_ins.mp rv
      exact ⟨a, dx, _, rfl, rel1.fh _ _ e1, lookup_not hn, sp_call (W := WK E) (vs := [.ref a]) rel1 (.cons rv .nil) hnp q1⟩
    · rw [if_neg hc] at q1
      exact q1.elim
  | _ => exact q1.elim
/-! ### shifts -/
def dShl1 : D → D → Option D
  | .int 1, .int j => if 0 ≤ j ∧ j ≤ 1000000 then some (.int (2 ^ j.toNat)) else none
  | _, _ => none
theorem opS_shl1 {T : Tb} : OpS T (fun x y H Q => ∃ k : Nat, x = .int 1 ∧ y = .int (k : Int) ∧ k ≤ 134217727 ∧ Q (.int (2 ^ k)) H) dShl1 := by
  intro F H x y z v u Q rx ry s e k
  unfold dShl1 at e
  split at e
  · rename_i j
    split at e
    · rename_i h
      cases e
      cases rep_int.mp rx
      cases rep_int.mp ry
      refine ⟨j.toNat, rfl, ?_, by omega, k _ F H (Grow.refl s) (rep_int.mpr rfl)⟩
      congr 1
      omega
    · cases e
  · cases e
end EV
set_option maxRecDepth 100000
set_option maxHeartbeats 4000000
/-! EvY3: what the head tells of own exceptions' classes, put together. -/
namespace EV
open PySem L2
structure XC0 (K : PySem.W.Frag) (C : Addr) : Prop where
  cls : ∃ nm q N bs bm sn sub ab col dd k0 k1 k2 k3 k5, K.lookup C = some (excClassObj nm q C N bs bm true sn sub ab col dd k0 k1 k2 k3 k5 "ValueError.__new__") ∧ PySem.HandSPX.refsVE bm = true
  sa : PySem.W.findIn K (.ref C) "__setattr__" = some (some (.builtin "object.__setattr__"))
  ex : PySem.W.subIn K (.ref C) (.type "BaseException") = some true
  ve : PySem.W.subIn K (.ref C) (.type "ValueError") = some true
  ty : PySem.W.typeIn K (.ref C) = some (.type "type")
  kp : PySem.W.keepIn K (.ref C) = true
  ga : PySem.W.findIn K (.ref C) "__getattribute__" = some (some (.builtin "BaseException.__getattribute__"))
  gg : PySem.W.findIn K (.ref C) "__getattr__" = some none
  hd : PySem.W.hasDictIn K C = true
  ha : PySem.W.findIn K (.ref C) "__class__" = some (some (.builtin "object.__class__"))
  hn : PySem.W.specialIn K (.builtin "object.__class__") "__get__" = some (some (.builtin "getset_descriptor.__get__"))
  ht : PySem.W.takesIn K (.builtin "object.__class__") = some true
  hm : PySem.W.mroIn K C (.type "object") = some true
section
variable {K : PySem.W.Frag} {T : Tb} {xa : Nat → Addr} {C D : Addr} {i j : Nat} {b : Bool}
theorem XC0.oex (h : XC0 K C) : OexC K C := ⟨h.cls, h.sa, h.ex, h.ty, h.kp⟩
theorem XC0.xf (h : XC0 K C) : XfC K C := ⟨h.ga, h.gg, h.ex, h.hd⟩
theorem XC0.exc (h : XC0 K C) : ExcC K C := ⟨h.ga, h.gg, h.ex, h.hd, h.ha, h.hn, h.ht, h.hm⟩
theorem exmT (hxa : ∀ c, T.xc c = .ref (xa c)) (h : XC0 K (xa j)) (hs : PySem.W.subIn K (.ref (xa i)) (.ref (xa j)) = some b) : PySem.W.exmOne K (T.xc i) (.ref (xa j)) = some b := by
  rw [hxa]
  exact PySem.W.exm_ref h.ex h.hd h.ty hs
theorem kitT (h : XC0 K D) (hs : PySem.W.subIn K (.ref C) (.ref D) = some b) (hb : C = D → b = true) : PySem.W.kitOne K (.ref C) (.ref D) = some b := by
  unfold PySem.W.kitOne
  by_cases e : C = D
  · rw [hb e, if_pos (beq_iff_eq.mpr (by rw [e]))]
  · have ne : ¬ ((Value.ref C == Value.ref D) = true) := fun z => e (Value.ref.inj (beq_iff_eq.mp z))
    rw [if_neg ne]
    show (if ((PySem.W.clsIn K D).isSome && PySem.W.typeIn K (.ref D) == some (.type "type")) = true then PySem.W.subIn K (.ref C) (.ref D) else none) = some b
    obtain ⟨cd, hc, _⟩ := PySem.W.any_some h.hd
    rw [if_pos, hs]
    rw [hc, h.ty]
    rfl
theorem kitVE (h : XC0 K C) : PySem.W.kitOne K (.ref C) (.type "ValueError") = some true := by
  unfold PySem.W.kitOne
  rw [if_neg (by intro z; cases z)]
  show (if PySem.W.kitMeta "ValueError" = true then PySem.W.subIn K (.ref C) (.type "ValueError") else none) = some true
  rw [if_pos (by decide +kernel), h.ve]
/-- a small table -/
def tab {β : Type} (l : List (Nat × β)) (c : Nat) : Option β := l.lookup c
theorem tab_all {β : Type} {P : Nat → β → Prop} : ∀ {l : List (Nat × β)}, (∀ p ∈ l, P p.1 p.2) → ∀ c b, tab l c = some b → P c b
  | [], _, c, b, h => by cases h
  | (k, v) :: l, hp, c, b, h => by
    unfold tab at h
    rw [List.lookup_cons] at h
    by_cases e : c = k
    · subst e
      rw [beq_self_eq_true] at h
      cases h
      exact hp _ List.mem_cons_self
    · have : (c == k) = false := by simpa using e
      rw [this] at h
      exact tab_all (fun p hp' => hp p (List.mem_cons_of_mem _ hp')) c b h
theorem all1 {α : Type} {P : α → Prop} {a : α} {l : List α} (h : P a) (t : ∀ x ∈ l, P x) : ∀ x ∈ a :: l, P x := List.forall_mem_cons.mpr ⟨h, t⟩
theorem all0 {α : Type} {P : α → Prop} : ∀ x ∈ ([] : List α), P x := fun _ h => by cases h
theorem xi1 {cv : Value} (hxa : ∀ c, T.xc c = .ref (xa c)) (h : XC0 K (xa i)) (hk : PySem.W.kitOne K (.ref (xa i)) cv = some b) : ∃ D : Addr, T.xc i = .ref D ∧ ExcC K D ∧ PySem.W.kitOne K (.ref D) cv = some b := ⟨_, hxa i, h.exc, hk⟩
theorem xis1 {cvs : List Value} (hxa : ∀ c, T.xc c = .ref (xa c)) (h : XC0 K (xa i)) (hk : PySem.W.kitAny K (.ref (xa i)) cvs = some b) : ∃ D : Addr, T.xc i = .ref D ∧ ExcC K D ∧ PySem.W.kitAny K (.ref D) cvs = some b := ⟨_, hxa i, h.exc, hk⟩
theorem kitA_t {C : Value} {c : Value} {cs : List Value} (h : PySem.W.kitOne K C c = some true) : PySem.W.kitAny K C (c :: cs) = some true := kitAny_cons h (fun z => by cases z) fun _ => rfl
theorem kitA_f {C : Value} {c : Value} {cs : List Value} {r : Bool} (h : PySem.W.kitOne K C c = some false) (hr : PySem.W.kitAny K C cs = some r) : PySem.W.kitAny K C (c :: cs) = some r := kitAny_cons h (fun _ => hr) fun z => by cases z
theorem xd1 {f : Str} {k : Nat} (hxa : ∀ c, T.xc c = .ref (xa c)) (h : XC0 K (xa i)) (h1 : (T.xn i)[k]? = some f) (h2 : (T.xn i).Nodup) (h3 : PySem.W.findIn K (.ref (xa i)) f = some none) : ∃ C : Addr, T.xc i = .ref C ∧ (T.xn i)[k]? = some f ∧ (T.xn i).Nodup ∧ XfC K C ∧ PySem.W.findIn K (.ref C) f = some none := ⟨_, hxa i, h1, h2, h.xf, h3⟩
end
end EV
set_option maxRecDepth 100000
set_option maxHeartbeats 4000000
/-! EvY4: try with one or two named clauses, as printed. -/
namespace EV
open PySem L2
section
variable {X : Cx} {T : Tb} {W : WX} {k : Nat}
theorem suite_ok {a : Addr} {oe : Obj} {cls : Value} {d : Option Addr} {pn : List (Addr × Obj)} {ss : List Stmt} {g : FS} (hr : Room k X.A) (hz : L2N.Zn cls d oe) (hv : ∃ vs, oe.data = .fields vs)
    (h : EVX.HotP (X.suite a ((a, oe) :: pn)) (a, oe) → L2H.RoomH k (X.suite a ((a, oe) :: pn)).A → SSs (X.suite a ((a, oe) :: pn)) (T.hot (a, oe)) W0 ss g) : SSs (X.suite a ((a, oe) :: pn)) (T.hot (a, oe)) W0 ss g := h (hotS hz hv) (roomS hr)
theorem sS_try1 {body : List Stmt} {pos p1 np1 : Pos} {g g1 : FS} {x1 n1 : Str} {i1 : Nat} {cv1 : Value} {t1 : Nat → Option Bool} {b1 : Stmt} {bs1 : List Stmt} (hs0 : X.stack = X.env :: X.outer) (hf : X.env.frame = some X.env.locals) (h0 : T.xh = none) (tk : L2N.Takes X W) (hN : X.N.Nodup)
    (hb : ∀ (W' : WX) (pn : List (Addr × Obj)) (xe : Value → Shared → Prop), L2N.Takes (X.tr pn xe) W' → PassesOwn (model X.prog X.w) X.A X.env xe → SSs (X.tr pn xe) T W' body g)
    (hc1 : Names X x1 cv1) (hi1 : X.N[i1]? = some n1) (hl1 : X.env.kindOf n1 = some .local) (ht1 : ∀ c b, t1 c = some b → PySem.W.exmOne X.K (T.xc c) cv1 = some b) (hn1 : ∀ c b, t1 c = some b → T.xn c ≠ [])
    (hs1 : ∀ (a : Addr) (oe : Obj) (cls : Value) (d : Option Addr) (pn : List (Addr × Obj)), L2N.Zn cls d oe → (∃ vs, oe.data = .fields vs) → SSs (X.suite a ((a, oe) :: pn)) (T.hot (a, oe)) W0 (b1 :: bs1) g1) :
    SS X T W (.Try body [.ExceptHandler (some (.Name x1 np1)) (some n1) (b1 :: bs1) p1] [] [] pos) (tryS g [⟨some i1, t1, g1⟩]) :=
  sS_try hs0 hf h0 tk hb (.nm hc1 hN hi1 hl1 hs1 .nil) (.cons (k := ⟨some i1, t1, g1⟩) ht1 (fun i c _ h => hn1 c _ h) .nil)
theorem sS_try2 {body : List Stmt} {pos p1 np1 p2 np2 : Pos} {g g1 g2 : FS} {x1 n1 x2 n2 : Str} {i1 i2 : Nat} {cv1 cv2 : Value} {t1 t2 : Nat → Option Bool} {b1 b2 : Stmt} {bs1 bs2 : List Stmt} (hs0 : X.stack = X.env :: X.outer) (hf : X.env.frame = some X.env.locals) (h0 : T.xh = none) (tk : L2N.Takes X W) (hN : X.N.Nodup)
    (hb : ∀ (W' : WX) (pn : List (Addr × Obj)) (xe : Value → Shared → Prop), L2N.Takes (X.tr pn xe) W' → PassesOwn (model X.prog X.w) X.A X.env xe → SSs (X.tr pn xe) T W' body g)
    (hc1 : Names X x1 cv1) (hi1 : X.N[i1]? = some n1) (hl1 : X.env.kindOf n1 = some .local) (ht1 : ∀ c b, t1 c = some b → PySem.W.exmOne X.K (T.xc c) cv1 = some b) (hn1 : ∀ c b, t1 c = some b → T.xn c ≠ [])
    (hs1 : ∀ (a : Addr) (oe : Obj) (cls : Value) (d : Option Addr) (pn : List (Addr × Obj)), L2N.Zn cls d oe → (∃ vs, oe.data = .fields vs) → SSs (X.suite a ((a, oe) :: pn)) (T.hot (a, oe)) W0 (b1 :: bs1) g1)
    (hc2 : Names X x2 cv2) (hi2 : X.N[i2]? = some n2) (hl2 : X.env.kindOf n2 = some .local) (ht2 : ∀ c b, t2 c = some b → PySem.W.exmOne X.K (T.xc c) cv2 = some b) (hn2 : ∀ c b, t2 c = some b → T.xn c ≠ [])
    (hs2 : ∀ (a : Addr) (oe : Obj) (cls : Value) (d : Option Addr) (pn : List (Addr × Obj)), L2N.Zn cls d oe → (∃ vs, oe.data = .fields vs) → SSs (X.suite a ((a, oe) :: pn)) (T.hot (a, oe)) W0 (b2 :: bs2) g2) :
    SS X T W (.Try body [.ExceptHandler (some (.Name x1 np1)) (some n1) (b1 :: bs1) p1, .ExceptHandler (some (.Name x2 np2)) (some n2) (b2 :: bs2) p2] [] [] pos) (tryS g [⟨some i1, t1, g1⟩, ⟨some i2, t2, g2⟩]) :=
  sS_try hs0 hf h0 tk hb (.nm hc1 hN hi1 hl1 hs1 (.nm hc2 hN hi2 hl2 hs2 .nil)) (.cons (k := ⟨some i1, t1, g1⟩) ht1 (fun i c _ h => hn1 c _ h) (.cons (k := ⟨some i2, t2, g2⟩) ht2 (fun i c _ h => hn2 c _ h) .nil))
end
theorem funB_of {K : PySem.W.Frag} {x qual : Str} {st : Stmt} {f : Addr} {fd : FuncData} {ps : List Str} (F : Fun K x qual st f fd) (b : Binds K fd ps []) : FunB K x qual st f fd ps := by
  obtain ⟨oc, od, kV, doc, pm, an, cdv, ct, osl, e, l, c⟩ := F.ex
  exact ⟨⟨oc, od, .none, kV, doc, pm, an, cdv, ct, osl, e, l, c⟩, b⟩
end EV
set_option maxRecDepth 100000
set_option maxHeartbeats 4000000
/-! EvY5: enumerate(tuple) (the library's hand layer has it for lists). -/
namespace EVX
open PySem PySem.Spec PyProof.Rows L2
open Sem (wp)
theorem meets_enumT {v : Value} {o : Obj} {H : Heap → Prop} (B : Begins v o H) :
    Meets (Builtin.«enumerate.__new__» ⟨[.type "enumerate", v], []⟩) (fun _ R y => H y.heap ∧
      R (.ok (.ret (.ref (y.heap.push o).objs.size))) { y with heap := (y.heap.push o).push { cls := .type "enumerate", data := .fields #[.none, .bool false, .ref y.heap.objs.size, rawInt 0, .none, .none] } }) :=
  .of_wp fun prog w A R y z => by
    obtain ⟨hp, g, d, tk, os⟩ := y
    obtain ⟨z1, z2⟩ := z
    have hsub := sub_enumerate
    have step : ∀ {A2 : Around} {E : Value → Shared → Prop} {Q : Value → Shared → Prop}, Q (.ref hp.objs.size) ⟨hp.push o, g, d, tk, os⟩ → wpAny (model prog w) A2 (pyIter v) Q E ⟨hp, g, d, tk, os⟩ := fun q => B.iter prog w _ _ ⟨hp, g, d, tk, os⟩ _ z1 q
    wp_walk using step
    refine wpAny_stack_any fun st => wpAny_pure ?_
    split
    · rename_i c _ _ _ _ _
      cases (c == Value.type "enumerate") <;> (wp_walk using step; exact ⟨_, rfl, z2⟩)
    · wp_walk using step
      exact ⟨_, rfl, z2⟩
theorem begin_enum {prog : Program} {w : World} {A : Around} {E : Value → Shared → Prop} {y : Shared} {v : Value} {o : Obj} {H : Heap → Prop} {Q : Value → Shared → Prop} (B : Begins v o H) (h1 : H y.heap)
    (h : ∀ h2, IsEnum h2 (y.heap.objs.size + 1) y.heap.objs.size 0 .none → h2.get? y.heap.objs.size = some o → h2.objs.size = y.heap.objs.size + 2 → (∀ b u, y.heap.get? b = some u → h2.get? b = some u) → Q (.ref (y.heap.objs.size + 1)) { y with heap := h2 }) :
    wpAny (model prog w) A (PySem.call (.type "enumerate") [v]) Q E y := by
  refine callType_new F.called_enumerate (by decide) (F.typeCall_enumerate_1 _) (F.newCall_enumerate_1 _) (fun ob => F.args_object_init_2 ob _) F.entry_enumerate_new (meets_enumT B) ⟨h1, ?_⟩
  have sz : (y.heap.push o).objs.size = y.heap.objs.size + 1 := Heap.size_push ..
  show _ ∧ _
  rw [sz]
  have e1 := Heap.get?_push_size (y.heap.push o) (o := { cls := .type "enumerate", data := .fields #[.none, .bool false, .ref y.heap.objs.size, rawInt 0, .none, .none] }) rfl
  rw [sz] at e1
  have e2 : IsEnum ((y.heap.push o).push { cls := .type "enumerate", data := .fields #[.none, .bool false, .ref y.heap.objs.size, rawInt 0, .none, .none] }) (y.heap.objs.size + 1) y.heap.objs.size 0 .none := e1
  refine ⟨⟨_, e2, rfl⟩, h _ e2 (Heap.get?_push_of_some _ (Heap.get?_push_size _ B.free)) (by rw [Heap.size_push, sz]) fun b u x => Heap.get?_push_of_some _ (Heap.get?_push_of_some _ x)⟩
/-- the tuple at a, each item in a new pair -/
def ItT (K : PySem.W.Frag) (a : Addr) : It :=
  ⟨fun i H => ∃ (xs : List V) (x : V), SqT K H a xs ∧ xs[i]? = some x, fun i H v H2 => ∃ t x, v = .ref t ∧ H t = none ∧ H2 = upd H t (.tup [.int (i : Nat), x]) ∧ ∀ xs, SqT K H a xs → xs[i]? = some x, fun i H => ∃ xs : List V, SqT K H a xs ∧ xs.length ≤ i⟩
theorem turn_enumT {P : Program} {w : World} {K : PySem.W.Frag} {elts : List Expr} {kk : Nat} {tpos : Pos} (a e it : Addr) :
    Turn P w K (.Tuple elts kk tpos) (ItT K a) [e, it] e (fun i h => (∃ old, IsEnum h e it ((i : Nat) : Int) old) ∧ h.IsTupleIter it a i ∧ e ≠ it ∧ e ≠ a ∧ it ≠ a) where
  mem := by simp
  obj := fun i h st b hb => by
    obtain ⟨⟨old, he⟩, ⟨o, ho, hc, hd⟩, _⟩ := st
    have two : b = e ∨ b = it := by simpa using hb
    rcases two with z | z
    · rw [z]; exact ⟨_, he, fun v q => nomatch q⟩
    · rw [z]; exact ⟨o, ho, fun v q => by rw [hd] at q; cases q⟩
  keep := fun i h h2 st k => let ⟨⟨old, he⟩, hi, hne⟩ := st; ⟨⟨old, k e (by simp) _ he⟩, hi.at fun o q => k it (by simp) o q, hne⟩
  item := by
    intro X hP hw hK hc i pins y σ H E I hf st hg
    subst hP hw hK
    obtain ⟨⟨old, he⟩, hit, hne, hea, hia⟩ := st
    obtain ⟨xs, x, hq, hx⟩ := hg
    obtain ⟨its, rv, p, hz⟩ := I.tuple hq
    obtain ⟨u, hu, ru⟩ := rv.get hx
    have hu2 : its.toArray[i]? = some u := by simpa using hu
    have el : e < y.heap.objs.size := Heap.lt_size he
    have il : it < y.heap.objs.size := by obtain ⟨_, q, _⟩ := hit; exact Heap.lt_size q
    have dr := Draws.tuple (prog := X.prog) (w := X.w) (A := X.A.in1) (show X.A.in1.handled = none from I.ok.hd hc) it a (fun z => hia z.symm) its.toArray
    have hlt : i < its.toArray.size := (Array.getElem?_eq_some_iff.mp hu2).1
    refine wpAny_pyNext_enum_itemD dr he ⟨hit, p⟩ hlt hne (by simp [hne, hea]) fun x2 h2 tk hp ho st2 hT hsz hk => ?_
    have ex : x2 = u := Option.some.inj ((show its.toArray[i]? = some x2 from hp).symm.trans hu2)
    subst ex
    refine ⟨_, rfl, wpAny_letOwnedTupleGo_enum (s := { y with heap := h2, toks := tk + 1 }) ho fun h3 he3 sb => ?_⟩
    have hT3 : h3.get? y.heap.objs.size = some { cls := .type "tuple", data := .seq #[.int i tk, x2] } := (sb.2 _ (Nat.ne_of_gt el)).trans hT
    have fresh : ObjOk X.prog X.w (upd H y.heap.objs.size (.tup [.int (i : Nat), x])) h3 y.heap.objs.size (.tup [.int (i : Nat), x]) :=
      ⟨by show 2 ≤ sizeLine; decide, [.int i tk, x2], .cons ⟨_, rfl⟩ (.cons ru .nil), ⟨_, hT3, rfl, _, rfl⟩⟩
    have J : Inv X pins σ (upd H y.heap.objs.size (.tup [.int (i : Nat), x])) { y with heap := h3, toks := tk + 1 } :=
      I.turnedNew (ch := [e, it]) (fun b ob hb q => (sb.2 b (fun z => hb (by simp [z]))).trans (hk b ob (fun z => hb (by simp [z])) (fun z => hb (by simp [z])) q)) hf (Nat.le_refl _) fresh
    refine ⟨.ref y.heap.objs.size, _, J, rfl, ⟨_, x, rfl, I.hok.fresh (Nat.le_refl _), rfl, fun ys hy => by rw [I.tuple_inj hy hq]; exact hx⟩, ⟨⟨x2, ?_⟩, st2.1.at fun o q => (sb.2 it (Ne.symm hne)).trans q, hne, hea, hia⟩, fun b hb => ?_⟩
    · have e1 : ((i + 1 : Nat) : Int) = (i : Int) + 1 := by omega
      rw [e1]; exact he3
    · have small : b < y.heap.objs.size := by
        have two : b = e ∨ b = it := by simpa using hb
        rcases two with z | z
        · rw [z]; exact el
        · rw [z]; exact il
      rw [upd_ne (Nat.ne_of_lt small)]
      exact (hf b hb).1
  done := by
    intro X hP hw hK hc i pins y σ H E I hf st hg
    subst hP hw hK
    obtain ⟨⟨old, he⟩, hit, hne, hea, hia⟩ := st
    obtain ⟨xs, hq, hx⟩ := hg
    obtain ⟨its, rv, p, hz⟩ := I.tuple hq
    obtain ⟨f0, f1, f2, f3, f4, f5⟩ := hf it (by simp)
    have hl := rv.length
    have none_at : its.toArray[i]? = none := by simp; omega
    have hT : y.TypeIs (.ref e) "enumerate" := ⟨_, he, rfl⟩
    unfold pyNext
    refine wpAny_bind (wpAny_attempt (wpAny_callSpecial?_slot (name := Str.ofString "__next__") hT F.slot_enumerate_next (wpAny_call_entry F.slot_enumerate_next hT F.entry_enumerate_next ?_ (F.args_enumerate_next_1 _))))
    show wpAny _ _ (field (.ref e) 2 >>= _) _ _ _
    refine wpAny_bind (wpAny_field he rfl (x := .ref it) rfl ?_)
    refine wpAny_bind (wpAny_nextOf_tuple_end (show X.A.in1.handled = none from I.ok.hd hc) hit p none_at fun h2 z x2 x3 => ?_)
    obtain ⟨o, ho, hcl⟩ := x3
    refine wpAny_bind (wpAny_isInstance (T := "StopIteration") (b := true) ⟨o, ho, hcl⟩ isSubtype_stop ?_)
    exact wpAny_pure ⟨rfl, I.turned (t' := y.toks) (fun b o hb q => x2 b o hb q) f0 f1 f3 f4 f5⟩
  self := fun A i y Q E st h => let ⟨⟨_, he⟩, _⟩ := st; wpAny_pyIter_enum he h
def iEnT (K : PySem.W.Frag) (ta : TA) : TI := fun σ H R => ta σ H fun vs H1 => ∃ a xs, vs = [.ref a] ∧ SqT K H1 a xs ∧ R (ItT K a) H1
theorem pi_enumT {X : Cx} {e : Expr} {ta : TA} {p pos tpos : Pos} {elts : List Expr} {kk : Nat} (hg : Gl X "enumerate") (hm : X.mg "enumerate" = none) (ha : PA X [e] ta) (hs : starEach [e] X.env = [(false, eval e X.env)] := by rfl) :
    PI X (.Tuple elts kk tpos) (.Call (.Name "enumerate" p) [e] [] pos) (iEnT X.K ta) := by
  refine ⟨fun pins y σ H R I h => Call_ (ld_blt I hg hm boot_enumerate (PyProof.Rows.callWith_type1 (thn (ha.run pos pins y σ H _ I h) fun us y1 ⟨vs, H1, I1, r1, q1⟩ => ?_) hs rfl))⟩
  obtain ⟨a, xs, rfl, hq, q⟩ := q1
  cases r1 with
  | cons r rr =>
    cases rr
    cases r
    obtain ⟨its, rv, tp, hz⟩ := I1.tuple hq
    have la : a < y1.heap.objs.size := tp.lt
    refine begin_enum (begins_tuple a its.toArray) (show Heap.IsTuple y1.heap a its.toArray from tp) fun h2 he hit hsz hk => wpAny_pyIter_enum he ?_
    have I2 : Inv X pins σ H1 { y1 with heap := h2 } := I1.kept (t' := y1.toks) hk
    refine ⟨y1.heap.objs.size + 1, [y1.heap.objs.size + 1, y1.heap.objs.size], _, _, H1, rfl, I2, turn_enumT a (y1.heap.objs.size + 1) y1.heap.objs.size, ⟨⟨.none, he⟩, ⟨_, hit, rfl, rfl⟩, Nat.succ_ne_self _, Nat.ne_of_gt (Nat.lt_succ_of_lt la), Nat.ne_of_gt la⟩, fun b hb => ?_, q⟩
    have two : b = y1.heap.objs.size + 1 ∨ b = y1.heap.objs.size := by simpa using hb
    have le : y1.heap.objs.size ≤ b := by
      rcases two with z | z
      · rw [z]; exact Nat.le_add_right _ _
      · rw [z]; exact Nat.le_refl _
    exact I1.fpOk le (I1.hok.fresh le)
end EVX
namespace EV
open PySem L2
noncomputable def iEnumT (fa : FE) : FA := fun ε => (fa ε).bind fun x ε1 => match x with
  | .lst xs => .ok (pairL 0 xs) ε1
  | .tup xs => .ok (pairL 0 xs) ε1
  | _ => .bot
section
variable {X : Cx} {T : Tb} {W : WX} {e tg : Expr}
theorem iter_enumT {K : PySem.W.Frag} {F : Hp} {a : Addr} {xs : List D} {vs : List V} (h : F a = some (.tup vs)) (r : Reps T F xs vs) : IterS T (EVX.ItT K a) F (pairL 0 xs) := fun i F1 H1 s1 s2 => by
  have h1 := s2 _ _ (s1 _ _ h)
  rw [pairL_length]
  refine ⟨fun hl => ⟨vs, SqT.of h1, by rw [← r.length]; exact hl⟩, fun hl => ?_⟩
  have hl2 : i < vs.length := by rw [← r.length]; exact hl
  refine ⟨⟨vs, vs[i], SqT.of h1, by simp [hl2]⟩, fun x H2 y => ?_⟩
  obtain ⟨q, u, rfl, hq, rfl, y⟩ := y
  obtain ⟨d, e1, r1⟩ := r.get' (y vs (SqT.of h1))
  refine ⟨_, _, Grow.new (o := .tup [.int (i : Nat), u]) s2 hq, pairL_get xs 0 i d e1, ?_⟩
  simp only [Rep]
  refine ⟨q, _, rfl, upd_same, .cons (by simp only [Rep, Nat.zero_add]) (.cons (r1.mono (s1.trans (Same.new (s2.free hq)))) .nil)⟩
theorem sI_enumT {fa : FE} (h : PI X tg e (L2.iEnum X.K (EvA T W (aCons fa aNil)))) (h2 : PI X tg e (EVX.iEnT X.K (EvA T W (aCons fa aNil)))) : SI X T W tg e (EV.iEnumT fa) := impI (PI.or h h2) fun σ H R ⟨F0, B0, A, F, ε, rel, p⟩ => by
  have pb := post_bind p
  have hE : aCons fa aNil ε = (fa ε).bind fun x ε1 => .ok [x] ε1 := rfl
  cases hfa : fa ε with
  | bot => rw [hfa] at pb; exact pb.elim
  | ex c fs ε' =>
    rw [hfa] at pb
    refine .inl ⟨F0, B0, A, F, ε, rel, ?_⟩
    rw [hE, hfa]
    exact pb
  | ok x ε1 =>
    rw [hfa] at pb
    cases x with
    | lst xs =>
      refine .inl ⟨F0, B0, A, F, ε, rel, ?_⟩
      rw [hE, hfa]
      intro F1 H1 s1 rel1 vs rvs
      obtain ⟨w, us, rfl, rw, r2⟩ := reps_cons.mp rvs
      cases reps_nil.mp r2
      obtain ⟨a, vs, rfl, h1, h2⟩ := rep_lst.mp rw
      exact ⟨a, vs, rfl, SqL.of (rel1.fh _ _ h1), pb F1 H1 s1 rel1 F1 H1 (.refl _) rel1 _ (iter_enum h1 h2)⟩
    | tup xs =>
      refine .inr ⟨F0, B0, A, F, ε, rel, ?_⟩
      rw [hE, hfa]
      intro F1 H1 s1 rel1 vs rvs
      obtain ⟨w, us, rfl, rw, r2⟩ := reps_cons.mp rvs
      cases reps_nil.mp r2
      obtain ⟨a, vs, rfl, h1, h2⟩ := rep_tup.mp rw
      exact ⟨a, vs, rfl, SqT.of (rel1.fh _ _ h1), pb F1 H1 s1 rel1 F1 H1 (.refl _) rel1 _ (iter_enumT h1 h2)⟩
    | _ =>
      refine .inl ⟨F0, B0, A, F, ε, rel, ?_⟩
      rw [hE, hfa]
      exact fun F1 H1 s1 rel1 v rv => (pb F1 H1 s1 rel1).elim
end
end EV
set_option maxRecDepth 100000
namespace EV
open PySem
noncomputable section
def ix__bottom (c : Nat) : Option Nat := if c = 1 then some 3 else none
def ix__kept_calm (c : Nat) : Option Nat := if c = 1 then some 4 else none
def ix__kept_column (c : Nat) : Option Nat := if c = 1 then some 6 else none
def ix__kept_tame (c : Nat) : Option Nat := if c = 1 then some 5 else none
def ix__tops (c : Nat) : Option Nat := if c = 1 then some 2 else none
def ix_bottom (c : Nat) : Option Nat := if c = 0 then some 1 else none
def ix_numbers (c : Nat) : Option Nat := if c = 1 then some 0 else none
def ix_reach (c : Nat) : Option Nat := if c = 1 then some 1 else none
def ix_top (c : Nat) : Option Nat := if c = 0 then some 0 else none
def ixx_count : List (Nat × Nat) := [(1, 0)]
def ixx_what : List (Nat × Nat) := [(1, 1)]
def ixx_why : List (Nat × Nat) := [(0, 0)]
def xc_BadBook : List (Nat × Bool) := [(0, true), (1, false)]
def xc_TooMany : List (Nat × Bool) := [(0, false), (1, true)]
def xt_BadBook_BadNumber : List (Nat × Bool) := [(0, true), (1, false)]
def xt_TooMany_BadNumber : List (Nat × Bool) := [(0, false), (1, true)]
def xt_ValueError : List (Nat × Bool) := [(0, true), (1, true)]
def N__law_bag : List Str := ["script", "k"]
abbrev b__law_bag : FS := (EV.retO (lstO (aCons (frz (EV.lc [1] (EV.iRng1 (aCons (bi bMin (aCons (cC (.int 63)) (aCons (lenN 0) aNil))) aNil)) (gN 1) EV.tYes (ixN 0 (nm 1)))) (aCons (cC (.int 0)) (aCons (cC (.int 0)) (aCons (cC (.int 7919)) aNil))))))
def m__law_bag : List D → FR := EV.fn 1 2 b__law_bag
def N__law_draw : List Str := ["bag", "size", "cell", "step", "drawn"]
abbrev b__law_draw : FS := (EV.seq (EV.ifS (tB (bin dEq (ixN 0 (cC (.int 2))) (cC (.int 0))))
  (EV.seq (asg (gN 2) (cC (.int 0)))
  (EV.seq (EV.ifS (tB (bin dLt (ixN 0 (cC (.int 1))) (bi bLen (aCons (ixN 0 (cC (.int 0))) aNil))))
  (asg (gN 2) (bin dIx (ixN 0 (cC (.int 0))) (ixN 0 (cC (.int 1)))))
  sNx)
  (EV.seq (setI 0 (cC (.int 1)) (bin dAdd (ixN 0 (cC (.int 1))) (cC (.int 1))))
  (EV.ifS (tB (bin dGe (nm 2) (bin dPow (cC (.int 10)) (cC (.int 18)))))
  (setI 0 (cC (.int 2)) (bin dMod (bi bInt (aCons (nm 2) aNil)) (bin dPow (bin dPow (cC (.int 10)) (cC (.int 60))) (cC (.int 15)))))
  (EV.seq (asg (gN 3) (bin dMod (bi bInt (aCons (bin dAdd (bin dAdd (bin dAdd (bin dMul (ixN 0 (cC (.int 3))) (cC (.int 48271))) (bin dMul (nm 2) (cC (.int 69621)))) (bin dMul (ixN 0 (cC (.int 1))) (cC (.int 104729)))) (cC (.int 77777))) aNil)) (cC (.int 2305843009213693951))))
  (EV.seq (setI 0 (cC (.int 3)) (nm 3))
  (setI 0 (cC (.int 2)) (bin dMod (bi bInt (aCons (bin dAdd (bin dAdd (bin dMul (bin dMul (nm 3) (nm 3)) (nm 3)) (bin dMul (cC (.int 977)) (nm 3))) (ixN 0 (cC (.int 1)))) aNil)) (cC (.int 170141183460469231731687303715884105727))))))))))
  sNx)
  (EV.seq (asg (gN 4) (bin dMod (bi bInt (aCons (ixN 0 (cC (.int 2))) aNil)) (nm 1)))
  (EV.seq (setI 0 (cC (.int 2)) (bin dDiv (bi bInt (aCons (ixN 0 (cC (.int 2))) aNil)) (nm 1)))
  (retNm 4))))
def m__law_draw : O → List D → FQ := fnQ 2 5 b__law_draw
def N__law_parts : List Str := ["bag", "most", "parts", "k"]
abbrev b__law_parts : FS := (EV.seq (asgO 2 (EV.lc [3] (EV.iRng1 (aCons (bin dAdd (cC (.int 1)) (callQ m__law_draw 0 (aCons (nm 1) aNil))) aNil)) (gN 3) EV.tYes (bin dSub (callQ m__law_draw 0 (aCons (cC (.int 7)) aNil)) (cC (.int 3)))))
  (EV.seq (EV.ifS (tB (bin dEq (ixN 2 (cC (.int 0))) (cC (.int 0))))
  (setI 2 (cC (.int 0)) (cC (.int 1)))
  sNx)
  (EV.seq (EV.ifS (tB (bin dEq (ixN 2 (bin dSub (lenN 2) (cC (.int 1)))) (cC (.int 0))))
  (setI 2 (bin dSub (lenN 2) (cC (.int 1))) (cC (.int 2)))
  sNx)
  (EV.ret (nm 2)))))
def m__law_parts : O → List D → FQ := fnQ 2 4 b__law_parts
def N__law_times : List Str := ["one", "two", "made", "i", "k"]
abbrev b__law_times : FS := (EV.seq (asgO 2 (binO dRepO (frz (lstO (aCons (cC (.int 0)) aNil))) (bin dSub (bin dAdd (lenN 0) (lenN 1)) (cC (.int 1)))))
  (EV.seq (EV.forS (EV.iRng1 (aCons (lenN 0) aNil)) (gN 3)
  (EV.ifS (tB (bin dNe (ixN 0 (nm 3)) (cC (.int 0))))
  (EV.forS (EV.iRng1 (aCons (lenN 1) aNil)) (gN 4)
  (setI 2 (bin dAdd (nm 3) (nm 4)) (bin dAdd (ixN 2 (bin dAdd (nm 3) (nm 4))) (bin dMul (ixN 0 (nm 3)) (ixN 1 (nm 4))))))
  sNx))
  (retNm 2)))
def m__law_times : List D → FR := EV.fn 2 5 b__law_times
def N__law_core_book : List Str := ["bag", "most", "order", "row", "k", "low", "x"]
abbrev b__law_core_book : FS := (EV.seq (asg (gN 2) (bin dAdd (cC (.int 1)) (callQ m__law_draw 0 (aCons (cC (.int 4)) aNil))))
  (EV.seq (asg (gN 3) (callQ m__law_parts 0 (aCons (nm 1) aNil)))
  (EV.seq (EV.ifS (tB (bin dEq (bi bSum (aCons (nm 3) aNil)) (cC (.int 0))))
  (EV.seq (asgO 3 (lstO (aCons (cC (.int 1)) aNil)))
  (asg (gN 2) (bin dAdd (nm 2) (cC (.int 1)))))
  sNx)
  (EV.seq (EV.forS (EV.iRng1 (aCons (nm 2) aNil)) (gN 4)
  (asg (gN 3) (EV.call m__law_times (aCons (nm 3) (aCons (frz (lstO (aCons (cC (.int 1)) (aCons (cC (.int 1)) aNil)))) aNil)))))
  (EV.seq (asg (gN 5) (bin dDiv (bi bSum (aCons (nm 3) aNil)) (cC (.int 2))))
  (EV.seq (EV.ifS (tB (bin dLt (nm 5) (cC (.int 0))))
  (EV.ret (tupE (aCons (frz (EV.lc [6] (iSeq (nm 3)) (gN 6) EV.tYes (un dNeg (nm 6)))) (aCons (un dNeg (nm 5)) aNil))))
  sNx)
  (EV.ret (tupE (aCons (nm 3) (aCons (nm 5) aNil))))))))))
def m__law_core_book : O → List D → FQ := fnQ 2 7 b__law_core_book
def N__law_known_book : List Str := ["bag", "way", "low", "high", "row", "count", "k"]
abbrev b__law_known_book : FS := (EV.seq (asg (gN 1) (callQ m__law_draw 0 (aCons (cC (.int 3)) aNil)))
  (EV.seq (EV.ifS (tB (bin dEq (nm 1) (cC (.int 0))))
  (EV.ret (tupE (aCons (frz (lstO (aCons (un dNeg (cC (.int 1))) (aCons (cC (.int 0)) (aCons (cC (.int 9)) (aCons (cC (.int 16)) (aCons (cC (.int 9)) (aCons (cC (.int 0)) (aCons (un dNeg (cC (.int 1))) aNil))))))))) (aCons (cC (.int 16)) aNil))))
  sNx)
  (EV.seq (EV.ifS (tB (bin dEq (nm 1) (cC (.int 1))))
  (EV.seq (asg (gN 2) (bin dAdd (cC (.int 2)) (callQ m__law_draw 0 (aCons (cC (.int 6)) aNil))))
  (EV.seq (asg (gN 3) (bin dMul (bin dAdd (cC (.int 1)) (callQ m__law_draw 0 (aCons (bin dSub (nm 2) (cC (.int 1))) aNil))) (bin dSub (cC (.int 1)) (bin dMul (cC (.int 2)) (callQ m__law_draw 0 (aCons (cC (.int 2)) aNil))))))
  (EV.ret (tupE (aCons (frz (lstO (aCons (bin dMul (nm 3) (bin dSub (nm 3) (nm 2))) (aCons (bin dMul (nm 2) (bin dSub (nm 2) (nm 3))) (aCons (bin dMul (nm 2) (bin dAdd (nm 2) (nm 3))) (aCons (bin dMul (nm 3) (bin dAdd (nm 3) (nm 2))) aNil)))))) (aCons (bin dAdd (bin dMul (nm 3) (nm 3)) (bin dMul (nm 2) (nm 2))) aNil))))))
  sNx)
  (EV.seq (asgO 4 (lstO (aCons (cC (.int 1)) aNil)))
  (EV.seq (asg (gN 5) (bin dAdd (cC (.int 2)) (callQ m__law_draw 0 (aCons (cC (.int 4)) aNil))))
  (EV.seq (EV.forS (EV.iRng1 (aCons (nm 5) aNil)) (gN 6)
  (asg (gN 4) (EV.call m__law_times (aCons (nm 4) (aCons (frz (lstO (aCons (cC (.int 1)) (aCons (cC (.int 1)) aNil)))) aNil)))))
  (EV.ret (tupE (aCons (nm 4) (aCons (bin dDiv (bi bSum (aCons (nm 4) aNil)) (cC (.int 2))) aNil))))))))))
def m__law_known_book : O → List D → FQ := fnQ 1 7 b__law_known_book
def N_check_length : List Str := ["text"]
abbrev b_check_length : FS := (EV.ifS (tB (bin dGt (lenN 0) (cC (.int 200000))))
  (rzS 1 2 (aCons (cC (.str "text")) (aCons (lenN 0) aNil)))
  sNx)
def m_check_length : List D → FR := EV.fn 1 1 b_check_length
def N_digits_from : List Str := ["word", "at", "count"]
abbrev b_digits_from : FS := (EV.seq (asg (gN 2) (cC (.int 0)))
  (EV.seq (EV.whl (tAnd (tB (bin dLt (bin dAdd (nm 1) (nm 2)) (lenN 0))) (tAnd (tB (bin dLe (nm 2) (cC (.int 400)))) (tB (bin dInS (ixN 0 (bin dAdd (nm 1) (nm 2))) (cC (.str "0123456789"))))))
  (aug dAddI 2 (cC (.int 1))) 1000000)
  (retNm 2)))
def m_digits_from : List D → FR := EV.fn 2 3 b_digits_from
def N_top_fault : List Str := ["word", "at", "count"]
abbrev b_top_fault : FS := (EV.seq (EV.ifS (tB (bin dEq (nm 2) (cC (.int 0))))
  (EV.ret (bin dAdd (nm 1) (cC (.int 1))))
  sNx)
  (EV.seq (EV.ifS (tAnd (tB (bin dEq (ixN 0 (nm 1)) (cC (.str "0")))) (tB (bin dNe (nm 0) (cC (.str "0")))))
  (EV.ret (cC (.int 2)))
  sNx)
  (EV.seq (EV.ifS (tB (bin dGt (nm 2) (cC (.int 400))))
  (EV.ret (bin dAdd (bin dAdd (nm 1) (cC (.int 400))) (cC (.int 1))))
  sNx)
  (EV.ret (cC (.int 0))))))
def m_top_fault : List D → FR := EV.fn 3 3 b_top_fault
def N_bottom_fault : List Str := ["word", "at", "count"]
abbrev b_bottom_fault : FS := (EV.seq (asg (gN 2) (EV.call m_digits_from (aCons (nm 0) (aCons (nm 1) aNil))))
  (EV.seq (EV.ifS (tOr (tB (bin dEq (nm 2) (cC (.int 0)))) (tB (bin dEq (ixN 0 (nm 1)) (cC (.str "0")))))
  (EV.ret (bin dAdd (nm 1) (cC (.int 1))))
  sNx)
  (EV.seq (EV.ifS (tB (bin dGt (nm 2) (cC (.int 400))))
  (EV.ret (bin dAdd (bin dAdd (nm 1) (cC (.int 400))) (cC (.int 1))))
  sNx)
  (EV.seq (EV.ifS (tB (bin dLt (bin dAdd (nm 1) (nm 2)) (lenN 0)))
  (EV.ret (bin dAdd (bin dAdd (nm 1) (nm 2)) (cC (.int 1))))
  sNx)
  (EV.ret (cC (.int 0)))))))
def m_bottom_fault : List D → FR := EV.fn 2 3 b_bottom_fault
def N_number_fault : List Str := ["word", "at", "count", "fault", "end"]
abbrev b_number_fault : FS := (EV.seq (asg (gN 1) (ifE (tB (bin dEq (slS (nm 0) pNo (pSo (cC (.int 1)))) (cC (.str "-")))) (cC (.int 1)) (cC (.int 0))))
  (EV.seq (asg (gN 2) (EV.call m_digits_from (aCons (nm 0) (aCons (nm 1) aNil))))
  (EV.seq (asg (gN 3) (EV.call m_top_fault (aCons (nm 0) (aCons (nm 1) (aCons (nm 2) aNil)))))
  (EV.seq (EV.ifS (tT (nm 3))
  (retNm 3)
  sNx)
  (EV.seq (asg (gN 4) (bin dAdd (nm 1) (nm 2)))
  (EV.seq (EV.ifS (tB (bin dEq (nm 4) (lenN 0)))
  (EV.ret (cC (.int 0)))
  sNx)
  (EV.seq (EV.ifS (tB (bin dNe (ixN 0 (nm 4)) (cC (.str "/"))))
  (EV.ret (bin dAdd (nm 4) (cC (.int 1))))
  sNx)
  (EV.ret (EV.call m_bottom_fault (aCons (nm 0) (aCons (bin dAdd (nm 4) (cC (.int 1))) aNil)))))))))))
def m_number_fault : List D → FR := EV.fn 1 5 b_number_fault
def N_word_pair : List Str := ["word", "top", "_", "bottom"]
abbrev b_word_pair : FS := (EV.seq (asg (gT (gsCons (gN 1) (gsCons (gN 2) (gsCons (gN 3) gsNil)))) (partE (nm 0) (cC (.str "/"))))
  (EV.ret (tupE (aCons (bi bIntT (aCons (nm 1) aNil)) (aCons (ifE (tT (nm 3)) (bi bIntT (aCons (nm 3) aNil)) (cC (.int 1))) aNil)))))
def m_word_pair : List D → FR := EV.fn 1 4 b_word_pair
def N_read_pair : List Str := ["text", "fault"]
abbrev b_read_pair : FS := (EV.seq (exprS (EV.call m_check_length (aCons (nm 0) aNil)))
  (EV.seq (asg (gN 1) (EV.call m_number_fault (aCons (nm 0) aNil)))
  (EV.seq (EV.ifS (tT (nm 1))
  stS
  sNx)
  (EV.ret (EV.call m_word_pair (aCons (nm 0) aNil))))))
def m_read_pair : List D → FR := EV.fn 1 2 b_read_pair
def N_is_integer : List Str := ["value"]
abbrev b_is_integer : FS := (EV.ret (eAnd (bi (bIsTy .int) (aCons (nm 0) aNil)) (eNot (bi (bIsTy .bool) (aCons (nm 0) aNil)))))
def m_is_integer : List D → FR := EV.fn 1 1 b_is_integer
def N_Ratio_init : List Str := ["self", "top", "bottom", "share"]
abbrev b_Ratio_init : FS := (EV.seq (EV.ifS (tOr (tNot (tT (EV.call m_is_integer (aCons (nm 1) aNil)))) (tNot (tT (EV.call m_is_integer (aCons (nm 2) aNil)))))
  stS
  sNx)
  (EV.seq (EV.ifS (tB (bin dEq (nm 2) (cC (.int 0))))
  stS
  sNx)
  (EV.seq (asg (gN 3) (bi bGcd (aCons (nm 1) (aCons (nm 2) aNil))))
  (EV.seq (EV.ifS (tB (bin dLt (nm 2) (cC (.int 0))))
  (asg (gN 3) (un dNeg (nm 3)))
  sNx)
  (EV.seq (setF 0 0 "top" (bin dDiv (nm 1) (nm 3)))
  (setF 0 0 "bottom" (bin dDiv (nm 2) (nm 3))))))))
def m_Ratio_init : O → List D → FQ := fnQ 3 4 b_Ratio_init
def mk_Ratio : List D → FR := EV.mk 0 ["top", "bottom"] m_Ratio_init
def N_number : List Str := ["value", "top", "bottom"]
abbrev b_number : FS := (EV.seq (EV.ifS (tT (bi (bIsC 2 0) (aCons (nm 0) aNil)))
  (retNm 0)
  sNx)
  (EV.seq (EV.ifS (tT (bi (bIsTy .str) (aCons (nm 0) aNil)))
  (EV.seq (asg (gT (gsCons (gN 1) (gsCons (gN 2) gsNil))) (EV.call m_read_pair (aCons (nm 0) aNil)))
  (EV.ret (EV.call mk_Ratio (aCons (nm 1) (aCons (nm 2) aNil)))))
  sNx)
  (EV.seq (EV.ifS (tT (EV.call m_is_integer (aCons (nm 0) aNil)))
  (EV.ret stE)
  sNx)
  stS)))
def m_number : List D → FR := EV.fn 1 3 b_number
def N_tops_of_ratios : List Str := ["numbers", "bottom", "each"]
abbrev b_tops_of_ratios : FS := (EV.seq (asg (gN 1) (cC (.int 1)))
  (EV.seq (EV.forS (iSeq (nm 0)) (gN 2)
  (asg (gN 1) (bi bLcm (aCons (nm 1) (aCons (fld ix_bottom (nm 2)) aNil)))))
  (EV.ret (tupE (aCons (frz (EV.lc [2] (iSeq (nm 0)) (gN 2) EV.tYes (bin dMul (fld ix_top (nm 2)) (bin dDiv (nm 1) (fld ix_bottom (nm 2)))))) (aCons (nm 1) aNil))))))
def m_tops_of_ratios : List D → FR := EV.fn 1 3 b_tops_of_ratios
def N_book_fault : List Str := ["numbers", "tops", "bottom"]
abbrev b_book_fault : FS := (EV.seq (EV.ifS (tB (bin dLt (lenN 0) (cC (.int 2))))
  (EV.ret (cC (.str "a book has two numbers or more")))
  sNx)
  (EV.seq (EV.ifS (tOr (tB (bin dEq (fld ix_top (ixN 0 (cC (.int 0)))) (cC (.int 0)))) (tB (bin dEq (fld ix_top (ixN 0 (un dNeg (cC (.int 1))))) (cC (.int 0)))))
  (EV.ret (cC (.str "the first and the last number of a book are not 0")))
  sNx)
  (EV.seq (asg (gT (gsCons (gN 1) (gsCons (gN 2) gsNil))) (EV.call m_tops_of_ratios (aCons (nm 0) aNil)))
  (EV.seq (EV.ifS (tOr (tB (bin dNe (bi bSum (aCons (stpE (nm 1) (pSo (cC (.int 0))) pNo (pSo (cC (.int 2)))) aNil)) (nm 2))) (tB (bin dNe (bi bSum (aCons (stpE (nm 1) (pSo (cC (.int 1))) pNo (pSo (cC (.int 2)))) aNil)) (nm 2))))
  (EV.ret (cC (.str "the numbers at even places, and those at odd places, must have the sum 1")))
  sNx)
  (EV.ret (cC (.str "")))))))
def m_book_fault : List D → FR := EV.fn 1 3 b_book_fault
def N_check_reach : List Str := ["reach"]
abbrev b_check_reach : FS := (EV.ifS (tB (bin dGt (nm 0) (cC (.int 40))))
  (rzS 1 2 (aCons (cC (.str "reach")) (aCons (nm 0) aNil)))
  sNx)
def m_check_reach : List D → FR := EV.fn 1 1 b_check_reach
def N_Book_init : List Str := ["self", "numbers", "told", "fault", "tops", "bottom", "each"]
abbrev b_Book_init : FS := (EV.seq (asgO 2 (EV.lc [6] (iSeq (nm 1)) (gN 6) EV.tYes (EV.call m_number (aCons (nm 6) aNil))))
  (EV.seq (asg (gN 3) (EV.call m_book_fault (aCons (nm 2) aNil)))
  (EV.seq (EV.ifS (tT (nm 3))
  (rzS 0 1 (aCons (nm 3) aNil))
  sNx)
  (EV.seq (exprS (EV.call m_check_reach (aCons (bin dSub (lenN 2) (cC (.int 1))) aNil)))
  (EV.seq (asg (gT (gsCons (gN 4) (gsCons (gN 5) gsNil))) (EV.call m_tops_of_ratios (aCons (nm 2) aNil)))
  (EV.seq (setF 1 0 "numbers" (bi bTuple (aCons (nm 2) aNil)))
  (EV.seq (setF 1 0 "reach" (bin dSub (lenN 2) (cC (.int 1))))
  (EV.seq (setF 1 0 "_tops" (bi bTuple (aCons (nm 4) aNil)))
  (EV.seq (setF 1 0 "_bottom" (nm 5))
  (EV.seq (setF 1 0 "_kept_calm" (cC .non))
  (EV.seq (setF 1 0 "_kept_tame" (cC .non))
  (setF 1 0 "_kept_column" (cC .non)))))))))))))
def m_Book_init : O → List D → FQ := fnQ 2 7 b_Book_init
def mk_Book : List D → FR := EV.mk 1 ["numbers", "reach", "_tops", "_bottom", "_kept_calm", "_kept_tame", "_kept_column"] m_Book_init
def N__law_lowest : List Str := ["high", "low", "a", "b", "k", "rest"]
abbrev b__law_lowest : FS := (EV.seq (asg (gN 2) (bi bAbs (aCons (nm 0) aNil)))
  (EV.seq (asg (gN 3) (bi bAbs (aCons (nm 1) aNil)))
  (EV.seq (EV.forS (EV.iRng1 (aCons (bin dAdd (bin dMul (cC (.int 2)) (un bBits (nm 3))) (cC (.int 2))) aNil)) (gN 4)
  (EV.seq (EV.ifS (tB (bin dEq (nm 3) (cC (.int 0))))
  sBr
  sNx)
  (EV.seq (asg (gN 5) (bin dMod (bi bInt (aCons (nm 2) aNil)) (nm 3)))
  (EV.seq (asg (gN 2) (nm 3))
  (asg (gN 3) (nm 5))))))
  (EV.seq (EV.ifS (tB (bin dLt (nm 1) (cC (.int 0))))
  (asg (gN 2) (un dNeg (nm 2)))
  sNx)
  (EV.ret (tupE (aCons (bin dDiv (nm 0) (nm 2)) (aCons (bin dDiv (nm 1) (nm 2)) aNil))))))))
def m__law_lowest : List D → FR := EV.fn 2 6 b__law_lowest
def N__law_pairs_of : List Str := ["plain", "x"]
abbrev b__law_pairs_of : FS := (EV.retO (EV.lc [1] (iSeq (ixN 0 (cC (.int 0)))) (gN 1) EV.tYes (EV.call m__law_lowest (aCons (nm 1) (aCons (ixN 0 (cC (.int 1))) aNil)))))
def m__law_pairs_of : List D → FR := EV.fn 1 2 b__law_pairs_of
def N__law_word : List Str := ["x"]
abbrev b__law_word : FS := (EV.seq (EV.ifS (tB (bin dEq (ixN 0 (cC (.int 1))) (cC (.int 1))))
  (EV.ret (bi bStr (aCons (ixN 0 (cC (.int 0))) aNil)))
  sNx)
  (EV.ret (bin dAdd (bin dAdd (bi bStr (aCons (ixN 0 (cC (.int 0))) aNil)) (cC (.str "/"))) (bi bStr (aCons (ixN 0 (cC (.int 1))) aNil)))))
def m__law_word : List D → FR := EV.fn 1 1 b__law_word
def N__law_book : List Str := ["plain", "x"]
abbrev b__law_book : FS := (EV.ret (EV.call mk_Book (aCons (frz (EV.lc [1] (iSeq (EV.call m__law_pairs_of (aCons (nm 0) aNil))) (gN 1) EV.tYes (EV.call m__law_word (aCons (nm 1) aNil)))) aNil)))
def m__law_book : List D → FR := EV.fn 1 2 b__law_book
def N__law_halved : List Str := ["row", "made", "k"]
abbrev b__law_halved : FS := (EV.seq (asgO 1 (lstO aNil))
  (EV.seq (EV.forS (EV.iRng1 (aCons (bin dSub (lenN 0) (cC (.int 1))) aNil)) (gN 2)
  (app 1 (bin dSub (ixN 0 (nm 2)) (ifE (tB (bin dGt (nm 2) (cC (.int 0)))) (ixN 1 (bin dSub (nm 2) (cC (.int 1)))) (cC (.int 0))))))
  (retNm 1)))
def m__law_halved : List D → FR := EV.fn 1 3 b__law_halved
def N_Book_over_one_bottom : List Str := ["self"]
abbrev b_Book_over_one_bottom : FS := (EV.ret (tupE (aCons (fld ix__tops (nm 0)) (aCons (fld ix__bottom (nm 0)) aNil))))
def m_Book_over_one_bottom : List D → FR := EV.fn 1 1 b_Book_over_one_bottom
def N_by_one_plus : List Str := ["tops", "quotient", "carried", "top"]
abbrev b_by_one_plus : FS := (EV.seq (asgO 1 (lstO aNil))
  (EV.seq (asg (gN 2) (cC (.int 0)))
  (EV.seq (EV.forS (iSeq (nm 0)) (gN 3)
  (EV.seq (asg (gN 2) (bin dSub (nm 3) (nm 2)))
  (app 1 (nm 2))))
  (EV.ret (tupE (aCons (slE (nm 1) pNo (pSo (un dNeg (cC (.int 1))))) (aCons (ixN 1 (un dNeg (cC (.int 1)))) aNil)))))))
def m_by_one_plus : List D → FR := EV.fn 1 4 b_by_one_plus
def N_ratios : List Str := ["tops", "bottom", "top"]
abbrev b_ratios : FS := (EV.ret (bi bTuple (aCons (frz (EV.lc [2] (iSeq (nm 0)) (gN 2) EV.tYes (EV.call mk_Ratio (aCons (nm 2) (aCons (nm 1) aNil))))) aNil)))
def m_ratios : List D → FR := EV.fn 2 3 b_ratios
def N_made_book : List Str := ["tops", "bottom"]
abbrev b_made_book : FS := (EV.ret (EV.call mk_Book (aCons (EV.call m_ratios (aCons (nm 0) (aCons (nm 1) aNil))) aNil)))
def m_made_book : List D → FR := EV.fn 2 2 b_made_book
def N_slope : List Str := ["book", "tops", "bottom", "share", "_", "rest", "top"]
abbrev b_slope : FS := (EV.seq (asg (gT (gsCons (gN 1) (gsCons (gN 2) gsNil))) (meth0 1 m_Book_over_one_bottom (nm 0)))
  (EV.seq (asg (gT (gsCons (gN 3) (gsCons (gN 4) gsNil))) (EV.call m_by_one_plus (aCons (nm 1) aNil)))
  (EV.seq (asg (gT (gsCons (gN 4) (gsCons (gN 5) gsNil))) (EV.call m_by_one_plus (aCons (nm 3) aNil)))
  (EV.seq (EV.ifS (tT (nm 5))
  (rzS 0 1 (aCons (cC (.str "the square of 1 + z does not divide the book, so it has no slope")) aNil))
  sNx)
  (EV.ret (EV.call m_made_book (aCons (frz (EV.lc [6] (iSeq (nm 3)) (gN 6) EV.tYes (bin dMul (cC (.int 2)) (nm 6)))) (aCons (nm 2) aNil))))))))
def m_slope : List D → FR := EV.fn 1 7 b_slope
def N__law_is_bad : List Str := ["error"]
abbrev b__law_is_bad : FS := (EV.seq (EV.ifS (tOr (tNot (tT (un (bIsX (tab xt_ValueError)) (nm 0)))) (tT (un (bIsX (tab xt_TooMany_BadNumber)) (nm 0))))
  (EV.ret (cC (.bl false)))
  sNx)
  (EV.ret (eAnd (bi (bIsTy .str) (aCons (xfE (tab ixx_why) (nm 0)) aNil)) (bin dNe (xfE (tab ixx_why) (nm 0)) (cC (.str ""))))))
def m__law_is_bad : List D → FR := EV.fn 1 1 b__law_is_bad
def N__law_is_int : List Str := ["thing"]
abbrev b__law_is_int : FS := (EV.ret (eAnd (bi (bIsTy .int) (aCons (nm 0) aNil)) (eNot (bi (bIsTy .bool) (aCons (nm 0) aNil)))))
def m__law_is_int : List D → FR := EV.fn 1 1 b__law_is_int
def N__law_pair : List Str := ["told", "high", "low"]
abbrev b__law_pair : FS := (EV.seq (EV.ifS (tNot (tT (bi (bIsC 2 0) (aCons (nm 0) aNil))))
  (EV.ret (cC .non))
  sNx)
  (EV.seq (asg (gN 1) (fld ix_top (nm 0)))
  (EV.seq (asg (gN 2) (fld ix_bottom (nm 0)))
  (EV.seq (EV.ifS (tOr (tNot (tT (EV.call m__law_is_int (aCons (nm 1) aNil)))) (tOr (tNot (tT (EV.call m__law_is_int (aCons (nm 2) aNil)))) (tB (bin dLt (nm 2) (cC (.int 1))))))
  (EV.ret (cC .non))
  sNx)
  (EV.seq (EV.ifS (tB (bin dNe (EV.call m__law_lowest (aCons (nm 1) (aCons (nm 2) aNil))) (tupE (aCons (nm 1) (aCons (nm 2) aNil)))))
  (EV.ret (cC .non))
  sNx)
  (EV.ret (tupE (aCons (nm 1) (aCons (nm 2) aNil)))))))))
def m__law_pair : List D → FR := EV.fn 1 3 b__law_pair
def N__law_pairs : List Str := ["told", "row", "one"]
abbrev b__law_pairs : FS := (EV.seq (EV.ifS (tNot (tT (bi (bIsTy .tuple) (aCons (nm 0) aNil))))
  (EV.ret (cC .non))
  sNx)
  (EV.seq (asgO 1 (EV.lc [2] (iSeq (nm 0)) (gN 2) EV.tYes (EV.call m__law_pair (aCons (nm 2) aNil))))
  (EV.ret (ifE (tB (bin dIn (cC .non) (nm 1))) (cC .non) (nm 1)))))
def m__law_pairs : List D → FR := EV.fn 1 3 b__law_pairs
def N__law_is : List Str := ["told", "plain"]
abbrev b__law_is : FS := (EV.seq (EV.ifS (tOr (tNot (tT (bi (bIsC 2 1) (aCons (nm 0) aNil)))) (tOr (tNot (tT (EV.call m__law_is_int (aCons (fld ix_reach (nm 0)) aNil)))) (tB (bin dNe (fld ix_reach (nm 0)) (bin dSub (bi bLen (aCons (ixN 1 (cC (.int 0))) aNil)) (cC (.int 1)))))))
  (EV.ret (cC (.bl false)))
  sNx)
  (EV.ret (bin dEq (EV.call m__law_pairs (aCons (fld ix_numbers (nm 0)) aNil)) (EV.call m__law_pairs_of (aCons (nm 1) aNil)))))
def m__law_is : List D → FR := EV.fn 2 2 b__law_is
def N__law_slope_holds : List Str := ["thing", "plain", "row", "signed", "told", "error", "x"]
abbrev b__law_slope_holds : FS := (EV.seq (asg (gN 2) (EV.call m__law_halved (aCons (ixN 1 (cC (.int 0))) aNil)))
  (EV.seq (asg (gN 3) (bin dSub (bi bSum (aCons (stpE (nm 2) pNo pNo (pSo (cC (.int 2)))) aNil)) (bi bSum (aCons (stpE (nm 2) (pSo (cC (.int 1))) pNo (pSo (cC (.int 2)))) aNil))))
  (EV.seq (tryS (asg (gN 4) (EV.call m_slope (aCons (nm 0) aNil)))
  [⟨some 5, tab xc_BadBook, (EV.ret (eAnd (bin dNe (nm 3) (cC (.int 0))) (EV.call m__law_is_bad (aCons (nm 5) aNil))))⟩])
  (EV.ret (eAnd (bin dEq (nm 3) (cC (.int 0))) (EV.call m__law_is (aCons (nm 4) (aCons (tupE (aCons (frz (EV.lc [6] (iSeq (nm 2)) (gN 6) EV.tYes (bin dMul (cC (.int 2)) (nm 6)))) (aCons (ixN 1 (cC (.int 1))) aNil))) aNil))))))))
def m__law_slope_holds : List D → FR := EV.fn 2 7 b__law_slope_holds
def N_tops_product : List Str := ["first", "second", "tops", "places", "start", "factor", "at", "top", "_"]
abbrev b_tops_product : FS := (EV.seq (EV.ifS (tOr (tNot (tT (nm 0))) (tNot (tT (nm 1))))
  (EV.retO (lstO aNil))
  sNx)
  (EV.seq (asgO 2 (EV.lc [8] (EV.iRng1 (aCons (bin dSub (bin dAdd (lenN 0) (lenN 1)) (cC (.int 1))) aNil)) (gN 8) EV.tYes (cC (.int 0))))
  (EV.seq (asgO 3 (EV.lc [6, 7] (EV.iEnumT (nm 1)) (gT (gsCons (gN 6) (gsCons (gN 7) gsNil))) (tT (nm 7)) (tupE (aCons (nm 6) (aCons (nm 7) aNil)))))
  (EV.seq (EV.forS (EV.iEnumT (nm 0)) (gT (gsCons (gN 4) (gsCons (gN 5) gsNil)))
  (EV.ifS (tT (nm 5))
  (EV.forS (iSeq (nm 3)) (gT (gsCons (gN 6) (gsCons (gN 7) gsNil)))
  (setI 2 (bin dAdd (nm 4) (nm 6)) (bin dAdd (ixN 2 (bin dAdd (nm 4) (nm 6))) (bin dMul (nm 5) (nm 7)))))
  sNx))
  (retNm 2)))))
def m_tops_product : List D → FR := EV.fn 2 9 b_tops_product
def N_mean : List Str := ["book", "tops", "bottom"]
abbrev b_mean : FS := (EV.seq (asg (gT (gsCons (gN 1) (gsCons (gN 2) gsNil))) (meth0 1 m_Book_over_one_bottom (nm 0)))
  (EV.ret (EV.call m_made_book (aCons (EV.call m_tops_product (aCons (nm 1) (aCons (frz (lstO (aCons (cC (.int 1)) (aCons (cC (.int 1)) aNil)))) aNil))) (aCons (bin dMul (cC (.int 2)) (nm 2)) aNil)))))
def m_mean : List D → FR := EV.fn 1 3 b_mean
def N__law_many : List Str := ["error", "count"]
abbrev b__law_many : FS := (EV.seq (EV.ifS (tOr (tNot (tT (un (bIsX (tab xt_ValueError)) (nm 0)))) (tOr (tT (un (bIsX (tab xt_BadBook_BadNumber)) (nm 0))) (tNot (tT (EV.call m__law_is_int (aCons (xfE (tab ixx_count) (nm 0)) aNil))))))
  (EV.ret (cC (.bl false)))
  sNx)
  (EV.ret (eAnd (bin dEq (xfE (tab ixx_what) (nm 0)) (cC (.str "reach"))) (eAnd (bin dEq (xfE (tab ixx_count) (nm 0)) (nm 1)) (bin dGt (nm 1) (cC (.int 40)))))))
def m__law_many : List D → FR := EV.fn 2 2 b__law_many
def N__law_mean_holds : List Str := ["thing", "plain", "told", "error", "made"]
abbrev b__law_mean_holds : FS := (EV.seq (tryS (asg (gN 2) (EV.call m_mean (aCons (nm 0) aNil)))
  [⟨some 3, tab xc_TooMany, (EV.ret (EV.call m__law_many (aCons (nm 3) (aCons (bi bLen (aCons (ixN 1 (cC (.int 0))) aNil)) aNil))))⟩])
  (EV.seq (asg (gN 4) (tupE (aCons (EV.call m__law_times (aCons (ixN 1 (cC (.int 0))) (aCons (frz (lstO (aCons (cC (.int 1)) (aCons (cC (.int 1)) aNil)))) aNil))) (aCons (bin dMul (cC (.int 2)) (ixN 1 (cC (.int 1)))) aNil))))
  (EV.seq (EV.ifS (tOr (tB (bin dGt (bi bLen (aCons (ixN 1 (cC (.int 0))) aNil)) (cC (.int 40)))) (tNot (tT (EV.call m__law_is (aCons (nm 2) (aCons (nm 4) aNil))))))
  (EV.ret (cC (.bl false)))
  sNx)
  (EV.ret (EV.call m__law_is (aCons (EV.call m_slope (aCons (nm 2) aNil)) (aCons (nm 1) aNil)))))))
def m__law_mean_holds : List D → FR := EV.fn 2 5 b__law_mean_holds
def N_mirror : List Str := ["book"]
abbrev b_mirror : FS := (EV.ret (EV.call mk_Book (aCons (stpE (fld ix_numbers (nm 0)) pNo pNo (pSo (un dNeg (cC (.int 1))))) aNil)))
def m_mirror : List D → FR := EV.fn 1 1 b_mirror
def N_tops_spread : List Str := ["tops", "m", "spaced", "at", "top", "_"]
abbrev b_tops_spread : FS := (EV.seq (EV.ifS (tNot (tT (nm 0)))
  (EV.retO (lstO aNil))
  sNx)
  (EV.seq (asgO 2 (EV.lc [5] (EV.iRng1 (aCons (bin dAdd (bin dMul (bin dSub (lenN 0) (cC (.int 1))) (nm 1)) (cC (.int 1))) aNil)) (gN 5) EV.tYes (cC (.int 0))))
  (EV.seq (EV.forS (EV.iEnumT (nm 0)) (gT (gsCons (gN 3) (gsCons (gN 4) gsNil)))
  (setI 2 (bin dMul (nm 3) (nm 1)) (nm 4)))
  (retNm 2))))
def m_tops_spread : List D → FR := EV.fn 2 6 b_tops_spread
def N_wide : List Str := ["book", "m", "tops", "bottom"]
abbrev b_wide : FS := (EV.seq (EV.ifS (tOr (tB (bin dLt (nm 1) (cC (.int 1)))) (tB (bin dEq (bin dAnd1 (nm 1) (cC (.int 1))) (cC (.int 0)))))
  (rzS 0 1 (aCons (cC (.str "a book is made wide by an odd number from 1 on")) aNil))
  sNx)
  (EV.seq (exprS (EV.call m_check_reach (aCons (bin dMul (fld ix_reach (nm 0)) (nm 1)) aNil)))
  (EV.seq (asg (gT (gsCons (gN 2) (gsCons (gN 3) gsNil))) (meth0 1 m_Book_over_one_bottom (nm 0)))
  (EV.ret (EV.call m_made_book (aCons (EV.call m_tops_spread (aCons (nm 2) (aCons (nm 1) aNil))) (aCons (nm 3) aNil)))))))
def m_wide : List D → FR := EV.fn 2 4 b_wide
def N__law_wide_holds : List Str := ["thing", "plain", "factor", "reach", "told", "error", "made", "x"]
abbrev b__law_wide_holds : FS := (EV.seq (asg (gN 3) (bin dMul (bin dSub (bi bLen (aCons (ixN 1 (cC (.int 0))) aNil)) (cC (.int 1))) (nm 2)))
  (EV.seq (tryS (asg (gN 4) (EV.call m_wide (aCons (nm 0) (aCons (nm 2) aNil))))
  [⟨some 5, tab xc_BadBook, (EV.ret (eAnd (eOr (bin dLt (nm 2) (cC (.int 1))) (bin dEq (bin dMod (nm 2) (cC (.int 2))) (cC (.int 0)))) (EV.call m__law_is_bad (aCons (nm 5) aNil))))⟩,
  ⟨some 5, tab xc_TooMany, (EV.ret (eAnd (bin dGt (nm 2) (cC (.int 0))) (eAnd (bin dEq (bin dMod (nm 2) (cC (.int 2))) (cC (.int 1))) (EV.call m__law_many (aCons (nm 5) (aCons (nm 3) aNil))))))⟩])
  (EV.seq (EV.ifS (tOr (tB (bin dLt (nm 2) (cC (.int 1)))) (tOr (tB (bin dEq (bin dMod (nm 2) (cC (.int 2))) (cC (.int 0)))) (tB (bin dGt (nm 3) (cC (.int 40))))))
  (EV.ret (cC (.bl false)))
  sNx)
  (EV.seq (asgO 6 (lstO aNil))
  (EV.seq (EV.forS (iSeq (ixN 1 (cC (.int 0)))) (gN 7)
  (asgO 6 (binO dCatO (bin dAdd (nm 6) (frz (lstO (aCons (nm 7) aNil)))) (bin dMul (frz (lstO (aCons (cC (.int 0)) aNil))) (bin dSub (nm 2) (cC (.int 1)))))))
  (EV.ret (EV.call m__law_is (aCons (nm 4) (aCons (tupE (aCons (slE (nm 6) pNo (pSo (bin dAdd (nm 3) (cC (.int 1))))) (aCons (ixN 1 (cC (.int 1))) aNil))) aNil)))))))))
def m__law_wide_holds : List D → FR := EV.fn 3 8 b__law_wide_holds
def N_product : List Str := ["book", "other", "first", "bottom", "second", "under"]
abbrev b_product : FS := (EV.seq (asg (gT (gsCons (gN 2) (gsCons (gN 3) gsNil))) (meth0 1 m_Book_over_one_bottom (nm 0)))
  (EV.seq (asg (gT (gsCons (gN 4) (gsCons (gN 5) gsNil))) (meth0 1 m_Book_over_one_bottom (nm 1)))
  (EV.ret (EV.call m_made_book (aCons (EV.call m_tops_product (aCons (nm 2) (aCons (nm 4) aNil))) (aCons (bin dMul (bin dMul (cC (.int 2)) (nm 3)) (nm 5)) aNil))))))
def m_product : List D → FR := EV.fn 2 6 b_product
def N__law_product_holds : List Str := ["thing", "plain", "second", "two", "told", "error"]
abbrev b__law_product_holds : FS := (EV.seq (tryS (asg (gN 4) (EV.call m_product (aCons (nm 0) (aCons (nm 2) aNil))))
  [⟨some 5, tab xc_TooMany, (EV.ret (EV.call m__law_many (aCons (nm 5) (aCons (bin dSub (bin dAdd (bi bLen (aCons (ixN 1 (cC (.int 0))) aNil)) (bi bLen (aCons (ixN 3 (cC (.int 0))) aNil))) (cC (.int 2))) aNil))))⟩])
  (EV.seq (EV.ifS (tB (bin dGt (bin dAdd (bi bLen (aCons (ixN 1 (cC (.int 0))) aNil)) (bi bLen (aCons (ixN 3 (cC (.int 0))) aNil))) (cC (.int 42))))
  (EV.ret (cC (.bl false)))
  sNx)
  (EV.ret (EV.call m__law_is (aCons (nm 4) (aCons (tupE (aCons (EV.call m__law_times (aCons (ixN 1 (cC (.int 0))) (aCons (ixN 3 (cC (.int 0))) aNil))) (aCons (bin dMul (bin dMul (cC (.int 2)) (ixN 1 (cC (.int 1)))) (ixN 3 (cC (.int 1)))) aNil))) aNil))))))
def m__law_product_holds : List D → FR := EV.fn 4 6 b__law_product_holds
def N__law_corner : List Str := ["size", "row", "k"]
abbrev b__law_corner : FS := (EV.seq (asgO 1 (lstO (aCons (cC (.int 1)) aNil)))
  (EV.seq (EV.forS (EV.iRng1 (aCons (nm 0) aNil)) (gN 2)
  (asg (gN 1) (EV.call m__law_times (aCons (nm 1) (aCons (frz (lstO (aCons (cC (.int 1)) (aCons (cC (.int 1)) aNil)))) aNil)))))
  (EV.ret (tupE (aCons (nm 1) (aCons (bin dDiv (bi bSum (aCons (nm 1) aNil)) (cC (.int 2))) aNil))))))
def m__law_corner : List D → FR := EV.fn 1 3 b__law_corner
def N_corner : List Str := ["m", "at"]
abbrev b_corner : FS := (EV.ret (EV.call m_made_book (aCons (frz (EV.lc [1] (EV.iRng1 (aCons (bin dAdd (nm 0) (cC (.int 1))) aNil)) (gN 1) EV.tYes (bi bComb (aCons (nm 0) (aCons (nm 1) aNil))))) (aCons (bin dShl1 (cC (.int 1)) (bin dSub (nm 0) (cC (.int 1)))) aNil))))
def m_corner : List D → FR := EV.fn 1 2 b_corner
def N_law : List Str := ["script", "bag", "factor", "size", "gap", "one", "two", "long", "things", "thing", "plain", "second", "plain_two"]
abbrev b_law : FS := (EV.seq (asgO 1 (callO m__law_bag (aCons (nm 0) aNil)))
  (EV.seq (asg (gN 2) (bin dIx (frz (lstO (aCons (cC (.int 1)) (aCons (cC (.int 3)) (aCons (cC (.int 5)) (aCons (cC (.int 2)) (aCons (cC (.int 0)) (aCons (un dNeg (cC (.int 1))) (aCons (cC (.int 7)) (aCons (cC (.int 9)) (aCons (cC (.int 4)) (aCons (un dNeg (cC (.int 3))) (aCons (cC (.int 11)) (aCons (cC (.int 13)) (aCons (cC (.int 21)) (aCons (cC (.int 6)) (aCons (un dNeg (cC (.int 2))) aNil))))))))))))))))) (callQ m__law_draw 1 (aCons (cC (.int 15)) aNil))))
  (EV.seq (asg (gN 3) (bin dAdd (cC (.int 2)) (callQ m__law_draw 1 (aCons (cC (.int 39)) aNil))))
  (EV.seq (asg (gN 4) (bin dAdd (cC (.int 35)) (callQ m__law_draw 1 (aCons (cC (.int 5)) aNil))))
  (EV.seq (asg (gN 5) (callQ m__law_core_book 1 (aCons (cC (.int 4)) aNil)))
  (EV.seq (asg (gN 6) (ifE (tT (callQ m__law_draw 1 (aCons (cC (.int 2)) aNil))) (callQ m__law_known_book 1 aNil) (callQ m__law_core_book 1 (aCons (cC (.int 4)) aNil))))
  (EV.seq (asg (gN 7) (tupE (aCons (bin dAdd (bin dAdd (frz (lstO (aCons (cC (.int 1)) (aCons (cC (.int 1)) aNil)))) (bin dMul (frz (lstO (aCons (cC (.int 0)) aNil))) (bin dSub (nm 4) (cC (.int 2))))) (frz (lstO (aCons (cC (.int 1)) (aCons (cC (.int 1)) aNil))))) (aCons (cC (.int 2)) aNil))))
  (EV.seq (asgO 8 (lstO (aCons (tupE (aCons (EV.call m__law_book (aCons (nm 5) aNil)) (aCons (nm 5) aNil))) (aCons (tupE (aCons (EV.call m__law_book (aCons (nm 6) aNil)) (aCons (nm 6) aNil))) (aCons (tupE (aCons (EV.call m__law_book (aCons (nm 7) aNil)) (aCons (nm 7) aNil))) aNil)))))
  (EV.seq (EV.forS (iSeq (nm 8)) (gT (gsCons (gN 9) (gsCons (gN 10) gsNil)))
  (EV.seq (EV.ifS (tOr (tNot (tT (EV.call m__law_slope_holds (aCons (nm 9) (aCons (nm 10) aNil))))) (tOr (tNot (tT (EV.call m__law_mean_holds (aCons (nm 9) (aCons (nm 10) aNil))))) (tNot (tT (EV.call m__law_is (aCons (EV.call m_mirror (aCons (nm 9) aNil)) (aCons (tupE (aCons (stpE (ixN 10 (cC (.int 0))) pNo pNo (pSo (un dNeg (cC (.int 1))))) (aCons (ixN 10 (cC (.int 1))) aNil))) aNil)))))))
  (EV.ret (cC (.bl false)))
  sNx)
  (EV.seq (EV.ifS (tOr (tNot (tT (EV.call m__law_wide_holds (aCons (nm 9) (aCons (nm 10) (aCons (nm 2) aNil)))))) (tNot (tT (EV.call m__law_wide_holds (aCons (nm 9) (aCons (nm 10) (aCons (cC (.int 1)) aNil)))))))
  (EV.ret (cC (.bl false)))
  sNx)
  (EV.forS (iSeq (nm 8)) (gT (gsCons (gN 11) (gsCons (gN 12) gsNil)))
  (EV.ifS (tNot (tT (EV.call m__law_product_holds (aCons (nm 9) (aCons (nm 10) (aCons (nm 11) (aCons (nm 12) aNil)))))))
  (EV.ret (cC (.bl false)))
  sNx)))))
  (EV.seq (EV.forS (iSeq (nm 8)) (gT (gsCons (gN 9) (gsCons (gN 10) gsNil)))
  (EV.ifS (tNot (tT (EV.call m__law_is (aCons (nm 9) (aCons (nm 10) aNil)))))
  (EV.ret (cC (.bl false)))
  sNx))
  (EV.ret (eAnd (EV.call m__law_is (aCons (EV.call m_corner (aCons (nm 3) aNil)) (aCons (EV.call m__law_corner (aCons (nm 3) aNil)) aNil))) (EV.call m__law_is (aCons (EV.call m_corner (aCons (cC (.int 2)) aNil)) (aCons (tupE (aCons (frz (lstO (aCons (cC (.int 1)) (aCons (cC (.int 2)) (aCons (cC (.int 1)) aNil))))) (aCons (cC (.int 2)) aNil))) aNil)))))))))))))))
def m_law : List D → FR := EV.fn 1 13 b_law
end
end EV
/-! K06_A: rows of whole numbers: sums, products, quotients by 1 + z. Plain Lean. -/
namespace EV
/-- the sum, the sum with signs by turns, the sums at even and at odd places -/
def sS : List Int → Int
  | [] => 0
  | a :: r => a + sS r
def sA : List Int → Int
  | [] => 0
  | a :: r => a - sA r
def evs : List Int → List Int
  | [] => []
  | [a] => [a]
  | a :: _ :: r => a :: evs r
def ods : List Int → List Int
  | [] => []
  | [_] => []
  | _ :: b :: r => b :: ods r
theorem evs_cons (a : Int) : ∀ r : List Int, evs (a :: r) = a :: ods r
  | [] => rfl
  | [b] => rfl
  | b :: c :: r => by
    show a :: evs (c :: r) = a :: c :: ods r
    rw [evs_cons c r]
theorem ods_cons (a : Int) : ∀ r : List Int, ods (a :: r) = evs r
  | [] => rfl
  | [b] => rfl
  | b :: c :: r => by
    show b :: ods (c :: r) = b :: evs r
    rw [ods_cons c r]
theorem sS_sum : ∀ r : List Int, r.sum = sS r
  | [] => rfl
  | a :: r => by rw [List.sum_cons, sS_sum r]; rfl
theorem sE_sO : ∀ r : List Int, sS (evs r) + sS (ods r) = sS r ∧ sS (evs r) - sS (ods r) = sA r
  | [] => ⟨rfl, rfl⟩
  | a :: r => by
    obtain ⟨h1, h2⟩ := sE_sO r
    rw [evs_cons, ods_cons]
    simp only [sS, sA]
    omega
theorem half_of {r : List Int} {l : Int} (h1 : sS r = 2 * l) (h2 : sA r = 0) : sS (evs r) = l ∧ sS (ods r) = l := by
  obtain ⟨a, b⟩ := sE_sO r
  omega
theorem of_half {r : List Int} {l : Int} (h : sS (evs r) = l ∧ sS (ods r) = l) : sS r = 2 * l ∧ sA r = 0 := by
  obtain ⟨a, b⟩ := sE_sO r
  omega
theorem sS_map (g : Int) : ∀ r : List Int, sS (r.map (g * ·)) = g * sS r
  | [] => by simp [sS]
  | a :: r => by simp only [List.map_cons, sS, sS_map g r, Int.mul_add]
theorem sA_map (g : Int) : ∀ r : List Int, sA (r.map (g * ·)) = g * sA r
  | [] => by simp [sA]
  | a :: r => by simp only [List.map_cons, sA, sA_map g r, Int.mul_sub]
theorem sS_cat : ∀ r s : List Int, sS (r ++ s) = sS r + sS s
  | [], s => by simp [sS]
  | a :: r, s => by simp only [List.cons_append, sS, sS_cat r s]; omega
/-- (-1)^n -/
def sg (n : Nat) : Int := if n % 2 = 0 then 1 else -1
theorem sg_succ (n : Nat) : sg (n + 1) = - sg n := by
  unfold sg
  by_cases h : n % 2 = 0
  · rw [if_neg (by omega), if_pos h]
  · rw [if_pos (by omega), if_neg h]; rfl
theorem sg_sq (n : Nat) : sg n * sg n = 1 := by
  unfold sg
  split <;> rfl
theorem sg_zero {n : Nat} {x : Int} : sg n * x = 0 ↔ x = 0 := by
  unfold sg
  split <;> omega
theorem sA_cat : ∀ r s : List Int, sA (r ++ s) = sA r + sg r.length * sA s
  | [], s => by simp [sA, sg]
  | a :: r, s => by
    rw [List.cons_append, List.length_cons, sg_succ]
    simp only [sA, sA_cat r s, Int.neg_mul]
    omega
theorem sS_rev (r : List Int) : sS r.reverse = sS r := by
  induction r with
  | nil => rfl
  | cons a r ih =>
    rw [List.reverse_cons, sS_cat, ih]
    simp only [sS]
    omega
theorem sA_rev (r : List Int) : sA r = 0 → sA r.reverse = 0 := by
  have : ∀ r : List Int, sg r.length * sA r.reverse = - sA r := by
    intro r
    induction r with
    | nil => rfl
    | cons a r ih =>
      have e1 : sg r.length * (sg r.length * a) = a := by rw [← Int.mul_assoc, sg_sq, Int.one_mul]
      have e2 : sA [a] = a := by show a - 0 = a; omega
      have e3 : sA (a :: r) = a - sA r := rfl
      rw [List.reverse_cons, sA_cat, List.length_cons, sg_succ, List.length_reverse, e2, Int.neg_mul, Int.mul_add, e1, ih, e3]
      omega
  intro h
  have := this r
  rw [h] at this
  exact (sg_zero (n := r.length)).mp (by omega)
/-- nought everywhere -/
def zs (n : Nat) : List Int := List.replicate n 0
theorem sS_zs (n : Nat) : sS (zs n) = 0 := by
  induction n with
  | zero => rfl
  | succ n ih => show 0 + sS (zs n) = 0; omega
theorem sA_zs (n : Nat) : sA (zs n) = 0 := by
  induction n with
  | zero => rfl
  | succ n ih => show 0 - sA (zs n) = 0; omega
/-! ### quotients by 1 + z -/
def hv : Int → List Int → List Int
  | _, [] => []
  | c, t :: ts => (t - c) :: hv (t - c) ts
theorem hv_len : ∀ (c : Int) (ts : List Int), (hv c ts).length = ts.length
  | _, [] => rfl
  | c, t :: ts => by simp only [hv, List.length_cons, hv_len]
theorem hv_map (g : Int) : ∀ (c : Int) (ts : List Int), hv (g * c) (ts.map (g * ·)) = (hv c ts).map (g * ·)
  | _, [] => rfl
  | c, t :: ts => by
    simp only [List.map_cons, hv]
    rw [← Int.mul_sub, hv_map g (t - c) ts]
theorem hv_app : ∀ (c : Int) (ts : List Int) (u : Int), ∃ d, hv c (ts ++ [u]) = hv c ts ++ [d]
  | c, [], u => ⟨u - c, rfl⟩
  | c, t :: ts, u => by
    obtain ⟨d, e⟩ := hv_app (t - c) ts u
    exact ⟨d, by simp only [List.cons_append, hv, e]⟩
/-- the rest: sign by turns -/
theorem hv_last : ∀ (ts : List Int) (c : Int) (q : List Int) (d : Int), hv c ts = q ++ [d] → sg (ts.length + 1) * d = sA ts - c ∧ sS ts = 2 * sS q + d + c ∧ ts.length = q.length + 1
  | [], c, q, d, h => by simp [hv] at h
  | [t], c, q, d, h => by
    have h : [t - c] = q ++ [d] := h
    cases q with
    | nil =>
      cases h
      refine ⟨?_, ?_, rfl⟩
      · have s2 : sg ([t].length + 1) = 1 := by unfold sg; rw [if_pos (by simp)]
        rw [s2]
        show 1 * (t - c) = t - 0 - c
        omega
      · show t + 0 = 2 * 0 + (t - c) + c; omega
    | cons x q => simp at h
  | t :: u :: ts, c, q, d, h => by
    cases q with
    | nil => simp [hv] at h
    | cons x q =>
      have h : (t - c) :: hv (t - c) (u :: ts) = x :: (q ++ [d]) := h
      injection h with h1 h2
      obtain ⟨a, b, f⟩ := hv_last (u :: ts) (t - c) q d h2
      rw [List.length_cons, sg_succ]
      have e1 : sA (t :: u :: ts) = t - sA (u :: ts) := rfl
      have e2 : sS (t :: u :: ts) = t + sS (u :: ts) := rfl
      have e4 : sS (x :: q) = x + sS q := rfl
      rw [Int.neg_mul]
      refine ⟨by omega, by omega, by rw [f]; rfl⟩
/-- times 1 + z -/
def mz : Int → List Int → List Int
  | c, [] => [c]
  | c, t :: ts => (t + c) :: mz t ts
theorem mz_len : ∀ (c : Int) (ts : List Int), (mz c ts).length = ts.length + 1
  | _, [] => rfl
  | c, t :: ts => by simp only [mz, List.length_cons, mz_len]
theorem hv_mz : ∀ (c : Int) (ts : List Int), hv c (mz c ts) = ts ++ [0]
  | c, [] => by simp [mz, hv]
  | c, t :: ts => by
    have : t + c - c = t := by omega
    simp only [mz, hv, this, List.cons_append, hv_mz t ts]
theorem sS_mz : ∀ (c : Int) (ts : List Int), sS (mz c ts) = 2 * sS ts + c
  | c, [] => by simp [mz, sS]
  | c, t :: ts => by
    simp only [mz, sS, sS_mz t ts]
    omega
theorem sA_mz : ∀ (c : Int) (ts : List Int), sA (mz c ts) = c
  | c, [] => by simp [mz, sA]
  | c, t :: ts => by
    simp only [mz, sA, sA_mz t ts]
    omega
theorem mz_last : ∀ (c : Int) (ts : List Int), (mz c ts).getLast? = (c :: ts).getLast?
  | c, [] => rfl
  | c, t :: ts => by
    have h := mz_last t ts
    rw [List.getLast?_cons_cons, ← h]
    show ((t + c) :: mz t ts).getLast? = _
    cases e : mz t ts with
    | nil =>
      have := mz_len t ts
      rw [e] at this
      simp at this
    | cons x r => rw [List.getLast?_cons_cons]
/-! ### products -/
/-- c times b, laid on m from place i on -/
def addAt (c : Int) : List Int → Nat → List Int → List Int
  | b, _, [] => []
  | b, i + 1, x :: m => x :: addAt c b i m
  | [], 0, m => m
  | y :: b, 0, x :: m => (x + c * y) :: addAt c b 0 m
def accP (b : List Int) : Nat → List Int → List Int → List Int
  | _, [], m => m
  | i, a :: as, m => accP b (i + 1) as (addAt a b i m)
def pr (a b : List Int) : List Int := accP b 0 a (zs (a.length + b.length - 1))
theorem addAt_nil (c : Int) : ∀ (i : Nat) (m : List Int), addAt c [] i m = m
  | 0, [] => rfl
  | 0, x :: m => rfl
  | i + 1, [] => rfl
  | i + 1, x :: m => by rw [addAt, addAt_nil c i m]
theorem addAt_len (c : Int) : ∀ (b : List Int) (i : Nat) (m : List Int), (addAt c b i m).length = m.length
  | b, i, [] => by simp [addAt]
  | b, i + 1, x :: m => by simp only [addAt, List.length_cons, addAt_len c b i m]
  | [], 0, x :: m => rfl
  | y :: b, 0, x :: m => by simp only [addAt, List.length_cons, addAt_len c b 0 m]
theorem addAt_zero : ∀ (b : List Int) (i : Nat) (m : List Int), addAt 0 b i m = m
  | b, i, [] => by simp [addAt]
  | b, i + 1, x :: m => by rw [addAt, addAt_zero b i m]
  | [], 0, x :: m => rfl
  | y :: b, 0, x :: m => by rw [addAt, addAt_zero b 0 m, Int.zero_mul, Int.add_zero]
theorem accP_len (b : List Int) : ∀ (a : List Int) (i : Nat) (m : List Int), (accP b i a m).length = m.length
  | [], i, m => rfl
  | x :: a, i, m => by rw [accP, accP_len b a, addAt_len]
theorem pr_len (a b : List Int) : (pr a b).length = a.length + b.length - 1 := by
  unfold pr
  rw [accP_len]
  unfold zs
  simp
theorem addAt_map (g h c : Int) : ∀ (b : List Int) (i : Nat) (m : List Int), addAt (g * c) (b.map (h * ·)) i (m.map (g * h * ·)) = (addAt c b i m).map (g * h * ·)
  | b, i, [] => by simp [addAt]
  | b, i + 1, x :: m => by simp only [List.map_cons, addAt, addAt_map g h c b i m]
  | [], 0, x :: m => rfl
  | y :: b, 0, x :: m => by
    simp only [List.map_cons, addAt, addAt_map g h c b 0 m]
    congr 1
    rw [Int.mul_add]
    congr 1
    rw [Int.mul_assoc, Int.mul_left_comm c h y, ← Int.mul_assoc]
theorem accP_map (g h : Int) (b : List Int) : ∀ (a : List Int) (i : Nat) (m : List Int), accP (b.map (h * ·)) i (a.map (g * ·)) (m.map (g * h * ·)) = (accP b i a m).map (g * h * ·)
  | [], i, m => rfl
  | x :: a, i, m => by
    rw [List.map_cons, accP, accP, addAt_map, accP_map g h b a]
theorem zs_map (g : Int) (n : Nat) : (zs n).map (g * ·) = zs n := by
  unfold zs
  rw [List.map_replicate, Int.mul_zero]
theorem pr_map (g h : Int) (a b : List Int) : pr (a.map (g * ·)) (b.map (h * ·)) = (pr a b).map (g * h * ·) := by
  unfold pr
  rw [List.length_map, List.length_map, ← accP_map, zs_map]
theorem addAt_S (c : Int) : ∀ (b : List Int) (i : Nat) (m : List Int), i + b.length ≤ m.length → sS (addAt c b i m) = sS m + c * sS b
  | [], i, m, h => by rw [addAt_nil]; simp [sS]
  | y :: b, i, [], h => by simp at h
  | y :: b, i + 1, x :: m, h => by
    simp only [List.length_cons] at h
    simp only [addAt, sS]
    rw [addAt_S c (y :: b) i m (by simp only [List.length_cons]; omega)]
    simp only [sS]
    omega
  | y :: b, 0, x :: m, h => by
    simp only [List.length_cons] at h
    simp only [addAt, sS]
    rw [addAt_S c b 0 m (by omega), Int.mul_add]
    omega
theorem addAt_A (c : Int) : ∀ (b : List Int) (i : Nat) (m : List Int), i + b.length ≤ m.length → sA (addAt c b i m) = sA m + sg i * (c * sA b)
  | [], i, m, h => by rw [addAt_nil]; simp [sA]
  | y :: b, i, [], h => by simp at h
  | y :: b, i + 1, x :: m, h => by
    simp only [List.length_cons] at h
    rw [sg_succ, Int.neg_mul]
    simp only [addAt, sA]
    rw [addAt_A c (y :: b) i m (by simp only [List.length_cons]; omega)]
    simp only [sA]
    omega
  | y :: b, 0, x :: m, h => by
    simp only [List.length_cons] at h
    have s0 : sg 0 = 1 := rfl
    have := addAt_A c b 0 m (by omega)
    simp only [addAt, sA]
    rw [this, s0, Int.one_mul, Int.one_mul, Int.mul_sub]
    omega
theorem accP_S (b : List Int) : ∀ (a : List Int) (i : Nat) (m : List Int), i + a.length + b.length ≤ m.length + 1 → sS (accP b i a m) = sS m + sS a * sS b
  | [], i, m, h => by simp [accP, sS]
  | x :: a, i, m, h => by
    simp only [List.length_cons] at h
    rw [accP, accP_S b a (i + 1) _ (by rw [addAt_len]; omega), addAt_S x b i m (by omega)]
    simp only [sS]
    rw [Int.add_mul]
    omega
theorem accP_A (b : List Int) : ∀ (a : List Int) (i : Nat) (m : List Int), i + a.length + b.length ≤ m.length + 1 → sA (accP b i a m) = sA m + sg i * (sA a * sA b)
  | [], i, m, h => by simp [accP, sA]
  | x :: a, i, m, h => by
    simp only [List.length_cons] at h
    rw [accP, accP_A b a (i + 1) _ (by rw [addAt_len]; omega), addAt_A x b i m (by omega), sg_succ, Int.neg_mul]
    simp only [sA]
    rw [Int.sub_mul, Int.mul_sub]
    omega
theorem pr_S {a b : List Int} (ha : a ≠ []) : sS (pr a b) = sS a * sS b := by
  have : 0 < a.length := List.length_pos_iff.mpr ha
  unfold pr
  rw [accP_S b a 0 _ (by unfold zs; simp; omega), sS_zs]
  omega
theorem pr_A {a b : List Int} (ha : a ≠ []) : sA (pr a b) = sA a * sA b := by
  have : 0 < a.length := List.length_pos_iff.mpr ha
  unfold pr
  rw [accP_A b a 0 _ (by unfold zs; simp; omega), sA_zs]
  have s0 : sg 0 = 1 := rfl
  rw [s0]
  omega
/-- places -/
theorem addAt_get (c : Int) : ∀ (b : List Int) (i : Nat) (m : List Int) (n : Nat), (n < i ∨ i + b.length ≤ n) → (addAt c b i m)[n]? = m[n]?
  | b, i, [], n, h => by simp [addAt]
  | b, i + 1, x :: m, 0, h => by simp [addAt]
  | b, i + 1, x :: m, n + 1, h => by
    simp only [addAt, List.getElem?_cons_succ]
    exact addAt_get c b i m n (by omega)
  | [], 0, x :: m, n, h => rfl
  | y :: b, 0, x :: m, 0, h => by simp at h
  | y :: b, 0, x :: m, n + 1, h => by
    simp only [List.length_cons] at h
    simp only [addAt, List.getElem?_cons_succ]
    exact addAt_get c b 0 m n (by omega)
theorem addAt_at (c : Int) : ∀ (b : List Int) (i : Nat) (m : List Int) (k : Nat) (x y : Int), m[i + k]? = some x → b[k]? = some y → (addAt c b i m)[i + k]? = some (x + c * y)
  | b, i, [], k, x, y, h, g => by simp at h
  | b, i + 1, z :: m, k, x, y, h, g => by
    rw [Nat.add_right_comm] at h ⊢
    simp only [addAt, List.getElem?_cons_succ] at h ⊢
    exact addAt_at c b i m k x y h g
  | [], 0, z :: m, k, x, y, h, g => by simp at g
  | u :: b, 0, z :: m, 0, x, y, h, g => by
    simp at h g
    subst h g
    simp [addAt]
  | u :: b, 0, z :: m, k + 1, x, y, h, g => by
    rw [Nat.zero_add] at h ⊢
    simp only [addAt, List.getElem?_cons_succ] at h g ⊢
    have := addAt_at c b 0 m k x y (by rw [Nat.zero_add]; exact h) g
    rw [Nat.zero_add] at this
    exact this
theorem accP_low (b : List Int) : ∀ (a : List Int) (i : Nat) (m : List Int) (n : Nat), n < i → (accP b i a m)[n]? = m[n]?
  | [], i, m, n, h => rfl
  | x :: a, i, m, n, h => by
    rw [accP, accP_low b a (i + 1) _ n (by omega), addAt_get x b i m n (.inl h)]
theorem accP_last (b : List Int) (hb : b ≠ []) {y : Int} (hy : b.getLast? = some y) : ∀ (a : List Int) (i : Nat) (m : List Int) (x z : Int), i + a.length + b.length ≤ m.length + 1 → a.getLast? = some x → m[i + a.length + b.length - 2]? = some z → (accP b i a m)[i + a.length + b.length - 2]? = some (z + x * y)
  | [], i, m, x, z, h, g, e => by simp at g
  | [a], i, m, x, z, h, g, e => by
    simp at g
    subst g
    have lb : 0 < b.length := List.length_pos_iff.mpr hb
    have ix : i + [a].length + b.length - 2 = i + (b.length - 1) := by simp; omega
    rw [ix] at e ⊢
    show (addAt a b i m)[i + (b.length - 1)]? = _
    exact addAt_at a b i m _ z y e (by rw [← List.getLast?_eq_getElem?]; exact hy)
  | a :: a2 :: as, i, m, x, z, h, g, e => by
    have lb : 0 < b.length := List.length_pos_iff.mpr hb
    rw [List.getLast?_cons_cons] at g
    rw [accP]
    have ix : i + (a :: a2 :: as).length + b.length - 2 = (i + 1) + (a2 :: as).length + b.length - 2 := by simp; omega
    rw [ix] at e ⊢
    refine accP_last b hb hy (a2 :: as) (i + 1) _ x z (by rw [addAt_len]; simp at h ⊢; omega) g ?_
    rw [addAt_get a b i m _ (.inr (by simp; omega))]
    exact e
theorem pr_first {a b : List Int} {x y : Int} (hx : a[0]? = some x) (hy : b[0]? = some y) : (pr a b)[0]? = some (x * y) := by
  cases a with
  | nil => simp at hx
  | cons x' a =>
    cases b with
    | nil => simp at hy
    | cons y' b =>
      simp at hx hy
      subst hx hy
      unfold pr
      rw [accP, accP_low _ _ _ _ 0 (by omega)]
      have := addAt_at x' (y' :: b) 0 (zs ((x' :: a).length + (y' :: b).length - 1)) 0 0 y' (by unfold zs; rw [List.getElem?_replicate, if_pos (by simp only [List.length_cons]; omega)]) (by simp)
      rw [Nat.zero_add, Int.zero_add] at this
      exact this
theorem pr_last {a b : List Int} {x y : Int} (hx : a.getLast? = some x) (hy : b.getLast? = some y) : (pr a b).getLast? = some (x * y) := by
  have ha : a ≠ [] := fun z => by rw [z] at hx; simp at hx
  have hb : b ≠ [] := fun z => by rw [z] at hy; simp at hy
  have la : 0 < a.length := List.length_pos_iff.mpr ha
  have lb : 0 < b.length := List.length_pos_iff.mpr hb
  rw [List.getLast?_eq_getElem?, pr_len]
  have := accP_last b hb hy a 0 (zs (a.length + b.length - 1)) x 0 (by unfold zs; simp; omega) hx (by unfold zs; rw [List.getElem?_replicate, if_pos (by omega)])
  rw [Int.zero_add] at this
  unfold pr
  rw [show a.length + b.length - 1 - 1 = 0 + a.length + b.length - 2 by omega]
  exact this
/-- times [1, 1] -/
theorem accP_mz : ∀ (a : List Int) (p : List Int) (c : Int), accP [1, 1] p.length a (p ++ c :: zs a.length) = p ++ mz c a
  | [], p, c => by simp [accP, mz, zs]
  | x :: a, p, c => by
    have h : ∀ (p : List Int), addAt x [1, 1] p.length (p ++ c :: zs (x :: a).length) = (p ++ [x + c]) ++ x :: zs a.length := by
      intro p
      induction p with
      | nil =>
        show addAt x [1, 1] 0 (c :: 0 :: zs a.length) = _
        rw [addAt, addAt, addAt_nil]
        simp only [List.nil_append, List.cons_append, Int.mul_one, Int.zero_add, Int.add_comm c x]
      | cons y p ih =>
        rw [List.length_cons, List.cons_append, addAt, ih]
        rfl
    rw [accP, h p]
    have := accP_mz a (p ++ [x + c]) x
    rw [List.length_append] at this
    rw [show p.length + 1 = p.length + [x + c].length from rfl, this, mz, List.append_assoc]
    rfl
theorem pr_mz (a : List Int) : pr a [1, 1] = mz 0 a := by
  have := accP_mz a [] 0
  unfold pr
  exact this
end EV
set_option maxRecDepth 100000
/-! K06_B: fractions: lowest terms, as the law and as the program reckon them. -/
namespace EV
open PySem
/-! ### helpers -/
theorem bin_ok {g : D → D → Option D} {fa fb : FE} {ε ε1 ε2 : Env} {x y z : D} (h1 : fa ε = .ok x ε1) (h2 : fb ε1 = .ok y ε2) (h3 : g x y = some z) : bin g fa fb ε = .ok z ε2 := by simp [bin, h1, h2, h3]
theorem a0_ok {ε : Env} : aNil ε = .ok [] ε := rfl
theorem ac_ok {fa : FE} {fr : FA} {ε ε1 ε2 : Env} {x : D} {xs : List D} (h1 : fa ε = .ok x ε1) (h2 : fr ε1 = .ok xs ε2) : aCons fa fr ε = .ok (x :: xs) ε2 := by simp [aCons, h1, h2]
theorem a1_ok {fa : FE} {ε ε1 : Env} {x : D} (h1 : fa ε = .ok x ε1) : aCons fa aNil ε = .ok [x] ε1 := by simp [aCons, aNil, h1]
theorem call_ok {m : List D → FR} {fr : FA} {ε ε1 : Env} {xs : List D} {d : D} (h1 : fr ε = .ok xs ε1) (h2 : m xs = .ret d) : EV.call m fr ε = .ok d ε1 := by simp [EV.call, h1, h2, FR.toE]
theorem call_rto {m : List D → FR} {fr : FA} {ε ε1 : Env} {xs ys : List D} (h1 : fr ε = .ok xs ε1) (h2 : m xs = .rto (.l ys)) : EV.call m fr ε = .ok (.lst ys) ε1 := by simp [EV.call, h1, h2, FR.toE, O.toD?]
theorem call_rse {m : List D → FR} {fr : FA} {ε ε1 : Env} {xs fs : List D} {c : Nat} (h1 : fr ε = .ok xs ε1) (h2 : m xs = .rse c fs) : EV.call m fr ε = .ex c fs ε1 := by simp [EV.call, h1, h2, FR.toE]
theorem frz_ok {f : FO} {ε ε1 : Env} {ys : List D} (h1 : f ε = .ok (.l ys) ε1) : frz f ε = .ok (.lst ys) ε1 := by simp [frz, h1, O.toD?]
theorem tB_ok {fa : FE} {ε ε1 : Env} {b : Bool} (h1 : fa ε = .ok (.bl b) ε1) : tB fa ε = .ok b ε1 := by simp [tB, h1]
theorem tT_ok {fa : FE} {ε ε1 : Env} {x : D} {b : Bool} (h1 : fa ε = .ok x ε1) (h2 : tru x = some b) : tT fa ε = .ok b ε1 := by simp [tT, h1, h2]
theorem asg_ok {i : Nat} {fa : FE} {ε ε1 : Env} {d : D} (h1 : fa ε = .ok d ε1) : asg (gN i) fa ε = .ok .nx (ε1.set i (.sh d)) := by simp [asg, h1, gN]
theorem asgO_ok {i : Nat} {fo : FO} {ε ε1 : Env} {o : O} (h1 : fo ε = .ok o ε1) : asgO i fo ε = .ok .nx (ε1.set i (.ow none o)) := by simp [asgO, h1]
theorem ret_ok {fa : FE} {ε ε1 : Env} {d : D} (h1 : fa ε = .ok d ε1) : EV.ret fa ε = .ok (.rt d) ε1 := by simp [EV.ret, h1]
theorem bi_ok {g : List D → Option D} {fr : FA} {ε ε1 : Env} {xs : List D} {z : D} (h1 : fr ε = .ok xs ε1) (h2 : g xs = some z) : bi g fr ε = .ok z ε1 := by simp [bi, h1, h2]
theorem if_t {t : FT} {a b : FS} {ε ε1 : Env} (h : t ε = .ok true ε1) : EV.ifS t a b ε = a ε1 := by simp [EV.ifS, h]
theorem if_f {t : FT} {a b : FS} {ε ε1 : Env} (h : t ε = .ok false ε1) : EV.ifS t a b ε = b ε1 := by simp [EV.ifS, h]
theorem or_f {s t : FT} {ε ε1 ε2 : Env} {b : Bool} (h1 : s ε = .ok false ε1) (h2 : t ε1 = .ok b ε2) : tOr s t ε = .ok b ε2 := by simp [tOr, h1, h2]
theorem or_t {s t : FT} {ε ε1 : Env} (h1 : s ε = .ok true ε1) : tOr s t ε = .ok true ε1 := by simp [tOr, h1]
theorem and_t {s t : FT} {ε ε1 ε2 : Env} {b : Bool} (h1 : s ε = .ok true ε1) (h2 : t ε1 = .ok b ε2) : tAnd s t ε = .ok b ε2 := by simp [tAnd, h1, h2]
theorem and_f {s t : FT} {ε ε1 : Env} (h1 : s ε = .ok false ε1) : tAnd s t ε = .ok false ε1 := by simp [tAnd, h1]
theorem not_ok {s : FT} {ε ε1 : Env} {b : Bool} (h1 : s ε = .ok b ε1) : tNot s ε = .ok (!b) ε1 := by simp [tNot, h1]
theorem lc_map {own : List Nat} {fi : FA} {h : FG} {fe : FE} {ε ε1 : Env} {items : List D} {f : D → D} (hi : fi ε = .ok items ε1) (hl : items.length ≤ 1000000)
    (hb : ∀ x ∈ items, ∃ ε2 ε3, h x (wipeE ε1 own) = some ε2 ∧ fe ε2 = .ok (f x) ε3 ∧ wipeE ε3 own = wipeE ε1 own) : EV.lc own fi h EV.tYes fe ε = .ok (.l (items.map f)) (backE ε1 (wipeE ε1 own) own) :=
  lc_ok hi hl (lcL_map fun x hx => by
    obtain ⟨ε2, ε3, h1, h2, h3⟩ := hb x hx
    exact ⟨ε2, ε2, ε3, h1, rfl, h2, h3⟩)
/-- a comprehension over inL made of an index set -/
theorem lc_of {α : Type} {own : List Nat} {fi : FA} {h : FG} {fe : FE} {ε ε1 : Env} {as : List α} {u v : α → D} (hi : fi ε = .ok (as.map u) ε1) (hl : as.length ≤ 1000000)
    (hb : ∀ a ∈ as, ∃ ε2 ε3, h (u a) (wipeE ε1 own) = some ε2 ∧ fe ε2 = .ok (v a) ε3 ∧ wipeE ε3 own = wipeE ε1 own) : EV.lc own fi h EV.tYes fe ε = .ok (.l (as.map v)) (backE ε1 (wipeE ε1 own) own) := by
  refine lc_ok hi (by simpa using hl) ?_
  have : ∀ bs : List α, (∀ a ∈ bs, ∃ ε2 ε3, h (u a) (wipeE ε1 own) = some ε2 ∧ fe ε2 = .ok (v a) ε3 ∧ wipeE ε3 own = wipeE ε1 own) → lcL own h EV.tYes fe (bs.map u) (wipeE ε1 own) = .ok (bs.map v) (wipeE ε1 own) := by
    intro bs
    induction bs with
    | nil => intro _; rfl
    | cons b bs ih =>
      intro hb
      obtain ⟨ε2, ε3, h1, h2, h3⟩ := hb b (by simp)
      simp only [List.map_cons]
      unfold lcL
      rw [h1, of_some]
      show (R.ok true ε2).bindB _ = _
      rw [bindB_ok', if_pos rfl, h2, bindB_ok', h3, ih fun a ha => hb a (List.mem_cons_of_mem _ ha)]
      rfl
  exact this as hb
/-! ### lowest terms -/
def gg (x l : Int) : Int := (Nat.gcd x.natAbs l.natAbs : Nat)
def tp (x l : Int) : Int := x / gg x l
def bt (x l : Int) : Int := l / gg x l
abbrev rt (x l : Int) : D := .ins 0 [.int (tp x l), .int (bt x l)]
abbrev pp (x l : Int) : D := .tup [.int (tp x l), .int (bt x l)]
def Sm (x : Int) : Prop := x.natAbs < 2 ^ 1000
theorem gg_pos {x l : Int} (h : 0 < l) : 0 < gg x l := by
  unfold gg
  have : 0 < Nat.gcd x.natAbs l.natAbs := Nat.gcd_pos_of_pos_right _ (by omega)
  omega
theorem gg_l (x l : Int) : gg x l ∣ x := Int.gcd_dvd_left x l
theorem gg_r (x l : Int) : gg x l ∣ l := Int.gcd_dvd_right x l
theorem tp_mul (x l : Int) : tp x l * gg x l = x := Int.ediv_mul_cancel (gg_l x l)
theorem bt_mul (x l : Int) : bt x l * gg x l = l := Int.ediv_mul_cancel (gg_r x l)
theorem bt_pos {x l : Int} (h : 0 < l) : 0 < bt x l := by
  have h1 := bt_mul x l
  have h2 := gg_pos (x := x) h
  rcases Int.lt_or_le 0 (bt x l) with h3 | h3
  · exact h3
  · have := Int.mul_nonpos_of_nonpos_of_nonneg h3 (Int.le_of_lt h2)
    omega
theorem gg_scale (g x l : Int) : gg (g * x) (g * l) = g.natAbs * gg x l := by
  have := Int.gcd_mul_left g x l
  unfold gg
  show ((Int.gcd (g * x) (g * l) : Nat) : Int) = _
  rw [this, Int.natCast_mul]
  rfl
theorem tp_scale {g x l : Int} (hg : 0 < g) (hl : 0 < l) : tp (g * x) (g * l) = tp x l ∧ bt (g * x) (g * l) = bt x l := by
  have e : (g.natAbs : Int) = g := by omega
  unfold tp bt
  rw [gg_scale, e]
  exact ⟨Int.mul_ediv_mul_of_pos x (gg x l) hg, Int.mul_ediv_mul_of_pos l (gg x l) hg⟩
theorem gg_low {x l : Int} (h : 0 < l) : gg (tp x l) (bt x l) = 1 := by
  have h1 := gg_scale (gg x l) (tp x l) (bt x l)
  have h2 := gg_pos (x := x) h
  rw [Int.mul_comm, tp_mul, Int.mul_comm, bt_mul] at h1
  have e : ((gg x l).natAbs : Int) = gg x l := by omega
  rw [e] at h1
  have h3 : gg x l * 1 = gg x l * gg (tp x l) (bt x l) := by rw [Int.mul_one]; exact h1
  exact (Int.eq_of_mul_eq_mul_left (by omega) h3).symm
theorem low_low {x l : Int} (h : 0 < l) : tp (tp x l) (bt x l) = tp x l ∧ bt (tp x l) (bt x l) = bt x l := by
  have e := gg_low (x := x) h
  constructor
  · show tp x l / gg (tp x l) (bt x l) = _
    rw [e, Int.ediv_one]
  · show bt x l / gg (tp x l) (bt x l) = _
    rw [e, Int.ediv_one]
theorem sm_mul_le {a b : Int} (hb : 0 < b) (h : Sm (a * b)) : Sm a := by
  unfold Sm at *
  rw [Int.natAbs_mul] at h
  have : a.natAbs * 1 ≤ a.natAbs * b.natAbs := Nat.mul_le_mul_left _ (by omega)
  omega
theorem sm_tp {x l : Int} (hl : 0 < l) (h : Sm x) : Sm (tp x l) := sm_mul_le (gg_pos (x := x) hl) (by rw [tp_mul]; exact h)
theorem sm_bt {x l : Int} (hl : 0 < l) (h : Sm l) : Sm (bt x l) := sm_mul_le (gg_pos (x := x) hl) (by rw [bt_mul]; exact h)
theorem sm_gg {x l : Int} (hl : 0 < l) (h : Sm l) : Sm (gg x l) := sm_mul_le (bt_pos (x := x) hl) (by rw [Int.mul_comm, bt_mul]; exact h)
theorem sm_log {x : Int} (h : Sm x) : x.natAbs.log2 ≤ 1000 := by
  unfold Sm at h
  by_cases hz : x.natAbs = 0
  · rw [hz, Nat.log2_zero]
    omega
  · have := (Nat.log2_lt hz).mpr h
    omega
theorem sm_bits {x : Int} (h : Sm x) : bits x ≤ 1001 := by
  unfold bits
  have := sm_log h
  omega
theorem dDiv_pos {x g : Int} (h : 0 < g) (hs : Sm g) : dDiv (.int x) (.int g) = some (.int (x / g)) := by
  have h1 := sm_log hs
  show (if g ≠ 0 ∧ g.natAbs.log2 < 9000 then some (D.int (x.fdiv g)) else none) = _
  rw [if_pos ⟨by omega, by omega⟩, Int.fdiv_eq_ediv_of_nonneg _ (by omega)]
theorem dMod_nat {a b : Nat} (h : b ≠ 0) : dMod (.int a) (.int b) = some (.int ((a % b : Nat) : Int)) := by
  show (if (b : Int) ≠ 0 then some (D.int ((a : Int).fmod b)) else none) = _
  rw [if_pos (by omega), Int.fmod_eq_emod_of_nonneg _ (by omega)]
  rfl
noncomputable abbrev eucB : FS := (EV.seq (EV.ifS (tB (bin dEq (nm 3) (cC (.int 0))))
  sBr
  sNx)
  (EV.seq (asg (gN 5) (bin dMod (bi bInt (aCons (nm 2) aNil)) (nm 3)))
  (EV.seq (asg (gN 2) (nm 3))
  (asg (gN 3) (nm 5)))))
theorem euc_stop {h l s4 s5 : Slot} {a : Int} {x : D} {its : List D} : forL (gN 4) eucB (x :: its) [h, l, .sh (.int a), .sh (.int 0), s4, s5] = .ok .nx [h, l, .sh (.int a), .sh (.int 0), .sh x, s5] := by
  simp [forL, gN, EV.seq, EV.ifS, tB, bin, nm, cC, sBr]
theorem euc_go {h l s4 s5 : Slot} {a b : Nat} {x : D} {its : List D} (hb : b ≠ 0) : forL (gN 4) eucB (x :: its) [h, l, .sh (.int a), .sh (.int b), s4, s5] = forL (gN 4) eucB its [h, l, .sh (.int b), .sh (.int ((a % b : Nat) : Int)), .sh x, .sh (.int ((a % b : Nat) : Int))] := by
  have h0 : ((b : Int) == 0) = false := by simpa using hb
  simp [forL, gN, EV.seq, EV.ifS, tB, bin, nm, cC, sNx, h0, asg, bi, bInt, aCons, aNil, dMod_nat hb]
theorem euc {h l : Slot} : ∀ (n a b : Nat) (s4 s5 : Slot) (its : List D), b < 2 ^ n → 2 * n + 1 ≤ its.length → ∃ s4' s5', forL (gN 4) eucB its [h, l, .sh (.int a), .sh (.int b), s4, s5] = .ok .nx [h, l, .sh (.int ((Nat.gcd a b : Nat) : Int)), .sh (.int 0), s4', s5']
  | 0, a, b, s4, s5, its, hb, hl => by
    have : b = 0 := by simpa using hb
    subst this
    cases its with
    | nil => simp at hl
    | cons x its => exact ⟨.sh x, s5, by rw [Nat.gcd_zero_right]; exact euc_stop⟩
  | n + 1, a, b, s4, s5, its, hb, hl => by
    cases its with
    | nil => simp at hl
    | cons x its =>
      by_cases h0 : b = 0
      · subst h0
        exact ⟨.sh x, s5, by rw [Nat.gcd_zero_right]; exact euc_stop⟩
      · rw [euc_go h0]
        have e1 : Nat.gcd a b = Nat.gcd b (a % b) := by rw [Nat.gcd_comm, Nat.gcd_rec, Nat.gcd_comm]
        cases its with
        | nil => simp at hl
        | cons y its =>
          by_cases h1 : a % b = 0
          · rw [e1, h1, Nat.gcd_zero_right]
            exact ⟨_, _, euc_stop⟩
          · rw [euc_go h1]
            have e2 : Nat.gcd b (a % b) = Nat.gcd (a % b) (b % (a % b)) := by rw [Nat.gcd_comm, Nat.gcd_rec, Nat.gcd_comm]
            rw [e1, e2]
            have l1 : a % b < b := Nat.mod_lt _ (by omega)
            have l2 : b % (a % b) < a % b := Nat.mod_lt _ (by omega)
            have l3 := Nat.mod_add_div b (a % b)
            have l4 : 1 ≤ b / (a % b) := Nat.div_pos (by omega) (by omega)
            have l5 : a % b ≤ (a % b) * (b / (a % b)) := Nat.le_mul_of_pos_right _ l4
            have l6 : 2 ^ (n + 1) = 2 ^ n * 2 := Nat.pow_succ 2 n
            exact euc n _ _ _ _ its (by omega) (by simp only [List.length_cons] at hl; omega)
theorem rngL_len : ∀ (n : Nat) (lo : Int), (rngL lo n).length = n
  | 0, lo => rfl
  | n + 1, lo => by simp only [rngL, List.length_cons, rngL_len]
theorem lt_intBits (l : Int) : l.natAbs < 2 ^ Builtin.Int.intBits l := by
  have := lt_bits l
  unfold Builtin.Int.intBits
  unfold bits at this
  split
  · rename_i h
    have : l.natAbs = 0 := by simpa using h
    rw [this]
    decide
  · exact this
theorem abs_ok (h : Int) : bAbs [.int h] = some (.int (h.natAbs : Int)) := by
  have : (if h < 0 then -h else h) = (h.natAbs : Int) := by split <;> omega
  simp [bAbs, this]
theorem lowest_ok {x l : Int} (hl : 0 < l) (sl : Sm l) : m__law_lowest [.int x, .int l] = .ret (pp x l) := by
  have e1 : (asg (gN 2) (bi bAbs (aCons (nm 0) aNil))) [.sh (.int x), .sh (.int l), .no, .no, .no, .no] = .ok .nx [.sh (.int x), .sh (.int l), .sh (.int (x.natAbs : Int)), .no, .no, .no] := by
    simp [asg, gN, bi, aCons, aNil, nm, abs_ok]
  have e2 : (asg (gN 3) (bi bAbs (aCons (nm 1) aNil))) [.sh (.int x), .sh (.int l), .sh (.int (x.natAbs : Int)), .no, .no, .no] = .ok .nx [.sh (.int x), .sh (.int l), .sh (.int (x.natAbs : Int)), .sh (.int (l.natAbs : Int)), .no, .no] := by
    simp [asg, gN, bi, aCons, aNil, nm, abs_ok]
  have ib : Builtin.Int.intBits ((l.natAbs : Nat) : Int) ≤ 1001 := Nat.le_trans (intBits_le _) (sm_bits (by unfold Sm at *; simpa using sl))
  have m1 : dMul (.int 2) (.int ((Builtin.Int.intBits ((l.natAbs : Nat) : Int) : Nat) : Int)) = some (.int (2 * (Builtin.Int.intBits ((l.natAbs : Nat) : Int) : Nat))) := mul_ok (by
    have b2 : bits 2 = 2 := by decide +kernel
    have : ((Builtin.Int.intBits ((l.natAbs : Nat) : Int) : Nat) : Int).natAbs < 2 ^ 10 := by
      rw [Int.natAbs_natCast]
      exact Nat.lt_of_le_of_lt ib (by decide)
    have := bits_small this
    omega)
  have r : (EV.iRng1 (aCons (bin dAdd (bin dMul (cC (.int 2)) (un bBits (nm 3))) (cC (.int 2))) aNil)) [.sh (.int x), .sh (.int l), .sh (.int (x.natAbs : Int)), .sh (.int (l.natAbs : Int)), .no, .no] =
      .ok (rngL 0 (2 * ((Builtin.Int.intBits ((l.natAbs : Nat) : Int) : Nat) : Int) + 2).toNat) [.sh (.int x), .sh (.int l), .sh (.int (x.natAbs : Int)), .sh (.int (l.natAbs : Int)), .no, .no] := by
    refine rng1_ok ?_ (by omega) (by omega)
    simp only [aCons, bin, cC, un, nm, bBits, aNil, bind_ok, of_some, List.getElem?_cons_succ, List.getElem?_cons_zero, m1]
    rfl
  obtain ⟨s4, s5, e3⟩ := euc (h := .sh (.int x)) (l := .sh (.int l)) (Builtin.Int.intBits ((l.natAbs : Nat) : Int)) x.natAbs l.natAbs .no .no (rngL 0 (2 * ((Builtin.Int.intBits ((l.natAbs : Nat) : Int) : Nat) : Int) + 2).toNat)
    (by have := lt_intBits ((l.natAbs : Nat) : Int); rwa [Int.natAbs_natCast] at this) (by rw [rngL_len]; omega)
  have e4 : (EV.forS (EV.iRng1 (aCons (bin dAdd (bin dMul (cC (.int 2)) (un bBits (nm 3))) (cC (.int 2))) aNil)) (gN 4) eucB) [.sh (.int x), .sh (.int l), .sh (.int (x.natAbs : Int)), .sh (.int (l.natAbs : Int)), .no, .no] =
      .ok .nx [.sh (.int x), .sh (.int l), .sh (.int (gg x l)), .sh (.int 0), s4, s5] := by
    unfold EV.forS
    rw [r, bind_ok, e3]
    rfl
  have h0 : decide (l < 0) = false := decide_eq_false (by omega)
  have e5 : (EV.ifS (tB (bin dLt (nm 1) (cC (.int 0)))) (asg (gN 2) (un dNeg (nm 2))) sNx) [.sh (.int x), .sh (.int l), .sh (.int (gg x l)), .sh (.int 0), s4, s5] = .ok .nx [.sh (.int x), .sh (.int l), .sh (.int (gg x l)), .sh (.int 0), s4, s5] := by
    simp [EV.ifS, tB, bin, nm, cC, dLt, h0, sNx]
  have d1 := dDiv_pos (x := x) (gg_pos (x := x) hl) (sm_gg (x := x) hl sl)
  have d2 := dDiv_pos (x := l) (gg_pos (x := x) hl) (sm_gg (x := x) hl sl)
  have e6 : tupE (aCons (bin dDiv (nm 0) (nm 2)) (aCons (bin dDiv (nm 1) (nm 2)) aNil)) [.sh (.int x), .sh (.int l), .sh (.int (gg x l)), .sh (.int 0), s4, s5] = .ok (pp x l) [.sh (.int x), .sh (.int l), .sh (.int (gg x l)), .sh (.int 0), s4, s5] :=
    tupE_ok (xs := [.int (tp x l), .int (bt x l)]) (ac_ok (bin_ok rfl rfl d1) (a1_ok (bin_ok rfl rfl d2))) (by simp)
  exact fn_ret rfl ((seq_nx e1).trans ((seq_nx e2).trans ((seq_nx e4).trans ((seq_nx e5).trans (ret_ok e6)))))
/-! ### Ratio -/
theorem is_int_ok (h : Int) : m__law_is_int [.int h] = .ret (.bl true) := rfl
theorem is_integer_ok (h : Int) : m_is_integer [.int h] = .ret (.bl true) := rfl
theorem gcd_ok (x l : Int) : bGcd [.int x, .int l] = some (.int (gg x l)) := rfl
theorem init_ok {x l : Int} (hl : 0 < l) (sl : Sm l) : m_Ratio_init (.i 0 []) [.int x, .int l] = .ret .non (.i 0 [("top", .int (tp x l)), ("bottom", .int (bt x l))]) := by
  have d1 := dDiv_pos (x := x) (gg_pos (x := x) hl) (sm_gg (x := x) hl sl)
  have d2 := dDiv_pos (x := l) (gg_pos (x := x) hl) (sm_gg (x := x) hl sl)
  have st1 : b_Ratio_init [.ow (some 0) (.i 0 []), .sh (.int x), .sh (.int l), .no] = .ok .nx [.ow (some 0) (.i 0 [("top", .int (tp x l)), ("bottom", .int (bt x l))]), .sh (.int x), .sh (.int l), .sh (.int (gg x l))] := by
    have e : (Str.ofString "bottom" == Str.ofString "top") = false := by decide +kernel
    have h0 : decide (l < 0) = false := decide_eq_false (by omega)
    have h1 : (l == 0) = false := by
      have : l ≠ 0 := by omega
      simpa using this
    simp [EV.seq, EV.ifS, tOr, tNot, tT, EV.call, aCons, aNil, nm, is_integer_ok, FR.toE, tru, bin, cC, tB, sNx, asg, gN, bi, gcd_ok, dLt, setF, d1, d2, List.lookup, e, h0, h1, tp, bt]
  simp only [m_Ratio_init, fnQ]
  rw [if_pos (by rfl)]
  show (match b_Ratio_init [.ow (some 0) (.i 0 []), .sh (.int x), .sh (.int l), .no] with | .ok (.rt d) ε => outQ d ε | .ok .nx ε => outQ .non ε | .ex c fs _ => .rse c fs | _ => .bot) = _
  rw [st1]
  rfl
theorem mk_ok {x l : Int} (hl : 0 < l) (sl : Sm l) : mk_Ratio [.int x, .int l] = .ret (rt x l) := by
  simp [mk_Ratio, EV.mk, init_ok hl sl]
abbrev inL (xs : List Int) : List D := xs.map .int
abbrev rts (l : Int) (xs : List Int) : List D := xs.map fun x => rt x l
abbrev pps (l : Int) (xs : List Int) : List D := xs.map fun x => pp x l
theorem ratios_ok {xs : List Int} {l : Int} (h0 : 0 < l) (sl : Sm l) (hl : xs.length ≤ 1000000) : m_ratios [.lst (inL xs), .int l] = .ret (.tup (rts l xs)) := by
  have e1 : (EV.lc [2] (iSeq (nm 0)) (gN 2) EV.tYes (EV.call mk_Ratio (aCons (nm 2) (aCons (nm 1) aNil)))) [.sh (.lst (inL xs)), .sh (.int l), .no] = .ok (.l (rts l xs)) [.sh (.lst (inL xs)), .sh (.int l), .no] := by
    refine (lc_of (fi := (iSeq (nm 0))) (u := .int) (v := fun x => rt x l) (ε1 := [.sh (.lst (inL xs)), .sh (.int l), .no]) (as := xs) rfl hl ?_)
    intro x hx
    refine ⟨[.sh (.lst (inL xs)), .sh (.int l), .sh (.int x)], [.sh (.lst (inL xs)), .sh (.int l), .sh (.int x)], rfl, ?_, rfl⟩
    simp [EV.call, aCons, aNil, nm, mk_ok h0 sl, FR.toE]
  have h5 : b_ratios [.sh (.lst (inL xs)), .sh (.int l), .no] = .ok (.rt (.tup (rts l xs))) [.sh (.lst (inL xs)), .sh (.int l), .no] :=
    ret_ok (bi_ok (a1_ok (frz_ok e1)) rfl)
  exact fn_ret rfl h5
theorem number_ok (x l : Int) : m_number [rt x l] = .ret (rt x l) := rfl
/-! ### pairs -/
theorem shp_pp (x l : Int) : shp (toP (pp x l)) = true := rfl
theorem dNe_pp (x l : Int) : dNe (pp x l) (pp x l) = some (.bl false) := by
  have : PyData.eqv (toP (pp x l)) (toP (pp x l)) = true := by simp [toP, toPs, PyData.eqv, PyData.eqvAll]
  unfold dNe
  rw [if_pos ⟨shp_pp x l, shp_pp x l⟩, this]
  rfl
theorem pair_ok {x l : Int} (hl : 0 < l) (sl : Sm l) : m__law_pair [rt x l] = .ret (pp x l) := by
  have hb := bt_pos (x := x) hl
  have low : m__law_lowest [.int (tp x l), .int (bt x l)] = .ret (pp x l) := by
    rw [lowest_ok hb (sm_bt (x := x) hl sl)]
    show FR.ret (.tup [.int (tp (tp x l) (bt x l)), .int (bt (tp x l) (bt x l))]) = _
    rw [(low_low (x := x) hl).1, (low_low (x := x) hl).2]
  have h1 : decide (bt x l < 1) = false := decide_eq_false (by omega)
  have h5 : b__law_pair [.sh (rt x l), .no, .no] = .ok (.rt (pp x l)) [.sh (rt x l), .sh (.int (tp x l)), .sh (.int (bt x l))] := by
    have e : tupE (aCons (nm 1) (aCons (nm 2) aNil)) [.sh (rt x l), .sh (.int (tp x l)), .sh (.int (bt x l))] = .ok (pp x l) [.sh (rt x l), .sh (.int (tp x l)), .sh (.int (bt x l))] := tupE_ok (xs := [.int (tp x l), .int (bt x l)]) rfl (by simp)
    simp [EV.seq, EV.ifS, tOr, tNot, tT, bi, bIsC, aCons, aNil, nm, tru, sNx, asg, fld, ix_top, ix_bottom, gN, EV.call, is_int_ok, FR.toE, bin, cC, tB, dLt, low, e, dNe_pp, EV.ret, h1]
  exact fn_ret rfl h5
theorem toPs_map : ∀ xs : List D, toPs xs = xs.map toP
  | [] => rfl
  | x :: xs => by rw [toPs, toPs_map xs]; rfl
theorem lay_pps (l : Int) : ∀ xs : List Int, PyData.canLayAll0 (toPs (pps l xs)) = true
  | [] => rfl
  | x :: xs => by
    show (PyData.canLay0 (toP (pp x l)) && PyData.canLayAll0 (toPs (pps l xs))) = true
    rw [lay_pps l xs]
    rfl
theorem dep_pps (l : Int) : ∀ xs : List Int, PyData.depthAll (toPs (pps l xs)) ≤ 1
  | [] => Nat.zero_le _
  | x :: xs => by
    show max (PyData.depth (toP (pp x l))) (PyData.depthAll (toPs (pps l xs))) ≤ 1
    exact Nat.max_le.mpr ⟨Nat.le_refl 1, dep_pps l xs⟩
theorem shp_pps (l : Int) (xs : List Int) : shp (toP (.lst (pps l xs))) = true := by
  show (PyData.canLayAll0 (toPs (pps l xs)) && decide (PyData.depthAll (toPs (pps l xs)) + 1 ≤ 64)) = true
  have := dep_pps l xs
  rw [lay_pps, decide_eq_true (by omega)]
  rfl
theorem none_pps (l : Int) (xs : List Int) : dIn .non (.lst (pps l xs)) = some (.bl false) := by
  have h2 : ((toPs (pps l xs)).any fun z => PyData.eqv z (toP .non)) = false := by
    rw [toPs_map, List.any_eq_false]
    intro z hz
    obtain ⟨d, hd, rfl⟩ := List.mem_map.mp hz
    obtain ⟨h, _, rfl⟩ := List.mem_map.mp hd
    simp [toP, PyData.eqv]
  show (if shp (toP .non) = true ∧ shp (toP (.lst (pps l xs))) = true then some (D.bl ((toPs (pps l xs)).any fun z => PyData.eqv z (toP .non))) else none) = _
  rw [if_pos ⟨rfl, shp_pps l xs⟩, h2]
theorem eqv_pps (l : Int) : ∀ xs : List Int, PyData.eqvAll (toPs (pps l xs)) (toPs (pps l xs)) = true
  | [] => by simp [toPs, PyData.eqvAll]
  | x :: xs => by
    show (PyData.eqv (toP (pp x l)) (toP (pp x l)) && PyData.eqvAll (toPs (pps l xs)) (toPs (pps l xs))) = true
    rw [eqv_pps l xs]
    simp [toP, toPs, PyData.eqv, PyData.eqvAll]
theorem dEq_pps (l : Int) (xs : List Int) : dEq (.lst (pps l xs)) (.lst (pps l xs)) = some (.bl true) := by
  unfold dEq
  rw [if_pos ⟨shp_pps l xs, shp_pps l xs⟩]
  show some (D.bl (PyData.eqvAll (toPs (pps l xs)) (toPs (pps l xs)))) = _
  rw [eqv_pps]
theorem pairs_ok {xs : List Int} {l : Int} (h0 : 0 < l) (sl : Sm l) (hl : xs.length ≤ 1000000) : m__law_pairs [.tup (rts l xs)] = .ret (.lst (pps l xs)) := by
  have e1 : (EV.lc [2] (iSeq (nm 0)) (gN 2) EV.tYes (EV.call m__law_pair (aCons (nm 2) aNil))) [.sh (.tup (rts l xs)), .no, .no] = .ok (.l (pps l xs)) [.sh (.tup (rts l xs)), .no, .no] := by
    refine (lc_of (fi := (iSeq (nm 0))) (u := fun x => rt x l) (v := fun x => pp x l) (ε1 := [.sh (.tup (rts l xs)), .no, .no]) (as := xs) rfl hl ?_)
    intro x hx
    refine ⟨[.sh (.tup (rts l xs)), .no, .sh (rt x l)], [.sh (.tup (rts l xs)), .no, .sh (rt x l)], rfl, ?_, rfl⟩
    simp [EV.call, aCons, aNil, nm, pair_ok h0 sl, FR.toE]
  have h5 : b__law_pairs [.sh (.tup (rts l xs)), .no, .no] = .ok (.rt (.lst (pps l xs))) [.sh (.tup (rts l xs)), .sh (.lst (pps l xs)), .no] := by
    simp [EV.seq, EV.ifS, tNot, tT, bi, bIsTy, isTy, aCons, aNil, nm, tru, sNx, asgO, e1, EV.ret, ifE, tB, bin, cC, none_pps, O.toD?]
  exact fn_ret rfl h5
abbrev plain (xs : List Int) (l : Int) : D := .tup [.lst (inL xs), .int l]
theorem pairs_of_ok {xs : List Int} {l : Int} (h0 : 0 < l) (sl : Sm l) (hl : xs.length ≤ 1000000) : m__law_pairs_of [plain xs l] = .rto (.l (pps l xs)) := by
  have e1 : (EV.lc [1] (iSeq (ixN 0 (cC (.int 0)))) (gN 1) EV.tYes (EV.call m__law_lowest (aCons (nm 1) (aCons (ixN 0 (cC (.int 1))) aNil)))) [.sh (plain xs l), .no] = .ok (.l (pps l xs)) [.sh (plain xs l), .no] := by
    refine (lc_of (fi := (iSeq (ixN 0 (cC (.int 0))))) (u := .int) (v := fun x => pp x l) (ε1 := [.sh (plain xs l), .no]) (as := xs) rfl hl ?_)
    intro x hx
    refine ⟨[.sh (plain xs l), .sh (.int x)], [.sh (plain xs l), .sh (.int x)], rfl, ?_, rfl⟩
    exact call_ok (ac_ok (x := .int x) rfl (a1_ok (x := .int l) rfl)) (lowest_ok h0 sl)
  have h5 : b__law_pairs_of [.sh (plain xs l), .no] = .ok (.ro (.l (pps l xs))) [.sh (plain xs l), .no] := by
    unfold b__law_pairs_of retO
    rw [e1]
    rfl
  exact fn_rto rfl h5
end EV
set_option maxRecDepth 100000
/-! K06_S: slices with steps of rows. -/
namespace EV
open PySem PyProof.Rows
theorem range_fm {α : Type} : ∀ (ys : List α) (f : Nat → Option α), (∀ k, k < ys.length → f k = ys[k]?) → (List.range ys.length).filterMap f = ys
  | [], f, h => rfl
  | y :: ys, f, h => by
    rw [List.length_cons, List.range_succ_eq_map, List.filterMap_cons, h 0 (by simp)]
    simp only [List.getElem?_cons_zero, List.filterMap_map]
    rw [range_fm ys (f ∘ Nat.succ) fun k hk => by
      show f (k + 1) = _
      rw [h (k + 1) (by simp; omega), List.getElem?_cons_succ]]
theorem evs_get : ∀ (xs : List Int) (k : Nat), (evs xs)[k]? = xs[2 * k]?
  | [], k => by simp [evs]
  | [a], 0 => rfl
  | [a], k + 1 => by
    show ([] : List Int)[k]? = _
    rw [show 2 * (k + 1) = (2 * k + 1) + 1 by omega]
    simp
  | a :: b :: r, 0 => rfl
  | a :: b :: r, k + 1 => by
    show (evs r)[k]? = _
    rw [evs_get r k, show 2 * (k + 1) = 2 * k + 1 + 1 by omega]
    rfl
theorem ods_get : ∀ (xs : List Int) (k : Nat), (ods xs)[k]? = xs[2 * k + 1]?
  | [], k => by simp [ods]
  | [a], k => by simp [ods]
  | a :: b :: r, 0 => rfl
  | a :: b :: r, k + 1 => by
    show (ods r)[k]? = _
    rw [ods_get r k, show 2 * (k + 1) + 1 = 2 * k + 1 + 1 + 1 by omega]
    rfl
theorem evs_len : ∀ xs : List Int, (evs xs).length = (xs.length + 1) / 2
  | [] => rfl
  | [a] => by simp [evs]
  | a :: b :: r => by
    show (evs r).length + 1 = _
    rw [evs_len r]
    simp only [List.length_cons]
    omega
theorem ods_len : ∀ xs : List Int, (ods xs).length = xs.length / 2
  | [] => rfl
  | [a] => by simp [ods]
  | a :: b :: r => by
    show (ods r).length + 1 = _
    rw [ods_len r]
    simp only [List.length_cons]
    omega
theorem bnd_ev (n : Nat) : sliceBounds none none (some 2) n = (0, (n : Int), 2) ∧ sliceBounds (some 0) none (some 2) n = (0, (n : Int), 2) := by
  unfold sliceBounds
  simp
  omega
theorem bnd_od (n : Nat) : sliceBounds (some 1) none (some 2) n = (if n = 0 then 0 else 1, (n : Int), 2) := by
  unfold sliceBounds
  simp
  split <;> omega
theorem pick_ev0 (xs : List Int) : (sliceRange 0 (xs.length : Int) 2).filterMap (fun i => xs[i]?) = evs xs := by
  unfold sliceRange
  simp only [show (2 : Int) > 0 by omega, if_true]
  have e : (if (0 : Int) < (xs.length : Int) then ((xs.length : Int) - 0 + 2 - 1) / 2 else 0).toNat = (evs xs).length := by
    rw [evs_len]
    split <;> omega
  rw [e, List.filterMap_map]
  refine range_fm _ _ fun k _ => ?_
  show xs[((0 : Int) + 2 * (k : Int)).toNat]? = _
  rw [evs_get]
  congr 1
  omega
theorem pick_od0 (xs : List Int) : (sliceRange (if xs.length = 0 then 0 else 1) (xs.length : Int) 2).filterMap (fun i => xs[i]?) = ods xs := by
  by_cases h0 : xs.length = 0
  · have : xs = [] := List.length_eq_zero_iff.mp h0
    subst this
    rfl
  · rw [if_neg h0]
    unfold sliceRange
    simp only [show (2 : Int) > 0 by omega, if_true]
    have e : (if (1 : Int) < (xs.length : Int) then ((xs.length : Int) - 1 + 2 - 1) / 2 else 0).toNat = (ods xs).length := by
      rw [ods_len]
      split <;> omega
    rw [e, List.filterMap_map]
    refine range_fm _ _ fun k _ => ?_
    show xs[((1 : Int) + 2 * (k : Int)).toNat]? = _
    rw [ods_get]
    congr 1
    omega
theorem pickL_map {α β : Type} (f : α → β) (xs : List α) (lo hi st : Option Int) : pickL (xs.map f) lo hi st = (pickL xs lo hi st).map f := by
  unfold pickL
  rw [List.length_map, List.map_filterMap]
  congr 1
  funext i
  simp
theorem pick_ev (xs : List Int) : pickL (inL xs) none none (some 2) = inL (evs xs) ∧ pickL (inL xs) (some 0) none (some 2) = inL (evs xs) := by
  unfold inL
  rw [pickL_map, pickL_map]
  unfold pickL
  rw [(bnd_ev _).1, (bnd_ev _).2]
  dsimp only
  rw [pick_ev0]
  exact ⟨rfl, rfl⟩
theorem pick_od (xs : List Int) : pickL (inL xs) (some 1) none (some 2) = inL (ods xs) := by
  unfold inL
  rw [pickL_map]
  unfold pickL
  rw [bnd_od]
  dsimp only
  rw [pick_od0]
theorem pick_rev {α : Type} (xs : List α) (h : xs ≠ []) : pickT xs none none (-1) = xs.reverse := by
  have hl : 0 < xs.length := List.length_pos_iff.mpr h
  unfold pickT
  have e1 : Builtin.Slice.sliceAdjust none none (-1) (xs.length : Int) = ((xs.length : Int) - 1, -1) := by
    unfold Builtin.Slice.sliceAdjust
    simp
  rw [e1]
  dsimp only
  have e2 : Builtin.Slice.slicePlaces ((xs.length : Int) - 1) (-1) (-1) = xs.reverse.length := by
    unfold Builtin.Slice.slicePlaces
    rw [if_neg (by omega), if_pos (by omega), List.length_reverse, show -(-1 : Int) = 1 from rfl, Int.ediv_one]
    omega
  rw [e2]
  refine range_fm _ _ fun k hk => ?_
  rw [List.length_reverse] at hk
  rw [List.getElem?_reverse hk]
  congr 1
  omega
theorem stpE_ok {fa : FE} {fl fh fs : FP} {ε ε1 ε2 ε3 ε4 : Env} {x z : D} {lo hi st : Option Int} (h1 : fa ε = .ok x ε1) (h2 : fl ε1 = .ok lo ε2) (h3 : fh ε2 = .ok hi ε3) (h4 : fs ε3 = .ok st ε4) (h5 : dStp x lo hi st = some z) : stpE fa fl fh fs ε = .ok z ε4 := by simp [stpE, h1, h2, h3, h4, h5]
theorem stp_ev (xs : List Int) : dStp (.lst (inL xs)) none none (some 2) = some (.lst (inL (evs xs))) ∧ dStp (.lst (inL xs)) (some 0) none (some 2) = some (.lst (inL (evs xs))) := by
  constructor
  · show (if (2 : Int) ≠ 0 then some (D.lst (pickL (inL xs) none none (some 2))) else none) = _
    rw [if_pos (by omega), (pick_ev xs).1]
  · show (if (2 : Int) ≠ 0 then some (D.lst (pickL (inL xs) (some 0) none (some 2))) else none) = _
    rw [if_pos (by omega), (pick_ev xs).2]
theorem stp_od (xs : List Int) : dStp (.lst (inL xs)) (some 1) none (some 2) = some (.lst (inL (ods xs))) := by
  show (if (2 : Int) ≠ 0 then some (D.lst (pickL (inL xs) (some 1) none (some 2))) else none) = _
  rw [if_pos (by omega), pick_od]
theorem stp_rev {xs : List D} (h : xs ≠ []) (hl : xs.length ≤ 1000000) : dStp (.tup xs) none none (some (-1)) = some (.tup xs.reverse) := by
  show (if (-1 : Int) ≠ 0 ∧ (-1 : Int) ≠ 1 ∧ (pickT xs none none (-1)).length ≤ line then some (D.tup (pickT xs none none (-1))) else none) = _
  rw [pick_rev xs h, if_pos ⟨by omega, by omega, by rw [List.length_reverse]; exact line_ok hl⟩]
theorem stp_revL {xs : List D} (h : xs ≠ []) : dStp (.lst xs) none none (some (-1)) = some (.lst xs.reverse) := by
  have hl : 0 < xs.length := List.length_pos_iff.mpr h
  have e : pickL xs none none (some (-1)) = xs.reverse := by
    unfold pickL
    have e1 : sliceBounds none none (some (-1)) xs.length = ((xs.length : Int) - 1, -1, -1) := by
      unfold sliceBounds
      simp
    rw [e1]
    dsimp only
    have e2 : sliceRange ((xs.length : Int) - 1) (-1) (-1) = (List.range xs.reverse.length).map fun (k : Nat) => (((xs.length : Int) - 1) + -1 * (k : Int)).toNat := by
      unfold sliceRange
      dsimp only
      congr 2
      rw [if_neg (by omega), if_pos (by omega), List.length_reverse, show -(-1 : Int) = 1 from rfl, Int.ediv_one]
      omega
    rw [e2, List.filterMap_map]
    refine range_fm _ _ fun k hk => ?_
    rw [List.length_reverse] at hk
    rw [List.getElem?_reverse hk]
    show xs[(((xs.length : Int) - 1) + -1 * (k : Int)).toNat]? = _
    congr 1
    omega
  show (if (-1 : Int) ≠ 0 then some (D.lst (pickL xs none none (some (-1)))) else none) = _
  rw [if_pos (by omega), e]
theorem intsD_ok : ∀ xs : List Int, intsD (inL xs) = some xs
  | [] => rfl
  | x :: xs => by
    show (intsD (inL xs)).map (x :: ·) = _
    rw [intsD_ok xs]
    rfl
theorem sum_ok (xs : List Int) : bSum [.lst (inL xs)] = some (.int (sS xs)) := by
  show (intsD (inL xs)).map (fun ns => D.int ns.sum) = _
  rw [intsD_ok]
  show some (D.int xs.sum) = _
  rw [sS_sum]
end EV
set_option maxRecDepth 100000
/-! K06_C: books. -/
namespace EV
open PySem
theorem if_nx {t : FT} {a : FS} {ε ε1 : Env} (h : t ε = .ok false ε1) : EV.ifS t a sNx ε = .ok .nx ε1 := by simp [EV.ifS, h, sNx]
theorem asg2_ok {i j : Nat} {fa : FE} {ε ε1 : Env} {d1 d2 : D} (h : fa ε = .ok (.tup [d1, d2]) ε1) : asg (gT (gsCons (gN i) (gsCons (gN j) gsNil))) fa ε = .ok .nx ((ε1.set i (.sh d1)).set j (.sh d2)) := by
  unfold asg
  rw [h]
  rfl
theorem expr_ok {fa : FE} {ε ε1 : Env} {d : D} (h : fa ε = .ok d ε1) : exprS fa ε = .ok .nx ε1 := by
  unfold exprS
  rw [h]
  rfl
theorem expr_ex {fa : FE} {ε ε1 : Env} {c : Nat} {fs : List D} (h : fa ε = .ex c fs ε1) : exprS fa ε = .ex c fs ε1 := by
  unfold exprS
  rw [h]
  rfl
theorem seq_ex {a b : FS} {ε ε1 : Env} {c : Nat} {fs : List D} (h : a ε = .ex c fs ε1) : EV.seq a b ε = .ex c fs ε1 := by
  unfold EV.seq
  rw [h]
  rfl
theorem fn_nx {np n : Nat} {g : FS} {ds : List D} {ε : Env} (hl : ds.length = np) (h : g (start n ds) = .ok .nx ε) : fn np n g ds = .ret .non := by
  unfold fn
  rw [if_pos hl, h]
theorem fn_ex {np n : Nat} {g : FS} {ds fs : List D} {c : Nat} {ε : Env} (hl : ds.length = np) (h : g (start n ds) = .ex c fs ε) : fn np n g ds = .rse c fs := by
  unfold fn
  rw [if_pos hl, h]
theorem fnQ_nx {np n : Nat} {g : FS} {o o' : O} {ds : List D} {ε : Env} (hl : ds.length + 1 = np) (h : g (.ow (some 0) o :: start (n - 1) ds) = .ok .nx (.ow (some 0) o' :: ε)) : fnQ np n g o ds = .ret .non o' := by
  unfold fnQ
  rw [if_pos hl, h]
  rfl
theorem fnQ_ex {np n : Nat} {g : FS} {o : O} {ds fs : List D} {c : Nat} {ε : Env} (hl : ds.length + 1 = np) (h : g (.ow (some 0) o :: start (n - 1) ds) = .ex c fs ε) : fnQ np n g o ds = .rse c fs := by
  unfold fnQ
  rw [if_pos hl, h]
theorem look_none {f : Str} : ∀ {fs : List (Str × D)}, (fs.map (·.1)).all (fun x => !(f == x)) = true → (fs.lookup f).isNone = true
  | [], _ => rfl
  | (x, d) :: fs, h => by
    simp only [List.map_cons, List.all_cons, Bool.and_eq_true] at h
    have h1 : (f == x) = false := by simpa using h.1
    rw [List.lookup_cons, h1]
    exact look_none h.2
theorem setF_ok {c i : Nat} {f : Str} {fv : FE} {ε ε1 : Env} {k : Option Nat} {fs : List (Str × D)} {d : D} (h1 : fv ε = .ok d ε1) (h2 : ε1[i]? = some (.ow k (.i c fs))) (h3 : (fs.map (·.1)).all (fun x => !(f == x)) = true) (h4 : fs.length < 100) : setF c i f fv ε = .ok .nx (ε1.set i (.ow k (.i c (fs ++ [(f, d)])))) := by
  unfold setF
  rw [h1, bind_ok, h2]
  exact if_pos ⟨rfl, look_none h3, h4⟩
theorem sm_dvd {B l : Int} (hB : 0 < B) (hl : 0 < l) (d : B ∣ l) (s : Sm l) : Sm B := by
  obtain ⟨k, rfl⟩ := d
  have : 0 < k := by
    rcases Int.lt_or_le 0 k with h | h
    · exact h
    · have := Int.mul_nonpos_of_nonneg_of_nonpos (Int.le_of_lt hB) h
      omega
  exact sm_mul_le this s
theorem bt_dvd (x l : Int) : bt x l ∣ l := ⟨gg x l, (bt_mul x l).symm⟩
theorem lcm_ok {a b : Int} (ha : Sm a) (hb : Sm b) : bLcm [.int a, .int b] = some (.int (Int.lcm a b : Nat)) := by
  have h1 := sm_log ha
  have h2 := sm_log hb
  show (if a.natAbs.log2 < 13000 ∧ b.natAbs.log2 < 13000 then some (D.int ((Nat.lcm a.natAbs b.natAbs : Nat) : Int)) else none) = _
  rw [if_pos ⟨by omega, by omega⟩]
  rfl
noncomputable abbrev lcmB : FS := (asg (gN 1) (bi bLcm (aCons (nm 1) (aCons (fld ix_bottom (nm 2)) aNil))))
theorem lcm_loop {l : Int} (h0 : 0 < l) (sl : Sm l) {c : Slot} : ∀ (xs : List Int) (B : Int) (s : Slot), 0 < B → B ∣ l → ∃ B' s', forL (gN 2) lcmB (rts l xs) [c, .sh (.int B), s] = .ok .nx [c, .sh (.int B'), s'] ∧ 0 < B' ∧ B' ∣ l ∧ B ∣ B' ∧ ∀ x ∈ xs, bt x l ∣ B'
  | [], B, s, hB, d => ⟨B, s, rfl, hB, d, Int.dvd_refl _, fun x hx => by cases hx⟩
  | x :: xs, B, s, hB, d => by
    have hb := bt_pos (x := x) h0
    have p : 0 < (Int.lcm B (bt x l) : Int) := by
      have : 0 < Int.lcm B (bt x l) := Nat.lcm_pos (by omega) (by omega)
      omega
    have e : lcmB [c, .sh (.int B), .sh (rt x l)] = .ok .nx [c, .sh (.int (Int.lcm B (bt x l) : Nat)), .sh (rt x l)] :=
      asg_ok (bi_ok (ac_ok (x := .int B) rfl (a1_ok (x := .int (bt x l)) rfl)) (lcm_ok (sm_dvd hB h0 d sl) (sm_bt h0 sl)))
    obtain ⟨B', s', e2, p2, d2, d3, d4⟩ := lcm_loop h0 sl xs (Int.lcm B (bt x l) : Nat) (.sh (rt x l)) p (Int.ofNat_dvd_left.mpr (Nat.lcm_dvd (Int.natAbs_dvd_natAbs.mpr d) (Int.natAbs_dvd_natAbs.mpr (bt_dvd x l))))
    refine ⟨B', s', ?_, p2, d2, Int.dvd_trans (Int.ofNat_dvd_right.mpr (Nat.dvd_lcm_left _ _)) d3, fun y hy => ?_⟩
    · show forL (gN 2) lcmB (rt x l :: rts l xs) _ = _
      unfold forL
      show ((lcmB [c, .sh (.int B), .sh (rt x l)]).bind _) = _
      rw [e, bind_ok, e2]
    · rcases List.mem_cons.mp hy with rfl | hy
      · exact Int.dvd_trans (Int.ofNat_dvd_right.mpr (Nat.dvd_lcm_right _ _)) d3
      · exact d4 y hy
/-- xs over l, brought to one least bottom -/
structure TopsOf (xs : List Int) (l : Int) (T : List Int) (B g : Int) : Prop where
  g0 : 0 < g
  B0 : 0 < B
  l0 : l = g * B
  x0 : xs = T.map (g * ·)
theorem top_one {x l B g : Int} (h0 : 0 < l) (hB : 0 < B) (hl : l = g * B) (d : bt x l ∣ B) : g * (tp x l * (B / bt x l)) = x := by
  obtain ⟨k, rfl⟩ := d
  have hb := bt_pos (x := x) h0
  rw [Int.mul_ediv_cancel_left _ (by omega)]
  have e1 : gg x l = g * k := by
    have h1 := bt_mul x l
    have h2 : bt x l * gg x l = bt x l * (g * k) := by
      rw [h1]
      rw [← Int.mul_assoc, Int.mul_comm (bt x l) g, Int.mul_assoc]
      exact hl
    exact Int.eq_of_mul_eq_mul_left (by omega) h2
  rw [Int.mul_left_comm, ← e1, tp_mul]
theorem tops_ok {xs : List Int} {l : Int} (h0 : 0 < l) (sl : Sm l) (sx : ∀ x ∈ xs, Sm x) (hl : xs.length ≤ 1000000) : ∃ T B g, m_tops_of_ratios [.lst (rts l xs)] = .ret (.tup [.lst (inL T), .int B]) ∧ TopsOf xs l T B g := by
  obtain ⟨B, s, e1, hB, d, _, dv⟩ := lcm_loop h0 sl (c := .sh (.lst (rts l xs))) xs 1 .no (by omega) (Int.one_dvd _)
  obtain ⟨g, hg⟩ := d
  have g0 : 0 < g := by
    rcases Int.lt_or_le 0 g with h | h
    · exact h
    · have := Int.mul_nonpos_of_nonneg_of_nonpos (Int.le_of_lt hB) h
      omega
  have hlg : l = g * B := by rw [hg, Int.mul_comm]
  have sB : Sm B := sm_dvd hB h0 ⟨g, hg⟩ sl
  refine ⟨xs.map fun x => tp x l * (B / bt x l), B, g, ?_, g0, hB, hlg, ?_⟩
  · have e2 : (EV.forS (iSeq (nm 0)) (gN 2) lcmB) [.sh (.lst (rts l xs)), .sh (.int 1), .no] = .ok .nx [.sh (.lst (rts l xs)), .sh (.int B), s] := e1
    have e3 : (EV.lc [2] (iSeq (nm 0)) (gN 2) EV.tYes (bin dMul (fld ix_top (nm 2)) (bin dDiv (nm 1) (fld ix_bottom (nm 2))))) [.sh (.lst (rts l xs)), .sh (.int B), s] =
        .ok (.l (xs.map fun x => .int (tp x l * (B / bt x l)))) (backE [.sh (.lst (rts l xs)), .sh (.int B), s] (wipeE [.sh (.lst (rts l xs)), .sh (.int B), s] [2]) [2]) := by
      refine lc_of (u := fun x => rt x l) (v := fun x => .int (tp x l * (B / bt x l))) (ε1 := [.sh (.lst (rts l xs)), .sh (.int B), s]) (as := xs) rfl hl fun x hx => ?_
      refine ⟨[.sh (.lst (rts l xs)), .sh (.int B), .sh (rt x l)], [.sh (.lst (rts l xs)), .sh (.int B), .sh (rt x l)], rfl, ?_, rfl⟩
      have hb := bt_pos (x := x) h0
      have sq : Sm (B / bt x l) := by
        obtain ⟨k, hk⟩ := dv x hx
        rw [hk, Int.mul_ediv_cancel_left _ (by omega)]
        rw [hk, Int.mul_comm] at sB
        exact sm_mul_le hb sB
      have b1 := sm_bits (sm_tp h0 (sx x hx))
      have b2 := sm_bits sq
      exact bin_ok (x := .int (tp x l)) rfl (bin_ok (x := .int B) (y := .int (bt x l)) rfl rfl (dDiv_pos hb (sm_bt h0 sl))) (mul_ok (by omega))
    have e4 : (xs.map fun x => D.int (tp x l * (B / bt x l))) = inL (xs.map fun x => tp x l * (B / bt x l)) := by
      unfold inL
      rw [List.map_map]
      rfl
    rw [e4] at e3
    have e5 : (EV.ret (tupE (aCons (frz (EV.lc [2] (iSeq (nm 0)) (gN 2) EV.tYes (bin dMul (fld ix_top (nm 2)) (bin dDiv (nm 1) (fld ix_bottom (nm 2)))))) (aCons (nm 1) aNil)))) [.sh (.lst (rts l xs)), .sh (.int B), s] =
        .ok (.rt (.tup [.lst (inL (xs.map fun x => tp x l * (B / bt x l))), .int B])) (backE [.sh (.lst (rts l xs)), .sh (.int B), s] (wipeE [.sh (.lst (rts l xs)), .sh (.int B), s] [2]) [2]) :=
      ret_ok (tupE_ok (ac_ok (frz_ok e3) (a1_ok (x := .int B) rfl)) (by simp))
    exact fn_ret rfl ((seq_nx (asg_ok (i := 1) (d := .int 1) rfl)).trans ((seq_nx e2).trans e5))
  · rw [List.map_map]
    conv => lhs; rw [← List.map_id xs]
    refine List.map_congr_left fun x hx => ?_
    exact (top_one h0 hB hlg (dv x hx)).symm
/-! ### what is a book -/
structure Val (xs : List Int) (l : Int) : Prop where
  l0 : 0 < l
  sl : Sm l
  sx : ∀ x ∈ xs, Sm x
  n2 : 2 ≤ xs.length
  n3 : xs.length ≤ 1000
  fst : ∃ a, xs[0]? = some a ∧ a ≠ 0
  lst : ∃ a, xs.getLast? = some a ∧ a ≠ 0
  sS : sS xs = 2 * l
  sA : sA xs = 0
theorem tp_ne {x l : Int} (h : x ≠ 0) : tp x l ≠ 0 := fun z => by
  have := tp_mul x l
  rw [z, Int.zero_mul] at this
  exact h this.symm
theorem half_tops {xs T : List Int} {l B g : Int} (t : TopsOf xs l T B g) (h1 : sS xs = 2 * l) (h2 : sA xs = 0) : sS T = 2 * B ∧ sA T = 0 := by
  have e1 := sS_map g T
  have e2 := sA_map g T
  rw [← t.x0] at e1 e2
  have g0 := t.g0
  constructor
  · have : g * sS T = g * (2 * B) := by
      rw [← e1, h1, t.l0, Int.mul_left_comm]
    exact Int.eq_of_mul_eq_mul_left (by omega) this
  · have : g * sA T = g * 0 := by rw [← e2, h2, Int.mul_zero]
    exact Int.eq_of_mul_eq_mul_left (by omega) this
theorem getN_last {α : Type} {xs : List α} {a : α} (h : xs.getLast? = some a) : getN xs (-1) = some a := by
  have hl : xs ≠ [] := fun z => by rw [z] at h; simp at h
  have : 0 < xs.length := List.length_pos_iff.mpr hl
  rw [getN_def, if_neg (by omega), if_pos (by omega), ← h, List.getLast?_eq_getElem?]
  congr 1
  omega
theorem fault_ok {xs : List Int} {l : Int} (v : Val xs l) : m_book_fault [.lst (rts l xs)] = .ret (.str "") := by
  obtain ⟨T, B, g, et, t⟩ := tops_ok v.l0 v.sl v.sx (by have := v.n3; omega)
  obtain ⟨hS, hA⟩ := half_tops t v.sS v.sA
  obtain ⟨hE, hO⟩ := half_of hS hA
  obtain ⟨a, ha, na⟩ := v.fst
  obtain ⟨b, hb, nb⟩ := v.lst
  have f0 : getN (rts l xs) 0 = some (rt a l) := by
    have := getN_nat (xs := rts l xs) (n := 0)
    rw [show ((0 : Nat) : Int) = 0 from rfl] at this
    rw [this, List.getElem?_map, ha]
    rfl
  have f1 : getN (rts l xs) (-1) = some (rt b l) := getN_last (by rw [List.getLast?_map, hb]; rfl)
  have h1 : (EV.ifS (tB (bin dLt (lenN 0) (cC (.int 2)))) (EV.ret (cC (.str "a book has two numbers or more"))) sNx) [.sh (.lst (rts l xs)), .no, .no] = .ok .nx [.sh (.lst (rts l xs)), .no, .no] := by
    have e : decide ((xs.length : Int) < 2) = false := decide_eq_false (by have := v.n2; omega)
    refine if_nx (tB_ok (bin_ok (x := .int (xs.length : Int)) (y := .int 2) ?_ rfl ?_))
    · simp [lenN, bLen, len_eq]
    · show some (D.bl (decide ((xs.length : Int) < 2))) = _
      rw [e]
  have h2 : (EV.ifS (tOr (tB (bin dEq (fld ix_top (ixN 0 (cC (.int 0)))) (cC (.int 0)))) (tB (bin dEq (fld ix_top (ixN 0 (un dNeg (cC (.int 1))))) (cC (.int 0))))) (EV.ret (cC (.str "the first and the last number of a book are not 0"))) sNx) [.sh (.lst (rts l xs)), .no, .no] = .ok .nx [.sh (.lst (rts l xs)), .no, .no] := by
    have e1 : (tp a l == 0) = false := by simpa using tp_ne na
    have e2 : (tp b l == 0) = false := by simpa using tp_ne nb
    have i0 : (ixN 0 (cC (.int 0))) [.sh (.lst (rts l xs)), .no, .no] = .ok (rt a l) [.sh (.lst (rts l xs)), .no, .no] := by
      simp [ixN, has, cC, dIx, f0]
    have i1 : (ixN 0 (un dNeg (cC (.int 1)))) [.sh (.lst (rts l xs)), .no, .no] = .ok (rt b l) [.sh (.lst (rts l xs)), .no, .no] := by
      simp [ixN, has, cC, dIx, f1, un, dNeg]
    have j0 : (fld ix_top (ixN 0 (cC (.int 0)))) [.sh (.lst (rts l xs)), .no, .no] = .ok (.int (tp a l)) [.sh (.lst (rts l xs)), .no, .no] := by
      unfold fld
      rw [i0]
      rfl
    have j1 : (fld ix_top (ixN 0 (un dNeg (cC (.int 1))))) [.sh (.lst (rts l xs)), .no, .no] = .ok (.int (tp b l)) [.sh (.lst (rts l xs)), .no, .no] := by
      unfold fld
      rw [i1]
      rfl
    refine if_nx (or_f (tB_ok (bin_ok j0 rfl ?_)) (tB_ok (bin_ok j1 rfl ?_)))
    · rw [dEq_int, e1]
    · rw [dEq_int, e2]
  have h3 : (asg (gT (gsCons (gN 1) (gsCons (gN 2) gsNil))) (EV.call m_tops_of_ratios (aCons (nm 0) aNil))) [.sh (.lst (rts l xs)), .no, .no] = .ok .nx [.sh (.lst (rts l xs)), .sh (.lst (inL T)), .sh (.int B)] :=
    asg2_ok (call_ok (a1_ok (x := .lst (rts l xs)) rfl) et)
  have hne : ∀ n : Int, dNe (.int n) (.int n) = some (.bl false) := fun n => by rw [dNe_int]; simp
  have h4 : (EV.ifS (tOr (tB (bin dNe (bi bSum (aCons (stpE (nm 1) (pSo (cC (.int 0))) pNo (pSo (cC (.int 2)))) aNil)) (nm 2))) (tB (bin dNe (bi bSum (aCons (stpE (nm 1) (pSo (cC (.int 1))) pNo (pSo (cC (.int 2)))) aNil)) (nm 2))))
      (EV.ret (cC (.str "the numbers at even places, and those at odd places, must have the sum 1"))) sNx) [.sh (.lst (rts l xs)), .sh (.lst (inL T)), .sh (.int B)] = .ok .nx [.sh (.lst (rts l xs)), .sh (.lst (inL T)), .sh (.int B)] := by
    refine if_nx (or_f (tB_ok (bin_ok (x := .int B) (y := .int B) (bi_ok (a1_ok (stpE_ok (x := .lst (inL T)) rfl rfl rfl rfl (stp_ev T).2)) ?_) rfl (hne B))) (tB_ok (bin_ok (x := .int B) (y := .int B) (bi_ok (a1_ok (stpE_ok (x := .lst (inL T)) rfl rfl rfl rfl (stp_od T))) ?_) rfl (hne B))))
    · rw [sum_ok, hE]
    · rw [sum_ok, hO]
  exact fn_ret rfl ((seq_nx h1).trans ((seq_nx h2).trans ((seq_nx h3).trans ((seq_nx h4).trans rfl))))
theorem reach_ok {n : Int} (h : n ≤ 40) : m_check_reach [.int n] = .ret .non := by
  have e : decide (40 < n) = false := decide_eq_false (by omega)
  refine fn_nx (ε := [.sh (.int n)]) rfl (if_nx (tB_ok (bin_ok (x := .int n) (y := .int 40) rfl rfl ?_)))
  show some (D.bl (decide (40 < n))) = _
  rw [e]
theorem reach_ex {n : Int} (h : 40 < n) : m_check_reach [.int n] = .rse 1 [.int n, .str "reach"] := by
  have e : decide (40 < n) = true := decide_eq_true h
  have h1 : (tB (bin dGt (nm 0) (cC (.int 40)))) [.sh (.int n)] = .ok true [.sh (.int n)] := by
    refine tB_ok (bin_ok (x := .int n) (y := .int 40) rfl rfl ?_)
    show some (D.bl (decide (40 < n))) = _
    rw [e]
  exact fn_ex (ε := [.sh (.int n)]) rfl (if_t h1)
abbrev bkD (xs : List Int) (l : Int) (T : List Int) (B : Int) : D := .ins 1 [.tup (rts l xs), .int ((xs.length : Int) - 1), .tup (inL T), .int B, .non, .non, .non]
/-- the thing d is the book of the row xs over l -/
def IsBk (d : D) (xs : List Int) (l : Int) : Prop := ∃ T B g, d = bkD xs l T B ∧ TopsOf xs l T B g
/-- what number makes of the items of what a book is made of -/
def Reads (ds : List D) (l : Int) (xs : List Int) : Prop := ds.length = xs.length ∧ ∀ (i : Nat) (d : D) (x : Int), ds[i]? = some d → xs[i]? = some x → m_number [d] = .ret (rt x l)
theorem lcL_num {l : Int} {own : List Nat} {ε : Env} {k : Nat} : ∀ (ds : List D) (xs : List Int), Reads ds l xs → (∀ d, ∃ ε1, gN 6 d ε = some ε1 ∧ nm 6 ε1 = .ok d ε1 ∧ wipeE ε1 own = ε) → lcL own (gN 6) EV.tYes (EV.call m_number (aCons (nm 6) aNil)) ds ε = .ok (rts l xs) ε
  | [], xs, h, hs => by
    have : xs = [] := List.length_eq_zero_iff.mp h.1.symm
    subst this
    rfl
  | d :: ds, [], h, hs => by have := h.1; simp at this
  | d :: ds, x :: xs, h, hs => by
    obtain ⟨ε1, e1, e2, e3⟩ := hs d
    have hd := h.2 0 d x rfl rfl
    unfold lcL
    rw [e1, of_some]
    show (R.ok true ε1).bindB _ = _
    rw [bindB_ok', if_pos rfl, call_ok (a1_ok e2) hd, bindB_ok', e3, lcL_num (k := k) ds xs ⟨by have := h.1; simpa using this, fun i d' x' h1 h2 => h.2 (i + 1) d' x' h1 h2⟩ hs]
    rfl
theorem book_init {ds : List D} {xs : List Int} {l : Int} {d0 : D} (hd : d0 = .lst ds ∨ d0 = .tup ds) (v : Val xs l) (r : Reads ds l xs) :
    (xs.length ≤ 41 → ∃ b, mk_Book [d0] = .ret b ∧ IsBk b xs l) ∧ (41 < xs.length → mk_Book [d0] = .rse 1 [.int ((xs.length : Int) - 1), .str "reach"]) := by
  have n3 := v.n3
  have hi : iSeq (nm 1) [.ow (some 0) (.i 1 []), .sh d0, .no, .no, .no, .no, .no] = .ok ds [.ow (some 0) (.i 1 []), .sh d0, .no, .no, .no, .no, .no] := by
    rcases hd with rfl | rfl <;> rfl
  have h1 : (asgO 2 (EV.lc [6] (iSeq (nm 1)) (gN 6) EV.tYes (EV.call m_number (aCons (nm 6) aNil)))) [.ow (some 0) (.i 1 []), .sh d0, .no, .no, .no, .no, .no] = .ok .nx [.ow (some 0) (.i 1 []), .sh d0, .ow none (.l (rts l xs)), .no, .no, .no, .no] :=
    asgO_ok (lc_ok hi (by rw [r.1]; omega) (lcL_num (k := 0) ds xs r fun d => ⟨[.ow (some 0) (.i 1 []), .sh d0, .no, .no, .no, .no, .sh d], rfl, rfl, rfl⟩))
  have h2 : (asg (gN 3) (EV.call m_book_fault (aCons (nm 2) aNil))) [.ow (some 0) (.i 1 []), .sh d0, .ow none (.l (rts l xs)), .no, .no, .no, .no] = .ok .nx [.ow (some 0) (.i 1 []), .sh d0, .sh (.lst (rts l xs)), .sh (.str ""), .no, .no, .no] :=
    asg_ok (call_ok (a1_ok (x := .lst (rts l xs)) rfl) (fault_ok v))
  have h3 : (EV.ifS (tT (nm 3)) (rzS 0 1 (aCons (nm 3) aNil)) sNx) [.ow (some 0) (.i 1 []), .sh d0, .sh (.lst (rts l xs)), .sh (.str ""), .no, .no, .no] = .ok .nx [.ow (some 0) (.i 1 []), .sh d0, .sh (.lst (rts l xs)), .sh (.str ""), .no, .no, .no] :=
    if_nx (tT_ok (x := .str "") rfl (by decide +kernel))
  have hlen : (lenN 2) [.ow (some 0) (.i 1 []), .sh d0, .sh (.lst (rts l xs)), .sh (.str ""), .no, .no, .no] = .ok (.int (xs.length : Int)) [.ow (some 0) (.i 1 []), .sh d0, .sh (.lst (rts l xs)), .sh (.str ""), .no, .no, .no] := by
    simp [lenN, bLen, len_eq]
  have harg : (aCons (bin dSub (lenN 2) (cC (.int 1))) aNil) [.ow (some 0) (.i 1 []), .sh d0, .sh (.lst (rts l xs)), .sh (.str ""), .no, .no, .no] = .ok [.int ((xs.length : Int) - 1)] [.ow (some 0) (.i 1 []), .sh d0, .sh (.lst (rts l xs)), .sh (.str ""), .no, .no, .no] :=
    a1_ok (bin_ok hlen rfl rfl)
  constructor
  · intro hr
    obtain ⟨T, B, g, et, t⟩ := tops_ok v.l0 v.sl v.sx (by omega)
    have h4 : (exprS (EV.call m_check_reach (aCons (bin dSub (lenN 2) (cC (.int 1))) aNil))) [.ow (some 0) (.i 1 []), .sh d0, .sh (.lst (rts l xs)), .sh (.str ""), .no, .no, .no] = .ok .nx [.ow (some 0) (.i 1 []), .sh d0, .sh (.lst (rts l xs)), .sh (.str ""), .no, .no, .no] :=
      expr_ok (call_ok harg (reach_ok (by omega)))
    have h5 : (asg (gT (gsCons (gN 4) (gsCons (gN 5) gsNil))) (EV.call m_tops_of_ratios (aCons (nm 2) aNil))) [.ow (some 0) (.i 1 []), .sh d0, .sh (.lst (rts l xs)), .sh (.str ""), .no, .no, .no] = .ok .nx [.ow (some 0) (.i 1 []), .sh d0, .sh (.lst (rts l xs)), .sh (.str ""), .sh (.lst (inL T)), .sh (.int B), .no] :=
      asg2_ok (call_ok (a1_ok (x := .lst (rts l xs)) rfl) et)
    have hlen2 : ∀ s0 s4 s5 : Slot, (lenN 2) [s0, .sh d0, .sh (.lst (rts l xs)), .sh (.str ""), s4, s5, .no] = .ok (.int (xs.length : Int)) [s0, .sh d0, .sh (.lst (rts l xs)), .sh (.str ""), s4, s5, .no] := fun _ _ _ => by
      simp [lenN, bLen, len_eq]
    have k0 : (setF 1 0 "numbers" (bi bTuple (aCons (nm 2) aNil))) [.ow (some 0) (.i 1 []), .sh d0, .sh (.lst (rts l xs)), .sh (.str ""), .sh (.lst (inL T)), .sh (.int B), .no] = .ok .nx [.ow (some 0) (.i 1 [("numbers", .tup (rts l xs))]), .sh d0, .sh (.lst (rts l xs)), .sh (.str ""), .sh (.lst (inL T)), .sh (.int B), .no] := setF_ok (fs := []) (f := "numbers") (d := .tup (rts l xs)) (bi_ok (a1_ok (x := .lst (rts l xs)) rfl) rfl) rfl (by simp only [List.map_cons, List.map_nil]; decide +kernel) (by simp)
    have k1 : (setF 1 0 "reach" (bin dSub (lenN 2) (cC (.int 1)))) [.ow (some 0) (.i 1 [("numbers", .tup (rts l xs))]), .sh d0, .sh (.lst (rts l xs)), .sh (.str ""), .sh (.lst (inL T)), .sh (.int B), .no] = .ok .nx [.ow (some 0) (.i 1 [("numbers", .tup (rts l xs)), ("reach", .int ((xs.length : Int) - 1))]), .sh d0, .sh (.lst (rts l xs)), .sh (.str ""), .sh (.lst (inL T)), .sh (.int B), .no] := setF_ok (fs := [("numbers", .tup (rts l xs))]) (f := "reach") (d := .int ((xs.length : Int) - 1)) (bin_ok (x := .int (xs.length : Int)) (y := .int 1) (hlen2 _ _ _) rfl rfl) rfl (by simp only [List.map_cons, List.map_nil]; decide +kernel) (by simp)
    have k2 : (setF 1 0 "_tops" (bi bTuple (aCons (nm 4) aNil))) [.ow (some 0) (.i 1 [("numbers", .tup (rts l xs)), ("reach", .int ((xs.length : Int) - 1))]), .sh d0, .sh (.lst (rts l xs)), .sh (.str ""), .sh (.lst (inL T)), .sh (.int B), .no] = .ok .nx [.ow (some 0) (.i 1 [("numbers", .tup (rts l xs)), ("reach", .int ((xs.length : Int) - 1)), ("_tops", .tup (inL T))]), .sh d0, .sh (.lst (rts l xs)), .sh (.str ""), .sh (.lst (inL T)), .sh (.int B), .no] := setF_ok (fs := [("numbers", .tup (rts l xs)), ("reach", .int ((xs.length : Int) - 1))]) (f := "_tops") (d := .tup (inL T)) (bi_ok (a1_ok (x := .lst (inL T)) rfl) rfl) rfl (by simp only [List.map_cons, List.map_nil]; decide +kernel) (by simp)
    have k3 : (setF 1 0 "_bottom" (nm 5)) [.ow (some 0) (.i 1 [("numbers", .tup (rts l xs)), ("reach", .int ((xs.length : Int) - 1)), ("_tops", .tup (inL T))]), .sh d0, .sh (.lst (rts l xs)), .sh (.str ""), .sh (.lst (inL T)), .sh (.int B), .no] = .ok .nx [.ow (some 0) (.i 1 [("numbers", .tup (rts l xs)), ("reach", .int ((xs.length : Int) - 1)), ("_tops", .tup (inL T)), ("_bottom", .int B)]), .sh d0, .sh (.lst (rts l xs)), .sh (.str ""), .sh (.lst (inL T)), .sh (.int B), .no] := setF_ok (fs := [("numbers", .tup (rts l xs)), ("reach", .int ((xs.length : Int) - 1)), ("_tops", .tup (inL T))]) (f := "_bottom") (d := .int B) rfl rfl (by simp only [List.map_cons, List.map_nil]; decide +kernel) (by simp)
    have k4 : (setF 1 0 "_kept_calm" (cC .non)) [.ow (some 0) (.i 1 [("numbers", .tup (rts l xs)), ("reach", .int ((xs.length : Int) - 1)), ("_tops", .tup (inL T)), ("_bottom", .int B)]), .sh d0, .sh (.lst (rts l xs)), .sh (.str ""), .sh (.lst (inL T)), .sh (.int B), .no] = .ok .nx [.ow (some 0) (.i 1 [("numbers", .tup (rts l xs)), ("reach", .int ((xs.length : Int) - 1)), ("_tops", .tup (inL T)), ("_bottom", .int B), ("_kept_calm", .non)]), .sh d0, .sh (.lst (rts l xs)), .sh (.str ""), .sh (.lst (inL T)), .sh (.int B), .no] := setF_ok (fs := [("numbers", .tup (rts l xs)), ("reach", .int ((xs.length : Int) - 1)), ("_tops", .tup (inL T)), ("_bottom", .int B)]) (f := "_kept_calm") (d := .non) rfl rfl (by simp only [List.map_cons, List.map_nil]; decide +kernel) (by simp)
    have k5 : (setF 1 0 "_kept_tame" (cC .non)) [.ow (some 0) (.i 1 [("numbers", .tup (rts l xs)), ("reach", .int ((xs.length : Int) - 1)), ("_tops", .tup (inL T)), ("_bottom", .int B), ("_kept_calm", .non)]), .sh d0, .sh (.lst (rts l xs)), .sh (.str ""), .sh (.lst (inL T)), .sh (.int B), .no] = .ok .nx [.ow (some 0) (.i 1 [("numbers", .tup (rts l xs)), ("reach", .int ((xs.length : Int) - 1)), ("_tops", .tup (inL T)), ("_bottom", .int B), ("_kept_calm", .non), ("_kept_tame", .non)]), .sh d0, .sh (.lst (rts l xs)), .sh (.str ""), .sh (.lst (inL T)), .sh (.int B), .no] := setF_ok (fs := [("numbers", .tup (rts l xs)), ("reach", .int ((xs.length : Int) - 1)), ("_tops", .tup (inL T)), ("_bottom", .int B), ("_kept_calm", .non)]) (f := "_kept_tame") (d := .non) rfl rfl (by simp only [List.map_cons, List.map_nil]; decide +kernel) (by simp)
    have k6 : (setF 1 0 "_kept_column" (cC .non)) [.ow (some 0) (.i 1 [("numbers", .tup (rts l xs)), ("reach", .int ((xs.length : Int) - 1)), ("_tops", .tup (inL T)), ("_bottom", .int B), ("_kept_calm", .non), ("_kept_tame", .non)]), .sh d0, .sh (.lst (rts l xs)), .sh (.str ""), .sh (.lst (inL T)), .sh (.int B), .no] = .ok .nx [.ow (some 0) (.i 1 [("numbers", .tup (rts l xs)), ("reach", .int ((xs.length : Int) - 1)), ("_tops", .tup (inL T)), ("_bottom", .int B), ("_kept_calm", .non), ("_kept_tame", .non), ("_kept_column", .non)]), .sh d0, .sh (.lst (rts l xs)), .sh (.str ""), .sh (.lst (inL T)), .sh (.int B), .no] := setF_ok (fs := [("numbers", .tup (rts l xs)), ("reach", .int ((xs.length : Int) - 1)), ("_tops", .tup (inL T)), ("_bottom", .int B), ("_kept_calm", .non), ("_kept_tame", .non)]) (f := "_kept_column") (d := .non) rfl rfl (by simp only [List.map_cons, List.map_nil]; decide +kernel) (by simp)
    have hm : m_Book_init (.i 1 []) [d0] = .ret .non (.i 1 [("numbers", .tup (rts l xs)), ("reach", .int ((xs.length : Int) - 1)), ("_tops", .tup (inL T)), ("_bottom", .int B), ("_kept_calm", .non), ("_kept_tame", .non), ("_kept_column", .non)]) := by
      exact fnQ_nx rfl ((seq_nx h1).trans ((seq_nx h2).trans ((seq_nx h3).trans ((seq_nx h4).trans ((seq_nx h5).trans ((seq_nx k0).trans ((seq_nx k1).trans ((seq_nx k2).trans ((seq_nx k3).trans ((seq_nx k4).trans ((seq_nx k5).trans k6)))))))))))
    refine ⟨bkD xs l T B, ?_, T, B, g, rfl, t⟩
    unfold mk_Book EV.mk
    rw [hm]
    exact if_pos ⟨rfl, rfl⟩
  · intro hr
    have h4 := expr_ex (call_rse harg (reach_ex (n := (xs.length : Int) - 1) (by omega)))
    have hm : m_Book_init (.i 1 []) [d0] = .rse 1 [.int ((xs.length : Int) - 1), .str "reach"] := fnQ_ex rfl ((seq_nx h1).trans ((seq_nx h2).trans ((seq_nx h3).trans (seq_ex h4))))
    unfold mk_Book EV.mk
    rw [hm]
end EV
set_option maxRecDepth 100000
/-! K06_H: books made of tops, their two sides, by_one_plus, the law's look at a book. -/
namespace EV
open PySem
theorem ret_ex {fa : FE} {ε ε1 : Env} {c : Nat} {fs : List D} (h : fa ε = .ex c fs ε1) : EV.ret fa ε = .ex c fs ε1 := by
  unfold EV.ret
  rw [h]
  rfl
theorem slE_ok {fa : FE} {fl fh : FP} {ε ε1 ε2 ε3 : Env} {x z : D} {lo hi : Option Int} (h1 : fa ε = .ok x ε1) (h2 : fl ε1 = .ok lo ε2) (h3 : fh ε2 = .ok hi ε3) (h4 : dSl x lo hi = some z) : slE fa fl fh ε = .ok z ε3 := by simp [slE, h1, h2, h3, h4]
theorem ixN_sh {i : Nat} {fb : FE} {ε ε1 : Env} {d k z : D} (h0 : has ε i = true) (h1 : fb ε = .ok k ε1) (h2 : ε1[i]? = some (.sh d)) (h3 : dIx d k = some z) : ixN i fb ε = .ok z ε1 := by simp [ixN, h0, h1, h2, h3]
theorem ixN_ow {i : Nat} {fb : FE} {ε ε1 : Env} {xs : List D} {o : Option Nat} {n : Int} {z : D} (h0 : has ε i = true) (h1 : fb ε = .ok (.int n) ε1) (h2 : ε1[i]? = some (.ow o (.l xs))) (h3 : getN xs n = some z) : ixN i fb ε = .ok z ε1 := by simp [ixN, h0, h1, h2, h3]
theorem ifE_t {t : FT} {a b : FE} {ε ε1 : Env} (h : t ε = .ok true ε1) : ifE t a b ε = a ε1 := by simp [ifE, h]
theorem ifE_f {t : FT} {a b : FE} {ε ε1 : Env} (h : t ε = .ok false ε1) : ifE t a b ε = b ε1 := by simp [ifE, h]
theorem app_ok {i : Nat} {fa : FE} {ε ε1 : Env} {xs : List D} {x : D} {k : Option Nat} (h0 : hasL ε i = true) (h1 : fa ε = .ok x ε1) (h2 : ε1[i]? = some (.ow k (.l xs))) (h3 : xs.length ≤ 1000000) : app i fa ε = .ok .nx (ε1.set i (.ow k (.l (xs ++ [x])))) := by
  have h4 : len xs < line := by
    rw [len_eq]
    exact line_lt' h3
  unfold app
  rw [if_pos h0, h1, bind_ok, h2]
  show (if len xs < line then R.ok Fl.nx _ else R.bot) = _
  rw [if_pos h4, snoc_eq]
theorem rts_scale {k b : Int} (hk : 0 < k) (hb : 0 < b) (ts : List Int) : rts (k * b) (ts.map (k * ·)) = rts b ts := by
  unfold rts
  rw [List.map_map]
  refine List.map_congr_left fun x _ => ?_
  show rt (k * x) (k * b) = rt x b
  obtain ⟨h1, h2⟩ := tp_scale (x := x) hk hb
  unfold rt
  rw [h1, h2]
theorem pps_scale {k b : Int} (hk : 0 < k) (hb : 0 < b) (ts : List Int) : pps (k * b) (ts.map (k * ·)) = pps b ts := by
  unfold pps
  rw [List.map_map]
  refine List.map_congr_left fun x _ => ?_
  show pp (k * x) (k * b) = pp x b
  obtain ⟨h1, h2⟩ := tp_scale (x := x) hk hb
  unfold pp
  rw [h1, h2]
theorem made_ok {ts : List Int} {b : Int} (v : Val ts b) : (ts.length ≤ 41 → ∃ d, m_made_book [.lst (inL ts), .int b] = .ret d ∧ IsBk d ts b) ∧ (41 < ts.length → m_made_book [.lst (inL ts), .int b] = .rse 1 [.int ((ts.length : Int) - 1), .str "reach"]) := by
  have r : Reads (rts b ts) b ts := ⟨by simp, fun i d x h1 h2 => by
    rw [List.getElem?_map, h2] at h1
    cases h1
    exact number_ok x b⟩
  obtain ⟨h1, h2⟩ := book_init (.inr rfl) v r
  have n3 := v.n3
  have e : (aCons (EV.call m_ratios (aCons (nm 0) (aCons (nm 1) aNil))) aNil) [.sh (.lst (inL ts)), .sh (.int b)] = .ok [.tup (rts b ts)] [.sh (.lst (inL ts)), .sh (.int b)] :=
    a1_ok (call_ok (ac_ok (x := .lst (inL ts)) rfl (a1_ok (x := .int b) rfl)) (ratios_ok v.l0 v.sl (by omega)))
  constructor
  · intro h
    obtain ⟨d, e2, hd⟩ := h1 h
    exact ⟨d, fn_ret rfl (ret_ok (call_ok e e2)), hd⟩
  · intro h
    exact fn_ex rfl (ret_ex (call_rse e (h2 h)))
theorem over_ok (xs : List Int) (l : Int) (T : List Int) (B : Int) : m_Book_over_one_bottom [bkD xs l T B] = .ret (.tup [.tup (inL T), .int B]) := by
  exact fn_ret (ε := [.sh (bkD xs l T B)]) rfl (ret_ok (tupE_ok (xs := [.tup (inL T), .int B]) rfl (by simp)))
theorem meth_ok {i : Nat} {ε : Env} {xs : List Int} {l : Int} {T : List Int} {B : Int} (h : ε[i]? = some (.sh (bkD xs l T B))) : meth0 1 m_Book_over_one_bottom (nm i) ε = .ok (.tup [.tup (inL T), .int B]) ε := by
  have e : nm i ε = .ok (bkD xs l T B) ε := by
    unfold nm
    rw [h]
  unfold meth0
  rw [e, bind_ok]
  show (if (1 : Nat) = 1 then (m_Book_over_one_bottom [bkD xs l T B]).toE ε else R.bot) = _
  rw [if_pos rfl, over_ok]
  rfl
theorem nm_ok {i : Nat} {ε : Env} {d : D} (h : ε[i]? = some (.sh d)) : nm i ε = .ok d ε := by
  unfold nm
  rw [h]
/-! ### quotients by 1 + z, as the program has them -/
noncomputable abbrev bopB : FS := (EV.seq (asg (gN 2) (bin dSub (nm 3) (nm 2))) (app 1 (nm 2)))
theorem bop_loop {s0 : Slot} : ∀ (ts acc : List Int) (c : Int) (s3 : Slot), acc.length + ts.length ≤ 1000000 → ∃ c' s3', forL (gN 3) bopB (inL ts) [s0, .ow none (.l (inL acc)), .sh (.int c), s3] = .ok .nx [s0, .ow none (.l (inL (acc ++ hv c ts))), .sh (.int c'), s3']
  | [], acc, c, s3, h => ⟨c, s3, by simp [forL, hv]⟩
  | t :: ts, acc, c, s3, h => by
    simp only [List.length_cons] at h
    obtain ⟨c', s3', e⟩ := bop_loop ts (acc ++ [t - c]) (t - c) (.sh (.int t)) (by simp only [List.length_append, List.length_cons, List.length_nil]; omega)
    refine ⟨c', s3', ?_⟩
    have e1 : (asg (gN 2) (bin dSub (nm 3) (nm 2))) [s0, .ow none (.l (inL acc)), .sh (.int c), .sh (.int t)] = .ok .nx [s0, .ow none (.l (inL acc)), .sh (.int (t - c)), .sh (.int t)] := rfl
    have e2 : (app 1 (nm 2)) [s0, .ow none (.l (inL acc)), .sh (.int (t - c)), .sh (.int t)] = .ok .nx [s0, .ow none (.l (inL (acc ++ [t - c]))), .sh (.int (t - c)), .sh (.int t)] := by
      refine (app_ok (x := .int (t - c)) rfl rfl rfl (by unfold inL; rw [List.length_map]; omega)).trans ?_
      unfold inL
      rw [List.map_append]
      rfl
    show forL (gN 3) bopB (.int t :: inL ts) _ = _
    unfold forL
    show ((bopB [s0, .ow none (.l (inL acc)), .sh (.int c), .sh (.int t)]).bind _) = _
    rw [show bopB [s0, .ow none (.l (inL acc)), .sh (.int c), .sh (.int t)] = _ from (seq_nx e1).trans e2, bind_ok, e]
    simp [hv]
theorem cut_last {α : Type} (xs : List α) (y : α) : cutN (xs ++ [y]) none (some (-1)) = xs := by
  have h1 : slIx (xs ++ [y]).length 0 none = 0 := rfl
  have h2 : slIx (xs ++ [y]).length (xs ++ [y]).length (some (-1)) = xs.length := by
    unfold slIx
    simp
    omega
  unfold cutN
  rw [h1, h2]
  simp
theorem bop_ok {d0 : D} {ts q : List Int} {d : Int} (hd : d0 = .lst (inL ts) ∨ d0 = .tup (inL ts)) (hq : hv 0 ts = q ++ [d]) (hl : ts.length ≤ 1000) : m_by_one_plus [d0] = .ret (.tup [.lst (inL q), .int d]) := by
  have hi : iSeq (nm 0) [.sh d0, .ow none (.l []), .sh (.int 0), .no] = .ok (inL ts) [.sh d0, .ow none (.l []), .sh (.int 0), .no] := by
    rcases hd with rfl | rfl <;> rfl
  obtain ⟨c', s3', e⟩ := bop_loop (s0 := .sh d0) ts [] 0 .no (by simp; omega)
  rw [List.nil_append, hq] at e
  have e1 : (asgO 1 (lstO aNil)) [.sh d0, .no, .no, .no] = .ok .nx [.sh d0, .ow none (.l []), .no, .no] := asgO_ok (lstO_ok rfl (by simp))
  have e2 : (asg (gN 2) (cC (.int 0))) [.sh d0, .ow none (.l []), .no, .no] = .ok .nx [.sh d0, .ow none (.l []), .sh (.int 0), .no] := rfl
  have e3 : (EV.forS (iSeq (nm 0)) (gN 3) bopB) [.sh d0, .ow none (.l []), .sh (.int 0), .no] = .ok .nx [.sh d0, .ow none (.l (inL (q ++ [d]))), .sh (.int c'), s3'] := by
    unfold EV.forS
    rw [hi, bind_ok]
    exact e
  have e4 : (slE (nm 1) pNo (pSo (un dNeg (cC (.int 1))))) [.sh d0, .ow none (.l (inL (q ++ [d]))), .sh (.int c'), s3'] = .ok (.lst (inL q)) [.sh d0, .sh (.lst (inL (q ++ [d]))), .sh (.int c'), s3'] := by
    have : inL (q ++ [d]) = inL q ++ [.int d] := by unfold inL; rw [List.map_append]; rfl
    refine slE_ok (x := .lst (inL (q ++ [d]))) (lo := none) (hi := some (-1)) rfl rfl rfl ?_
    show some (D.lst (cutN (inL (q ++ [d])) none (some (-1)))) = _
    rw [this, cut_last]
  have e5 : (ixN 1 (un dNeg (cC (.int 1)))) [.sh d0, .sh (.lst (inL (q ++ [d]))), .sh (.int c'), s3'] = .ok (.int d) [.sh d0, .sh (.lst (inL (q ++ [d]))), .sh (.int c'), s3'] := by
    have : getN (inL (q ++ [d])) (-1) = some (.int d) := getN_last (by unfold inL; rw [List.map_append]; simp)
    exact ixN_sh (k := .int (-1)) rfl rfl rfl this
  exact fn_ret rfl ((seq_nx e1).trans ((seq_nx e2).trans ((seq_nx e3).trans (ret_ok (tupE_ok (ac_ok e4 (a1_ok e5)) (by simp))))))
/-! ### the law's halves -/
theorem hv_snoc : ∀ (c : Int) (p : List Int) (x : Int), hv c (p ++ [x]) = hv c p ++ [x - ((hv c p).getLast?).getD c]
  | c, [], x => rfl
  | c, t :: p, x => by
    rw [List.cons_append, hv, hv, hv_snoc (t - c) p x, List.cons_append]
    congr 2
    cases e : hv (t - c) p with
    | nil => simp
    | cons y r => simp [List.getLast?_cons]
theorem getN_inL {xs : List Int} {k : Nat} {x : Int} (h : xs[k]? = some x) : getN (inL xs) (k : Int) = some (.int x) := by
  rw [getN_nat, List.getElem?_map, h]
  rfl
noncomputable abbrev halfB : FS := (app 1 (bin dSub (ixN 0 (nm 2)) (ifE (tB (bin dGt (nm 2) (cC (.int 0)))) (ixN 1 (bin dSub (nm 2) (cC (.int 1)))) (cC (.int 0)))))
theorem half_step {xs p : List Int} {x : Int} (hx : xs[p.length]? = some x) (hl : p.length ≤ 1000) : halfB [.sh (.lst (inL xs)), .ow none (.l (inL (hv 0 p))), .sh (.int p.length)] = .ok .nx [.sh (.lst (inL xs)), .ow none (.l (inL (hv 0 (p ++ [x])))), .sh (.int p.length)] := by
  have i1 : (ixN 0 (nm 2)) [.sh (.lst (inL xs)), .ow none (.l (inL (hv 0 p))), .sh (.int p.length)] = .ok (.int x) [.sh (.lst (inL xs)), .ow none (.l (inL (hv 0 p))), .sh (.int p.length)] := by
    exact ixN_sh (k := .int (p.length : Int)) rfl rfl rfl (getN_inL hx)
  have i2 : (ifE (tB (bin dGt (nm 2) (cC (.int 0)))) (ixN 1 (bin dSub (nm 2) (cC (.int 1)))) (cC (.int 0))) [.sh (.lst (inL xs)), .ow none (.l (inL (hv 0 p))), .sh (.int p.length)] = .ok (.int (((hv 0 p).getLast?).getD 0)) [.sh (.lst (inL xs)), .ow none (.l (inL (hv 0 p))), .sh (.int p.length)] := by
    by_cases h0 : p.length = 0
    · have hp : p = [] := List.length_eq_zero_iff.mp h0
      subst hp
      rfl
    · have g : decide ((0 : Int) < (p.length : Int)) = true := decide_eq_true (by omega)
      have hn : (hv 0 p)[p.length - 1]? = (hv 0 p).getLast? := by rw [List.getLast?_eq_getElem?, hv_len]
      have hne : hv 0 p ≠ [] := fun z => by
        have := hv_len 0 p
        rw [z] at this
        exact h0 this.symm
      obtain ⟨y, hy⟩ : ∃ y, (hv 0 p).getLast? = some y := by
        cases e : (hv 0 p).getLast? with
        | none => exact absurd (List.getLast?_eq_none_iff.mp e) hne
        | some y => exact ⟨y, rfl⟩
      rw [hy] at hn
      have := getN_inL hn
      have e2 : ((p.length : Int) - 1) = ((p.length - 1 : Nat) : Int) := by omega
      rw [← e2] at this
      refine (ifE_t (tB_ok (bin_ok (x := .int (p.length : Int)) (y := .int 0) rfl rfl (by show some (D.bl (decide ((0 : Int) < (p.length : Int)))) = _; rw [g])))).trans ?_
      rw [hy]
      exact ixN_ow (n := (p.length : Int) - 1) rfl rfl rfl this
  have i3 := bin_ok (g := dSub) i1 i2 rfl
  refine (app_ok rfl i3 rfl (by unfold inL; rw [List.length_map, hv_len]; omega)).trans ?_
  rw [hv_snoc]
  unfold inL
  rw [List.map_append]
  rfl
theorem half_loop {xs : List Int} (hl : xs.length ≤ 1000) : ∀ (n : Nat) (p r : List Int) (s : Slot), xs = p ++ r → n ≤ r.length → ∃ s', forL (gN 2) halfB (rngL (p.length : Int) n) [.sh (.lst (inL xs)), .ow none (.l (inL (hv 0 p))), s] = .ok .nx [.sh (.lst (inL xs)), .ow none (.l (inL (hv 0 (p ++ r.take n)))), s']
  | 0, p, r, s, e, h => ⟨s, by simp [rngL, forL]⟩
  | n + 1, p, [], s, e, h => by simp at h
  | n + 1, p, x :: r, s, e, h => by
    have hx : xs[p.length]? = some x := by rw [e]; simp
    obtain ⟨s', e2⟩ := half_loop hl n (p ++ [x]) r (.sh (.int p.length)) (by rw [e]; simp) (by simpa using h)
    refine ⟨s', ?_⟩
    have hp : p.length ≤ 1000 := by
      rw [e] at hl
      simp at hl
      omega
    have st := half_step hx hp
    unfold rngL forL
    show ((halfB [.sh (.lst (inL xs)), .ow none (.l (inL (hv 0 p))), .sh (.int p.length)]).bind _) = _
    rw [st, bind_ok]
    have ec : ((p ++ [x]).length : Int) = (p.length : Int) + 1 := by simp
    rw [ec] at e2
    show forL (gN 2) halfB (rngL ((p.length : Int) + 1) n) _ = _
    rw [e2]
    simp
theorem halved_ok {xs q : List Int} {d : Int} (hq : hv 0 xs = q ++ [d]) (hl : xs.length ≤ 1000) : m__law_halved [.lst (inL xs)] = .rto (.l (inL q)) := by
  have hn : xs.length = q.length + 1 := by
    have := hv_len 0 xs
    rw [hq] at this
    simpa using this.symm
  obtain ⟨s', e⟩ := half_loop hl (xs.length - 1) [] xs .no rfl (by omega)
  have ht : hv 0 (xs.take (xs.length - 1)) = q := by
    have hne : xs ≠ [] := fun z => by rw [z] at hn; simp at hn
    have e1 : xs = xs.take (xs.length - 1) ++ [xs.getLast hne] := by
      rw [← List.dropLast_eq_take]
      exact (List.dropLast_concat_getLast hne).symm
    have e2 : hv 0 xs = hv 0 (xs.take (xs.length - 1)) ++ [xs.getLast hne - ((hv 0 (xs.take (xs.length - 1))).getLast?).getD 0] := by
      conv => lhs; rw [e1]
      exact hv_snoc _ _ _
    rw [hq] at e2
    exact (List.append_inj_left' e2 rfl).symm
  rw [List.nil_append, ht] at e
  have e1 : (asgO 1 (lstO aNil)) [.sh (.lst (inL xs)), .no, .no] = .ok .nx [.sh (.lst (inL xs)), .ow none (.l []), .no] := asgO_ok (lstO_ok rfl (by simp))
  have e2 : (EV.forS (EV.iRng1 (aCons (bin dSub (lenN 0) (cC (.int 1))) aNil)) (gN 2) halfB) [.sh (.lst (inL xs)), .ow none (.l []), .no] = .ok .nx [.sh (.lst (inL xs)), .ow none (.l (inL q)), s'] := by
    have hr : (EV.iRng1 (aCons (bin dSub (lenN 0) (cC (.int 1))) aNil)) [.sh (.lst (inL xs)), .ow none (.l []), .no] = .ok (rngL 0 ((xs.length : Int) - 1).toNat) [.sh (.lst (inL xs)), .ow none (.l []), .no] := by
      refine rng1_ok (a1_ok (bin_ok (x := .int (xs.length : Int)) (y := .int 1) ?_ rfl rfl)) (by omega) (by omega)
      simp [lenN, bLen, len_eq, inL]
    unfold EV.forS
    rw [hr, bind_ok, show ((xs.length : Int) - 1).toNat = xs.length - 1 by omega]
    exact e
  exact fn_rto rfl ((seq_nx e1).trans ((seq_nx e2).trans rfl))
/-! ### the law's look at a book -/
theorem is_ok {xs xs' : List Int} {l l' : Int} {T : List Int} {B : Int} (hl : 0 < l) (sl : Sm l) (h0 : 0 < l') (sl' : Sm l') (hn : xs.length ≤ 1000) (he : xs.length = xs'.length) (hp : pps l xs = pps l' xs') : m__law_is [bkD xs l T B, plain xs' l'] = .ret (.bl true) := by
  have ex : (ixN 1 (cC (.int 0))) [.sh (bkD xs l T B), .sh (plain xs' l')] = .ok (.lst (inL xs')) [.sh (bkD xs l T B), .sh (plain xs' l')] := rfl
  have h1 : (EV.ifS (tOr (tNot (tT (bi (bIsC 2 1) (aCons (nm 0) aNil)))) (tOr (tNot (tT (EV.call m__law_is_int (aCons (fld ix_reach (nm 0)) aNil)))) (tB (bin dNe (fld ix_reach (nm 0)) (bin dSub (bi bLen (aCons (ixN 1 (cC (.int 0))) aNil)) (cC (.int 1)))))))
      (EV.ret (cC (.bl false))) sNx) [.sh (bkD xs l T B), .sh (plain xs' l')] = .ok .nx [.sh (bkD xs l T B), .sh (plain xs' l')] := by
    refine if_nx (or_f (not_ok (b := true) (tT_ok (x := .bl true) (bi_ok (a1_ok (x := bkD xs l T B) rfl) rfl) rfl)) (or_f (not_ok (b := true) (tT_ok (x := .bl true) (call_ok (a1_ok (x := .int ((xs.length : Int) - 1)) rfl) rfl) rfl)) (tB_ok (bin_ok (x := .int ((xs.length : Int) - 1)) (y := .int ((xs'.length : Int) - 1)) rfl (bin_ok (x := .int (xs'.length : Int)) (y := .int 1) (bi_ok (a1_ok ex) ?_) rfl rfl) ?_))))
    · simp [bLen, len_eq, inL]
    · rw [dNe_int, he]
      simp
  have h2 : (EV.ret (bin dEq (EV.call m__law_pairs (aCons (fld ix_numbers (nm 0)) aNil)) (EV.call m__law_pairs_of (aCons (nm 1) aNil)))) [.sh (bkD xs l T B), .sh (plain xs' l')] = .ok (.rt (.bl true)) [.sh (bkD xs l T B), .sh (plain xs' l')] := by
    refine ret_ok (bin_ok (call_ok (a1_ok (x := .tup (rts l xs)) rfl) (pairs_ok hl sl (by omega))) (call_rto (a1_ok (x := plain xs' l') rfl) (pairs_of_ok h0 sl' (by omega))) ?_)
    rw [hp]
    exact dEq_pps l' xs'
  exact fn_ret rfl ((seq_nx h1).trans h2)
/-! ### slope -/
abbrev why1 : Str := "the square of 1 + z does not divide the book, so it has no slope"
theorem slope_ok {xs : List Int} {l : Int} {T : List Int} {B : Int} {q r : List Int} {e : Int} (hT : T.length ≤ 1000) (hq : hv 0 T = q ++ [0]) (hr : hv 0 q = r ++ [e]) (hq2 : q.length ≤ 1000)  :
    (e ≠ 0 → m_slope [bkD xs l T B] = .rse 0 [.str why1]) ∧ (e = 0 → Val (q.map (2 * ·)) B → q.length ≤ 41 → (∀ x ∈ q, Sm x) → ∃ d, m_slope [bkD xs l T B] = .ret d ∧ IsBk d (q.map (2 * ·)) B) := by
  have h1 : (asg (gT (gsCons (gN 1) (gsCons (gN 2) gsNil))) (meth0 1 m_Book_over_one_bottom (nm 0))) [.sh (bkD xs l T B), .no, .no, .no, .no, .no, .no] = .ok .nx [.sh (bkD xs l T B), .sh (.tup (inL T)), .sh (.int B), .no, .no, .no, .no] :=
    asg2_ok (meth_ok rfl)
  have h2 : (asg (gT (gsCons (gN 3) (gsCons (gN 4) gsNil))) (EV.call m_by_one_plus (aCons (nm 1) aNil))) [.sh (bkD xs l T B), .sh (.tup (inL T)), .sh (.int B), .no, .no, .no, .no] = .ok .nx [.sh (bkD xs l T B), .sh (.tup (inL T)), .sh (.int B), .sh (.lst (inL q)), .sh (.int 0), .no, .no] :=
    asg2_ok (call_ok (a1_ok (x := .tup (inL T)) rfl) (bop_ok (.inr rfl) hq hT))
  have h3 : (asg (gT (gsCons (gN 4) (gsCons (gN 5) gsNil))) (EV.call m_by_one_plus (aCons (nm 3) aNil))) [.sh (bkD xs l T B), .sh (.tup (inL T)), .sh (.int B), .sh (.lst (inL q)), .sh (.int 0), .no, .no] = .ok .nx [.sh (bkD xs l T B), .sh (.tup (inL T)), .sh (.int B), .sh (.lst (inL q)), .sh (.lst (inL r)), .sh (.int e), .no] :=
    asg2_ok (call_ok (a1_ok (x := .lst (inL q)) rfl) (bop_ok (.inl rfl) hr hq2))
  constructor
  · intro he
    have ht : (tT (nm 5)) [.sh (bkD xs l T B), .sh (.tup (inL T)), .sh (.int B), .sh (.lst (inL q)), .sh (.lst (inL r)), .sh (.int e), .no] = .ok true [.sh (bkD xs l T B), .sh (.tup (inL T)), .sh (.int B), .sh (.lst (inL q)), .sh (.lst (inL r)), .sh (.int e), .no] := by
      refine tT_ok (x := .int e) rfl ?_
      show some (e != 0) = _
      simp [he]
    exact fn_ex rfl ((seq_nx h1).trans ((seq_nx h2).trans ((seq_nx h3).trans (seq_ex ((if_t ht).trans rfl)))))
  · intro he hv hl hs
    subst he
    have h4 : (EV.ifS (tT (nm 5)) (rzS 0 1 (aCons (cC (.str why1)) aNil)) sNx) [.sh (bkD xs l T B), .sh (.tup (inL T)), .sh (.int B), .sh (.lst (inL q)), .sh (.lst (inL r)), .sh (.int 0), .no] = .ok .nx [.sh (bkD xs l T B), .sh (.tup (inL T)), .sh (.int B), .sh (.lst (inL q)), .sh (.lst (inL r)), .sh (.int 0), .no] :=
      if_nx (tT_ok (x := .int 0) rfl rfl)
    obtain ⟨d, e1, hd⟩ := (made_ok hv).1 (by simpa using hl)
    have h5 : (EV.lc [6] (iSeq (nm 3)) (gN 6) EV.tYes (bin dMul (cC (.int 2)) (nm 6))) [.sh (bkD xs l T B), .sh (.tup (inL T)), .sh (.int B), .sh (.lst (inL q)), .sh (.lst (inL r)), .sh (.int 0), .no] =
        .ok (.l (inL (q.map (2 * ·)))) [.sh (bkD xs l T B), .sh (.tup (inL T)), .sh (.int B), .sh (.lst (inL q)), .sh (.lst (inL r)), .sh (.int 0), .no] := by
      have := lc_of (own := [6]) (fi := iSeq (nm 3)) (h := gN 6) (fe := bin dMul (cC (.int 2)) (nm 6)) (ε := [.sh (bkD xs l T B), .sh (.tup (inL T)), .sh (.int B), .sh (.lst (inL q)), .sh (.lst (inL r)), .sh (.int 0), .no]) (u := .int) (v := fun x => .int (2 * x)) (ε1 := [.sh (bkD xs l T B), .sh (.tup (inL T)), .sh (.int B), .sh (.lst (inL q)), .sh (.lst (inL r)), .sh (.int 0), .no]) (as := q) rfl (by omega) fun x hx => ⟨[.sh (bkD xs l T B), .sh (.tup (inL T)), .sh (.int B), .sh (.lst (inL q)), .sh (.lst (inL r)), .sh (.int 0), .sh (.int x)], [.sh (bkD xs l T B), .sh (.tup (inL T)), .sh (.int B), .sh (.lst (inL q)), .sh (.lst (inL r)), .sh (.int 0), .sh (.int x)], rfl, bin_ok (x := .int 2) (y := .int x) rfl rfl (mul_ok (by
          have b2 : bits 2 = 2 := by decide +kernel
          have := sm_bits (hs x hx)
          omega)), rfl⟩
      refine this.trans ?_
      simp only [inL, List.map_map]
      rfl
    refine ⟨d, fn_ret rfl ((seq_nx h1).trans ((seq_nx h2).trans ((seq_nx h3).trans ((seq_nx h4).trans (ret_ok (call_ok (ac_ok (frz_ok h5) (a1_ok (x := .int B) rfl)) e1)))))), hd⟩
end EV
set_option maxRecDepth 100000
/-! K06_P: products of rows, as the law and as the program reckon them. -/
namespace EV
open PySem
theorem has_of {ε : Env} {i : Nat} {k : Option Nat} {o : O} (h : ε[i]? = some (.ow k o)) : has ε i = true := by
  unfold has
  rw [h]
theorem setI_ok {i : Nat} {fi fv : FE} {ε ε1 ε2 : Env} {v : D} {n : Nat} {kk : Option Nat} {xs : List D} (h1 : fv ε = .ok v ε1) (h0 : has ε1 i = true) (h2 : fi ε1 = .ok (.int n) ε2) (h3 : ε2[i]? = some (.ow kk (.l xs))) (h4 : n < xs.length) : setI i fi fv ε = .ok .nx (ε2.set i (.ow kk (.l (xs.set n v)))) := by
  have e : ixP (len xs) (n : Int) = some n := by
    unfold ixP
    rw [if_pos (by omega), len_eq, if_pos (by omega)]
    rfl
  unfold setI
  rw [h1, bind_ok, if_pos h0, h2, bind_ok]
  show (match ε2[i]? with
    | some (.ow kk (.l xs)) => R.of (ixP (len xs) (n : Int)) fun j => R.ok Fl.nx (ε2.set i (.ow kk (.l (setN xs v j))))
    | _ => R.bot) = _
  rw [h3]
  show R.of (ixP (len xs) (n : Int)) _ = _
  rw [e, of_some, setN_eq]
theorem addAt_cons (c y : Int) : ∀ (j : Nat) (bs m : List Int) (x : Int), m[j]? = some x → addAt c (y :: bs) j m = addAt c bs (j + 1) (m.set j (x + c * y))
  | 0, bs, [], x, h => by simp at h
  | 0, bs, z :: m, x, h => by
    simp at h
    subst h
    rfl
  | j + 1, bs, [], x, h => by simp at h
  | j + 1, bs, z :: m, x, h => by
    simp only [List.getElem?_cons_succ] at h
    rw [List.set_cons_succ, addAt, addAt, addAt_cons c y j bs m x h]
theorem inL_set (m : List Int) (j : Nat) (v : Int) : (inL m).set j (.int v) = inL (m.set j v) := by
  unfold inL
  rw [List.map_set]
theorem inL_len (m : List Int) : (inL m).length = m.length := by simp [inL]
/-! ### the law's -/
noncomputable abbrev timI : FS := (setI 2 (bin dAdd (nm 3) (nm 4)) (bin dAdd (ixN 2 (bin dAdd (nm 3) (nm 4))) (bin dMul (ixN 0 (nm 3)) (ixN 1 (nm 4)))))
theorem tim_in {a b : List Int} {c : Int} {i : Nat} (hc : a[i]? = some c) (sc : Sm c) (sb : ∀ y ∈ b, Sm y) : ∀ (bs p : List Int) (m : List Int) (s4 : Slot), b = p ++ bs → i + b.length ≤ m.length →
    ∃ s', forL (gN 4) timI (rngL (p.length : Int) bs.length) [.sh (.lst (inL a)), .sh (.lst (inL b)), .ow none (.l (inL m)), .sh (.int (i : Int)), s4] = .ok .nx [.sh (.lst (inL a)), .sh (.lst (inL b)), .ow none (.l (inL (addAt c bs (i + p.length) m))), .sh (.int (i : Int)), s']
  | [], p, m, s4, e, h => ⟨s4, by rw [addAt_nil]; rfl⟩
  | y :: bs, p, m, s4, e, h => by
    have hy : b[p.length]? = some y := by rw [e]; simp
    have hlt : i + p.length < m.length := by
      have : b.length = p.length + (bs.length + 1) := by rw [e]; simp
      omega
    obtain ⟨x, hx⟩ : ∃ x, m[i + p.length]? = some x := ⟨_, List.getElem?_eq_getElem hlt⟩
    obtain ⟨s', e2⟩ := tim_in hc sc sb bs (p ++ [y]) (m.set (i + p.length) (x + c * y)) (.sh (.int (p.length : Int))) (by rw [e]; simp) (by rw [List.length_set]; exact h)
    refine ⟨s', ?_⟩
    have b1 := sm_bits sc
    have b2 := sm_bits (sb y (by rw [e]; simp))
    have ad : (bin dAdd (nm 3) (nm 4)) [.sh (.lst (inL a)), .sh (.lst (inL b)), .ow none (.l (inL m)), .sh (.int (i : Int)), .sh (.int (p.length : Int))] = .ok (.int ((i + p.length : Nat) : Int)) [.sh (.lst (inL a)), .sh (.lst (inL b)), .ow none (.l (inL m)), .sh (.int (i : Int)), .sh (.int (p.length : Int))] :=
      bin_ok (x := .int (i : Int)) (y := .int (p.length : Int)) rfl rfl (by show some (D.int ((i : Int) + (p.length : Int))) = _; rw [Int.natCast_add])
    have st : timI [.sh (.lst (inL a)), .sh (.lst (inL b)), .ow none (.l (inL m)), .sh (.int (i : Int)), .sh (.int (p.length : Int))] = .ok .nx [.sh (.lst (inL a)), .sh (.lst (inL b)), .ow none (.l (inL (m.set (i + p.length) (x + c * y)))), .sh (.int (i : Int)), .sh (.int (p.length : Int))] := by
      have ev : (bin dAdd (ixN 2 (bin dAdd (nm 3) (nm 4))) (bin dMul (ixN 0 (nm 3)) (ixN 1 (nm 4)))) [.sh (.lst (inL a)), .sh (.lst (inL b)), .ow none (.l (inL m)), .sh (.int (i : Int)), .sh (.int (p.length : Int))] = .ok (.int (x + c * y)) [.sh (.lst (inL a)), .sh (.lst (inL b)), .ow none (.l (inL m)), .sh (.int (i : Int)), .sh (.int (p.length : Int))] :=
        bin_ok (ixN_ow rfl ad rfl (getN_inL hx)) (bin_ok (ixN_sh (d := .lst (inL a)) (k := .int (i : Int)) rfl rfl rfl (getN_inL hc)) (ixN_sh (d := .lst (inL b)) (k := .int (p.length : Int)) rfl rfl rfl (getN_inL hy)) (mul_ok (by omega))) rfl
      refine (setI_ok (i := 2) (n := i + p.length) ev rfl ad rfl (by rw [inL_len]; exact hlt)).trans ?_
      rw [inL_set]
      rfl
    rw [List.length_cons, rngL, forL]
    show ((timI [.sh (.lst (inL a)), .sh (.lst (inL b)), .ow none (.l (inL m)), .sh (.int (i : Int)), .sh (.int (p.length : Int))]).bind _) = _
    rw [st, bind_ok]
    have ec : ((p ++ [y]).length : Int) = (p.length : Int) + 1 := by simp
    rw [ec] at e2
    rw [addAt_cons c y _ bs m x hx]
    refine e2.trans ?_
    rw [List.length_append]
    rfl
noncomputable abbrev timO : FS := (EV.ifS (tB (bin dNe (ixN 0 (nm 3)) (cC (.int 0))))
  (EV.forS (EV.iRng1 (aCons (lenN 1) aNil)) (gN 4) timI)
  sNx)
theorem tim_out {a b : List Int} (sa : ∀ y ∈ a, Sm y) (sb : ∀ y ∈ b, Sm y) (hb : b.length ≤ 1000) : ∀ (as p : List Int) (m : List Int) (s3 s4 : Slot), a = p ++ as → a.length + b.length ≤ m.length + 1 →
    ∃ s3' s4', forL (gN 3) timO (rngL (p.length : Int) as.length) [.sh (.lst (inL a)), .sh (.lst (inL b)), .ow none (.l (inL m)), s3, s4] = .ok .nx [.sh (.lst (inL a)), .sh (.lst (inL b)), .ow none (.l (inL (accP b p.length as m))), s3', s4']
  | [], p, m, s3, s4, e, h => ⟨s3, s4, rfl⟩
  | c :: as, p, m, s3, s4, e, h => by
    have hc : a[p.length]? = some c := by rw [e]; simp
    have ha : a.length = p.length + (as.length + 1) := by rw [e]; simp
    have ic : (ixN 0 (nm 3)) [.sh (.lst (inL a)), .sh (.lst (inL b)), .ow none (.l (inL m)), .sh (.int (p.length : Int)), s4] = .ok (.int c) [.sh (.lst (inL a)), .sh (.lst (inL b)), .ow none (.l (inL m)), .sh (.int (p.length : Int)), s4] :=
      ixN_sh (k := .int (p.length : Int)) rfl rfl rfl (getN_inL hc)
    have st : ∃ s4', timO [.sh (.lst (inL a)), .sh (.lst (inL b)), .ow none (.l (inL m)), .sh (.int (p.length : Int)), s4] = .ok .nx [.sh (.lst (inL a)), .sh (.lst (inL b)), .ow none (.l (inL (addAt c b p.length m))), .sh (.int (p.length : Int)), s4'] := by
      by_cases h0 : c = 0
      · subst h0
        refine ⟨s4, ?_⟩
        rw [addAt_zero]
        exact if_nx (tB_ok (bin_ok (y := .int 0) ic rfl rfl))
      · obtain ⟨s', e3⟩ := tim_in hc (sa c (by rw [e]; simp)) sb b [] m s4 rfl (by omega)
        refine ⟨s', ?_⟩
        refine (if_t (tB_ok (bin_ok (y := .int 0) ic rfl ?_))).trans ?_
        · rw [dNe_int]
          have : (c == 0) = false := by simpa using h0
          rw [this]
          rfl
        · have hr : (EV.iRng1 (aCons (lenN 1) aNil)) [.sh (.lst (inL a)), .sh (.lst (inL b)), .ow none (.l (inL m)), .sh (.int (p.length : Int)), s4] = .ok (rngL 0 (b.length : Int).toNat) [.sh (.lst (inL a)), .sh (.lst (inL b)), .ow none (.l (inL m)), .sh (.int (p.length : Int)), s4] := by
            refine rng1_ok (a1_ok (x := .int (b.length : Int)) ?_) (by omega) (by omega)
            simp [lenN, bLen, len_eq, inL]
          unfold EV.forS
          rw [hr, bind_ok]
          exact e3
    obtain ⟨s4', st⟩ := st
    obtain ⟨s3', s4'', e2⟩ := tim_out sa sb hb as (p ++ [c]) (addAt c b p.length m) (.sh (.int (p.length : Int))) s4' (by rw [e]; simp) (by rw [addAt_len]; exact h)
    refine ⟨s3', s4'', ?_⟩
    rw [List.length_cons, rngL, forL]
    show ((timO [.sh (.lst (inL a)), .sh (.lst (inL b)), .ow none (.l (inL m)), .sh (.int (p.length : Int)), s4]).bind _) = _
    rw [st, bind_ok]
    have ec : ((p ++ [c]).length : Int) = (p.length : Int) + 1 := by simp
    rw [ec] at e2
    refine e2.trans ?_
    rw [List.length_append]
    rfl
theorem rep0 (n : Nat) : (List.replicate n [D.int 0]).flatten = inL (zs n) := by
  induction n with
  | zero => rfl
  | succ n ih =>
    rw [List.replicate_succ, List.flatten_cons, ih]
    rfl
theorem repO_ok {n : Nat} (h : n ≤ 1000000) : dRepO (.lst [.int 0]) (.int n) = some (.l (inL (zs n))) := by
  have c : -(2 ^ 63) ≤ (n : Int) ∧ (n : Int) < 2 ^ 63 ∧ [D.int 0].length * (n : Int).toNat ≤ line := ⟨by omega, by omega, by rw [Int.toNat_natCast, List.length_singleton, Nat.one_mul]; exact line_ok h⟩
  unfold dRepO
  dsimp only
  rw [if_pos c, Int.toNat_natCast, rep0]
theorem binO_ok {g : D → D → Option O} {fa fb : FE} {ε ε1 ε2 : Env} {x y : D} {z : O} (h1 : fa ε = .ok x ε1) (h2 : fb ε1 = .ok y ε2) (h3 : g x y = some z) : binO g fa fb ε = .ok z ε2 := by simp [binO, h1, h2, h3]
theorem times_ok {a b : List Int} (na : a ≠ []) (sa : ∀ y ∈ a, Sm y) (sb : ∀ y ∈ b, Sm y) (ha : a.length ≤ 1000) (hb : b.length ≤ 1000) : m__law_times [.lst (inL a), .lst (inL b)] = .rto (.l (inL (pr a b))) := by
  have la : 0 < a.length := List.length_pos_iff.mpr na
  have l0 : ∀ s2 s3 s4 : Slot, (lenN 0) [.sh (.lst (inL a)), .sh (.lst (inL b)), s2, s3, s4] = .ok (.int (a.length : Int)) [.sh (.lst (inL a)), .sh (.lst (inL b)), s2, s3, s4] := fun _ _ _ => by simp [lenN, bLen, len_eq, inL]
  have l1 : ∀ s2 s3 s4 : Slot, (lenN 1) [.sh (.lst (inL a)), .sh (.lst (inL b)), s2, s3, s4] = .ok (.int (b.length : Int)) [.sh (.lst (inL a)), .sh (.lst (inL b)), s2, s3, s4] := fun _ _ _ => by simp [lenN, bLen, len_eq, inL]
  have e1 : (asgO 2 (binO dRepO (frz (lstO (aCons (cC (.int 0)) aNil))) (bin dSub (bin dAdd (lenN 0) (lenN 1)) (cC (.int 1))))) [.sh (.lst (inL a)), .sh (.lst (inL b)), .no, .no, .no] = .ok .nx [.sh (.lst (inL a)), .sh (.lst (inL b)), .ow none (.l (inL (zs (a.length + b.length - 1)))), .no, .no] := by
    refine asgO_ok (binO_ok (frz_ok (lstO_ok (xs := [.int 0]) rfl (by simp))) (bin_ok (x := .int ((a.length : Int) + b.length)) (y := .int 1) (bin_ok (l0 _ _ _) (l1 _ _ _) rfl) rfl rfl) ?_)
    have : ((a.length : Int) + b.length - 1) = ((a.length + b.length - 1 : Nat) : Int) := by omega
    rw [this]
    exact repO_ok (by omega)
  obtain ⟨s3, s4, e2⟩ := tim_out sa sb hb a [] (zs (a.length + b.length - 1)) .no .no rfl (by unfold zs; simp; omega)
  have e3 : (EV.forS (EV.iRng1 (aCons (lenN 0) aNil)) (gN 3) timO) [.sh (.lst (inL a)), .sh (.lst (inL b)), .ow none (.l (inL (zs (a.length + b.length - 1)))), .no, .no] = .ok .nx [.sh (.lst (inL a)), .sh (.lst (inL b)), .ow none (.l (inL (pr a b))), s3, s4] := by
    have hr : (EV.iRng1 (aCons (lenN 0) aNil)) [.sh (.lst (inL a)), .sh (.lst (inL b)), .ow none (.l (inL (zs (a.length + b.length - 1)))), .no, .no] = .ok (rngL 0 (a.length : Int).toNat) [.sh (.lst (inL a)), .sh (.lst (inL b)), .ow none (.l (inL (zs (a.length + b.length - 1)))), .no, .no] :=
      rng1_ok (a1_ok (l0 _ _ _)) (by omega) (by omega)
    unfold EV.forS
    rw [hr, bind_ok]
    exact e2
  exact fn_rto rfl ((seq_nx e1).trans ((seq_nx e3).trans rfl))
/-! ### the program's -/
def plc : Nat → List Int → List D
  | _, [] => []
  | k, y :: bs => if y = 0 then plc (k + 1) bs else .tup [.int k, .int y] :: plc (k + 1) bs
theorem plc_z (k : Nat) (bs : List Int) : plc k (0 :: bs) = plc (k + 1) bs := if_pos rfl
theorem plc_n {k : Nat} {y : Int} {bs : List Int} (h : y ≠ 0) : plc k (y :: bs) = .tup [.int k, .int y] :: plc (k + 1) bs := if_neg h
theorem plc_len : ∀ (k : Nat) (bs : List Int), (plc k bs).length ≤ bs.length
  | k, [] => Nat.le_refl _
  | k, y :: bs => by
    have := plc_len (k + 1) bs
    unfold plc
    split
    · simp only [List.length_cons]; omega
    · simp only [List.length_cons]; omega
theorem plc_lc {ε : Env} (hε : ∀ (u v : D), ∃ ε1 : Env, (gT (gsCons (gN 6) (gsCons (gN 7) gsNil))) (.tup [u, v]) ε = some ε1 ∧ nm 6 ε1 = .ok u ε1 ∧ nm 7 ε1 = .ok v ε1 ∧ wipeE ε1 [6, 7] = ε) : ∀ (k : Nat) (bs : List Int), lcL [6, 7] (gT (gsCons (gN 6) (gsCons (gN 7) gsNil))) (tT (nm 7)) (tupE (aCons (nm 6) (aCons (nm 7) aNil))) (pairL k (inL bs)) ε = .ok (plc k bs) ε
  | k, [] => rfl
  | k, y :: bs => by
    obtain ⟨ε1, h1, h2, h3, h4⟩ := hε (.int k) (.int y)
    have ih := plc_lc hε (k + 1) bs
    show lcL [6, 7] _ _ _ (.tup [.int k, .int y] :: pairL (k + 1) (inL bs)) ε = _
    unfold lcL
    rw [h1, of_some]
    by_cases h0 : y = 0
    · subst h0
      rw [tT_ok (b := false) h3 rfl, bindB_ok', if_neg (by simp), h4, ih, plc_z]
    · have hb : tru (.int y) = some true := by
        show some (y != 0) = _
        simp [h0]
      rw [tT_ok h3 hb, bindB_ok', if_pos rfl, tupE_ok (ac_ok h2 (a1_ok h3)) (by simp), bindB_ok', h4, ih, plc_n h0]
      rfl
noncomputable abbrev proI : FS := (setI 2 (bin dAdd (nm 4) (nm 6)) (bin dAdd (ixN 2 (bin dAdd (nm 4) (nm 6))) (bin dMul (nm 5) (nm 7))))
theorem pro_in {A B P : Slot} {c : Int} {i : Nat} (sc : Sm c) {s8 : Slot} : ∀ (bs : List Int) (k : Nat) (m : List Int) (s6 s7 : Slot), (∀ y ∈ bs, Sm y) → i + k + bs.length ≤ m.length →
    ∃ s6' s7', forL (gT (gsCons (gN 6) (gsCons (gN 7) gsNil))) proI (plc k bs) [A, B, .ow none (.l (inL m)), P, .sh (.int (i : Int)), .sh (.int c), s6, s7, s8] = .ok .nx [A, B, .ow none (.l (inL (addAt c bs (i + k) m))), P, .sh (.int (i : Int)), .sh (.int c), s6', s7', s8]
  | [], k, m, s6, s7, sb, h => ⟨s6, s7, by rw [addAt_nil]; rfl⟩
  | y :: bs, k, m, s6, s7, sb, h => by
    simp only [List.length_cons] at h
    have hlt : i + k < m.length := by omega
    obtain ⟨x, hx⟩ : ∃ x, m[i + k]? = some x := ⟨_, List.getElem?_eq_getElem hlt⟩
    by_cases h0 : y = 0
    · subst h0
      obtain ⟨s6', s7', e2⟩ := pro_in (A := A) (B := B) (P := P) (i := i) (s8 := s8) sc bs (k + 1) m s6 s7 (fun y hy => sb y (List.mem_cons_of_mem _ hy)) (by omega)
      refine ⟨s6', s7', ?_⟩
      have same : m.set (i + k) x = m := by
        obtain ⟨h1, h2⟩ := List.getElem?_eq_some_iff.mp hx
        rw [← h2, List.set_getElem_self]
      rw [plc_z, e2, addAt_cons c 0 _ bs m x hx, Int.mul_zero, Int.add_zero, same]
      rfl
    · obtain ⟨s6', s7', e2⟩ := pro_in (A := A) (B := B) (P := P) (i := i) (s8 := s8) sc bs (k + 1) (m.set (i + k) (x + c * y)) (.sh (.int (k : Int))) (.sh (.int y)) (fun y hy => sb y (List.mem_cons_of_mem _ hy)) (by rw [List.length_set]; omega)
      refine ⟨s6', s7', ?_⟩
      have b1 := sm_bits sc
      have b2 := sm_bits (sb y List.mem_cons_self)
      have ad : (bin dAdd (nm 4) (nm 6)) [A, B, .ow none (.l (inL m)), P, .sh (.int (i : Int)), .sh (.int c), .sh (.int (k : Int)), .sh (.int y), s8] = .ok (.int ((i + k : Nat) : Int)) [A, B, .ow none (.l (inL m)), P, .sh (.int (i : Int)), .sh (.int c), .sh (.int (k : Int)), .sh (.int y), s8] :=
        bin_ok (x := .int (i : Int)) (y := .int (k : Int)) rfl rfl (by show some (D.int ((i : Int) + (k : Int))) = _; rw [Int.natCast_add])
      have st : proI [A, B, .ow none (.l (inL m)), P, .sh (.int (i : Int)), .sh (.int c), .sh (.int (k : Int)), .sh (.int y), s8] = .ok .nx [A, B, .ow none (.l (inL (m.set (i + k) (x + c * y)))), P, .sh (.int (i : Int)), .sh (.int c), .sh (.int (k : Int)), .sh (.int y), s8] := by
        have ev : (bin dAdd (ixN 2 (bin dAdd (nm 4) (nm 6))) (bin dMul (nm 5) (nm 7))) [A, B, .ow none (.l (inL m)), P, .sh (.int (i : Int)), .sh (.int c), .sh (.int (k : Int)), .sh (.int y), s8] = .ok (.int (x + c * y)) [A, B, .ow none (.l (inL m)), P, .sh (.int (i : Int)), .sh (.int c), .sh (.int (k : Int)), .sh (.int y), s8] :=
          bin_ok (ixN_ow rfl ad rfl (getN_inL hx)) (bin_ok (x := .int c) (y := .int y) rfl rfl (mul_ok (by omega))) rfl
        refine (setI_ok (i := 2) (n := i + k) ev rfl ad rfl (by rw [inL_len]; exact hlt)).trans ?_
        rw [inL_set]
        rfl
      rw [plc_n h0, forL]
      show ((proI [A, B, .ow none (.l (inL m)), P, .sh (.int (i : Int)), .sh (.int c), .sh (.int (k : Int)), .sh (.int y), s8]).bind _) = _
      rw [st, bind_ok, addAt_cons c y _ bs m x hx]
      exact e2
noncomputable abbrev proO : FS := (EV.ifS (tT (nm 5))
  (EV.forS (iSeq (nm 3)) (gT (gsCons (gN 6) (gsCons (gN 7) gsNil))) proI)
  sNx)
theorem pro_out {A B s8 : Slot} {b : List Int} (sb : ∀ y ∈ b, Sm y) : ∀ (as : List Int) (i : Nat) (m : List Int) (P s4 s5 s6 s7 : Slot), (P = .ow none (.l (plc 0 b)) ∨ P = .sh (.lst (plc 0 b))) → (∀ y ∈ as, Sm y) → i + as.length + b.length ≤ m.length + 1 →
    ∃ P' s4' s5' s6' s7', forL (gT (gsCons (gN 4) (gsCons (gN 5) gsNil))) proO (pairL i (inL as)) [A, B, .ow none (.l (inL m)), P, s4, s5, s6, s7, s8] = .ok .nx [A, B, .ow none (.l (inL (accP b i as m))), P', s4', s5', s6', s7', s8]
  | [], i, m, P, s4, s5, s6, s7, hP, sa, h => ⟨P, s4, s5, s6, s7, rfl⟩
  | c :: as, i, m, P, s4, s5, s6, s7, hP, sa, h => by
    simp only [List.length_cons] at h
    have st : ∃ P' s6' s7', (P' = .ow none (.l (plc 0 b)) ∨ P' = .sh (.lst (plc 0 b))) ∧ proO [A, B, .ow none (.l (inL m)), P, .sh (.int (i : Int)), .sh (.int c), s6, s7, s8] = .ok .nx [A, B, .ow none (.l (inL (addAt c b i m))), P', .sh (.int (i : Int)), .sh (.int c), s6', s7', s8] := by
      by_cases h0 : c = 0
      · subst h0
        refine ⟨P, s6, s7, hP, ?_⟩
        rw [addAt_zero]
        exact if_nx (tT_ok (x := .int 0) rfl rfl)
      · have hb : tru (.int c) = some true := by
          show some (c != 0) = _
          simp [h0]
        obtain ⟨s6', s7', e3⟩ := pro_in (A := A) (B := B) (P := .sh (.lst (plc 0 b))) (c := c) (i := i) (s8 := s8) (sa c List.mem_cons_self) b 0 m s6 s7 sb (by omega)
        refine ⟨.sh (.lst (plc 0 b)), s6', s7', .inr rfl, ?_⟩
        refine (if_t (tT_ok (x := .int c) rfl hb)).trans ?_
        have hi : (iSeq (nm 3)) [A, B, .ow none (.l (inL m)), P, .sh (.int (i : Int)), .sh (.int c), s6, s7, s8] = .ok (plc 0 b) [A, B, .ow none (.l (inL m)), .sh (.lst (plc 0 b)), .sh (.int (i : Int)), .sh (.int c), s6, s7, s8] := by
          rcases hP with rfl | rfl <;> rfl
        unfold EV.forS
        rw [hi, bind_ok]
        exact e3
    obtain ⟨P', s6', s7', hP', st⟩ := st
    obtain ⟨P2, t4, t5, t6, t7, e2⟩ := pro_out sb as (i + 1) (addAt c b i m) P' (.sh (.int (i : Int))) (.sh (.int c)) s6' s7' hP' (fun y hy => sa y (List.mem_cons_of_mem _ hy)) (by rw [addAt_len]; omega)
    refine ⟨P2, t4, t5, t6, t7, ?_⟩
    show forL _ proO (.tup [.int (i : Int), .int c] :: pairL (i + 1) (inL as)) _ = _
    rw [forL]
    show ((proO [A, B, .ow none (.l (inL m)), P, .sh (.int (i : Int)), .sh (.int c), s6, s7, s8]).bind _) = _
    rw [st, bind_ok]
    exact e2
theorem zs_lc {own : List Nat} {fi : FA} {i : Nat} {ε ε1 : Env} {n : Nat} (hi : fi ε = .ok (rngL 0 n) ε1) (hn : n ≤ 1000000) (hb : ∀ d, ∃ ε2, gN i d (wipeE ε1 own) = some ε2 ∧ wipeE ε2 own = wipeE ε1 own) : EV.lc own fi (gN i) EV.tYes (cC (.int 0)) ε = .ok (.l (inL (zs n))) (backE ε1 (wipeE ε1 own) own) := by
  refine (lc_map (f := fun _ => .int 0) hi (by rw [rngL_len]; exact hn) fun x hx => ?_).trans ?_
  · obtain ⟨ε2, h1, h2⟩ := hb x
    exact ⟨ε2, ε2, h1, rfl, h2⟩
  · have : ∀ (n : Nat) (lo : Int), (rngL lo n).map (fun _ => D.int 0) = inL (zs n) := by
      intro n
      induction n with
      | zero => intro lo; rfl
      | succ n ih => intro lo; rw [rngL, List.map_cons, ih]; rfl
    rw [this]
theorem tru_ne {xs : List Int} (h : xs ≠ []) : tru (.lst (inL xs)) = some true ∧ tru (.tup (inL xs)) = some true := by
  cases xs with
  | nil => exact absurd rfl h
  | cons x xs => exact ⟨rfl, rfl⟩
theorem product_ok {d1 d2 : D} {a b : List Int} (h1 : d1 = .lst (inL a) ∨ d1 = .tup (inL a)) (h2 : d2 = .lst (inL b) ∨ d2 = .tup (inL b)) (na : a ≠ []) (nb : b ≠ []) (sa : ∀ y ∈ a, Sm y) (sb : ∀ y ∈ b, Sm y) (ha : a.length ≤ 1000) (hb : b.length ≤ 1000) : m_tops_product [d1, d2] = .rto (.l (inL (pr a b))) := by
  have la : 0 < a.length := List.length_pos_iff.mpr na
  have t1 : tru d1 = some true := by rcases h1 with rfl | rfl; exact (tru_ne na).1; exact (tru_ne na).2
  have t2 : tru d2 = some true := by rcases h2 with rfl | rfl; exact (tru_ne nb).1; exact (tru_ne nb).2
  have e0 : (EV.ifS (tOr (tNot (tT (nm 0))) (tNot (tT (nm 1)))) (EV.retO (lstO aNil)) sNx) [.sh d1, .sh d2, .no, .no, .no, .no, .no, .no, .no] = .ok .nx [.sh d1, .sh d2, .no, .no, .no, .no, .no, .no, .no] :=
    if_nx (or_f (not_ok (b := true) (tT_ok (x := d1) rfl t1)) (not_ok (b := true) (tT_ok (x := d2) rfl t2)))
  have b1 : bLen [d1] = some (.int a.length) := by rcases h1 with rfl | rfl <;> simp [bLen, len_eq, inL]
  have b2 : bLen [d2] = some (.int b.length) := by rcases h2 with rfl | rfl <;> simp [bLen, len_eq, inL]
  have l0 : (lenN 0) [.sh d1, .sh d2, .no, .no, .no, .no, .no, .no, .no] = .ok (.int (a.length : Int)) [.sh d1, .sh d2, .no, .no, .no, .no, .no, .no, .no] := by
    show R.of (bLen [d1]) _ = _
    rw [b1]
    rfl
  have l1 : (lenN 1) [.sh d1, .sh d2, .no, .no, .no, .no, .no, .no, .no] = .ok (.int (b.length : Int)) [.sh d1, .sh d2, .no, .no, .no, .no, .no, .no, .no] := by
    show R.of (bLen [d2]) _ = _
    rw [b2]
    rfl
  have e1 : (asgO 2 (EV.lc [8] (EV.iRng1 (aCons (bin dSub (bin dAdd (lenN 0) (lenN 1)) (cC (.int 1))) aNil)) (gN 8) EV.tYes (cC (.int 0)))) [.sh d1, .sh d2, .no, .no, .no, .no, .no, .no, .no] = .ok .nx [.sh d1, .sh d2, .ow none (.l (inL (zs (a.length + b.length - 1)))), .no, .no, .no, .no, .no, .no] := by
    have hr : (EV.iRng1 (aCons (bin dSub (bin dAdd (lenN 0) (lenN 1)) (cC (.int 1))) aNil)) [.sh d1, .sh d2, .no, .no, .no, .no, .no, .no, .no] = .ok (rngL 0 (a.length + b.length - 1)) [.sh d1, .sh d2, .no, .no, .no, .no, .no, .no, .no] := by
      have := rng1_ok (fr := aCons (bin dSub (bin dAdd (lenN 0) (lenN 1)) (cC (.int 1))) aNil) (ε := [.sh d1, .sh d2, .no, .no, .no, .no, .no, .no, .no]) (j := (a.length : Int) + b.length - 1) (a1_ok (bin_ok (y := .int 1) (bin_ok l0 l1 rfl) rfl rfl)) (by omega) (by omega)
      rw [this]
      congr 2
      omega
    refine asgO_ok (zs_lc hr (by omega) fun d => ⟨[.sh d1, .sh d2, .no, .no, .no, .no, .no, .no, .sh d], rfl, rfl⟩)
  have e2 : (asgO 3 (EV.lc [6, 7] (EV.iEnumT (nm 1)) (gT (gsCons (gN 6) (gsCons (gN 7) gsNil))) (tT (nm 7)) (tupE (aCons (nm 6) (aCons (nm 7) aNil))))) [.sh d1, .sh d2, .ow none (.l (inL (zs (a.length + b.length - 1)))), .no, .no, .no, .no, .no, .no] = .ok .nx [.sh d1, .sh d2, .ow none (.l (inL (zs (a.length + b.length - 1)))), .ow none (.l (plc 0 b)), .no, .no, .no, .no, .no] := by
    have hi : (EV.iEnumT (nm 1)) [.sh d1, .sh d2, .ow none (.l (inL (zs (a.length + b.length - 1)))), .no, .no, .no, .no, .no, .no] = .ok (pairL 0 (inL b)) [.sh d1, .sh d2, .ow none (.l (inL (zs (a.length + b.length - 1)))), .no, .no, .no, .no, .no, .no] := by
      rcases h2 with rfl | rfl <;> rfl
    refine asgO_ok (lc_ok hi (by rw [pairL_length, inL_len]; omega) (plc_lc (fun u v => ⟨[.sh d1, .sh d2, .ow none (.l (inL (zs (a.length + b.length - 1)))), .no, .no, .no, .sh u, .sh v, .no], rfl, rfl, rfl, rfl⟩) 0 b))
  obtain ⟨P', t4, t5, t6, t7, e3⟩ := pro_out (A := .sh d1) (B := .sh d2) (s8 := .no) sb a 0 (zs (a.length + b.length - 1)) (.ow none (.l (plc 0 b))) .no .no .no .no (.inl rfl) sa (by unfold zs; simp; omega)
  have e4 : (EV.forS (EV.iEnumT (nm 0)) (gT (gsCons (gN 4) (gsCons (gN 5) gsNil))) proO) [.sh d1, .sh d2, .ow none (.l (inL (zs (a.length + b.length - 1)))), .ow none (.l (plc 0 b)), .no, .no, .no, .no, .no] = .ok .nx [.sh d1, .sh d2, .ow none (.l (inL (pr a b))), P', t4, t5, t6, t7, .no] := by
    have hi : (EV.iEnumT (nm 0)) [.sh d1, .sh d2, .ow none (.l (inL (zs (a.length + b.length - 1)))), .ow none (.l (plc 0 b)), .no, .no, .no, .no, .no] = .ok (pairL 0 (inL a)) [.sh d1, .sh d2, .ow none (.l (inL (zs (a.length + b.length - 1)))), .ow none (.l (plc 0 b)), .no, .no, .no, .no, .no] := by
      rcases h1 with rfl | rfl <;> rfl
    unfold EV.forS
    rw [hi, bind_ok]
    exact e3
  exact fn_rto rfl ((seq_nx e0).trans ((seq_nx e1).trans ((seq_nx e2).trans ((seq_nx e4).trans rfl))))
end EV
set_option maxRecDepth 100000
/-! K06_G: sizes; the tops of a book are a book; slope. -/
namespace EV
open PySem
/-! ### sizes -/
def Sz (n : Nat) (xs : List Int) : Prop := ∀ x ∈ xs, x.natAbs ≤ n
theorem Sz.mono {n m : Nat} {xs : List Int} (h : Sz n xs) (hm : n ≤ m) : Sz m xs := fun x hx => Nat.le_trans (h x hx) hm
theorem Sz.sm {n : Nat} {xs : List Int} (h : Sz n xs) (hn : n < 2 ^ 1000) : ∀ x ∈ xs, Sm x := fun x hx => Nat.lt_of_le_of_lt (h x hx) hn
theorem addAt_sz {c : Int} {k n M : Nat} (hc : c.natAbs ≤ k) : ∀ (b : List Int) (i : Nat) (m : List Int), Sz n b → Sz M m → Sz (M + k * n) (addAt c b i m)
  | b, i, [], hb, hm => by
    intro x hx
    simp [addAt] at hx
  | b, i + 1, z :: m, hb, hm => by
    intro x hx
    simp only [addAt, List.mem_cons] at hx
    rcases hx with rfl | hx
    · exact Nat.le_trans (hm x List.mem_cons_self) (Nat.le_add_right _ _)
    · exact addAt_sz hc b i m hb (fun y hy => hm y (List.mem_cons_of_mem _ hy)) x hx
  | [], 0, z :: m, hb, hm => hm.mono (Nat.le_add_right _ _)
  | y :: b, 0, z :: m, hb, hm => by
    intro x hx
    simp only [addAt, List.mem_cons] at hx
    rcases hx with rfl | hx
    · have h1 := Int.natAbs_add_le z (c * y)
      have h2 := hm z List.mem_cons_self
      have h3 : (c * y).natAbs ≤ k * n := by
        rw [Int.natAbs_mul]
        exact Nat.mul_le_mul hc (hb y List.mem_cons_self)
      omega
    · exact addAt_sz hc b 0 m (fun y hy => hb y (List.mem_cons_of_mem _ hy)) (fun y hy => hm y (List.mem_cons_of_mem _ hy)) x hx
theorem accP_sz {k n : Nat} {b : List Int} (hb : Sz n b) : ∀ (a : List Int) (i M : Nat) (m : List Int), Sz k a → Sz M m → Sz (M + a.length * (k * n)) (accP b i a m)
  | [], i, M, m, ha, hm => by simpa [accP] using hm
  | c :: a, i, M, m, ha, hm => by
    have h1 := addAt_sz (ha c List.mem_cons_self) b i m hb hm
    have h2 := accP_sz hb a (i + 1) (M + k * n) _ (fun y hy => ha y (List.mem_cons_of_mem _ hy)) h1
    refine h2.mono ?_
    rw [List.length_cons, Nat.add_mul, Nat.one_mul]
    omega
theorem zs_sz (n : Nat) : Sz 0 (zs n) := fun x hx => by
  rw [List.eq_of_mem_replicate hx]
  exact Nat.le_refl _
theorem pr_sz {k n : Nat} {a b : List Int} (ha : Sz k a) (hb : Sz n b) : Sz (a.length * (k * n)) (pr a b) := by
  have := accP_sz hb a 0 0 (zs (a.length + b.length - 1)) ha (zs_sz _)
  rw [Nat.zero_add] at this
  exact this
theorem hv_sz {n : Nat} : ∀ (ts : List Int) (c : Int), Sz n ts → Sz (c.natAbs + ts.length * n) (hv c ts)
  | [], c, h => by
    intro x hx
    simp [hv] at hx
  | t :: ts, c, h => by
    have h1 := h t List.mem_cons_self
    have h2 := hv_sz ts (t - c) (fun y hy => h y (List.mem_cons_of_mem _ hy))
    have h3 := Int.natAbs_sub_le t c
    intro x hx
    simp only [hv, List.mem_cons] at hx
    rw [List.length_cons, Nat.add_mul, Nat.one_mul]
    rcases hx with rfl | hx
    · omega
    · have := h2 x hx
      omega
theorem map2_sz {n : Nat} {q : List Int} (h : Sz n q) : Sz (2 * n) (q.map (2 * ·)) := by
  intro x hx
  obtain ⟨y, hy, rfl⟩ := List.mem_map.mp hx
  have := h y hy
  show (2 * y).natAbs ≤ _
  omega
theorem map_sz {n : Nat} {g : Int} (hg : 0 < g) {T : List Int} (h : Sz n (T.map (g * ·))) : Sz n T := by
  intro x hx
  have h1 : (g * x).natAbs ≤ n := h _ (List.mem_map.mpr ⟨x, hx, rfl⟩)
  have h2 : 1 * x.natAbs ≤ g.natAbs * x.natAbs := Nat.mul_le_mul_right _ (by omega)
  rw [Int.natAbs_mul] at h1
  omega
/-! ### the tops -/
theorem val_tops {xs T : List Int} {l B g : Int} (v : Val xs l) (t : TopsOf xs l T B g) : Val T B := by
  have g0 := t.g0
  obtain ⟨h1, h2⟩ := half_tops t v.sS v.sA
  have hl : xs.length = T.length := by rw [t.x0, List.length_map]
  refine ⟨t.B0, sm_mul_le g0 (by rw [Int.mul_comm, ← t.l0]; exact v.sl), ?_, by rw [← hl]; exact v.n2, by rw [← hl]; exact v.n3, ?_, ?_, h1, h2⟩
  · intro x hx
    have : Sm (g * x) := v.sx _ (by rw [t.x0]; exact List.mem_map.mpr ⟨x, hx, rfl⟩)
    rw [Int.mul_comm] at this
    exact sm_mul_le g0 this
  · obtain ⟨a, ha, na⟩ := v.fst
    rw [t.x0, List.getElem?_map] at ha
    cases e : T[0]? with
    | none => rw [e] at ha; cases ha
    | some b =>
      rw [e] at ha
      cases ha
      exact ⟨b, rfl, fun z => na (by rw [z]; exact Int.mul_zero g)⟩
  · obtain ⟨a, ha, na⟩ := v.lst
    rw [t.x0, List.getLast?_map] at ha
    cases e : T.getLast? with
    | none => rw [e] at ha; cases ha
    | some b =>
      rw [e] at ha
      cases ha
      exact ⟨b, rfl, fun z => na (by rw [z]; exact Int.mul_zero g)⟩
/-- a book without a double factor taken out: its quotient by 1 + z -/
theorem quot {T : List Int} {B : Int} (v : Val T B) : ∃ q, hv 0 T = q ++ [0] ∧ T.length = q.length + 1 ∧ sS T = 2 * sS q ∧ q[0]? = T[0]? ∧ q.getLast? = T.getLast? ∧ q ≠ [] := by
  have n2 := v.n2
  have hl := hv_len 0 T
  have hne : hv 0 T ≠ [] := fun z => by rw [z] at hl; simp at hl; omega
  obtain ⟨q, d, e⟩ : ∃ q d, hv 0 T = q ++ [d] := ⟨_, _, (List.dropLast_concat_getLast hne).symm⟩
  obtain ⟨h1, h2, h3⟩ := hv_last T 0 q d e
  rw [v.sA] at h1
  have hd : d = 0 := (sg_zero (n := T.length + 1)).mp (by omega)
  subst hd
  have hq : q ≠ [] := fun z => by rw [z] at h3; simp at h3; omega
  refine ⟨q, e, h3, by omega, ?_, ?_, hq⟩
  · cases T with
    | nil => simp at n2
    | cons t ts =>
      cases q with
      | nil => exact absurd rfl hq
      | cons x q =>
        have : (t - 0) :: hv (t - 0) ts = x :: (q ++ [0]) := e
        injection this with e1 e2
        simp
        omega
  · have hT : T ≠ [] := fun z => by rw [z] at n2; simp at n2
    obtain ⟨p, x, ep⟩ : ∃ p x, T = p ++ [x] := ⟨_, _, (List.dropLast_concat_getLast hT).symm⟩
    rw [ep, hv_snoc] at e
    obtain ⟨e1, e2⟩ := List.append_inj' e rfl
    rw [e1] at e2
    have e3 : x - (q.getLast?).getD 0 = 0 := by injection e2
    rw [ep, List.getLast?_concat]
    cases eq : q.getLast? with
    | none => exact absurd (List.getLast?_eq_none_iff.mp eq) hq
    | some y =>
      rw [eq] at e3
      have : x = y := by
        have : x - y = 0 := e3
        omega
      rw [this]
theorem val_slope {T q : List Int} {B : Int} (v : Val T B) (e : hv 0 T = q ++ [0]) (hA : sA q = 0) (sz : ∀ x ∈ q.map (2 * ·), Sm x) : Val (q.map (2 * ·)) B := by
  obtain ⟨q', e', h1, h2, h3, h4, h5⟩ := quot v
  have : q' = q := (List.append_inj' (e'.symm.trans e) rfl).1
  subst this
  have n2 := v.n2
  have n3 := v.n3
  obtain ⟨a, ha, na⟩ := v.fst
  obtain ⟨b, hb, nb⟩ := v.lst
  refine ⟨v.l0, v.sl, sz, ?_, by rw [List.length_map]; omega, ⟨2 * a, by rw [List.getElem?_map, h3, ha]; rfl, by omega⟩, ⟨2 * b, by rw [List.getLast?_map, h4, hb]; rfl, by omega⟩, ?_, by rw [sA_map, hA, Int.mul_zero]⟩
  · rw [List.length_map]
    rcases Nat.lt_or_ge q'.length 2 with h | h
    · exfalso
      match q', h5, h, h3, hA with
      | [y], _, _, h3, hA =>
        rw [ha] at h3
        simp at h3
        simp [sA] at hA
        omega
    · exact h
  · rw [sS_map, ← h2]
    exact v.sS
/-! ### no exception within -/
theorem noXs_inL : ∀ xs : List Int, noXs (inL xs) = true
  | [] => by simp [inL, noXs]
  | x :: xs => by
    show (noX (.int x) && noXs (inL xs)) = true
    rw [noXs_inL xs]
    simp [noX]
theorem noXs_rts (l : Int) : ∀ xs : List Int, noXs (rts l xs) = true
  | [] => by simp [rts, noXs]
  | x :: xs => by
    show (noX (rt x l) && noXs (rts l xs)) = true
    rw [noXs_rts l xs]
    simp [noX, noXs]
theorem noX_bk (xs : List Int) (l : Int) (T : List Int) (B : Int) : noX (bkD xs l T B) = true := by
  simp only [noX, noXs, noXs_rts, noXs_inL, Bool.and_self]
theorem noX_plain (xs : List Int) (l : Int) : noX (plain xs l) = true := by
  simp only [noX, noXs, noXs_inL, Bool.and_self]
theorem tidy_ok2 {fl : Fl} {ε : Env} (h1 : ε.all noXS = true) (h2 : noXF fl = true) : tidy (.ok fl ε) = .ok fl ε := if_pos ⟨h1, h2⟩
theorem try_ok {g : FS} {hs : List Clause} {ε ε1 : Env} {fl : Fl} (h : g ε = .ok fl ε1) : tryS g hs ε = .ok fl ε1 := by
  unfold tryS
  rw [h]
theorem try_ex {g body : FS} {i : Nat} {t : Nat → Option Bool} {r : List Clause} {ε ε1 ε2 : Env} {c : Nat} {fs : List D} {d : D} (h : g ε = .ex c fs ε1) (ht : t c = some true) (hb : body (ε1.set i (.sh (.exc c fs))) = .ok (.rt d) ε2) (h1 : (ε2.set i .no).all noXS = true) (h2 : noX d = true) : tryS g (⟨some i, t, body⟩ :: r) ε = .ok (.rt d) (ε2.set i .no) := by
  unfold tryS
  rw [h]
  show hand (⟨some i, t, body⟩ :: r) c fs ε1 = _
  unfold hand
  simp only [ht]
  rw [hb]
  exact tidy_ok2 h1 h2
theorem try_no {g body : FS} {i : Nat} {t : Nat → Option Bool} {r : List Clause} {ε ε1 : Env} {c : Nat} {fs : List D} (h : g ε = .ex c fs ε1) (ht : t c = some false) : tryS g (⟨some i, t, body⟩ :: r) ε = hand r c fs ε1 := by
  unfold tryS
  rw [h]
  show hand (⟨some i, t, body⟩ :: r) c fs ε1 = _
  conv => lhs; unfold hand
  simp only [ht]
theorem hand_yes {body : FS} {i : Nat} {t : Nat → Option Bool} {r : List Clause} {ε1 ε2 : Env} {c : Nat} {fs : List D} {d : D} (ht : t c = some true) (hb : body (ε1.set i (.sh (.exc c fs))) = .ok (.rt d) ε2) (h1 : (ε2.set i .no).all noXS = true) (h2 : noX d = true) : hand (⟨some i, t, body⟩ :: r) c fs ε1 = .ok (.rt d) (ε2.set i .no) := by
  unfold hand
  simp only [ht]
  rw [hb]
  exact tidy_ok2 h1 h2
/-! ### the law's looks at errors -/
theorem and_tt {fa fb : FE} {ε ε1 : Env} (h : fa ε = .ok (.bl true) ε1) : eAnd fa fb ε = fb ε1 := by
  unfold eAnd
  rw [h, bind_ok]
  rfl
theorem and_ff {fa fb : FE} {ε ε1 : Env} (h : fa ε = .ok (.bl false) ε1) : eAnd fa fb ε = .ok (.bl false) ε1 := by
  unfold eAnd
  rw [h, bind_ok]
  rfl
theorem shp_str {w : Str} (h : PyData.strOk w = true) : shp (.str w) = true := by
  show (PyData.strOk w && decide (PyData.depth (.str w) ≤ 64)) = true
  rw [h]
  rfl
theorem dEq_str {w z : Str} (hw : PyData.strOk w = true) (hz : PyData.strOk z = true) : dEq (.str w) (.str z) = some (.bl (w == z)) := by
  unfold dEq
  exact if_pos ⟨shp_str hw, shp_str hz⟩
theorem dNe_str {w z : Str} (hw : PyData.strOk w = true) (hz : PyData.strOk z = true) : dNe (.str w) (.str z) = some (.bl (!(w == z))) := by
  unfold dNe
  exact if_pos ⟨shp_str hw, shp_str hz⟩
theorem str_ne {w : Str} (hw : PyData.strOk w = true) (h : (w == ("" : Str)) = false) : dNe (.str w) (.str "") = some (.bl true) := by
  rw [dNe_str hw (by decide +kernel), h]
  rfl
theorem is_bad_ok {w : Str} (hw : PyData.strOk w = true) (h : (w == ("" : Str)) = false) : m__law_is_bad [.exc 0 [.str w]] = .ret (.bl true) := by
  have h1 : (EV.ifS (tOr (tNot (tT (un (bIsX (tab xt_ValueError)) (nm 0)))) (tT (un (bIsX (tab xt_TooMany_BadNumber)) (nm 0)))) (EV.ret (cC (.bl false))) sNx) [.sh (.exc 0 [.str w])] = .ok .nx [.sh (.exc 0 [.str w])] :=
    if_nx (or_f (not_ok (b := true) (tT_ok (x := .bl true) rfl rfl)) (tT_ok (x := .bl false) rfl rfl))
  have x1 : (xfE (tab ixx_why) (nm 0)) [.sh (.exc 0 [.str w])] = .ok (.str w) [.sh (.exc 0 [.str w])] := rfl
  have x2 : (bin dNe (xfE (tab ixx_why) (nm 0)) (cC (.str ""))) [.sh (.exc 0 [.str w])] = .ok (.bl true) [.sh (.exc 0 [.str w])] := bin_ok x1 rfl (str_ne hw h)
  have x3 : (bi (bIsTy .str) (aCons (xfE (tab ixx_why) (nm 0)) aNil)) [.sh (.exc 0 [.str w])] = .ok (.bl true) [.sh (.exc 0 [.str w])] := bi_ok (a1_ok x1) rfl
  have h2 : (EV.ret (eAnd (bi (bIsTy .str) (aCons (xfE (tab ixx_why) (nm 0)) aNil)) (bin dNe (xfE (tab ixx_why) (nm 0)) (cC (.str ""))))) [.sh (.exc 0 [.str w])] = .ok (.rt (.bl true)) [.sh (.exc 0 [.str w])] := by
    exact ret_ok ((and_tt x3).trans x2)
  exact fn_ret rfl ((seq_nx h1).trans h2)
theorem many_ok {n : Int} (h : 40 < n) : m__law_many [.exc 1 [.int n, .str "reach"], .int n] = .ret (.bl true) := by
  have x1 : (xfE (tab ixx_count) (nm 0)) [.sh (.exc 1 [.int n, .str "reach"]), .sh (.int n)] = .ok (.int n) [.sh (.exc 1 [.int n, .str "reach"]), .sh (.int n)] := rfl
  have x2 : (xfE (tab ixx_what) (nm 0)) [.sh (.exc 1 [.int n, .str "reach"]), .sh (.int n)] = .ok (.str "reach") [.sh (.exc 1 [.int n, .str "reach"]), .sh (.int n)] := rfl
  have h1 : (EV.ifS (tOr (tNot (tT (un (bIsX (tab xt_ValueError)) (nm 0)))) (tOr (tT (un (bIsX (tab xt_BadBook_BadNumber)) (nm 0))) (tNot (tT (EV.call m__law_is_int (aCons (xfE (tab ixx_count) (nm 0)) aNil)))))) (EV.ret (cC (.bl false))) sNx) [.sh (.exc 1 [.int n, .str "reach"]), .sh (.int n)] = .ok .nx [.sh (.exc 1 [.int n, .str "reach"]), .sh (.int n)] :=
    if_nx (or_f (not_ok (b := true) (tT_ok (x := .bl true) rfl rfl)) (or_f (tT_ok (x := .bl false) rfl rfl) (not_ok (b := true) (tT_ok (x := .bl true) (call_ok (a1_ok x1) rfl) rfl))))
  have s1 : dEq (.str "reach") (.str "reach") = some (.bl true) := by rw [dEq_str (by decide +kernel) (by decide +kernel), beq_self_eq_true]
  have s2 : dEq (.int n) (.int n) = some (.bl true) := by rw [dEq_int]; simp
  have s3 : dGt (.int n) (.int 40) = some (.bl true) := by
    show some (D.bl (decide (40 < n))) = _
    rw [decide_eq_true h]
  have h2 : (EV.ret (eAnd (bin dEq (xfE (tab ixx_what) (nm 0)) (cC (.str "reach"))) (eAnd (bin dEq (xfE (tab ixx_count) (nm 0)) (nm 1)) (bin dGt (nm 1) (cC (.int 40)))))) [.sh (.exc 1 [.int n, .str "reach"]), .sh (.int n)] = .ok (.rt (.bl true)) [.sh (.exc 1 [.int n, .str "reach"]), .sh (.int n)] := by
    exact ret_ok ((and_tt (bin_ok x2 rfl s1)).trans ((and_tt (bin_ok x1 rfl s2)).trans (bin_ok (x := .int n) (y := .int 40) rfl rfl s3)))
  exact fn_ret rfl ((seq_nx h1).trans h2)
end EV
set_option maxRecDepth 100000
/-! K06_U: slope, mean, product, mirror: the law holds of them. -/
namespace EV
open PySem
theorem big1 : 2 ^ 60 < 2 ^ 1000 := by decide +kernel
theorem sm60 {n : Nat} {xs : List Int} (h : Sz n xs) (hn : n ≤ 2 ^ 60) : ∀ x ∈ xs, Sm x := h.sm (Nat.lt_of_le_of_lt hn big1)
theorem sm1 {x : Int} (h : x.natAbs ≤ 2 ^ 60) : Sm x := Nat.lt_of_le_of_lt h big1
theorem asg_ex {h : FG} {fa : FE} {ε ε1 : Env} {c : Nat} {fs : List D} (e : fa ε = .ex c fs ε1) : asg h fa ε = .ex c fs ε1 := by
  unfold asg
  rw [e]
  rfl
theorem slopeT {xs : List Int} {l : Int} {T : List Int} {B : Int} (v : Val T B) (h41 : T.length ≤ 42) (sz : Sz (2 ^ 30) T) : ∃ q, hv 0 T = q ++ [0] ∧ (sA q ≠ 0 → m_slope [bkD xs l T B] = .rse 0 [.str why1]) ∧ (sA q = 0 → ∃ d, m_slope [bkD xs l T B] = .ret d ∧ IsBk d (q.map (2 * ·)) B ∧ Val (q.map (2 * ·)) B) := by
  obtain ⟨q, hq, h1, h2, h3, h4, h5⟩ := quot v
  have hl := hv_len 0 q
  have hne : hv 0 q ≠ [] := fun z => by
    rw [z] at hl
    exact h5 (List.length_eq_zero_iff.mp hl.symm)
  obtain ⟨r, e, hr⟩ : ∃ r e, hv 0 q = r ++ [e] := ⟨_, _, (List.dropLast_concat_getLast hne).symm⟩
  obtain ⟨a1, _, _⟩ := hv_last q 0 r e hr
  have s1 : Sz (42 * 2 ^ 30) (hv 0 T) := (hv_sz T 0 sz).mono (by
    show 0 + T.length * 2 ^ 30 ≤ _
    rw [Nat.zero_add]
    exact Nat.mul_le_mul_right _ h41)
  have s2 : Sz (42 * 2 ^ 30) q := fun x hx => s1 x (by rw [hq]; exact List.mem_append_left _ hx)
  obtain ⟨c1, c2⟩ := slope_ok (xs := xs) (l := l) (T := T) (B := B) (by have := v.n3; omega) hq hr (by omega)
  refine ⟨q, hq, fun hA => c1 fun z => hA ?_, fun hA => ?_⟩
  · rw [z, Int.mul_zero] at a1
    omega
  · have he : e = 0 := (sg_zero (n := q.length + 1)).mp (by omega)
    have vs := val_slope v hq hA (sm60 (map2_sz s2) (by decide))
    obtain ⟨d, h6, h7⟩ := c2 he vs (by omega) (sm60 s2 (by decide))
    exact ⟨d, h6, h7, vs⟩
theorem map_map2 (g : Int) (q : List Int) : (q.map (2 * ·)).map (g * ·) = (q.map (g * ·)).map (2 * ·) := by
  rw [List.map_map, List.map_map]
  refine List.map_congr_left fun x _ => ?_
  show g * (2 * x) = 2 * (g * x)
  rw [Int.mul_left_comm]
/-- what is known of a book of the law -/
structure Bk (d : D) (xs : List Int) (l : Int) : Prop where
  bk : IsBk d xs l
  v : Val xs l
  n41 : xs.length ≤ 41
  sz : Sz (2 ^ 20) xs
  lz : l ≤ 2 ^ 20
theorem lst2_ok {i : Nat} {ε : Env} {xs : List Int} {l : Int} (h : ε[i]? = some (.sh (plain xs l))) : ixN i (cC (.int 0)) ε = .ok (.lst (inL xs)) ε ∧ ixN i (cC (.int 1)) ε = .ok (.int l) ε := by
  have hh : has ε i = true := by
    unfold has
    rw [h]
  exact ⟨ixN_sh (d := plain xs l) (k := .int 0) hh rfl h rfl, ixN_sh (d := plain xs l) (k := .int 1) hh rfl h rfl⟩
theorem bLen_inL (xs : List Int) : bLen [.lst (inL xs)] = some (.int xs.length) := by simp [bLen, len_eq, inL]
theorem lc2_ok {i j : Nat} {ε : Env} {q : List Int} (h : ε[i]? = some (.sh (.lst (inL q)))) (hj : ∀ x : D, ∃ ε2, gN j x (wipeE ε [j]) = some ε2 ∧ nm j ε2 = .ok x ε2 ∧ wipeE ε2 [j] = wipeE ε [j]) (hs : ∀ x ∈ q, Sm x) (hl : q.length ≤ 1000) :
    EV.lc [j] (iSeq (nm i)) (gN j) EV.tYes (bin dMul (cC (.int 2)) (nm j)) ε = .ok (.l (inL (q.map (2 * ·)))) (backE ε (wipeE ε [j]) [j]) := by
  have hi : (iSeq (nm i)) ε = .ok (q.map .int) ε := by
    unfold iSeq
    rw [nm_ok h]
    rfl
  refine (lc_of (u := .int) (v := fun x => .int (2 * x)) hi (by omega) fun x hx => ?_).trans ?_
  · obtain ⟨ε2, h1, h2, h3⟩ := hj (.int x)
    exact ⟨ε2, ε2, h1, bin_ok (x := .int 2) (y := .int x) rfl h2 (mul_ok (by
      have b2 : bits 2 = 2 := by decide +kernel
      have := sm_bits (hs x hx)
      omega)), h3⟩
  · have : (q.map fun x => D.int (2 * x)) = inL (q.map (2 * ·)) := by
      unfold inL
      rw [List.map_map]
      rfl
    rw [this]
theorem slope_holds {d : D} {xs : List Int} {l : Int} (b : Bk d xs l) : m__law_slope_holds [d, plain xs l] = .ret (.bl true) := by
  obtain ⟨⟨T, B, g, rfl, t⟩, v, n41, sz, lz⟩ := b
  have hTl : xs.length = T.length := by rw [t.x0, List.length_map]
  have szT : Sz (2 ^ 20) T := map_sz t.g0 (by rw [← t.x0]; exact sz)
  have vT := val_tops v t
  have g0 := t.g0
  obtain ⟨q, hq, c1, c2⟩ := slopeT (xs := xs) (l := l) vT (by omega) (szT.mono (by decide))
  have hqx : hv 0 xs = q.map (g * ·) ++ [0] := by
    have := hv_map g 0 T
    rw [Int.mul_zero, ← t.x0, hq, List.map_append] at this
    rw [this]
    simp
  have n3 := v.n3
  have s1 : Sz (41 * 2 ^ 20) (hv 0 xs) := (hv_sz xs 0 sz).mono (by
    show 0 + xs.length * 2 ^ 20 ≤ _
    rw [Nat.zero_add]
    exact Nat.mul_le_mul_right _ n41)
  have s2 : Sz (41 * 2 ^ 20) (q.map (g * ·)) := fun x hx => s1 x (by rw [hqx]; exact List.mem_append_left _ hx)
  have ql : (q.map (g * ·)).length ≤ 1000 := by
    have := hv_len 0 xs
    rw [hqx] at this
    simp only [List.length_append, List.length_cons, List.length_nil] at this
    omega
  have e1 : (asg (gN 2) (EV.call m__law_halved (aCons (ixN 1 (cC (.int 0))) aNil))) [.sh (bkD xs l T B), .sh (plain xs l), .no, .no, .no, .no, .no] = .ok .nx [.sh (bkD xs l T B), .sh (plain xs l), .sh (.lst (inL (q.map (g * ·)))), .no, .no, .no, .no] :=
    asg_ok (call_rto (a1_ok (lst2_ok rfl).1) (halved_ok hqx (by omega)))
  have e2 : (asg (gN 3) (bin dSub (bi bSum (aCons (stpE (nm 2) pNo pNo (pSo (cC (.int 2)))) aNil)) (bi bSum (aCons (stpE (nm 2) (pSo (cC (.int 1))) pNo (pSo (cC (.int 2)))) aNil)))) [.sh (bkD xs l T B), .sh (plain xs l), .sh (.lst (inL (q.map (g * ·)))), .no, .no, .no, .no] =
      .ok .nx [.sh (bkD xs l T B), .sh (plain xs l), .sh (.lst (inL (q.map (g * ·)))), .sh (.int (sA (q.map (g * ·)))), .no, .no, .no] := by
    have p1 : (bi bSum (aCons (stpE (nm 2) pNo pNo (pSo (cC (.int 2)))) aNil)) [.sh (bkD xs l T B), .sh (plain xs l), .sh (.lst (inL (q.map (g * ·)))), .no, .no, .no, .no] = .ok (.int (sS (evs (q.map (g * ·))))) [.sh (bkD xs l T B), .sh (plain xs l), .sh (.lst (inL (q.map (g * ·)))), .no, .no, .no, .no] := bi_ok (a1_ok (stpE_ok (x := .lst (inL (q.map (g * ·)))) rfl rfl rfl rfl (stp_ev _).1)) (sum_ok _)
    have p2 : (bi bSum (aCons (stpE (nm 2) (pSo (cC (.int 1))) pNo (pSo (cC (.int 2)))) aNil)) [.sh (bkD xs l T B), .sh (plain xs l), .sh (.lst (inL (q.map (g * ·)))), .no, .no, .no, .no] = .ok (.int (sS (ods (q.map (g * ·))))) [.sh (bkD xs l T B), .sh (plain xs l), .sh (.lst (inL (q.map (g * ·)))), .no, .no, .no, .no] := bi_ok (a1_ok (stpE_ok (x := .lst (inL (q.map (g * ·)))) rfl rfl rfl rfl (stp_od _))) (sum_ok _)
    exact asg_ok (bin_ok p1 p2 (by
      show some (D.int (_ - _)) = _
      rw [(sE_sO (q.map (g * ·))).2]))
  by_cases hA : sA q = 0
  · obtain ⟨d', m1, ⟨T', B', g', rfl, t'⟩, v'⟩ := c2 hA
    have e3 : tryS (asg (gN 4) (EV.call m_slope (aCons (nm 0) aNil))) [⟨some 5, tab xc_BadBook, (EV.ret (eAnd (bin dNe (nm 3) (cC (.int 0))) (EV.call m__law_is_bad (aCons (nm 5) aNil))))⟩]
        [.sh (bkD xs l T B), .sh (plain xs l), .sh (.lst (inL (q.map (g * ·)))), .sh (.int (sA (q.map (g * ·)))), .no, .no, .no] = .ok .nx [.sh (bkD xs l T B), .sh (plain xs l), .sh (.lst (inL (q.map (g * ·)))), .sh (.int (sA (q.map (g * ·)))), .sh (bkD (q.map (2 * ·)) B T' B'), .no, .no] :=
      try_ok (asg_ok (call_ok (a1_ok (x := bkD xs l T B) rfl) m1))
    have hA2 : sA (q.map (g * ·)) = 0 := by rw [sA_map, hA, Int.mul_zero]
    have hp : pps B (q.map (2 * ·)) = pps l ((q.map (g * ·)).map (2 * ·)) := by
      rw [← map_map2, t.l0, pps_scale g0 t.B0]
    have hw := is_ok (T := T') (B := B') t.B0 vT.sl v.l0 v.sl (by rw [List.length_map]; rw [List.length_map] at ql; exact ql) (by simp) hp
    have e4 : (EV.ret (eAnd (bin dEq (nm 3) (cC (.int 0))) (EV.call m__law_is (aCons (nm 4) (aCons (tupE (aCons (frz (EV.lc [6] (iSeq (nm 2)) (gN 6) EV.tYes (bin dMul (cC (.int 2)) (nm 6)))) (aCons (ixN 1 (cC (.int 1))) aNil))) aNil)))))
        [.sh (bkD xs l T B), .sh (plain xs l), .sh (.lst (inL (q.map (g * ·)))), .sh (.int (sA (q.map (g * ·)))), .sh (bkD (q.map (2 * ·)) B T' B'), .no, .no] = .ok (.rt (.bl true)) [.sh (bkD xs l T B), .sh (plain xs l), .sh (.lst (inL (q.map (g * ·)))), .sh (.int (sA (q.map (g * ·)))), .sh (bkD (q.map (2 * ·)) B T' B'), .no, .no] := by
      have hlc := lc2_ok (i := 2) (j := 6) (ε := [.sh (bkD xs l T B), .sh (plain xs l), .sh (.lst (inL (q.map (g * ·)))), .sh (.int (sA (q.map (g * ·)))), .sh (bkD (q.map (2 * ·)) B T' B'), .no, .no]) rfl (fun x => ⟨[.sh (bkD xs l T B), .sh (plain xs l), .sh (.lst (inL (q.map (g * ·)))), .sh (.int (sA (q.map (g * ·)))), .sh (bkD (q.map (2 * ·)) B T' B'), .no, .sh x], rfl, rfl, rfl⟩) (sm60 s2 (by decide)) ql
      refine ret_ok ((and_tt (bin_ok (x := .int (sA (q.map (g * ·)))) (y := .int 0) rfl rfl (by rw [dEq_int, hA2]; rfl))).trans (call_ok (ac_ok (x := bkD (q.map (2 * ·)) B T' B') rfl (a1_ok (tupE_ok (ac_ok (frz_ok hlc) (a1_ok (x := .int l) (lst2_ok rfl).2)) (by simp)))) hw))
    exact fn_ret rfl ((seq_nx e1).trans ((seq_nx e2).trans ((seq_nx e3).trans e4)))
  · have m1 := c1 hA
    have hA2 : (sA (q.map (g * ·)) == 0) = false := by
      rw [sA_map]
      have : g * sA q ≠ 0 := Int.mul_ne_zero (by omega) hA
      simpa using this
    have e3 : tryS (asg (gN 4) (EV.call m_slope (aCons (nm 0) aNil))) [⟨some 5, tab xc_BadBook, (EV.ret (eAnd (bin dNe (nm 3) (cC (.int 0))) (EV.call m__law_is_bad (aCons (nm 5) aNil))))⟩]
        [.sh (bkD xs l T B), .sh (plain xs l), .sh (.lst (inL (q.map (g * ·)))), .sh (.int (sA (q.map (g * ·)))), .no, .no, .no] = .ok (.rt (.bl true)) [.sh (bkD xs l T B), .sh (plain xs l), .sh (.lst (inL (q.map (g * ·)))), .sh (.int (sA (q.map (g * ·)))), .no, .no, .no] := by
      refine try_ex (ε2 := [.sh (bkD xs l T B), .sh (plain xs l), .sh (.lst (inL (q.map (g * ·)))), .sh (.int (sA (q.map (g * ·)))), .no, .sh (.exc 0 [.str why1]), .no]) (ε1 := [.sh (bkD xs l T B), .sh (plain xs l), .sh (.lst (inL (q.map (g * ·)))), .sh (.int (sA (q.map (g * ·)))), .no, .no, .no]) (c := 0) (fs := [.str why1]) ?_ rfl ?_ ?_ rfl
      · exact asg_ex (call_rse (a1_ok (x := bkD xs l T B) rfl) m1)
      · exact ret_ok ((and_tt (bin_ok (x := .int (sA (q.map (g * ·)))) (y := .int 0) rfl rfl (by rw [dNe_int, hA2]; rfl))).trans (call_ok (a1_ok (x := .exc 0 [.str why1]) rfl) (is_bad_ok (by decide +kernel) (by decide +kernel))))
      · show (noX (bkD xs l T B) && (noX (plain xs l) && (noX (.lst (inL (q.map (g * ·)))) && (noX (.int (sA (q.map (g * ·)))) && _)))) = true
        rw [noX_bk, noX_plain, show noX (.lst (inL (q.map (g * ·)))) = true from by simp only [noX, noXs_inL]]
        rfl
    have e4 : ∀ (s : FS), EV.seq (tryS (asg (gN 4) (EV.call m_slope (aCons (nm 0) aNil))) [⟨some 5, tab xc_BadBook, (EV.ret (eAnd (bin dNe (nm 3) (cC (.int 0))) (EV.call m__law_is_bad (aCons (nm 5) aNil))))⟩]) s
        [.sh (bkD xs l T B), .sh (plain xs l), .sh (.lst (inL (q.map (g * ·)))), .sh (.int (sA (q.map (g * ·)))), .no, .no, .no] = .ok (.rt (.bl true)) [.sh (bkD xs l T B), .sh (plain xs l), .sh (.lst (inL (q.map (g * ·)))), .sh (.int (sA (q.map (g * ·)))), .no, .no, .no] := fun s => by
      unfold EV.seq
      rw [e3]
      rfl
    exact fn_ret rfl ((seq_nx e1).trans ((seq_nx e2).trans (e4 _)))
end EV
set_option maxRecDepth 100000
/-! K06_V: mean, product, mirror. -/
namespace EV
open PySem
theorem seq_rt {a b : FS} {ε ε1 : Env} {d : D} (h : a ε = .ok (.rt d) ε1) : EV.seq a b ε = .ok (.rt d) ε1 := by
  unfold EV.seq
  rw [h]
  rfl
theorem mz_map (g : Int) : ∀ (c : Int) (ts : List Int), mz (g * c) (ts.map (g * ·)) = (mz c ts).map (g * ·)
  | c, [] => rfl
  | c, t :: ts => by
    simp only [List.map_cons, mz]
    rw [mz_map g t ts, Int.mul_add]
theorem mz_sz {n : Nat} : ∀ (ts : List Int) (c : Int), c.natAbs ≤ n → Sz n ts → Sz (2 * n) (mz c ts)
  | [], c, hc, h => by
    intro x hx
    simp only [mz, List.mem_singleton] at hx
    subst hx
    omega
  | t :: ts, c, hc, h => by
    have ht := h t List.mem_cons_self
    intro x hx
    simp only [mz, List.mem_cons] at hx
    rcases hx with rfl | hx
    · have := Int.natAbs_add_le t c
      omega
    · exact mz_sz ts t ht (fun y hy => h y (List.mem_cons_of_mem _ hy)) x hx
theorem tops_z {xs T : List Int} {l B g : Int} {d : D} (b : Bk d xs l) (t : TopsOf xs l T B g) : Sz (2 ^ 20) T ∧ B ≤ 2 ^ 20 ∧ T.length = xs.length := by
  have g0 := t.g0
  have hB : B ≤ l := by
    have h1 := t.B0
    have h2 := t.l0
    have : 1 * B ≤ g * B := Int.mul_le_mul_of_nonneg_right (by omega) (by omega)
    omega
  refine ⟨map_sz g0 (by rw [← t.x0]; exact b.sz), by have := b.lz; omega, by rw [t.x0, List.length_map]⟩
theorem val_mean {T : List Int} {B : Int} (v : Val T B) (sz : Sz (2 ^ 30) T) (hB : B ≤ 2 ^ 30) (hl : T.length ≤ 900) : Val (mz 0 T) (2 * B) := by
  have B0 := v.l0
  obtain ⟨a, ha, na⟩ := v.fst
  obtain ⟨b, hb, nb⟩ := v.lst
  have n2 := v.n2
  refine ⟨by omega, sm1 (by omega), sm60 (mz_sz T 0 (by simp) sz) (by decide), by rw [mz_len]; omega, by rw [mz_len]; omega, ?_, ?_, by rw [sS_mz, v.sS]; omega, sA_mz 0 T⟩
  · cases T with
    | nil => simp at ha
    | cons t ts =>
      simp at ha
      subst ha
      exact ⟨t + 0, rfl, by omega⟩
  · rw [mz_last]
    cases T with
    | nil => simp at hb
    | cons t ts =>
      rw [List.getLast?_cons_cons]
      exact ⟨b, hb, nb⟩
theorem lst11 {ε : Env} : (frz (lstO (aCons (cC (.int 1)) (aCons (cC (.int 1)) aNil)))) ε = .ok (.lst (inL [1, 1])) ε := frz_ok (lstO_ok (xs := [.int 1, .int 1]) rfl (by simp))
theorem sz11 : Sz (2 ^ 60) [1, 1] := fun x hx => by
  have : x = 1 := by simpa using hx
  subst this
  decide
theorem mul2_ok {x : Int} (h : Sm x) : dMul (.int 2) (.int x) = some (.int (2 * x)) := mul_ok (by
  have b2 : bits 2 = 2 := by decide +kernel
  have := sm_bits h
  omega)
theorem mean_ok {xs : List Int} {l : Int} {T : List Int} {B : Int} (v : Val T B) (sz : Sz (2 ^ 30) T) (hB : B ≤ 2 ^ 30) (hl : T.length ≤ 900) :
    (T.length ≤ 40 → ∃ d, m_mean [bkD xs l T B] = .ret d ∧ IsBk d (mz 0 T) (2 * B)) ∧ (40 < T.length → m_mean [bkD xs l T B] = .rse 1 [.int (T.length : Int), .str "reach"]) := by
  have n2 := v.n2
  have tn : T ≠ [] := fun z => by rw [z] at n2; simp at n2
  have h1 : (asg (gT (gsCons (gN 1) (gsCons (gN 2) gsNil))) (meth0 1 m_Book_over_one_bottom (nm 0))) [.sh (bkD xs l T B), .no, .no] = .ok .nx [.sh (bkD xs l T B), .sh (.tup (inL T)), .sh (.int B)] := asg2_ok (meth_ok rfl)
  have hm := val_mean v sz hB hl
  have hp : m_tops_product [.tup (inL T), .lst (inL [1, 1])] = .rto (.l (inL (mz 0 T))) := by
    rw [product_ok (.inr rfl) (.inl rfl) tn (by simp) (sm60 sz (by decide)) (sm60 sz11 (by decide)) (by omega) (by simp), pr_mz]
  have ha : (aCons (EV.call m_tops_product (aCons (nm 1) (aCons (frz (lstO (aCons (cC (.int 1)) (aCons (cC (.int 1)) aNil)))) aNil))) (aCons (bin dMul (cC (.int 2)) (nm 2)) aNil)) [.sh (bkD xs l T B), .sh (.tup (inL T)), .sh (.int B)] =
      .ok [.lst (inL (mz 0 T)), .int (2 * B)] [.sh (bkD xs l T B), .sh (.tup (inL T)), .sh (.int B)] :=
    ac_ok (call_rto (ac_ok (x := .tup (inL T)) rfl (a1_ok lst11)) hp) (a1_ok (bin_ok (x := .int 2) (y := .int B) rfl rfl (mul2_ok v.sl)))
  obtain ⟨c1, c2⟩ := made_ok hm
  constructor
  · intro h
    obtain ⟨d, e, hd⟩ := c1 (by rw [mz_len]; omega)
    exact ⟨d, fn_ret rfl ((seq_nx h1).trans (ret_ok (call_ok ha e))), hd⟩
  · intro h
    have := c2 (by rw [mz_len]; omega)
    rw [mz_len] at this
    have e : ((T.length + 1 : Nat) : Int) - 1 = (T.length : Int) := by omega
    rw [e] at this
    exact fn_ex rfl ((seq_nx h1).trans (ret_ex (call_rse ha this)))
theorem plainLen {i : Nat} {ε : Env} {xs : List Int} {l : Int} (h : ε[i]? = some (.sh (plain xs l))) : (bi bLen (aCons (ixN i (cC (.int 0))) aNil)) ε = .ok (.int (xs.length : Int)) ε := bi_ok (a1_ok (lst2_ok h).1) (bLen_inL xs)
theorem mean_holds {d : D} {xs : List Int} {l : Int} (b : Bk d xs l) : m__law_mean_holds [d, plain xs l] = .ret (.bl true) := by
  have b0 := b
  obtain ⟨⟨T, B, g, rfl, t⟩, v, n41, sz, lz⟩ := b
  obtain ⟨szT, hB, hTl⟩ := tops_z b0 t
  have vT := val_tops v t
  have g0 := t.g0
  have n2 := v.n2
  obtain ⟨c1, c2⟩ := mean_ok (xs := xs) (l := l) vT (szT.mono (by decide)) (by omega) (by omega)
  by_cases h40 : 40 < T.length
  · have m1 := c2 h40
    rw [hTl] at m1
    have e3 : tryS (asg (gN 2) (EV.call m_mean (aCons (nm 0) aNil))) [⟨some 3, tab xc_TooMany, (EV.ret (EV.call m__law_many (aCons (nm 3) (aCons (bi bLen (aCons (ixN 1 (cC (.int 0))) aNil)) aNil))))⟩]
        [.sh (bkD xs l T B), .sh (plain xs l), .no, .no, .no] = .ok (.rt (.bl true)) [.sh (bkD xs l T B), .sh (plain xs l), .no, .no, .no] := by
      refine try_ex (ε2 := [.sh (bkD xs l T B), .sh (plain xs l), .no, .sh (.exc 1 [.int (xs.length : Int), .str "reach"]), .no]) (ε1 := [.sh (bkD xs l T B), .sh (plain xs l), .no, .no, .no]) (c := 1) (fs := [.int (xs.length : Int), .str "reach"]) ?_ rfl ?_ ?_ rfl
      · exact asg_ex (call_rse (a1_ok (x := bkD xs l T B) rfl) m1)
      · exact ret_ok (call_ok (ac_ok (x := .exc 1 [.int (xs.length : Int), .str "reach"]) rfl (a1_ok (plainLen rfl))) (many_ok (by omega)))
      · show (noX (bkD xs l T B) && (noX (plain xs l) && _)) = true
        rw [noX_bk, noX_plain]
        rfl
    exact fn_ret rfl (seq_rt e3)
  · obtain ⟨d', m1, ⟨T', B', g', rfl, t'⟩⟩ := c1 (by omega)
    have e3 : tryS (asg (gN 2) (EV.call m_mean (aCons (nm 0) aNil))) [⟨some 3, tab xc_TooMany, (EV.ret (EV.call m__law_many (aCons (nm 3) (aCons (bi bLen (aCons (ixN 1 (cC (.int 0))) aNil)) aNil))))⟩]
        [.sh (bkD xs l T B), .sh (plain xs l), .no, .no, .no] = .ok .nx [.sh (bkD xs l T B), .sh (plain xs l), .sh (bkD (mz 0 T) (2 * B) T' B'), .no, .no] :=
      try_ok (asg_ok (call_ok (a1_ok (x := bkD xs l T B) rfl) m1))
    have tn : xs ≠ [] := fun z => by rw [z] at n2; simp at n2
    have ht : m__law_times [.lst (inL xs), .lst (inL [1, 1])] = .rto (.l (inL (mz 0 xs))) := by
      rw [times_ok tn v.sx (sm60 sz11 (by decide)) (by omega) (by simp), pr_mz]
    have mk : (tupE (aCons (EV.call m__law_times (aCons (ixN 1 (cC (.int 0))) (aCons (frz (lstO (aCons (cC (.int 1)) (aCons (cC (.int 1)) aNil)))) aNil))) (aCons (bin dMul (cC (.int 2)) (ixN 1 (cC (.int 1)))) aNil)))
        [.sh (bkD xs l T B), .sh (plain xs l), .sh (bkD (mz 0 T) (2 * B) T' B'), .no, .no] = .ok (plain (mz 0 xs) (2 * l)) [.sh (bkD xs l T B), .sh (plain xs l), .sh (bkD (mz 0 T) (2 * B) T' B'), .no, .no] :=
      tupE_ok (ac_ok (call_rto (ac_ok (lst2_ok rfl).1 (a1_ok lst11)) ht) (a1_ok (bin_ok (x := .int 2) rfl (lst2_ok rfl).2 (mul2_ok v.sl)))) (by simp)
    have e4 := asg_ok (i := 4) mk
    have vm := val_mean vT (szT.mono (by decide)) (by omega) (by omega)
    have vm' := val_mean v (sz.mono (by decide)) (by omega) (by omega)
    have hz : mz 0 xs = (mz 0 T).map (g * ·) := by
      have := mz_map g 0 T
      rw [Int.mul_zero, ← t.x0] at this
      exact this
    have h2l : 2 * l = g * (2 * B) := by rw [t.l0, Int.mul_left_comm]
    have i1 := is_ok (xs := mz 0 T) (xs' := mz 0 xs) (T := T') (B := B') vm.l0 vm.sl vm'.l0 vm'.sl (by rw [mz_len]; omega) (by rw [mz_len, mz_len, hTl]) (by rw [hz, h2l, pps_scale g0 vm.l0])
    have e5 : (EV.ifS (tOr (tB (bin dGt (bi bLen (aCons (ixN 1 (cC (.int 0))) aNil)) (cC (.int 40)))) (tNot (tT (EV.call m__law_is (aCons (nm 2) (aCons (nm 4) aNil)))))) (EV.ret (cC (.bl false))) sNx)
        [.sh (bkD xs l T B), .sh (plain xs l), .sh (bkD (mz 0 T) (2 * B) T' B'), .no, .sh (plain (mz 0 xs) (2 * l))] = .ok .nx [.sh (bkD xs l T B), .sh (plain xs l), .sh (bkD (mz 0 T) (2 * B) T' B'), .no, .sh (plain (mz 0 xs) (2 * l))] := by
      refine if_nx (or_f (tB_ok (bin_ok (y := .int 40) (plainLen rfl) rfl ?_)) (not_ok (b := true) (tT_ok (x := .bl true) (call_ok (ac_ok (x := bkD (mz 0 T) (2 * B) T' B') rfl (a1_ok (x := plain (mz 0 xs) (2 * l)) rfl)) i1) rfl)))
      show some (D.bl (decide (40 < (xs.length : Int)))) = _
      rw [decide_eq_false (by omega)]
    -- the slope of the mean
    have szm : Sz (2 ^ 21) (mz 0 T) := (mz_sz T 0 (by simp) szT).mono (by decide)
    have vT' := val_tops vm t'
    have g0' := t'.g0
    have hT'l : T'.length = T.length + 1 := by
      have := congrArg List.length t'.x0
      rw [mz_len, List.length_map] at this
      omega
    obtain ⟨q, hq, _, s2⟩ := slopeT (xs := mz 0 T) (l := 2 * B) vT' (by omega) ((map_sz g0' (by rw [← t'.x0]; exact szm)).mono (by decide))
    have hTq : T = q.map (g' * ·) := by
      have h1 := hv_map g' 0 T'
      rw [Int.mul_zero, ← t'.x0, hv_mz, hq, List.map_append] at h1
      exact (List.append_inj' h1 rfl).1
    have hA : sA q = 0 := by
      have h1 := sA_map g' q
      rw [← hTq, vT.sA] at h1
      have : g' * sA q = g' * 0 := by rw [← h1, Int.mul_zero]
      exact Int.eq_of_mul_eq_mul_left (by omega) this
    obtain ⟨d2, m2, ⟨T2, B2, g2, rfl, t2⟩, v2⟩ := s2 hA
    have hql : q.length = T.length := by rw [hTq, List.length_map]
    have hp : pps B' (q.map (2 * ·)) = pps l xs := by
      have h1 : pps l xs = pps B T := by
        conv => lhs; rw [t.l0, t.x0]
        exact pps_scale g0 t.B0 T
      have h2 : pps (2 * B) (T.map (2 * ·)) = pps B T := pps_scale (by omega) t.B0 T
      have h3 : pps (g' * B') ((q.map (2 * ·)).map (g' * ·)) = pps B' (q.map (2 * ·)) := pps_scale g0' t'.B0 _
      rw [map_map2, ← hTq, ← t'.l0] at h3
      rw [h1, ← h2, h3]
    have i2 := is_ok (T := T2) (B := B2) vT'.l0 vT'.sl v.l0 v.sl (by rw [List.length_map]; omega) (by rw [List.length_map]; omega) hp
    have e6 : (EV.ret (EV.call m__law_is (aCons (EV.call m_slope (aCons (nm 2) aNil)) (aCons (nm 1) aNil)))) [.sh (bkD xs l T B), .sh (plain xs l), .sh (bkD (mz 0 T) (2 * B) T' B'), .no, .sh (plain (mz 0 xs) (2 * l))] =
        .ok (.rt (.bl true)) [.sh (bkD xs l T B), .sh (plain xs l), .sh (bkD (mz 0 T) (2 * B) T' B'), .no, .sh (plain (mz 0 xs) (2 * l))] :=
      ret_ok (call_ok (ac_ok (call_ok (a1_ok (x := bkD (mz 0 T) (2 * B) T' B') rfl) m2) (a1_ok (x := plain xs l) rfl)) i2)
    exact fn_ret rfl ((seq_nx e3).trans ((seq_nx e4).trans ((seq_nx e5).trans e6)))
/-! ### product -/
theorem val_prod {T T' : List Int} {B B' : Int} (v : Val T B) (v' : Val T' B') (sz : Sz (2 ^ 20) T) (sz' : Sz (2 ^ 20) T') (hB : B ≤ 2 ^ 20) (hB' : B' ≤ 2 ^ 20) (hl : T.length ≤ 41) (hl' : T'.length ≤ 41) : Val (pr T T') (2 * B * B') := by
  have B0 := v.l0
  have B0' := v'.l0
  have n2 := v.n2
  have n2' := v'.n2
  have tn : T ≠ [] := fun z => by rw [z] at n2; simp at n2
  obtain ⟨a, ha, na⟩ := v.fst
  obtain ⟨b, hb, nb⟩ := v.lst
  obtain ⟨a', ha', na'⟩ := v'.fst
  obtain ⟨b', hb', nb'⟩ := v'.lst
  have p0 : 0 < 2 * B * B' := Int.mul_pos (by omega) B0'
  refine ⟨p0, sm1 ?_, sm60 ((pr_sz sz sz').mono (Nat.mul_le_mul_right _ hl)) (by decide), by rw [pr_len]; omega, by rw [pr_len]; omega, ⟨a * a', pr_first ha ha', Int.mul_ne_zero na na'⟩, ⟨b * b', pr_last hb hb', Int.mul_ne_zero nb nb'⟩, ?_, by rw [pr_A tn, v.sA, Int.zero_mul]⟩
  · rw [Int.natAbs_mul]
    exact Nat.le_trans (Nat.mul_le_mul (show (2 * B).natAbs ≤ 2 ^ 21 by omega) (show B'.natAbs ≤ 2 ^ 20 by omega)) (by decide)
  · rw [pr_S tn, v.sS, v'.sS, Int.mul_left_comm]
theorem mul3_ok {B B' : Int} (h : Sm B) (h' : Sm B') (i : FE) (j : FE) (ε : Env) (hi : i ε = .ok (.int B) ε) (hj : j ε = .ok (.int B') ε) : (bin dMul (bin dMul (cC (.int 2)) i) j) ε = .ok (.int (2 * B * B')) ε := by
  refine bin_ok (bin_ok (x := .int 2) rfl hi (mul2_ok h)) hj (mul_ok ?_)
  have b2 : bits 2 = 2 := by decide +kernel
  have := bits_mul 2 B
  have := sm_bits h
  have := sm_bits h'
  omega
theorem prod_ok {xs xs' : List Int} {l l' : Int} {T T' : List Int} {B B' : Int} (v : Val T B) (v' : Val T' B') (sz : Sz (2 ^ 20) T) (sz' : Sz (2 ^ 20) T') (hB : B ≤ 2 ^ 20) (hB' : B' ≤ 2 ^ 20) (hl : T.length ≤ 41) (hl' : T'.length ≤ 41) :
    (T.length + T'.length ≤ 42 → ∃ d, m_product [bkD xs l T B, bkD xs' l' T' B'] = .ret d ∧ IsBk d (pr T T') (2 * B * B')) ∧ (42 < T.length + T'.length → m_product [bkD xs l T B, bkD xs' l' T' B'] = .rse 1 [.int ((T.length : Int) + T'.length - 2), .str "reach"]) := by
  have n2 := v.n2
  have n2' := v'.n2
  have tn : T ≠ [] := fun z => by rw [z] at n2; simp at n2
  have tn' : T' ≠ [] := fun z => by rw [z] at n2'; simp at n2'
  have h1 : (asg (gT (gsCons (gN 2) (gsCons (gN 3) gsNil))) (meth0 1 m_Book_over_one_bottom (nm 0))) [.sh (bkD xs l T B), .sh (bkD xs' l' T' B'), .no, .no, .no, .no] = .ok .nx [.sh (bkD xs l T B), .sh (bkD xs' l' T' B'), .sh (.tup (inL T)), .sh (.int B), .no, .no] := asg2_ok (meth_ok rfl)
  have h2 : (asg (gT (gsCons (gN 4) (gsCons (gN 5) gsNil))) (meth0 1 m_Book_over_one_bottom (nm 1))) [.sh (bkD xs l T B), .sh (bkD xs' l' T' B'), .sh (.tup (inL T)), .sh (.int B), .no, .no] = .ok .nx [.sh (bkD xs l T B), .sh (bkD xs' l' T' B'), .sh (.tup (inL T)), .sh (.int B), .sh (.tup (inL T')), .sh (.int B')] := asg2_ok (meth_ok rfl)
  have hm := val_prod v v' sz sz' hB hB' hl hl'
  have hp := product_ok (d1 := .tup (inL T)) (d2 := .tup (inL T')) (.inr rfl) (.inr rfl) tn tn' v.sx v'.sx (by omega) (by omega)
  have ha : (aCons (EV.call m_tops_product (aCons (nm 2) (aCons (nm 4) aNil))) (aCons (bin dMul (bin dMul (cC (.int 2)) (nm 3)) (nm 5)) aNil)) [.sh (bkD xs l T B), .sh (bkD xs' l' T' B'), .sh (.tup (inL T)), .sh (.int B), .sh (.tup (inL T')), .sh (.int B')] =
      .ok [.lst (inL (pr T T')), .int (2 * B * B')] [.sh (bkD xs l T B), .sh (bkD xs' l' T' B'), .sh (.tup (inL T)), .sh (.int B), .sh (.tup (inL T')), .sh (.int B')] :=
    ac_ok (call_rto (ac_ok (x := .tup (inL T)) rfl (a1_ok (x := .tup (inL T')) rfl)) hp) (a1_ok (mul3_ok v.sl v'.sl _ _ _ rfl rfl))
  obtain ⟨c1, c2⟩ := made_ok hm
  constructor
  · intro h
    obtain ⟨d, e, hd⟩ := c1 (by rw [pr_len]; omega)
    exact ⟨d, fn_ret rfl ((seq_nx h1).trans ((seq_nx h2).trans (ret_ok (call_ok ha e)))), hd⟩
  · intro h
    have := c2 (by rw [pr_len]; omega)
    rw [pr_len] at this
    have e : ((T.length + T'.length - 1 : Nat) : Int) - 1 = (T.length : Int) + T'.length - 2 := by omega
    rw [e] at this
    exact fn_ex rfl ((seq_nx h1).trans ((seq_nx h2).trans (ret_ex (call_rse ha this))))
theorem product_holds {d d' : D} {xs xs' : List Int} {l l' : Int} (b : Bk d xs l) (b' : Bk d' xs' l') : m__law_product_holds [d, plain xs l, d', plain xs' l'] = .ret (.bl true) := by
  have b0 := b
  have b0' := b'
  obtain ⟨⟨T, B, g, rfl, t⟩, v, n41, sz, lz⟩ := b
  obtain ⟨⟨T', B', g', rfl, t'⟩, v', n41', sz', lz'⟩ := b'
  obtain ⟨szT, hB, hTl⟩ := tops_z b0 t
  obtain ⟨szT', hB', hTl'⟩ := tops_z b0' t'
  have vT := val_tops v t
  have vT' := val_tops v' t'
  obtain ⟨c1, c2⟩ := prod_ok (xs := xs) (l := l) (xs' := xs') (l' := l') vT vT' szT szT' hB hB' (by omega) (by omega)
  have sumE : ∀ s4 s5 : Slot, (bin dAdd (bi bLen (aCons (ixN 1 (cC (.int 0))) aNil)) (bi bLen (aCons (ixN 3 (cC (.int 0))) aNil))) [.sh (bkD xs l T B), .sh (plain xs l), .sh (bkD xs' l' T' B'), .sh (plain xs' l'), s4, s5] = .ok (.int ((xs.length : Int) + xs'.length)) [.sh (bkD xs l T B), .sh (plain xs l), .sh (bkD xs' l' T' B'), .sh (plain xs' l'), s4, s5] :=
    fun _ _ => bin_ok (plainLen rfl) (plainLen rfl) rfl
  by_cases h42 : 42 < T.length + T'.length
  · have m1 := c2 h42
    rw [hTl, hTl'] at m1
    have e3 : tryS (asg (gN 4) (EV.call m_product (aCons (nm 0) (aCons (nm 2) aNil)))) [⟨some 5, tab xc_TooMany, (EV.ret (EV.call m__law_many (aCons (nm 5) (aCons (bin dSub (bin dAdd (bi bLen (aCons (ixN 1 (cC (.int 0))) aNil)) (bi bLen (aCons (ixN 3 (cC (.int 0))) aNil))) (cC (.int 2))) aNil))))⟩]
        [.sh (bkD xs l T B), .sh (plain xs l), .sh (bkD xs' l' T' B'), .sh (plain xs' l'), .no, .no] = .ok (.rt (.bl true)) [.sh (bkD xs l T B), .sh (plain xs l), .sh (bkD xs' l' T' B'), .sh (plain xs' l'), .no, .no] := by
      refine try_ex (ε2 := [.sh (bkD xs l T B), .sh (plain xs l), .sh (bkD xs' l' T' B'), .sh (plain xs' l'), .no, .sh (.exc 1 [.int ((xs.length : Int) + xs'.length - 2), .str "reach"])]) (ε1 := [.sh (bkD xs l T B), .sh (plain xs l), .sh (bkD xs' l' T' B'), .sh (plain xs' l'), .no, .no]) (c := 1) (fs := [.int ((xs.length : Int) + xs'.length - 2), .str "reach"]) ?_ rfl ?_ ?_ rfl
      · exact asg_ex (call_rse (ac_ok (x := bkD xs l T B) rfl (a1_ok (x := bkD xs' l' T' B') rfl)) m1)
      · exact ret_ok (call_ok (ac_ok (x := .exc 1 [.int ((xs.length : Int) + xs'.length - 2), .str "reach"]) rfl (a1_ok (bin_ok (y := .int 2) (sumE _ _) rfl rfl))) (many_ok (by omega)))
      · show (noX (bkD xs l T B) && (noX (plain xs l) && (noX (bkD xs' l' T' B') && (noX (plain xs' l') && _)))) = true
        rw [noX_bk, noX_plain, noX_bk, noX_plain]
        rfl
    exact fn_ret rfl (seq_rt e3)
  · obtain ⟨d2, m1, ⟨T2, B2, g2, rfl, t2⟩⟩ := c1 (by omega)
    have e3 : tryS (asg (gN 4) (EV.call m_product (aCons (nm 0) (aCons (nm 2) aNil)))) [⟨some 5, tab xc_TooMany, (EV.ret (EV.call m__law_many (aCons (nm 5) (aCons (bin dSub (bin dAdd (bi bLen (aCons (ixN 1 (cC (.int 0))) aNil)) (bi bLen (aCons (ixN 3 (cC (.int 0))) aNil))) (cC (.int 2))) aNil))))⟩]
        [.sh (bkD xs l T B), .sh (plain xs l), .sh (bkD xs' l' T' B'), .sh (plain xs' l'), .no, .no] = .ok .nx [.sh (bkD xs l T B), .sh (plain xs l), .sh (bkD xs' l' T' B'), .sh (plain xs' l'), .sh (bkD (pr T T') (2 * B * B') T2 B2), .no] :=
      try_ok (asg_ok (call_ok (ac_ok (x := bkD xs l T B) rfl (a1_ok (x := bkD xs' l' T' B') rfl)) m1))
    have e4 : (EV.ifS (tB (bin dGt (bin dAdd (bi bLen (aCons (ixN 1 (cC (.int 0))) aNil)) (bi bLen (aCons (ixN 3 (cC (.int 0))) aNil))) (cC (.int 42)))) (EV.ret (cC (.bl false))) sNx)
        [.sh (bkD xs l T B), .sh (plain xs l), .sh (bkD xs' l' T' B'), .sh (plain xs' l'), .sh (bkD (pr T T') (2 * B * B') T2 B2), .no] = .ok .nx [.sh (bkD xs l T B), .sh (plain xs l), .sh (bkD xs' l' T' B'), .sh (plain xs' l'), .sh (bkD (pr T T') (2 * B * B') T2 B2), .no] := by
      refine if_nx (tB_ok (bin_ok (y := .int 42) (sumE _ _) rfl ?_))
      show some (D.bl (decide (42 < (xs.length : Int) + xs'.length))) = _
      rw [decide_eq_false (by omega)]
    have n2 := v.n2
    have tn : xs ≠ [] := fun z => by rw [z] at n2; simp at n2
    have ht := times_ok tn v.sx v'.sx (by omega) (by omega)
    have vp := val_prod vT vT' szT szT' hB hB' (by omega) (by omega)
    have vp' := val_prod v v' sz sz' lz lz' n41 n41'
    have hx : pr xs xs' = (pr T T').map (g * g' * ·) := by
      conv => lhs; rw [t.x0, t'.x0]
      exact pr_map g g' T T'
    have hl : 2 * l * l' = g * g' * (2 * B * B') := by
      rw [t.l0, t'.l0]
      simp only [Int.mul_assoc, Int.mul_left_comm]
    have i1 := is_ok (xs := pr T T') (xs' := pr xs xs') (T := T2) (B := B2) vp.l0 vp.sl vp'.l0 vp'.sl (by rw [pr_len]; omega) (by rw [pr_len, pr_len, hTl, hTl']) (by rw [hx, hl, pps_scale (Int.mul_pos t.g0 t'.g0) vp.l0])
    have mk : (tupE (aCons (EV.call m__law_times (aCons (ixN 1 (cC (.int 0))) (aCons (ixN 3 (cC (.int 0))) aNil))) (aCons (bin dMul (bin dMul (cC (.int 2)) (ixN 1 (cC (.int 1)))) (ixN 3 (cC (.int 1)))) aNil)))
        [.sh (bkD xs l T B), .sh (plain xs l), .sh (bkD xs' l' T' B'), .sh (plain xs' l'), .sh (bkD (pr T T') (2 * B * B') T2 B2), .no] = .ok (plain (pr xs xs') (2 * l * l')) [.sh (bkD xs l T B), .sh (plain xs l), .sh (bkD xs' l' T' B'), .sh (plain xs' l'), .sh (bkD (pr T T') (2 * B * B') T2 B2), .no] :=
      tupE_ok (ac_ok (call_rto (ac_ok (lst2_ok rfl).1 (a1_ok (lst2_ok rfl).1)) ht) (a1_ok (mul3_ok v.sl v'.sl _ _ _ (lst2_ok rfl).2 (lst2_ok rfl).2))) (by simp)
    exact fn_ret rfl ((seq_nx e3).trans ((seq_nx e4).trans (ret_ok (call_ok (ac_ok (x := bkD (pr T T') (2 * B * B') T2 B2) rfl (a1_ok mk)) i1))))
/-! ### mirror -/
theorem val_rev {xs : List Int} {l : Int} (v : Val xs l) : Val xs.reverse l := by
  obtain ⟨a, ha, na⟩ := v.fst
  obtain ⟨b, hb, nb⟩ := v.lst
  refine ⟨v.l0, v.sl, fun x hx => v.sx x (List.mem_reverse.mp hx), by rw [List.length_reverse]; exact v.n2, by rw [List.length_reverse]; exact v.n3, ⟨b, ?_, nb⟩, ⟨a, ?_, na⟩, by rw [sS_rev]; exact v.sS, sA_rev xs v.sA⟩
  · rw [← List.head?_eq_getElem?, List.head?_reverse]
    exact hb
  · rw [List.getLast?_reverse, List.head?_eq_getElem?]
    exact ha
theorem mirror_ok {d : D} {xs : List Int} {l : Int} (b : Bk d xs l) : ∃ d', m_mirror [d] = .ret d' ∧ IsBk d' xs.reverse l := by
  obtain ⟨⟨T, B, g, rfl, t⟩, v, n41, sz, lz⟩ := b
  have n2 := v.n2
  have e0 : (rts l xs).reverse = rts l xs.reverse := by
    unfold rts
    rw [List.map_reverse]
  have e1 : (stpE (fld ix_numbers (nm 0)) pNo pNo (pSo (un dNeg (cC (.int 1))))) [.sh (bkD xs l T B)] = .ok (.tup (rts l xs.reverse)) [.sh (bkD xs l T B)] := by
    refine stpE_ok (x := .tup (rts l xs)) (lo := none) (hi := none) (st := some (-1)) rfl rfl rfl rfl ?_
    rw [stp_rev (fun z => by
      have := congrArg List.length z
      rw [List.length_map] at this
      simp at this
      rw [this] at n2
      simp at n2) (by rw [List.length_map]; omega), e0]
  have r : Reads (rts l xs.reverse) l xs.reverse := ⟨by rw [List.length_map], fun i d x h1 h2 => by
    rw [List.getElem?_map, h2] at h1
    cases h1
    exact number_ok x l⟩
  obtain ⟨d', e2, hd⟩ := (book_init (.inr rfl) (val_rev v) r).1 (by rw [List.length_reverse]; exact n41)
  exact ⟨d', fn_ret rfl (ret_ok (call_ok (a1_ok e1) e2)), hd⟩
end EV
set_option maxRecDepth 100000
/-! K06_X: wide. -/
namespace EV
open PySem
/-! ### rows spread -/
def tlw (k : Nat) : List Int → List Int
  | [] => []
  | u :: r => zs (k - 1) ++ u :: tlw k r
def spr (k : Nat) : List Int → List Int
  | [] => []
  | t :: r => t :: tlw k r
def flt (k : Nat) : List Int → List Int
  | [] => []
  | x :: r => x :: (zs (k - 1) ++ flt k r)
theorem zs_len (n : Nat) : (zs n).length = n := List.length_replicate
theorem tlw_len {k : Nat} (hk : 0 < k) : ∀ r : List Int, (tlw k r).length = r.length * k
  | [] => by simp [tlw]
  | u :: r => by
    rw [tlw, List.length_append, List.length_cons, tlw_len hk r, zs_len, List.length_cons, Nat.add_mul, Nat.one_mul]
    omega
theorem flt_eq (k : Nat) : ∀ (r : List Int) (t : Int), flt k (t :: r) = (t :: tlw k r) ++ zs (k - 1)
  | [], t => by simp [flt, tlw]
  | u :: r, t => by
    rw [flt, flt_eq k r u, tlw]
    simp
theorem tlw_S (k : Nat) : ∀ r : List Int, sS (tlw k r) = sS r
  | [] => rfl
  | u :: r => by
    rw [tlw, sS_cat, sS_zs]
    simp only [sS, tlw_S k r]
    omega
theorem tlw_A {k : Nat} (hk : k % 2 = 1) : ∀ r : List Int, sA (tlw k r) = sA r
  | [] => rfl
  | u :: r => by
    have : sg (k - 1) = 1 := by
      unfold sg
      rw [if_pos (by omega)]
    rw [tlw, sA_cat, sA_zs, zs_len, this]
    simp only [sA, tlw_A hk r]
    omega
theorem tlw_map (k : Nat) (g : Int) : ∀ r : List Int, tlw k (r.map (g * ·)) = (tlw k r).map (g * ·)
  | [] => rfl
  | u :: r => by
    rw [List.map_cons, tlw, tlw_map k g r, tlw, List.map_append, zs_map, List.map_cons]
theorem spr_map (k : Nat) (g : Int) (r : List Int) : spr k (r.map (g * ·)) = (spr k r).map (g * ·) := by
  cases r with
  | nil => rfl
  | cons t r => rw [List.map_cons, spr, tlw_map, spr, List.map_cons]
theorem tlw_last (k : Nat) : ∀ (r : List Int) (t : Int), (t :: tlw k r).getLast? = (t :: r).getLast?
  | [], t => rfl
  | u :: r, t => by
    rw [tlw, List.getLast?_cons_cons, ← tlw_last k r u, ← List.cons_append, List.getLast?_append]
    cases e : (u :: tlw k r).getLast? with
    | none => exact absurd (List.getLast?_eq_none_iff.mp e) (by simp)
    | some x => rfl
theorem tlw_sz {n k : Nat} : ∀ {r : List Int}, Sz n r → Sz n (tlw k r)
  | [], h => h
  | u :: r, h => by
    intro x hx
    rw [tlw, List.mem_append, List.mem_cons] at hx
    rcases hx with hx | rfl | hx
    · rw [List.eq_of_mem_replicate hx]
      exact Nat.zero_le _
    · exact h _ List.mem_cons_self
    · exact tlw_sz (fun y hy => h y (List.mem_cons_of_mem _ hy)) x hx
theorem spr_len {k : Nat} (hk : 0 < k) {T : List Int} (h : T ≠ []) : (spr k T).length = (T.length - 1) * k + 1 := by
  cases T with
  | nil => exact absurd rfl h
  | cons t r =>
    rw [spr, List.length_cons, tlw_len hk, List.length_cons]
    rfl
theorem val_wide {T : List Int} {B : Int} {k n : Nat} (v : Val T B) (hk : k % 2 = 1) (sz : Sz n T) (hn : n ≤ 2 ^ 60) (hl : (T.length - 1) * k ≤ 900) : Val (spr k T) B := by
  obtain ⟨a, ha, na⟩ := v.fst
  obtain ⟨b, hb, nb⟩ := v.lst
  have n2 := v.n2
  cases T with
  | nil => simp at n2
  | cons t r =>
    simp only [List.length_cons] at n2 hl
    have h1 : r.length * 1 ≤ r.length * k := Nat.mul_le_mul_left _ (by omega)
    have h2 : r.length + 1 - 1 = r.length := rfl
    rw [h2] at hl
    have hlen : (spr k (t :: r)).length = r.length * k + 1 := spr_len (by omega) (by simp)
    refine ⟨v.l0, v.sl, ?_, by omega, by omega, ?_, ⟨b, by rw [spr, tlw_last]; exact hb, nb⟩, ?_, ?_⟩
    · refine sm60 (n := n) (fun x hx => ?_) hn
      rw [spr, List.mem_cons] at hx
      rcases hx with rfl | hx
      · exact sz _ List.mem_cons_self
      · exact tlw_sz (fun y hy => sz y (List.mem_cons_of_mem _ hy)) x hx
    · simp at ha
      subst ha
      exact ⟨t, rfl, na⟩
    · rw [spr, ← v.sS]
      simp only [sS, tlw_S]
    · rw [spr, ← v.sA]
      simp only [sA, tlw_A hk]
/-! ### the program's spread -/
noncomputable abbrev sprB : FS := (setI 2 (bin dMul (nm 3) (nm 1)) (nm 4))
theorem zs_set (P : List Int) (n : Nat) (t : Int) : (P ++ zs (n + 1)).set P.length t = P ++ t :: zs n := by
  rw [List.set_append_right _ _ (Nat.le_refl _), Nat.sub_self]
  rfl
theorem spr_loop {k : Nat} (hk : 0 < k) (hk2 : k ≤ 1000) {A s5 : Slot} : ∀ (r : List Int) (t : Int) (i : Nat) (P : List Int) (s3 s4 : Slot), P.length = i * k → i ≤ 1000 → i + r.length ≤ 1000 →
    ∃ s3' s4', forL (gT (gsCons (gN 3) (gsCons (gN 4) gsNil))) sprB (pairL i (inL (t :: r))) [A, .sh (.int (k : Int)), .ow none (.l (inL (P ++ zs (r.length * k + 1)))), s3, s4, s5] = .ok .nx [A, .sh (.int (k : Int)), .ow none (.l (inL (P ++ t :: tlw k r))), s3', s4', s5] := by
  intro r
  induction r with
  | nil =>
    intro t i P s3 s4 hP hi hir
    have st : sprB [A, .sh (.int (k : Int)), .ow none (.l (inL (P ++ zs (0 + 1)))), .sh (.int (i : Int)), .sh (.int t), s5] = .ok .nx [A, .sh (.int (k : Int)), .ow none (.l (inL (P ++ [t]))), .sh (.int (i : Int)), .sh (.int t), s5] := by
      have ik : (bin dMul (nm 3) (nm 1)) [A, .sh (.int (k : Int)), .ow none (.l (inL (P ++ zs (0 + 1)))), .sh (.int (i : Int)), .sh (.int t), s5] = .ok (.int (P.length : Int)) [A, .sh (.int (k : Int)), .ow none (.l (inL (P ++ zs (0 + 1)))), .sh (.int (i : Int)), .sh (.int t), s5] := by
        refine bin_ok (x := .int (i : Int)) (y := .int (k : Int)) rfl rfl ?_
        rw [hP, Int.natCast_mul]
        refine mul_ok ?_
        have b1 : bits (i : Int) ≤ 11 := bits_small (by rw [Int.natAbs_natCast]; exact Nat.lt_of_le_of_lt hi (by decide))
        have b2 : bits (k : Int) ≤ 11 := bits_small (by rw [Int.natAbs_natCast]; exact Nat.lt_of_le_of_lt hk2 (by decide))
        omega
      refine (setI_ok (i := 2) (v := .int t) (n := P.length) rfl rfl ik rfl (by rw [inL_len, List.length_append, zs_len]; omega)).trans ?_
      rw [inL_set, zs_set]
      rfl
    refine ⟨.sh (.int (i : Int)), .sh (.int t), ?_⟩
    show forL _ sprB (.tup [.int (i : Int), .int t] :: []) _ = _
    rw [forL]
    rw [List.length_nil, Nat.zero_mul]
    show ((sprB [A, .sh (.int (k : Int)), .ow none (.l (inL (P ++ zs (0 + 1)))), .sh (.int (i : Int)), .sh (.int t), s5]).bind _) = _
    rw [st]
    rfl
  | cons u r ih =>
    intro t i P s3 s4 hP hi hir
    simp only [List.length_cons] at hir
    have hn : (u :: r).length * k = (k - 1) + (r.length * k + 1) := by
      rw [List.length_cons, Nat.add_mul, Nat.one_mul]
      omega
    have hz : zs ((u :: r).length * k) = zs (k - 1) ++ zs (r.length * k + 1) := by
      rw [hn]
      unfold zs
      rw [List.replicate_append_replicate]
    have st : sprB [A, .sh (.int (k : Int)), .ow none (.l (inL (P ++ zs ((u :: r).length * k + 1)))), .sh (.int (i : Int)), .sh (.int t), s5] = .ok .nx [A, .sh (.int (k : Int)), .ow none (.l (inL ((P ++ t :: zs (k - 1)) ++ zs (r.length * k + 1)))), .sh (.int (i : Int)), .sh (.int t), s5] := by
      have ik : (bin dMul (nm 3) (nm 1)) [A, .sh (.int (k : Int)), .ow none (.l (inL (P ++ zs ((u :: r).length * k + 1)))), .sh (.int (i : Int)), .sh (.int t), s5] = .ok (.int (P.length : Int)) [A, .sh (.int (k : Int)), .ow none (.l (inL (P ++ zs ((u :: r).length * k + 1)))), .sh (.int (i : Int)), .sh (.int t), s5] := by
        refine bin_ok (x := .int (i : Int)) (y := .int (k : Int)) rfl rfl ?_
        rw [hP, Int.natCast_mul]
        refine mul_ok ?_
        have b1 : bits (i : Int) ≤ 11 := bits_small (by rw [Int.natAbs_natCast]; exact Nat.lt_of_le_of_lt hi (by decide))
        have b2 : bits (k : Int) ≤ 11 := bits_small (by rw [Int.natAbs_natCast]; exact Nat.lt_of_le_of_lt hk2 (by decide))
        omega
      refine (setI_ok (i := 2) (v := .int t) (n := P.length) rfl rfl ik rfl (by rw [inL_len, List.length_append, zs_len]; omega)).trans ?_
      rw [inL_set, zs_set, hz]
      simp
    obtain ⟨s3', s4', e⟩ := ih u (i + 1) (P ++ t :: zs (k - 1)) (.sh (.int (i : Int))) (.sh (.int t)) (by rw [List.length_append, List.length_cons, zs_len, hP, Nat.add_mul, Nat.one_mul]; omega) (by omega) (by omega)
    refine ⟨s3', s4', ?_⟩
    show forL _ sprB (.tup [.int (i : Int), .int t] :: pairL (i + 1) (inL (u :: r))) _ = _
    rw [forL]
    show ((sprB [A, .sh (.int (k : Int)), .ow none (.l (inL (P ++ zs ((u :: r).length * k + 1)))), .sh (.int (i : Int)), .sh (.int t), s5]).bind _) = _
    rw [st, bind_ok]
    refine e.trans ?_
    rw [tlw]
    simp
theorem spread_ok {T : List Int} {k : Nat} (hT : T ≠ []) (hk : 0 < k) (hk2 : k ≤ 1000) (hl : T.length ≤ 41) (hr : (T.length - 1) * k ≤ 900) : m_tops_spread [.tup (inL T), .int (k : Int)] = .rto (.l (inL (spr k T))) := by
  have e0 : (EV.ifS (tNot (tT (nm 0))) (EV.retO (lstO aNil)) sNx) [.sh (.tup (inL T)), .sh (.int (k : Int)), .no, .no, .no, .no] = .ok .nx [.sh (.tup (inL T)), .sh (.int (k : Int)), .no, .no, .no, .no] :=
    if_nx (not_ok (b := true) (tT_ok (x := .tup (inL T)) rfl (tru_ne hT).2))
  cases T with
  | nil => exact absurd rfl hT
  | cons t r =>
    simp only [List.length_cons] at hl hr
    have hr' : r.length * k ≤ 900 := hr
    have l0 : (lenN 0) [.sh (.tup (inL (t :: r))), .sh (.int (k : Int)), .no, .no, .no, .no] = .ok (.int ((r.length : Int) + 1)) [.sh (.tup (inL (t :: r))), .sh (.int (k : Int)), .no, .no, .no, .no] := by
      simp [lenN, bLen, len_eq, inL]
    have hR : (EV.iRng1 (aCons (bin dAdd (bin dMul (bin dSub (lenN 0) (cC (.int 1))) (nm 1)) (cC (.int 1))) aNil)) [.sh (.tup (inL (t :: r))), .sh (.int (k : Int)), .no, .no, .no, .no] = .ok (rngL 0 (r.length * k + 1)) [.sh (.tup (inL (t :: r))), .sh (.int (k : Int)), .no, .no, .no, .no] := by
      have h1 : (bin dSub (lenN 0) (cC (.int 1))) [.sh (.tup (inL (t :: r))), .sh (.int (k : Int)), .no, .no, .no, .no] = .ok (.int (r.length : Int)) [.sh (.tup (inL (t :: r))), .sh (.int (k : Int)), .no, .no, .no, .no] := bin_ok l0 rfl (by
        show some (D.int ((r.length : Int) + 1 - 1)) = _
        rw [Int.add_sub_cancel])
      have h2 : (bin dMul (bin dSub (lenN 0) (cC (.int 1))) (nm 1)) [.sh (.tup (inL (t :: r))), .sh (.int (k : Int)), .no, .no, .no, .no] = .ok (.int ((r.length * k : Nat) : Int)) [.sh (.tup (inL (t :: r))), .sh (.int (k : Int)), .no, .no, .no, .no] := by
        refine bin_ok (y := .int (k : Int)) h1 rfl ?_
        rw [Int.natCast_mul]
        refine mul_ok ?_
        have b1 : bits (r.length : Int) ≤ 11 := bits_small (by rw [Int.natAbs_natCast]; exact Nat.lt_of_lt_of_le (show r.length < 64 by omega) (by decide))
        have b2 : bits (k : Int) ≤ 11 := bits_small (by rw [Int.natAbs_natCast]; exact Nat.lt_of_le_of_lt hk2 (by decide))
        omega
      have := rng1_ok (fr := aCons (bin dAdd (bin dMul (bin dSub (lenN 0) (cC (.int 1))) (nm 1)) (cC (.int 1))) aNil) (j := ((r.length * k : Nat) : Int) + 1) (a1_ok (bin_ok (y := .int 1) h2 rfl rfl)) (by omega) (by omega)
      rw [this]
      congr 2
    have e1 : (asgO 2 (EV.lc [5] (EV.iRng1 (aCons (bin dAdd (bin dMul (bin dSub (lenN 0) (cC (.int 1))) (nm 1)) (cC (.int 1))) aNil)) (gN 5) EV.tYes (cC (.int 0)))) [.sh (.tup (inL (t :: r))), .sh (.int (k : Int)), .no, .no, .no, .no] = .ok .nx [.sh (.tup (inL (t :: r))), .sh (.int (k : Int)), .ow none (.l (inL (zs (r.length * k + 1)))), .no, .no, .no] :=
      asgO_ok (zs_lc hR (by omega) fun d => ⟨[.sh (.tup (inL (t :: r))), .sh (.int (k : Int)), .no, .no, .no, .sh d], rfl, rfl⟩)
    obtain ⟨s3, s4, e2⟩ := spr_loop hk hk2 (A := .sh (.tup (inL (t :: r)))) (s5 := .no) r t 0 [] .no .no (by simp) (by omega) (by omega)
    have e3 : (EV.forS (EV.iEnumT (nm 0)) (gT (gsCons (gN 3) (gsCons (gN 4) gsNil))) sprB) [.sh (.tup (inL (t :: r))), .sh (.int (k : Int)), .ow none (.l (inL (zs (r.length * k + 1)))), .no, .no, .no] = .ok .nx [.sh (.tup (inL (t :: r))), .sh (.int (k : Int)), .ow none (.l (inL (spr k (t :: r)))), s3, s4, .no] := by
      unfold EV.forS
      exact e2
    exact fn_rto rfl ((seq_nx e0).trans ((seq_nx e1).trans ((seq_nx e3).trans rfl)))
/-! ### wide -/
abbrev why2 : Str := "a book is made wide by an odd number from 1 on"
theorem bits100 {m : Int} (h : -100 ≤ m ∧ m ≤ 1000) : bits m ≤ 11 := bits_small (Nat.lt_of_le_of_lt (show m.natAbs ≤ 1000 by omega) (by decide))
theorem wide_bad {xs : List Int} {l : Int} {T : List Int} {B m : Int} (h : m < 1 ∨ (1 ≤ m ∧ m % 2 = 0)) : m_wide [bkD xs l T B, .int m] = .rse 0 [.str why2] := by
  have ht : (tOr (tB (bin dLt (nm 1) (cC (.int 1)))) (tB (bin dEq (bin dAnd1 (nm 1) (cC (.int 1))) (cC (.int 0))))) [.sh (bkD xs l T B), .sh (.int m), .no, .no] = .ok true [.sh (bkD xs l T B), .sh (.int m), .no, .no] := by
    rcases h with h | ⟨h1, h2⟩
    · refine or_t (tB_ok (bin_ok (x := .int m) (y := .int 1) rfl rfl ?_))
      show some (D.bl (decide (m < 1))) = _
      rw [decide_eq_true h]
    · obtain ⟨k, rfl⟩ : ∃ k : Nat, m = k := ⟨m.toNat, by omega⟩
      refine or_f (tB_ok (bin_ok (x := .int (k : Int)) (y := .int 1) rfl rfl ?_)) (tB_ok (bin_ok (x := .int ((k % 2 : Nat) : Int)) (y := .int 0) (bin_ok (x := .int (k : Int)) (y := .int 1) rfl rfl rfl) rfl ?_))
      · show some (D.bl (decide ((k : Int) < 1))) = _
        rw [decide_eq_false (by omega)]
      · have : k % 2 = 0 := by omega
        rw [this]
        rfl
  exact fn_ex rfl (seq_ex ((if_t ht).trans rfl))
theorem wide_ok {xs : List Int} {l : Int} {T : List Int} {B : Int} {k n : Nat} (v : Val T B) (hl : xs.length = T.length) (h41 : T.length ≤ 41) (hk : k % 2 = 1) (hk2 : k ≤ 900) (sz : Sz n T) (hn : n ≤ 2 ^ 60) :
    ((T.length - 1) * k ≤ 40 → ∃ d, m_wide [bkD xs l T B, .int (k : Int)] = .ret d ∧ IsBk d (spr k T) B) ∧ (40 < (T.length - 1) * k → m_wide [bkD xs l T B, .int (k : Int)] = .rse 1 [.int (((T.length - 1) * k : Nat) : Int), .str "reach"]) := by
  have n2 := v.n2
  have tn : T ≠ [] := fun z => by rw [z] at n2; simp at n2
  have ht : (EV.ifS (tOr (tB (bin dLt (nm 1) (cC (.int 1)))) (tB (bin dEq (bin dAnd1 (nm 1) (cC (.int 1))) (cC (.int 0))))) (rzS 0 1 (aCons (cC (.str why2)) aNil)) sNx) [.sh (bkD xs l T B), .sh (.int (k : Int)), .no, .no] = .ok .nx [.sh (bkD xs l T B), .sh (.int (k : Int)), .no, .no] := by
    refine if_nx (or_f (tB_ok (bin_ok (x := .int (k : Int)) (y := .int 1) rfl rfl ?_)) (tB_ok (bin_ok (x := .int ((k % 2 : Nat) : Int)) (y := .int 0) (bin_ok (x := .int (k : Int)) (y := .int 1) rfl rfl rfl) rfl ?_)))
    · show some (D.bl (decide ((k : Int) < 1))) = _
      rw [decide_eq_false (by omega)]
    · rw [hk]
      rfl
  have hr : (aCons (bin dMul (fld ix_reach (nm 0)) (nm 1)) aNil) [.sh (bkD xs l T B), .sh (.int (k : Int)), .no, .no] = .ok [.int (((T.length - 1) * k : Nat) : Int)] [.sh (bkD xs l T B), .sh (.int (k : Int)), .no, .no] := by
    refine a1_ok (bin_ok (x := .int ((xs.length : Int) - 1)) (y := .int (k : Int)) rfl rfl ?_)
    have e : ((xs.length : Int) - 1) = ((T.length - 1 : Nat) : Int) := by omega
    rw [e, Int.natCast_mul]
    refine mul_ok ?_
    have b1 := bits100 (m := ((T.length - 1 : Nat) : Int)) ⟨by omega, by omega⟩
    have b2 := bits100 (m := (k : Int)) ⟨by omega, by omega⟩
    omega
  constructor
  · intro h
    have e2 := expr_ok (call_ok hr (reach_ok (by omega)))
    have e3 : (asg (gT (gsCons (gN 2) (gsCons (gN 3) gsNil))) (meth0 1 m_Book_over_one_bottom (nm 0))) [.sh (bkD xs l T B), .sh (.int (k : Int)), .no, .no] = .ok .nx [.sh (bkD xs l T B), .sh (.int (k : Int)), .sh (.tup (inL T)), .sh (.int B)] := asg2_ok (meth_ok rfl)
    have sp := spread_ok (k := k) tn (by omega) (by omega) h41 (by omega)
    obtain ⟨d, e, hd⟩ := (made_ok (val_wide v hk sz hn (by omega))).1 (by rw [spr_len (by omega) tn]; omega)
    exact ⟨d, fn_ret rfl ((seq_nx ht).trans ((seq_nx e2).trans ((seq_nx e3).trans (ret_ok (call_ok (ac_ok (call_rto (ac_ok (x := .tup (inL T)) rfl (a1_ok (x := .int (k : Int)) rfl)) sp) (a1_ok (x := .int B) rfl)) e))))), hd⟩
  · intro h
    exact fn_ex rfl ((seq_nx ht).trans (seq_ex (expr_ex (call_rse hr (reach_ex (by omega))))))
theorem or_tt {fa fb : FE} {ε ε1 : Env} (h : fa ε = .ok (.bl true) ε1) : eOr fa fb ε = .ok (.bl true) ε1 := by
  unfold eOr
  rw [h, bind_ok]
  rfl
theorem or_ff {fa fb : FE} {ε ε1 : Env} (h : fa ε = .ok (.bl false) ε1) : eOr fa fb ε = fb ε1 := by
  unfold eOr
  rw [h, bind_ok]
  rfl
theorem mod2 (m : Int) : dMod (.int m) (.int 2) = some (.int (m % 2)) := by
  show (if (2 : Int) ≠ 0 then some (D.int (m.fmod 2)) else none) = _
  rw [if_pos (by omega), Int.fmod_eq_emod_of_nonneg _ (by omega)]
theorem cut_take {α : Type} (xs : List α) (n : Nat) : cutN xs none (some (n : Int)) = xs.take n := by
  have h1 : slIx xs.length 0 none = 0 := rfl
  have h2 : slIx xs.length xs.length (some (n : Int)) = min n xs.length := by
    unfold slIx
    dsimp only
    rw [if_neg (by omega), Int.toNat_natCast]
  unfold cutN
  rw [h1, h2, List.drop_zero, Nat.sub_zero]
  by_cases h : n ≤ xs.length
  · rw [Nat.min_eq_left h]
  · rw [Nat.min_eq_right (by omega), List.take_length, List.take_of_length_le (by omega)]
theorem repE_ok {n : Nat} (h : n ≤ 1000000) : dMul (.lst [.int 0]) (.int n) = some (.lst (inL (zs n))) := by
  have c : -(2 ^ 63) ≤ (n : Int) ∧ (n : Int) < 2 ^ 63 ∧ [D.int 0].length * (n : Int).toNat ≤ line := ⟨by omega, by omega, by rw [Int.toNat_natCast, List.length_singleton, Nat.one_mul]; exact line_ok h⟩
  unfold dMul
  dsimp only
  rw [if_pos c, Int.toNat_natCast, rep0]
theorem catE_ok {a b : List D} (h : a.length + b.length ≤ 1000000) : dAdd (.lst a) (.lst b) = some (.lst (a ++ b)) := if_pos (line_ok h)
theorem catO_ok {a b : List D} (h : a.length + b.length ≤ 1000000) : dCatO (.lst a) (.lst b) = some (.l (a ++ b)) := if_pos (line_ok h)
noncomputable abbrev wideB : FS := (asgO 6 (binO dCatO (bin dAdd (nm 6) (frz (lstO (aCons (nm 7) aNil)))) (bin dMul (frz (lstO (aCons (cC (.int 0)) aNil))) (bin dSub (nm 2) (cC (.int 1))))))
theorem wide_loop {k : Nat} (hk : 0 < k) (hk2 : k ≤ 900) {s0 s1 s3 s4 s5 : Slot} : ∀ (xs acc : List Int) (s7 : Slot), acc.length + xs.length * k ≤ 100000 →
    ∃ s7', forL (gN 7) wideB (inL xs) [s0, s1, .sh (.int (k : Int)), s3, s4, s5, .ow none (.l (inL acc)), s7] = .ok .nx [s0, s1, .sh (.int (k : Int)), s3, s4, s5, .ow none (.l (inL (acc ++ flt k xs))), s7']
  | [], acc, s7, h => ⟨s7, by simp [forL, flt]⟩
  | x :: xs, acc, s7, h => by
    rw [List.length_cons, Nat.add_mul, Nat.one_mul] at h
    obtain ⟨s7', e⟩ := wide_loop hk hk2 (s0 := s0) (s1 := s1) (s3 := s3) (s4 := s4) (s5 := s5) xs (acc ++ [x] ++ zs (k - 1)) (.sh (.int x)) (by simp only [List.length_append, List.length_cons, List.length_nil, zs_len]; omega)
    refine ⟨s7', ?_⟩
    have st : wideB [s0, s1, .sh (.int (k : Int)), s3, s4, s5, .ow none (.l (inL acc)), .sh (.int x)] = .ok .nx [s0, s1, .sh (.int (k : Int)), s3, s4, s5, .ow none (.l (inL (acc ++ [x] ++ zs (k - 1)))), .sh (.int x)] := by
      have p1 : (bin dAdd (nm 6) (frz (lstO (aCons (nm 7) aNil)))) [s0, s1, .sh (.int (k : Int)), s3, s4, s5, .ow none (.l (inL acc)), .sh (.int x)] = .ok (.lst (inL acc ++ [.int x])) [s0, s1, .sh (.int (k : Int)), s3, s4, s5, .sh (.lst (inL acc)), .sh (.int x)] :=
        bin_ok (x := .lst (inL acc)) (y := .lst [.int x]) rfl (frz_ok (lstO_ok rfl (by simp))) (catE_ok (by rw [inL_len, List.length_singleton]; omega))
      have e1 : ((k : Int) - 1) = ((k - 1 : Nat) : Int) := by omega
      have p2 : (bin dMul (frz (lstO (aCons (cC (.int 0)) aNil))) (bin dSub (nm 2) (cC (.int 1)))) [s0, s1, .sh (.int (k : Int)), s3, s4, s5, .sh (.lst (inL acc)), .sh (.int x)] = .ok (.lst (inL (zs (k - 1)))) [s0, s1, .sh (.int (k : Int)), s3, s4, s5, .sh (.lst (inL acc)), .sh (.int x)] :=
        bin_ok (x := .lst [.int 0]) (y := .int ((k : Int) - 1)) (frz_ok (lstO_ok rfl (by simp))) rfl (by rw [e1]; exact repE_ok (by omega))
      refine (asgO_ok (binO_ok p1 p2 (catO_ok (by rw [List.length_append, List.length_singleton, inL_len, inL_len, zs_len]; omega)))).trans ?_
      have : inL acc ++ [.int x] ++ inL (zs (k - 1)) = inL (acc ++ [x] ++ zs (k - 1)) := by
        unfold inL
        rw [List.map_append, List.map_append]
        rfl
      rw [this]
      rfl
    show forL (gN 7) wideB (.int x :: inL xs) _ = _
    rw [forL]
    show ((wideB [s0, s1, .sh (.int (k : Int)), s3, s4, s5, .ow none (.l (inL acc)), .sh (.int x)]).bind _) = _
    rw [st, bind_ok]
    refine e.trans ?_
    rw [flt]
    simp
noncomputable abbrev wcl1 : Clause := ⟨some 5, tab xc_BadBook, (EV.ret (eAnd (eOr (bin dLt (nm 2) (cC (.int 1))) (bin dEq (bin dMod (nm 2) (cC (.int 2))) (cC (.int 0)))) (EV.call m__law_is_bad (aCons (nm 5) aNil))))⟩
noncomputable abbrev wcl2 : Clause := ⟨some 5, tab xc_TooMany, (EV.ret (eAnd (bin dGt (nm 2) (cC (.int 0))) (eAnd (bin dEq (bin dMod (nm 2) (cC (.int 2))) (cC (.int 1))) (EV.call m__law_many (aCons (nm 5) (aCons (nm 3) aNil))))))⟩
theorem wide_holds {d : D} {xs : List Int} {l m : Int} (b : Bk d xs l) (hm : -100 ≤ m ∧ m ≤ 100) : m__law_wide_holds [d, plain xs l, .int m] = .ret (.bl true) := by
  have b0 := b
  obtain ⟨⟨T, B, g, rfl, t⟩, v, n41, sz, lz⟩ := b
  obtain ⟨szT, hB, hTl⟩ := tops_z b0 t
  have vT := val_tops v t
  have n2 := v.n2
  have lit1 : ∀ n : Int, dEq (.int n) (.int n) = some (.bl true) := fun n => by rw [dEq_int]; simp
  have e1 : (asg (gN 3) (bin dMul (bin dSub (bi bLen (aCons (ixN 1 (cC (.int 0))) aNil)) (cC (.int 1))) (nm 2))) [.sh (bkD xs l T B), .sh (plain xs l), .sh (.int m), .no, .no, .no, .no, .no] = .ok .nx [.sh (bkD xs l T B), .sh (plain xs l), .sh (.int m), .sh (.int (((xs.length : Int) - 1) * m)), .no, .no, .no, .no] := by
    have p1 : (bin dSub (bi bLen (aCons (ixN 1 (cC (.int 0))) aNil)) (cC (.int 1))) [.sh (bkD xs l T B), .sh (plain xs l), .sh (.int m), .no, .no, .no, .no, .no] = .ok (.int ((xs.length : Int) - 1)) [.sh (bkD xs l T B), .sh (plain xs l), .sh (.int m), .no, .no, .no, .no, .no] := bin_ok (plainLen rfl) rfl rfl
    refine asg_ok (bin_ok (y := .int m) p1 rfl (mul_ok ?_))
    have b1 := bits100 (m := (xs.length : Int) - 1) ⟨by omega, by omega⟩
    have b2 := bits100 (m := m) ⟨by omega, by omega⟩
    omega
  by_cases hbad : m < 1 ∨ (1 ≤ m ∧ m % 2 = 0)
  · have m1 := wide_bad (xs := xs) (l := l) (T := T) (B := B) hbad
    have cond : ∀ s3 s5 : Slot, (eOr (bin dLt (nm 2) (cC (.int 1))) (bin dEq (bin dMod (nm 2) (cC (.int 2))) (cC (.int 0)))) [.sh (bkD xs l T B), .sh (plain xs l), .sh (.int m), s3, .no, s5, .no, .no] = .ok (.bl true) [.sh (bkD xs l T B), .sh (plain xs l), .sh (.int m), s3, .no, s5, .no, .no] := by
      intro s3 s5
      by_cases h1 : m < 1
      · refine or_tt (bin_ok (x := .int m) (y := .int 1) rfl rfl ?_)
        show some (D.bl (decide (m < 1))) = _
        rw [decide_eq_true h1]
      · have h2 : m % 2 = 0 := by omega
        refine (or_ff (bin_ok (x := .int m) (y := .int 1) rfl rfl ?_)).trans (bin_ok (x := .int (m % 2)) (y := .int 0) (bin_ok (x := .int m) (y := .int 2) rfl rfl (mod2 m)) rfl ?_)
        · show some (D.bl (decide (m < 1))) = _
          rw [decide_eq_false h1]
        · rw [h2]
          exact lit1 0
    have e3 : tryS (asg (gN 4) (EV.call m_wide (aCons (nm 0) (aCons (nm 2) aNil)))) [wcl1, wcl2] [.sh (bkD xs l T B), .sh (plain xs l), .sh (.int m), .sh (.int (((xs.length : Int) - 1) * m)), .no, .no, .no, .no] = .ok (.rt (.bl true)) [.sh (bkD xs l T B), .sh (plain xs l), .sh (.int m), .sh (.int (((xs.length : Int) - 1) * m)), .no, .no, .no, .no] := by
      refine try_ex (ε2 := [.sh (bkD xs l T B), .sh (plain xs l), .sh (.int m), .sh (.int (((xs.length : Int) - 1) * m)), .no, .sh (.exc 0 [.str why2]), .no, .no]) (ε1 := [.sh (bkD xs l T B), .sh (plain xs l), .sh (.int m), .sh (.int (((xs.length : Int) - 1) * m)), .no, .no, .no, .no]) (c := 0) (fs := [.str why2]) ?_ rfl ?_ ?_ rfl
      · exact asg_ex (call_rse (ac_ok (x := bkD xs l T B) rfl (a1_ok (x := .int m) rfl)) m1)
      · exact ret_ok ((and_tt (cond _ _)).trans (call_ok (a1_ok (x := .exc 0 [.str why2]) rfl) (is_bad_ok (by decide +kernel) (by decide +kernel))))
      · show (noX (bkD xs l T B) && (noX (plain xs l) && (noX (.int m) && (noX (.int (((xs.length : Int) - 1) * m)) && _)))) = true
        rw [noX_bk, noX_plain]
        rfl
    exact fn_ret rfl ((seq_nx e1).trans (seq_rt e3))
  · obtain ⟨k, rfl⟩ : ∃ k : Nat, m = k := ⟨m.toNat, by omega⟩
    have hk : k % 2 = 1 := by omega
    have hk1 : ((k : Int) % 2) = 1 := by omega
    obtain ⟨c1, c2⟩ := wide_ok (xs := xs) (l := l) (k := k) vT hTl.symm (by omega) hk (by omega) szT (by decide)
    have hre : (((xs.length : Int) - 1) * (k : Int)) = (((T.length - 1) * k : Nat) : Int) := by
      rw [Int.natCast_mul]
      congr 1
      omega
    rw [hre] at e1
    by_cases h40 : 40 < (T.length - 1) * k
    · have m1 := c2 h40
      have e3 : tryS (asg (gN 4) (EV.call m_wide (aCons (nm 0) (aCons (nm 2) aNil)))) [wcl1, wcl2] [.sh (bkD xs l T B), .sh (plain xs l), .sh (.int (k : Int)), .sh (.int (((T.length - 1) * k : Nat) : Int)), .no, .no, .no, .no] = .ok (.rt (.bl true)) [.sh (bkD xs l T B), .sh (plain xs l), .sh (.int (k : Int)), .sh (.int (((T.length - 1) * k : Nat) : Int)), .no, .no, .no, .no] := by
        refine (try_no (c := 1) (fs := [.int (((T.length - 1) * k : Nat) : Int), .str "reach"]) (asg_ex (call_rse (ac_ok (x := bkD xs l T B) rfl (a1_ok (x := .int (k : Int)) rfl)) m1)) rfl).trans ?_
        refine hand_yes (ε2 := [.sh (bkD xs l T B), .sh (plain xs l), .sh (.int (k : Int)), .sh (.int (((T.length - 1) * k : Nat) : Int)), .no, .sh (.exc 1 [.int (((T.length - 1) * k : Nat) : Int), .str "reach"]), .no, .no]) rfl ?_ ?_ rfl
        · refine ret_ok ((and_tt (bin_ok (x := .int (k : Int)) (y := .int 0) rfl rfl ?_)).trans ((and_tt (bin_ok (x := .int ((k : Int) % 2)) (y := .int 1) (bin_ok (x := .int (k : Int)) (y := .int 2) rfl rfl (mod2 _)) rfl ?_)).trans (call_ok (ac_ok (x := .exc 1 [.int (((T.length - 1) * k : Nat) : Int), .str "reach"]) rfl (a1_ok (x := .int (((T.length - 1) * k : Nat) : Int)) rfl)) (many_ok (by omega)))))
          · show some (D.bl (decide (0 < (k : Int)))) = _
            rw [decide_eq_true (by omega)]
          · rw [hk1]
            exact lit1 1
        · show (noX (bkD xs l T B) && (noX (plain xs l) && _)) = true
          rw [noX_bk, noX_plain]
          rfl
      exact fn_ret rfl ((seq_nx e1).trans (seq_rt e3))
    · obtain ⟨d', m1, ⟨T', B', g', rfl, t'⟩⟩ := c1 (by omega)
      have e3 : tryS (asg (gN 4) (EV.call m_wide (aCons (nm 0) (aCons (nm 2) aNil)))) [wcl1, wcl2] [.sh (bkD xs l T B), .sh (plain xs l), .sh (.int (k : Int)), .sh (.int (((T.length - 1) * k : Nat) : Int)), .no, .no, .no, .no] = .ok .nx [.sh (bkD xs l T B), .sh (plain xs l), .sh (.int (k : Int)), .sh (.int (((T.length - 1) * k : Nat) : Int)), .sh (bkD (spr k T) B T' B'), .no, .no, .no] :=
        try_ok (asg_ok (call_ok (ac_ok (x := bkD xs l T B) rfl (a1_ok (x := .int (k : Int)) rfl)) m1))
      have e4 : (EV.ifS (tOr (tB (bin dLt (nm 2) (cC (.int 1)))) (tOr (tB (bin dEq (bin dMod (nm 2) (cC (.int 2))) (cC (.int 0)))) (tB (bin dGt (nm 3) (cC (.int 40)))))) (EV.ret (cC (.bl false))) sNx)
          [.sh (bkD xs l T B), .sh (plain xs l), .sh (.int (k : Int)), .sh (.int (((T.length - 1) * k : Nat) : Int)), .sh (bkD (spr k T) B T' B'), .no, .no, .no] = .ok .nx [.sh (bkD xs l T B), .sh (plain xs l), .sh (.int (k : Int)), .sh (.int (((T.length - 1) * k : Nat) : Int)), .sh (bkD (spr k T) B T' B'), .no, .no, .no] := by
        refine if_nx (or_f (tB_ok (bin_ok (x := .int (k : Int)) (y := .int 1) rfl rfl ?_)) (or_f (tB_ok (bin_ok (x := .int ((k : Int) % 2)) (y := .int 0) (bin_ok (x := .int (k : Int)) (y := .int 2) rfl rfl (mod2 _)) rfl ?_)) (tB_ok (bin_ok (x := .int (((T.length - 1) * k : Nat) : Int)) (y := .int 40) rfl rfl ?_))))
        · show some (D.bl (decide ((k : Int) < 1))) = _
          rw [decide_eq_false (by omega)]
        · rw [hk1]
          rfl
        · show some (D.bl (decide (40 < (((T.length - 1) * k : Nat) : Int)))) = _
          rw [decide_eq_false (by omega)]
      have e5 : (asgO 6 (lstO aNil)) [.sh (bkD xs l T B), .sh (plain xs l), .sh (.int (k : Int)), .sh (.int (((T.length - 1) * k : Nat) : Int)), .sh (bkD (spr k T) B T' B'), .no, .no, .no] = .ok .nx [.sh (bkD xs l T B), .sh (plain xs l), .sh (.int (k : Int)), .sh (.int (((T.length - 1) * k : Nat) : Int)), .sh (bkD (spr k T) B T' B'), .no, .ow none (.l (inL [])), .no] := asgO_ok (lstO_ok (xs := []) rfl (by simp))
      have hlk : xs.length * k ≤ 50000 := Nat.le_trans (Nat.mul_le_mul n41 (show k ≤ 100 by omega)) (by decide)
      obtain ⟨s7, e6⟩ := wide_loop (k := k) (by omega) (by omega) (s0 := .sh (bkD xs l T B)) (s1 := .sh (plain xs l)) (s3 := .sh (.int (((T.length - 1) * k : Nat) : Int))) (s4 := .sh (bkD (spr k T) B T' B')) (s5 := .no) xs [] .no (by simp; omega)
      have e7 : (EV.forS (iSeq (ixN 1 (cC (.int 0)))) (gN 7) wideB) [.sh (bkD xs l T B), .sh (plain xs l), .sh (.int (k : Int)), .sh (.int (((T.length - 1) * k : Nat) : Int)), .sh (bkD (spr k T) B T' B'), .no, .ow none (.l (inL [])), .no] = .ok .nx [.sh (bkD xs l T B), .sh (plain xs l), .sh (.int (k : Int)), .sh (.int (((T.length - 1) * k : Nat) : Int)), .sh (bkD (spr k T) B T' B'), .no, .ow none (.l (inL (flt k xs))), s7] := by
        unfold EV.forS
        exact e6
      have tn : xs ≠ [] := fun z => by rw [z] at n2; simp at n2
      have hcut : (flt k xs).take ((T.length - 1) * k + 1) = spr k xs := by
        rw [hTl]
        cases xs with
        | nil => exact absurd rfl tn
        | cons x r =>
          rw [flt_eq, spr]
          have : (x :: tlw k r).length = ((x :: r).length - 1) * k + 1 := by
            rw [List.length_cons, tlw_len (by omega), List.length_cons]
            rfl
          rw [← this, List.take_left']
          rfl
      have mk : (tupE (aCons (slE (nm 6) pNo (pSo (bin dAdd (nm 3) (cC (.int 1))))) (aCons (ixN 1 (cC (.int 1))) aNil))) [.sh (bkD xs l T B), .sh (plain xs l), .sh (.int (k : Int)), .sh (.int (((T.length - 1) * k : Nat) : Int)), .sh (bkD (spr k T) B T' B'), .no, .ow none (.l (inL (flt k xs))), s7] =
          .ok (plain (spr k xs) l) [.sh (bkD xs l T B), .sh (plain xs l), .sh (.int (k : Int)), .sh (.int (((T.length - 1) * k : Nat) : Int)), .sh (bkD (spr k T) B T' B'), .no, .sh (.lst (inL (flt k xs))), s7] := by
        refine tupE_ok (ac_ok (slE_ok (x := .lst (inL (flt k xs))) (lo := none) (hi := some ((((T.length - 1) * k + 1 : Nat)) : Int)) rfl rfl rfl ?_) (a1_ok (x := .int l) (lst2_ok rfl).2)) (by simp)
        show some (D.lst (cutN (inL (flt k xs)) none (some ((((T.length - 1) * k + 1 : Nat)) : Int)))) = _
        rw [cut_take]
        unfold inL
        rw [← List.map_take, hcut]
      have vw := val_wide (k := k) vT hk szT (by decide) (by omega)
      have vw' := val_wide (k := k) v hk sz (by decide) (by rw [← hTl]; omega)
      have hx : spr k xs = (spr k T).map (g * ·) := by
        conv => lhs; rw [t.x0]
        exact spr_map k g T
      have tn' : T ≠ [] := fun z => by rw [z] at hTl; rw [← hTl] at n2; simp at n2
      have sl1 := spr_len (k := k) (by omega) tn'
      have sl2 := spr_len (k := k) (by omega) tn
      have i1 := is_ok (xs := spr k T) (xs' := spr k xs) (T := T') (B := B') vw.l0 vw.sl v.l0 v.sl (by omega) (by rw [sl1, sl2, hTl]) (by rw [hx, t.l0, pps_scale t.g0 vw.l0])
      exact fn_ret rfl ((seq_nx e1).trans ((seq_nx e3).trans ((seq_nx e4).trans ((seq_nx e5).trans ((seq_nx e7).trans (ret_ok (call_ok (ac_ok (x := bkD (spr k T) B T' B') rfl (a1_ok mk)) i1)))))))
end EV
set_option maxRecDepth 100000
/-! K06_T: the texts of fractions, written and read. -/
namespace EV
open PySem TL
theorem tl_neg (n : Nat) : tl (Str.ofString (toString (Int.negSucc n))) = 45 :: numL (n + 1) := by
  rw [tl_ofString]
  have : (toString (Int.negSucc n)) = "-" ++ Nat.repr (n + 1) := rfl
  rw [this, String.toList_append, List.map_append, Nat.toList_repr]
  rfl
/-- the signs of an integer's text -/
def dg (i : Int) : List Nat := if i < 0 then 45 :: numL i.natAbs else numL i.natAbs
theorem tl_int (i : Int) : tl (Str.ofString (toString i)) = dg i := by
  cases i with
  | ofNat n => exact tl_num n
  | negSucc n =>
    unfold dg
    rw [if_pos (by omega)]
    exact tl_neg n
theorem numL_len7 {n : Nat} (h : n ≤ 2 ^ 20) : (numL n).length ≤ 7 := numL_len (by decide) (Nat.lt_of_le_of_lt h (by decide))
theorem dg_len {i : Int} (h : i.natAbs ≤ 2 ^ 20) : (dg i).length ≤ 8 := by
  have := numL_len7 h
  unfold dg
  split
  · simp only [List.length_cons]; omega
  · omega
theorem str_len {x : Str} {l : List Nat} (h : tl x = l) : x.length = l.length := by rw [len_tl, h]
theorem text_int {i : Int} (h : i.natAbs ≤ 2 ^ 20) : intText? (Str.ofString (toString i)) = some i := by
  have h1 := numL_len7 h
  have h2 := dg_len h
  have hl := str_len (tl_int i)
  by_cases hi : i < 0
  · have e := tl_int i
    unfold dg at e
    rw [if_pos hi] at e
    have := intText_neg (x := Str.ofString (toString i)) (cs := numL i.natAbs) e (numL_digits _) (numL_ne _) (by omega)
    rw [this, numL_val]
    congr 1
    omega
  · obtain ⟨n, rfl⟩ : ∃ n : Nat, i = n := ⟨i.toNat, by omega⟩
    exact int_num (by rw [Int.natAbs_natCast] at h1; omega)
theorem dg_ok (i : Int) : ∀ c ∈ dg i, c < 0x110000 := by
  intro c hc
  unfold dg at hc
  have hd := numL_digits i.natAbs
  split at hc
  · rcases List.mem_cons.mp hc with rfl | hc
    · decide
    · have := hd c hc
      omega
  · have := hd c hc
    omega
theorem strOk_of {x : Str} (h : ∀ c ∈ tl x, c < 0x110000) : PyData.strOk x = true := by
  unfold PyData.strOk
  rw [← Array.all_toList, List.all_eq_true]
  intro c hc
  exact decide_eq_true (h c hc)
/-- the text of a fraction -/
noncomputable def wd (t b : Int) : Str := if b = 1 then Str.ofString (toString t) else Str.ofString (toString t) ++ "/" ++ Str.ofString (toString b)
def wl (t b : Int) : List Nat := dg t ++ (if b = 1 then [] else 47 :: numL b.natAbs)
theorem tl_slash : tl ("/" : Str) = [47] := by decide +kernel
theorem tl_wd {t b : Int} (hb : 0 < b) : tl (wd t b) = wl t b := by
  unfold wd wl
  by_cases h : b = 1
  · rw [if_pos h, if_pos h, tl_int, List.append_nil]
  · rw [if_neg h, if_neg h, tl_append, tl_append, tl_int, tl_int, tl_slash]
    unfold dg
    rw [if_neg (show ¬ b < 0 by omega)]
    simp
theorem dStr_ok {i : Int} (h : i.natAbs ≤ 2 ^ 20) : bStr [.int i] = some (.str (Str.ofString (toString i))) := by
  have : i.natAbs.log2 < 1920 := by
    by_cases hz : i.natAbs = 0
    · rw [hz, Nat.log2_zero]
      omega
    · have := (Nat.log2_lt (n := i.natAbs) (k := 21) hz).mpr (Nat.lt_of_le_of_lt h (by decide))
      omega
  exact if_pos this
theorem addStr_ok {x y : Str} (h : x.length + y.length ≤ 1000) : dAdd (.str x) (.str y) = some (.str (x ++ y)) := if_pos (line_ok (by omega))
theorem word_ok {t b : Int} (ht : t.natAbs ≤ 2 ^ 20) (hb : b.natAbs ≤ 2 ^ 20) : m__law_word [.tup [.int t, .int b]] = .ret (.str (wd t b)) := by
  have i0 : (ixN 0 (cC (.int 0))) [.sh (.tup [.int t, .int b])] = .ok (.int t) [.sh (.tup [.int t, .int b])] := rfl
  have i1 : (ixN 0 (cC (.int 1))) [.sh (.tup [.int t, .int b])] = .ok (.int b) [.sh (.tup [.int t, .int b])] := rfl
  have l1 := dg_len ht
  have l2 := dg_len hb
  have k1 := str_len (tl_int t)
  have k2 := str_len (tl_int b)
  by_cases h : b = 1
  · have e : (tB (bin dEq (ixN 0 (cC (.int 1))) (cC (.int 1)))) [.sh (.tup [.int t, .int b])] = .ok true [.sh (.tup [.int t, .int b])] := tB_ok (bin_ok i1 rfl (by rw [dEq_int, h]; rfl))
    unfold wd
    rw [if_pos h]
    exact fn_ret rfl (seq_rt ((if_t e).trans (ret_ok (bi_ok (a1_ok i0) (dStr_ok ht)))))
  · have e : (tB (bin dEq (ixN 0 (cC (.int 1))) (cC (.int 1)))) [.sh (.tup [.int t, .int b])] = .ok false [.sh (.tup [.int t, .int b])] := tB_ok (bin_ok i1 rfl (by
      rw [dEq_int]
      have : (b == 1) = false := by simpa using h
      rw [this]))
    unfold wd
    rw [if_neg h]
    have ks : ("/" : Str).length = 1 := by decide +kernel
    have p1 : (bin dAdd (bi bStr (aCons (ixN 0 (cC (.int 0))) aNil)) (cC (.str "/"))) [.sh (.tup [.int t, .int b])] = .ok (.str (Str.ofString (toString t) ++ "/")) [.sh (.tup [.int t, .int b])] := bin_ok (bi_ok (a1_ok i0) (dStr_ok ht)) rfl (addStr_ok (by omega))
    have k3 : (Str.ofString (toString t) ++ ("/" : Str)).length = (dg t).length + 1 := by
      rw [len_tl, tl_append, tl_int, tl_slash]
      simp
    exact fn_ret rfl ((seq_nx (if_nx e)).trans (ret_ok (bin_ok p1 (bi_ok (a1_ok i1) (dStr_ok hb)) (addStr_ok (by omega)))))
/-! ### digits -/
theorem mem_dig (c : Nat) : (decide (c ∈ ("0123456789" : Str).cps.toList)) = decide (48 ≤ c ∧ c ≤ 57) := by
  have : ("0123456789" : Str).cps.toList = [48, 49, 50, 51, 52, 53, 54, 55, 56, 57] := by decide +kernel
  rw [this]
  refine decide_eq_decide.mpr ⟨fun h => ?_, fun h => ?_⟩
  · simp at h
    omega
  · simp
    omega
theorem inS_ok (c : Nat) : dInS (.str ⟨#[c]⟩) (.str "0123456789") = some (.bl (decide (48 ≤ c ∧ c ≤ 57))) := by
  show some (D.bl (decide (c ∈ ("0123456789" : Str).cps.toList))) = _
  rw [mem_dig]
theorem ixS_ok {W : Str} {L : List Nat} {n c : Nat} (h : tl W = L) (hl : L.length ≤ 1000) (hc : L[n]? = some c) : dIx (.str W) (.int (n : Int)) = some (.str ⟨#[c]⟩) := by
  show (if W.length ≤ line then (getN W.cps.toList (n : Int)).map fun c => D.str ⟨#[c]⟩ else none) = _
  rw [if_pos (line_ok (by rw [str_len h]; omega)), getN_nat, show W.cps.toList = L from h, hc]
  rfl
noncomputable abbrev digT : FT := (tAnd (tB (bin dLt (bin dAdd (nm 1) (nm 2)) (lenN 0))) (tAnd (tB (bin dLe (nm 2) (cC (.int 400)))) (tB (bin dInS (ixN 0 (bin dAdd (nm 1) (nm 2))) (cC (.str "0123456789"))))))
noncomputable abbrev digB : FS := (aug dAddI 2 (cC (.int 1)))
theorem lenS_ok {W : Str} {L : List Nat} (h : tl W = L) (hl : L.length ≤ 1000) : bLen [.str W] = some (.int L.length) := by
  show (if W.length ≤ line then some (D.int W.length) else none) = _
  rw [if_pos (line_ok (by rw [str_len h]; omega)), str_len h]
theorem dig_loop {W : Str} {p post : List Nat} {dsAll : List Nat} (h : tl W = p ++ dsAll ++ post) (hl : (p ++ dsAll ++ post).length ≤ 1000) (hd : ∀ c ∈ dsAll, 48 ≤ c ∧ c ≤ 57) (h4 : dsAll.length ≤ 400) (hp : ∀ c, post.head? = some c → ¬ (48 ≤ c ∧ c ≤ 57)) :
    ∀ (r q : List Nat) (f : Nat), dsAll = q ++ r → r.length < f → EV.whl digT digB f [.sh (.str W), .sh (.int (p.length : Int)), .sh (.int (q.length : Int))] = .ok .nx [.sh (.str W), .sh (.int (p.length : Int)), .sh (.int (dsAll.length : Int))] := by
  have lenE : ∀ s : Slot, (lenN 0) [.sh (.str W), .sh (.int (p.length : Int)), s] = .ok (.int ((p ++ dsAll ++ post).length : Int)) [.sh (.str W), .sh (.int (p.length : Int)), s] := fun s => by
    show R.of (bLen [.str W]) _ = _
    rw [lenS_ok h hl]
    rfl
  have ad : ∀ c : Nat, (bin dAdd (nm 1) (nm 2)) [.sh (.str W), .sh (.int (p.length : Int)), .sh (.int (c : Int))] = .ok (.int ((p.length + c : Nat) : Int)) [.sh (.str W), .sh (.int (p.length : Int)), .sh (.int (c : Int))] := fun c =>
    bin_ok (x := .int (p.length : Int)) (y := .int (c : Int)) rfl rfl (by show some (D.int ((p.length : Int) + (c : Int))) = _; rw [Int.natCast_add])
  intro r
  induction r with
  | nil =>
    intro q f e hf
    rw [List.append_nil] at e
    subst e
    obtain ⟨f, rfl⟩ : ∃ f', f = f' + 1 := ⟨f - 1, by omega⟩
    have t : digT [.sh (.str W), .sh (.int (p.length : Int)), .sh (.int (dsAll.length : Int))] = .ok false [.sh (.str W), .sh (.int (p.length : Int)), .sh (.int (dsAll.length : Int))] := by
      by_cases hn : post = []
      · subst hn
        refine and_f (tB_ok (bin_ok (ad _) (lenE _) ?_))
        show some (D.bl (decide (_ < _))) = _
        rw [decide_eq_false (by simp)]
      · obtain ⟨c, post', rfl⟩ : ∃ c r', post = c :: r' := by
          cases post with
          | nil => exact absurd rfl hn
          | cons c r' => exact ⟨c, r', rfl⟩
        have hc := hp c rfl
        refine and_t (tB_ok (bin_ok (ad _) (lenE _) ?_)) (and_t (tB_ok (bin_ok (x := .int (dsAll.length : Int)) (y := .int 400) rfl rfl ?_)) (tB_ok (bin_ok (ixN_sh rfl (ad _) rfl (ixS_ok h hl (n := p.length + dsAll.length) (c := c) ?_)) rfl ?_)))
        · show some (D.bl (decide (_ < _))) = _
          rw [decide_eq_true (by simp; omega)]
        · show some (D.bl (decide ((dsAll.length : Int) ≤ 400))) = _
          rw [decide_eq_true (by omega)]
        · rw [List.getElem?_append_right (by simp)]
          simp
        · rw [inS_ok, decide_eq_false hc]
    unfold EV.whl
    rw [t, bind_ok]
    rfl
  | cons x r ih =>
    intro q f e hf
    obtain ⟨f, rfl⟩ : ∃ f', f = f' + 1 := ⟨f - 1, by omega⟩
    have hx : dsAll[q.length]? = some x := by rw [e]; simp
    have hlt : q.length < dsAll.length := by rw [e]; simp
    have hxd := hd x (by rw [e]; simp)
    have t : digT [.sh (.str W), .sh (.int (p.length : Int)), .sh (.int (q.length : Int))] = .ok true [.sh (.str W), .sh (.int (p.length : Int)), .sh (.int (q.length : Int))] := by
      refine and_t (tB_ok (bin_ok (ad _) (lenE _) ?_)) (and_t (tB_ok (bin_ok (x := .int (q.length : Int)) (y := .int 400) rfl rfl ?_)) (tB_ok (bin_ok (ixN_sh rfl (ad _) rfl (ixS_ok h hl (n := p.length + q.length) (c := x) ?_)) rfl ?_)))
      · show some (D.bl (decide (_ < _))) = _
        rw [decide_eq_true (by simp; omega)]
      · show some (D.bl (decide ((q.length : Int) ≤ 400))) = _
        rw [decide_eq_true (by omega)]
      · rw [List.append_assoc, List.getElem?_append_right (by omega), Nat.add_sub_cancel_left, List.getElem?_append_left hlt, hx]
      · rw [inS_ok, decide_eq_true hxd]
    have st : digB [.sh (.str W), .sh (.int (p.length : Int)), .sh (.int (q.length : Int))] = .ok .nx [.sh (.str W), .sh (.int (p.length : Int)), .sh (.int ((q ++ [x]).length : Int))] := by
      have : ((q ++ [x]).length : Int) = (q.length : Int) + 1 := by simp
      rw [this]
      rfl
    unfold EV.whl
    rw [t, bind_ok, if_pos rfl, st, bind_ok]
    exact ih (q ++ [x]) f (by rw [e]; simp) (by simp only [List.length_cons] at hf; omega)
theorem digits_ok {W : Str} {p ds post : List Nat} (h : tl W = p ++ ds ++ post) (hl : (p ++ ds ++ post).length ≤ 1000) (hd : ∀ c ∈ ds, 48 ≤ c ∧ c ≤ 57) (h4 : ds.length ≤ 400) (hp : ∀ c, post.head? = some c → ¬ (48 ≤ c ∧ c ≤ 57)) : m_digits_from [.str W, .int (p.length : Int)] = .ret (.int (ds.length : Int)) := by
  have e1 : (asg (gN 2) (cC (.int 0))) [.sh (.str W), .sh (.int (p.length : Int)), .no] = .ok .nx [.sh (.str W), .sh (.int (p.length : Int)), .sh (.int 0)] := rfl
  have e2 := dig_loop h hl hd h4 hp ds [] 1000000 rfl (by omega)
  exact fn_ret rfl ((seq_nx e1).trans ((seq_nx e2).trans rfl))
theorem sign_eq {c : Nat} {z : Str} {k : Nat} (hz : tl z = [k]) : ((⟨#[c]⟩ : Str) == z) = decide (c = k) := by
  by_cases h : c = k
  · subst h
    have : (⟨#[c]⟩ : Str) = z := ext_tl (by rw [hz])
    rw [this, beq_self_eq_true, decide_eq_true rfl]
  · rw [decide_eq_false h]
    have : (⟨#[c]⟩ : Str) ≠ z := fun e => h (by
      have := congrArg tl e
      rw [hz] at this
      have : [c] = [k] := this
      injection this)
    simpa using this
theorem ok_sign {c : Nat} (h : c < 0x110000) : PyData.strOk (⟨#[c]⟩ : Str) = true := strOk_of fun d hd => by
  have : d = c := by simpa using hd
  omega
theorem tl0 : tl ("0" : Str) = [48] := by decide +kernel
theorem tlM : tl ("-" : Str) = [45] := by decide +kernel
theorem ok0 : PyData.strOk ("0" : Str) = true := by decide +kernel
theorem okM : PyData.strOk ("-" : Str) = true := by decide +kernel
theorem okS : PyData.strOk ("/" : Str) = true := by decide +kernel
theorem numL_head : ∀ n : Nat, 0 < n → ∃ c r, numL n = c :: r ∧ c ≠ 48 ∧ 48 ≤ c ∧ c ≤ 57
  | n, h => by
    by_cases h1 : n < 10
    · exact ⟨48 + n, [], numL_lt h1, by omega, by omega, by omega⟩
    · obtain ⟨c, r, e, h2⟩ := numL_head (n / 10) (by omega)
      exact ⟨c, r ++ [48 + n % 10], by rw [numL_step (by omega), e]; rfl, h2⟩
termination_by n => n
theorem top_ok {W : Str} {L : List Nat} {n c k : Nat} (h : tl W = L) (hl : L.length ≤ 1000) (hL : ∀ c ∈ L, c < 0x110000) (hc : L[n]? = some c) (hk : 0 < k) (hk2 : k ≤ 400) (h0 : c ≠ 48 ∨ L = [48]) : m_top_fault [.str W, .int (n : Int), .int (k : Int)] = .ret (.int 0) := by
  have e1 : (EV.ifS (tB (bin dEq (nm 2) (cC (.int 0)))) (EV.ret (bin dAdd (nm 1) (cC (.int 1)))) sNx) [.sh (.str W), .sh (.int (n : Int)), .sh (.int (k : Int))] = .ok .nx [.sh (.str W), .sh (.int (n : Int)), .sh (.int (k : Int))] := by
    refine if_nx (tB_ok (bin_ok (x := .int (k : Int)) (y := .int 0) rfl rfl ?_))
    rw [dEq_int]
    have : ((k : Int) == 0) = false := by
      have : (k : Int) ≠ 0 := by omega
      simpa using this
    rw [this]
  have hcm : c < 0x110000 := hL c (List.mem_of_getElem? hc)
  have ix : (ixN 0 (nm 1)) [.sh (.str W), .sh (.int (n : Int)), .sh (.int (k : Int))] = .ok (.str ⟨#[c]⟩) [.sh (.str W), .sh (.int (n : Int)), .sh (.int (k : Int))] := ixN_sh (k := .int (n : Int)) rfl rfl rfl (ixS_ok h hl hc)
  have e2 : (EV.ifS (tAnd (tB (bin dEq (ixN 0 (nm 1)) (cC (.str "0")))) (tB (bin dNe (nm 0) (cC (.str "0"))))) (EV.ret (cC (.int 2))) sNx) [.sh (.str W), .sh (.int (n : Int)), .sh (.int (k : Int))] = .ok .nx [.sh (.str W), .sh (.int (n : Int)), .sh (.int (k : Int))] := by
    by_cases h1 : c = 48
    · have hW : W = ("0" : Str) := ext_tl (by rw [h, tl0]; exact h0.resolve_left (fun z => z h1))
      refine if_nx (and_t (tB_ok (bin_ok ix rfl (by rw [dEq_str (ok_sign hcm) ok0, sign_eq tl0, decide_eq_true h1]))) (tB_ok (bin_ok (x := .str W) (y := .str "0") rfl rfl ?_)))
      rw [dNe_str (by rw [hW]; exact ok0) ok0, hW, beq_self_eq_true]
      rfl
    · exact if_nx (and_f (tB_ok (bin_ok ix rfl (by rw [dEq_str (ok_sign hcm) ok0, sign_eq tl0, decide_eq_false h1]))))
  have e3 : (EV.ifS (tB (bin dGt (nm 2) (cC (.int 400)))) (EV.ret (bin dAdd (bin dAdd (nm 1) (cC (.int 400))) (cC (.int 1)))) sNx) [.sh (.str W), .sh (.int (n : Int)), .sh (.int (k : Int))] = .ok .nx [.sh (.str W), .sh (.int (n : Int)), .sh (.int (k : Int))] := by
    refine if_nx (tB_ok (bin_ok (x := .int (k : Int)) (y := .int 400) rfl rfl ?_))
    show some (D.bl (decide (400 < (k : Int)))) = _
    rw [decide_eq_false (by omega)]
  exact fn_ret rfl ((seq_nx e1).trans ((seq_nx e2).trans ((seq_nx e3).trans rfl)))
theorem bot_ok {W : Str} {p ds : List Nat} (h : tl W = p ++ ds) (hl : (p ++ ds).length ≤ 1000) {c : Nat} {r : List Nat} (hds : ds = c :: r) (hc : c ≠ 48) (hd : ∀ c ∈ ds, 48 ≤ c ∧ c ≤ 57) (h4 : ds.length ≤ 400) : m_bottom_fault [.str W, .int (p.length : Int)] = .ret (.int 0) := by
  have dk := digits_ok (W := W) (p := p) (ds := ds) (post := []) (by rw [List.append_nil]; exact h) (by rw [List.append_nil]; exact hl) hd h4 (fun c z => by cases z)
  have hcd := hd c (by rw [hds]; exact List.mem_cons_self)
  have e1 : (asg (gN 2) (EV.call m_digits_from (aCons (nm 0) (aCons (nm 1) aNil)))) [.sh (.str W), .sh (.int (p.length : Int)), .no] = .ok .nx [.sh (.str W), .sh (.int (p.length : Int)), .sh (.int (ds.length : Int))] := asg_ok (call_ok (ac_ok (x := .str W) rfl (a1_ok (x := .int (p.length : Int)) rfl)) dk)
  have ix : (ixN 0 (nm 1)) [.sh (.str W), .sh (.int (p.length : Int)), .sh (.int (ds.length : Int))] = .ok (.str ⟨#[c]⟩) [.sh (.str W), .sh (.int (p.length : Int)), .sh (.int (ds.length : Int))] := ixN_sh (k := .int (p.length : Int)) rfl rfl rfl (ixS_ok h hl (by rw [hds]; simp))
  have hlen : 0 < ds.length := by rw [hds]; simp
  have e2 : (EV.ifS (tOr (tB (bin dEq (nm 2) (cC (.int 0)))) (tB (bin dEq (ixN 0 (nm 1)) (cC (.str "0"))))) (EV.ret (bin dAdd (nm 1) (cC (.int 1)))) sNx) [.sh (.str W), .sh (.int (p.length : Int)), .sh (.int (ds.length : Int))] = .ok .nx [.sh (.str W), .sh (.int (p.length : Int)), .sh (.int (ds.length : Int))] := by
    refine if_nx (or_f (tB_ok (bin_ok (x := .int (ds.length : Int)) (y := .int 0) rfl rfl ?_)) (tB_ok (bin_ok ix rfl (by rw [dEq_str (ok_sign (by omega)) ok0, sign_eq tl0, decide_eq_false hc]))))
    rw [dEq_int]
    have : ((ds.length : Int) == 0) = false := by
      have : (ds.length : Int) ≠ 0 := by omega
      simpa using this
    rw [this]
  have e3 : (EV.ifS (tB (bin dGt (nm 2) (cC (.int 400)))) (EV.ret (bin dAdd (bin dAdd (nm 1) (cC (.int 400))) (cC (.int 1)))) sNx) [.sh (.str W), .sh (.int (p.length : Int)), .sh (.int (ds.length : Int))] = .ok .nx [.sh (.str W), .sh (.int (p.length : Int)), .sh (.int (ds.length : Int))] := by
    refine if_nx (tB_ok (bin_ok (x := .int (ds.length : Int)) (y := .int 400) rfl rfl ?_))
    show some (D.bl (decide (400 < (ds.length : Int)))) = _
    rw [decide_eq_false (by omega)]
  have e4 : (EV.ifS (tB (bin dLt (bin dAdd (nm 1) (nm 2)) (lenN 0))) (EV.ret (bin dAdd (bin dAdd (nm 1) (nm 2)) (cC (.int 1)))) sNx) [.sh (.str W), .sh (.int (p.length : Int)), .sh (.int (ds.length : Int))] = .ok .nx [.sh (.str W), .sh (.int (p.length : Int)), .sh (.int (ds.length : Int))] := by
    have lenE : (lenN 0) [.sh (.str W), .sh (.int (p.length : Int)), .sh (.int (ds.length : Int))] = .ok (.int ((p ++ ds).length : Int)) [.sh (.str W), .sh (.int (p.length : Int)), .sh (.int (ds.length : Int))] := by
      show R.of (bLen [.str W]) _ = _
      rw [lenS_ok h hl]
      rfl
    refine if_nx (tB_ok (bin_ok (bin_ok (x := .int (p.length : Int)) (y := .int (ds.length : Int)) rfl rfl rfl) lenE ?_))
    show some (D.bl (decide ((p.length : Int) + (ds.length : Int) < ((p ++ ds).length : Int)))) = _
    rw [decide_eq_false (by simp)]
  exact fn_ret rfl ((seq_nx e1).trans ((seq_nx e2).trans ((seq_nx e3).trans ((seq_nx e4).trans rfl))))
end EV
set_option maxRecDepth 100000
/-! K06_Y: the texts of fractions read; the law's books made of texts. -/
namespace EV
open PySem TL
theorem cut1 {W : Str} {c : Nat} {r : List Nat} (h : tl W = c :: r) : L2.cutS W none (some 1) = (⟨#[c]⟩ : Str) := by
  have e : W.length = r.length + 1 := by rw [str_len h]; rfl
  refine ext_tl ?_
  show ((W.cps.toList.drop (HT.sIx W.length 0 none)).take (HT.sIx W.length W.length (some ((1 : Nat) : Int)) - HT.sIx W.length 0 none)) = [c]
  rw [HT.sIx_none, HT.sIx_nat, show W.cps.toList = c :: r from h, e, show min 1 (r.length + 1) = 1 by omega]
  rfl
def sgl (t : Int) : List Nat := if t < 0 then [45] else []
theorem dg_eq (t : Int) : dg t = sgl t ++ numL t.natAbs := by
  unfold dg sgl
  split <;> rfl
theorem wl_eq (t b : Int) : wl t b = sgl t ++ numL t.natAbs ++ (if b = 1 then [] else 47 :: numL b.natAbs) := by
  unfold wl
  rw [dg_eq]
theorem wl_ok {t b : Int} (hb : 0 < b) : ∀ c ∈ wl t b, c < 0x110000 := by
  intro c hc
  unfold wl at hc
  rcases List.mem_append.mp hc with h | h
  · exact dg_ok t c h
  · split at h
    · cases h
    · rcases List.mem_cons.mp h with rfl | h
      · decide
      · have := numL_digits b.natAbs c h
        omega
theorem wl_len {t b : Int} (ht : t.natAbs ≤ 2 ^ 20) (hb : b.natAbs ≤ 2 ^ 20) : (wl t b).length ≤ 100 := by
  have h1 := dg_len ht
  have h2 := numL_len7 hb
  unfold wl
  rw [List.length_append]
  split
  · simp; omega
  · simp only [List.length_cons]; omega
theorem fault_no {t b : Int} (ht : t.natAbs ≤ 2 ^ 20) (hb : b.natAbs ≤ 2 ^ 20) (b0 : 0 < b) (h0 : t ≠ 0 ∨ b = 1) : m_number_fault [.str (wd t b)] = .ret (.int 0) := by
  have hW := tl_wd (t := t) b0
  have hlen := wl_len ht hb
  generalize wd t b = W at hW
  have hE := wl_eq t b
  have n7 := numL_len7 ht
  have n8 := numL_len7 hb
  obtain ⟨c1, r1, e1⟩ : ∃ c r, numL t.natAbs = c :: r := by
    cases e : numL t.natAbs with
    | nil => exact absurd e (numL_ne _)
    | cons c r => exact ⟨c, r, rfl⟩
  have d1 := numL_digits t.natAbs c1 (by rw [e1]; exact List.mem_cons_self)
  have hS : tl W = sgl t ++ numL t.natAbs ++ (if b = 1 then [] else 47 :: numL b.natAbs) := by rw [hW, hE]
  have hSl : (sgl t ++ numL t.natAbs ++ (if b = 1 then [] else 47 :: numL b.natAbs)).length ≤ 1000 := by rw [← hE]; omega
  have s1 : (asg (gN 1) (ifE (tB (bin dEq (slS (nm 0) pNo (pSo (cC (.int 1)))) (cC (.str "-")))) (cC (.int 1)) (cC (.int 0)))) [.sh (.str W), .no, .no, .no, .no] = .ok .nx [.sh (.str W), .sh (.int ((sgl t).length : Int)), .no, .no, .no] := by
    obtain ⟨c, r, ec⟩ : ∃ c r, tl W = c :: r := by
      rw [hS, e1]
      unfold sgl
      split
      · exact ⟨_, _, rfl⟩
      · exact ⟨_, _, rfl⟩
    have sl : (slS (nm 0) pNo (pSo (cC (.int 1)))) [.sh (.str W), .no, .no, .no, .no] = .ok (.str ⟨#[c]⟩) [.sh (.str W), .no, .no, .no, .no] := by
      have : dSlS (.str W) none (some 1) = some (.str ⟨#[c]⟩) := by
        show (if W.length ≤ line then some (D.str (L2.cutS W none (some 1))) else none) = _
        rw [if_pos (line_ok (by rw [str_len hW]; omega)), cut1 ec]
      show R.of (dSlS (.str W) none (some 1)) _ = _
      rw [this]
      rfl
    have hcm : c < 0x110000 := wl_ok b0 c (by rw [← hW, ec]; exact List.mem_cons_self)
    by_cases hn : t < 0
    · have hc : c = 45 := by
        rw [hS] at ec
        unfold sgl at ec
        rw [if_pos hn] at ec
        injection ec with h1 h2
        exact h1.symm
      have hs : (sgl t).length = 1 := by
        unfold sgl
        rw [if_pos hn]
        rfl
      refine (asg_ok (d := .int 1) ((ifE_t (tB_ok (bin_ok sl rfl (by rw [dEq_str (ok_sign hcm) okM, sign_eq tlM, decide_eq_true hc])))).trans rfl)).trans ?_
      rw [hs]
      rfl
    · have hs : sgl t = [] := by
        unfold sgl
        rw [if_neg hn]
      have hc : c ≠ 45 := by
        rw [hS, hs, e1] at ec
        injection ec with h1 h2
        omega
      refine (asg_ok (d := .int 0) ((ifE_f (tB_ok (bin_ok sl rfl (by rw [dEq_str (ok_sign hcm) okM, sign_eq tlM, decide_eq_false hc])))).trans rfl)).trans ?_
      rw [hs]
      rfl
  have dk := digits_ok hS hSl (fun c hc => numL_digits _ c hc) (by omega) (fun c hc => by
    by_cases h1 : b = 1
    · rw [if_pos h1] at hc
      cases hc
    · rw [if_neg h1] at hc
      cases hc
      omega)
  have s2 : (asg (gN 2) (EV.call m_digits_from (aCons (nm 0) (aCons (nm 1) aNil)))) [.sh (.str W), .sh (.int ((sgl t).length : Int)), .no, .no, .no] = .ok .nx [.sh (.str W), .sh (.int ((sgl t).length : Int)), .sh (.int ((numL t.natAbs).length : Int)), .no, .no] := asg_ok (call_ok (ac_ok (x := .str W) rfl (a1_ok (x := .int ((sgl t).length : Int)) rfl)) dk)
  have tf : m_top_fault [.str W, .int ((sgl t).length : Int), .int ((numL t.natAbs).length : Int)] = .ret (.int 0) := by
    refine top_ok (c := c1) hS hSl (by rw [← hE]; exact wl_ok b0) ?_ (by rw [e1]; simp) (by omega) ?_
    · rw [List.append_assoc, List.getElem?_append_right (Nat.le_refl _), Nat.sub_self, e1]
      rfl
    · by_cases ht0 : t = 0
      · right
        have hb1 := h0.resolve_left (fun z => z ht0)
        subst ht0
        rw [if_pos hb1]
        have : numL (0 : Int).natAbs = [48] := numL_lt (by decide)
        rw [this]
        rfl
      · left
        obtain ⟨c, r, e, hc, _⟩ := numL_head t.natAbs (by omega)
        rw [e1] at e
        injection e with h1 h2
        omega
  have s3 : (asg (gN 3) (EV.call m_top_fault (aCons (nm 0) (aCons (nm 1) (aCons (nm 2) aNil))))) [.sh (.str W), .sh (.int ((sgl t).length : Int)), .sh (.int ((numL t.natAbs).length : Int)), .no, .no] = .ok .nx [.sh (.str W), .sh (.int ((sgl t).length : Int)), .sh (.int ((numL t.natAbs).length : Int)), .sh (.int 0), .no] :=
    asg_ok (call_ok (ac_ok (x := .str W) rfl (ac_ok (x := .int ((sgl t).length : Int)) rfl (a1_ok (x := .int ((numL t.natAbs).length : Int)) rfl))) tf)
  have s4 : (EV.ifS (tT (nm 3)) (retNm 3) sNx) [.sh (.str W), .sh (.int ((sgl t).length : Int)), .sh (.int ((numL t.natAbs).length : Int)), .sh (.int 0), .no] = .ok .nx [.sh (.str W), .sh (.int ((sgl t).length : Int)), .sh (.int ((numL t.natAbs).length : Int)), .sh (.int 0), .no] := if_nx (tT_ok (x := .int 0) rfl rfl)
  have dl : ((dg t).length : Int) = (sgl t).length + (numL t.natAbs).length := by rw [dg_eq, List.length_append, Int.natCast_add]
  have s5 : (asg (gN 4) (bin dAdd (nm 1) (nm 2))) [.sh (.str W), .sh (.int ((sgl t).length : Int)), .sh (.int ((numL t.natAbs).length : Int)), .sh (.int 0), .no] = .ok .nx [.sh (.str W), .sh (.int ((sgl t).length : Int)), .sh (.int ((numL t.natAbs).length : Int)), .sh (.int 0), .sh (.int ((dg t).length : Int))] := by
    refine asg_ok (bin_ok (x := .int ((sgl t).length : Int)) (y := .int ((numL t.natAbs).length : Int)) rfl rfl ?_)
    rw [dl]
    rfl
  have lenE : (lenN 0) [.sh (.str W), .sh (.int ((sgl t).length : Int)), .sh (.int ((numL t.natAbs).length : Int)), .sh (.int 0), .sh (.int ((dg t).length : Int))] = .ok (.int ((wl t b).length : Int)) [.sh (.str W), .sh (.int ((sgl t).length : Int)), .sh (.int ((numL t.natAbs).length : Int)), .sh (.int 0), .sh (.int ((dg t).length : Int))] := by
    show R.of (bLen [.str W]) _ = _
    rw [lenS_ok hW (by omega)]
    rfl
  by_cases h1 : b = 1
  · have hl : (wl t b).length = (dg t).length := by
      unfold wl
      rw [if_pos h1, List.append_nil]
    have s6 : (tB (bin dEq (nm 4) (lenN 0))) [.sh (.str W), .sh (.int ((sgl t).length : Int)), .sh (.int ((numL t.natAbs).length : Int)), .sh (.int 0), .sh (.int ((dg t).length : Int))] = .ok true [.sh (.str W), .sh (.int ((sgl t).length : Int)), .sh (.int ((numL t.natAbs).length : Int)), .sh (.int 0), .sh (.int ((dg t).length : Int))] := tB_ok (bin_ok (x := .int ((dg t).length : Int)) rfl lenE (by rw [dEq_int, hl]; simp))
    exact fn_ret rfl ((seq_nx s1).trans ((seq_nx s2).trans ((seq_nx s3).trans ((seq_nx s4).trans ((seq_nx s5).trans (seq_rt ((if_t s6).trans rfl)))))))
  · have hl : (wl t b).length ≠ (dg t).length := by
      unfold wl
      rw [if_neg h1, List.length_append, List.length_cons]
      omega
    have s6 : (EV.ifS (tB (bin dEq (nm 4) (lenN 0))) (EV.ret (cC (.int 0))) sNx) [.sh (.str W), .sh (.int ((sgl t).length : Int)), .sh (.int ((numL t.natAbs).length : Int)), .sh (.int 0), .sh (.int ((dg t).length : Int))] = .ok .nx [.sh (.str W), .sh (.int ((sgl t).length : Int)), .sh (.int ((numL t.natAbs).length : Int)), .sh (.int 0), .sh (.int ((dg t).length : Int))] := by
      refine if_nx (tB_ok (bin_ok (x := .int ((dg t).length : Int)) rfl lenE ?_))
      rw [dEq_int]
      have : (((dg t).length : Int) == ((wl t b).length : Int)) = false := by
        have : ((dg t).length : Int) ≠ ((wl t b).length : Int) := by omega
        simpa using this
      rw [this]
    have hW2 : tl W = (dg t ++ [47]) ++ numL b.natAbs := by
      rw [hW]
      unfold wl
      rw [if_neg h1]
      simp
    have ix : (ixN 0 (nm 4)) [.sh (.str W), .sh (.int ((sgl t).length : Int)), .sh (.int ((numL t.natAbs).length : Int)), .sh (.int 0), .sh (.int ((dg t).length : Int))] = .ok (.str ⟨#[47]⟩) [.sh (.str W), .sh (.int ((sgl t).length : Int)), .sh (.int ((numL t.natAbs).length : Int)), .sh (.int 0), .sh (.int ((dg t).length : Int))] :=
      ixN_sh (k := .int ((dg t).length : Int)) rfl rfl rfl (ixS_ok hW (by omega) (by
        unfold wl
        rw [if_neg h1, List.getElem?_append_right (Nat.le_refl _), Nat.sub_self]
        rfl))
    have s7 : (EV.ifS (tB (bin dNe (ixN 0 (nm 4)) (cC (.str "/")))) (EV.ret (bin dAdd (nm 4) (cC (.int 1)))) sNx) [.sh (.str W), .sh (.int ((sgl t).length : Int)), .sh (.int ((numL t.natAbs).length : Int)), .sh (.int 0), .sh (.int ((dg t).length : Int))] = .ok .nx [.sh (.str W), .sh (.int ((sgl t).length : Int)), .sh (.int ((numL t.natAbs).length : Int)), .sh (.int 0), .sh (.int ((dg t).length : Int))] :=
      if_nx (tB_ok (bin_ok ix rfl (by rw [dNe_str (ok_sign (by decide)) okS, sign_eq tl_slash, decide_eq_true rfl]; rfl)))
    obtain ⟨c2, r2, e2, hc2, _⟩ := numL_head b.natAbs (by omega)
    have bf := bot_ok (W := W) (p := dg t ++ [47]) (ds := numL b.natAbs) hW2 (by rw [← hW2, hW]; omega) e2 hc2 (fun c hc => numL_digits _ c hc) (by omega)
    have hn : ((dg t ++ [47]).length : Int) = ((dg t).length : Int) + 1 := by
      rw [List.length_append]
      rfl
    rw [hn] at bf
    have p8 : (bin dAdd (nm 4) (cC (.int 1))) [.sh (.str W), .sh (.int ((sgl t).length : Int)), .sh (.int ((numL t.natAbs).length : Int)), .sh (.int 0), .sh (.int ((dg t).length : Int))] = .ok (.int (((dg t).length : Int) + 1)) [.sh (.str W), .sh (.int ((sgl t).length : Int)), .sh (.int ((numL t.natAbs).length : Int)), .sh (.int 0), .sh (.int ((dg t).length : Int))] := bin_ok (x := .int ((dg t).length : Int)) (y := .int 1) rfl rfl rfl
    have s8 : (EV.ret (EV.call m_bottom_fault (aCons (nm 0) (aCons (bin dAdd (nm 4) (cC (.int 1))) aNil)))) [.sh (.str W), .sh (.int ((sgl t).length : Int)), .sh (.int ((numL t.natAbs).length : Int)), .sh (.int 0), .sh (.int ((dg t).length : Int))] = .ok (.rt (.int 0)) [.sh (.str W), .sh (.int ((sgl t).length : Int)), .sh (.int ((numL t.natAbs).length : Int)), .sh (.int 0), .sh (.int ((dg t).length : Int))] := ret_ok (call_ok (ac_ok (x := .str W) rfl (a1_ok p8)) bf)
    exact fn_ret rfl ((seq_nx s1).trans ((seq_nx s2).trans ((seq_nx s3).trans ((seq_nx s4).trans ((seq_nx s5).trans ((seq_nx s6).trans ((seq_nx s7).trans s8)))))))
theorem dg_free (t : Int) : 47 ∉ dg t := by
  rw [dg_eq]
  intro h
  rcases List.mem_append.mp h with h | h
  · unfold sgl at h
    split at h
    · simp at h
    · cases h
  · exact numL_free (by omega) h
theorem bIntT_ok {i : Int} (h : i.natAbs ≤ 2 ^ 20) : bIntT [.str (Str.ofString (toString i))] = some (.int i) := by
  have h2 := dg_len h
  have hl := str_len (tl_int i)
  show (if (Str.ofString (toString i)).length ≤ 640 then (intText? (Str.ofString (toString i))).map D.int else none) = _
  rw [if_pos (by omega), text_int h]
  rfl
theorem pair_of_word {t b : Int} (ht : t.natAbs ≤ 2 ^ 20) (hb : b.natAbs ≤ 2 ^ 20) (b0 : 0 < b) : m_word_pair [.str (wd t b)] = .ret (.tup [.int t, .int b]) := by
  have hW := tl_wd (t := t) b0
  have hlen := wl_len ht hb
  have l1 := str_len hW
  have ls : ("/" : Str).length = 1 := by decide +kernel
  have part : ∀ (A M Z : Str), Txt.partition (wd t b) "/" = (A, M, Z) → (asg (gT (gsCons (gN 1) (gsCons (gN 2) (gsCons (gN 3) gsNil)))) (partE (nm 0) (cC (.str "/")))) [.sh (.str (wd t b)), .no, .no, .no] = .ok .nx [.sh (.str (wd t b)), .sh (.str A), .sh (.str M), .sh (.str Z)] := by
    intro A M Z e
    have c : (("/" : Str).length == 0) = false ∧ (wd t b).length ≤ line := ⟨by rw [ls]; rfl, line_ok (by omega)⟩
    have : (partE (nm 0) (cC (.str "/"))) [.sh (.str (wd t b)), .no, .no, .no] = .ok (.tup [.str A, .str M, .str Z]) [.sh (.str (wd t b)), .no, .no, .no] := by
      show (if (("/" : Str).length == 0) = false ∧ (wd t b).length ≤ line then R.ok (D.tup [.str (Txt.partition (wd t b) "/").1, .str (Txt.partition (wd t b) "/").2.1, .str (Txt.partition (wd t b) "/").2.2]) _ else R.bot) = _
      rw [if_pos c, e]
    unfold asg
    rw [this]
    rfl
  by_cases h : b = 1
  · have hw : wd t b = Str.ofString (toString t) := if_pos h
    have e := partition_none (y := ("/" : Str)) (s := 47) (S := []) tl_slash (a := Str.ofString (toString t)) (by rw [tl_int]; exact dg_free t)
    have s1 := part (Str.ofString (toString t)) Str.empty Str.empty (by rw [hw]; exact e)
    have s2 : (EV.ret (tupE (aCons (bi bIntT (aCons (nm 1) aNil)) (aCons (ifE (tT (nm 3)) (bi bIntT (aCons (nm 3) aNil)) (cC (.int 1))) aNil)))) [.sh (.str (wd t b)), .sh (.str (Str.ofString (toString t))), .sh (.str Str.empty), .sh (.str Str.empty)] = .ok (.rt (.tup [.int t, .int b])) [.sh (.str (wd t b)), .sh (.str (Str.ofString (toString t))), .sh (.str Str.empty), .sh (.str Str.empty)] := by
      have p1 : (bi bIntT (aCons (nm 1) aNil)) [.sh (.str (wd t b)), .sh (.str (Str.ofString (toString t))), .sh (.str Str.empty), .sh (.str Str.empty)] = .ok (.int t) [.sh (.str (wd t b)), .sh (.str (Str.ofString (toString t))), .sh (.str Str.empty), .sh (.str Str.empty)] := bi_ok (a1_ok (x := .str (Str.ofString (toString t))) rfl) (bIntT_ok ht)
      have p2 : (ifE (tT (nm 3)) (bi bIntT (aCons (nm 3) aNil)) (cC (.int 1))) [.sh (.str (wd t b)), .sh (.str (Str.ofString (toString t))), .sh (.str Str.empty), .sh (.str Str.empty)] = .ok (.int b) [.sh (.str (wd t b)), .sh (.str (Str.ofString (toString t))), .sh (.str Str.empty), .sh (.str Str.empty)] := by
        rw [h]
        exact (ifE_f (tT_ok (x := .str Str.empty) rfl (by decide +kernel))).trans rfl
      exact ret_ok (tupE_ok (ac_ok p1 (a1_ok p2)) (by simp))
    exact fn_ret rfl ((seq_nx s1).trans s2)
  · have hw : wd t b = Str.ofString (toString t) ++ "/" ++ Str.ofString (toString b) := if_neg h
    have e := partition_app (y := ("/" : Str)) (s := 47) (S := []) tl_slash (a := Str.ofString (toString t)) (b := Str.ofString (toString b)) (by rw [tl_int]; exact dg_free t)
    have s1 := part (Str.ofString (toString t)) "/" (Str.ofString (toString b)) (by rw [hw]; exact e)
    have hne : (Str.ofString (toString b)).length ≠ 0 := by
      rw [str_len (tl_int b), dg_eq, List.length_append]
      have := numL_ne b.natAbs
      have : 0 < (numL b.natAbs).length := List.length_pos_iff.mpr this
      omega
    have hbl : (Str.ofString (toString b)).length ≤ 1000 := by
      have := dg_len hb
      rw [str_len (tl_int b)]
      omega
    have s2 : (EV.ret (tupE (aCons (bi bIntT (aCons (nm 1) aNil)) (aCons (ifE (tT (nm 3)) (bi bIntT (aCons (nm 3) aNil)) (cC (.int 1))) aNil)))) [.sh (.str (wd t b)), .sh (.str (Str.ofString (toString t))), .sh (.str "/"), .sh (.str (Str.ofString (toString b)))] = .ok (.rt (.tup [.int t, .int b])) [.sh (.str (wd t b)), .sh (.str (Str.ofString (toString t))), .sh (.str "/"), .sh (.str (Str.ofString (toString b)))] := by
      have p1 : (bi bIntT (aCons (nm 1) aNil)) [.sh (.str (wd t b)), .sh (.str (Str.ofString (toString t))), .sh (.str "/"), .sh (.str (Str.ofString (toString b)))] = .ok (.int t) [.sh (.str (wd t b)), .sh (.str (Str.ofString (toString t))), .sh (.str "/"), .sh (.str (Str.ofString (toString b)))] := bi_ok (a1_ok (x := .str (Str.ofString (toString t))) rfl) (bIntT_ok ht)
      have p2 : (ifE (tT (nm 3)) (bi bIntT (aCons (nm 3) aNil)) (cC (.int 1))) [.sh (.str (wd t b)), .sh (.str (Str.ofString (toString t))), .sh (.str "/"), .sh (.str (Str.ofString (toString b)))] = .ok (.int b) [.sh (.str (wd t b)), .sh (.str (Str.ofString (toString t))), .sh (.str "/"), .sh (.str (Str.ofString (toString b)))] := by
        refine (ifE_t (tT_ok (x := .str (Str.ofString (toString b))) rfl ?_)).trans (bi_ok (a1_ok (x := .str (Str.ofString (toString b))) rfl) (bIntT_ok hb))
        show (if (Str.ofString (toString b)).length ≤ 16000000 then some (((Str.ofString (toString b)).length : Int) != 0) else none) = _
        rw [if_pos (show (Str.ofString (toString b)).length ≤ 16000000 by omega)]
        have : (((Str.ofString (toString b)).length : Int) != 0) = true := by
          rw [bne_iff_ne]
          omega
        rw [this]
      exact ret_ok (tupE_ok (ac_ok p1 (a1_ok p2)) (by simp))
    exact fn_ret rfl ((seq_nx s1).trans s2)
theorem read_ok {t b : Int} (ht : t.natAbs ≤ 2 ^ 20) (hb : b.natAbs ≤ 2 ^ 20) (b0 : 0 < b) (h0 : t ≠ 0 ∨ b = 1) : m_read_pair [.str (wd t b)] = .ret (.tup [.int t, .int b]) := by
  have hW := tl_wd (t := t) b0
  have hlen := wl_len ht hb
  have hcl : m_check_length [.str (wd t b)] = .ret .non := by
    refine fn_nx (ε := [.sh (.str (wd t b))]) rfl (if_nx (tB_ok (bin_ok (x := .int ((wl t b).length : Int)) (y := .int 200000) ?_ rfl ?_)))
    · show R.of (bLen [.str (wd t b)]) _ = _
      rw [lenS_ok hW (by omega)]
      rfl
    · show some (D.bl (decide (200000 < ((wl t b).length : Int)))) = _
      rw [decide_eq_false (by omega)]
  have s1 : (exprS (EV.call m_check_length (aCons (nm 0) aNil))) [.sh (.str (wd t b)), .no] = .ok .nx [.sh (.str (wd t b)), .no] := expr_ok (call_ok (a1_ok (x := .str (wd t b)) rfl) hcl)
  have s2 : (asg (gN 1) (EV.call m_number_fault (aCons (nm 0) aNil))) [.sh (.str (wd t b)), .no] = .ok .nx [.sh (.str (wd t b)), .sh (.int 0)] := asg_ok (call_ok (a1_ok (x := .str (wd t b)) rfl) (fault_no ht hb b0 h0))
  have s3 : (EV.ifS (tT (nm 1)) stS sNx) [.sh (.str (wd t b)), .sh (.int 0)] = .ok .nx [.sh (.str (wd t b)), .sh (.int 0)] := if_nx (tT_ok (x := .int 0) rfl rfl)
  have s4 : (EV.ret (EV.call m_word_pair (aCons (nm 0) aNil))) [.sh (.str (wd t b)), .sh (.int 0)] = .ok (.rt (.tup [.int t, .int b])) [.sh (.str (wd t b)), .sh (.int 0)] := ret_ok (call_ok (a1_ok (x := .str (wd t b)) rfl) (pair_of_word ht hb b0))
  exact fn_ret rfl ((seq_nx s1).trans ((seq_nx s2).trans ((seq_nx s3).trans s4)))
theorem number_str {x l : Int} (hl : 0 < l) (hx : x.natAbs ≤ 2 ^ 20) (hl2 : l.natAbs ≤ 2 ^ 20) : m_number [.str (wd (tp x l) (bt x l))] = .ret (rt x l) := by
  have g0 := gg_pos (x := x) hl
  have b0 := bt_pos (x := x) hl
  have h1 : (tp x l).natAbs ≤ 2 ^ 20 := by
    have h := tp_mul x l
    have : (tp x l).natAbs * 1 ≤ (tp x l).natAbs * (gg x l).natAbs := Nat.mul_le_mul_left _ (by omega)
    rw [← Int.natAbs_mul, h] at this
    omega
  have h2 : (bt x l).natAbs ≤ 2 ^ 20 := by
    have h := bt_mul x l
    have : (bt x l).natAbs * 1 ≤ (bt x l).natAbs * (gg x l).natAbs := Nat.mul_le_mul_left _ (by omega)
    rw [← Int.natAbs_mul, h] at this
    omega
  have h0 : tp x l ≠ 0 ∨ bt x l = 1 := by
    by_cases h : tp x l = 0
    · right
      have e := gg_low (x := x) hl
      rw [h] at e
      unfold gg at e
      rw [show (0 : Int).natAbs = 0 from rfl, Nat.gcd_zero_left] at e
      omega
    · exact .inl h
  have sb : Sm (bt x l) := sm1 (Nat.le_trans h2 (by decide))
  have mk : mk_Ratio [.int (tp x l), .int (bt x l)] = .ret (rt x l) := by
    rw [mk_ok b0 sb]
    unfold rt
    rw [(low_low (x := x) hl).1, (low_low (x := x) hl).2]
  have s1 : (EV.ifS (tT (bi (bIsC 2 0) (aCons (nm 0) aNil))) (retNm 0) sNx) [.sh (.str (wd (tp x l) (bt x l))), .no, .no] = .ok .nx [.sh (.str (wd (tp x l) (bt x l))), .no, .no] := if_nx (tT_ok (x := .bl false) (bi_ok (a1_ok (x := .str (wd (tp x l) (bt x l))) rfl) rfl) rfl)
  have t2 : (tT (bi (bIsTy .str) (aCons (nm 0) aNil))) [.sh (.str (wd (tp x l) (bt x l))), .no, .no] = .ok true [.sh (.str (wd (tp x l) (bt x l))), .no, .no] := tT_ok (x := .bl true) (bi_ok (a1_ok (x := .str (wd (tp x l) (bt x l))) rfl) rfl) rfl
  have s2 : (asg (gT (gsCons (gN 1) (gsCons (gN 2) gsNil))) (EV.call m_read_pair (aCons (nm 0) aNil))) [.sh (.str (wd (tp x l) (bt x l))), .no, .no] = .ok .nx [.sh (.str (wd (tp x l) (bt x l))), .sh (.int (tp x l)), .sh (.int (bt x l))] := asg2_ok (call_ok (a1_ok (x := .str (wd (tp x l) (bt x l))) rfl) (read_ok h1 h2 b0 h0))
  have s3 : (EV.ret (EV.call mk_Ratio (aCons (nm 1) (aCons (nm 2) aNil)))) [.sh (.str (wd (tp x l) (bt x l))), .sh (.int (tp x l)), .sh (.int (bt x l))] = .ok (.rt (rt x l)) [.sh (.str (wd (tp x l) (bt x l))), .sh (.int (tp x l)), .sh (.int (bt x l))] := ret_ok (call_ok (ac_ok (x := .int (tp x l)) rfl (a1_ok (x := .int (bt x l)) rfl)) mk)
  exact fn_ret rfl ((seq_nx s1).trans (seq_rt ((if_t t2).trans ((seq_nx s2).trans s3))))
theorem law_book_ok {xs : List Int} {l : Int} (v : Val xs l) (n41 : xs.length ≤ 41) (sz : Sz (2 ^ 20) xs) (lz : l ≤ 2 ^ 20) : ∃ d, m__law_book [plain xs l] = .ret d ∧ Bk d xs l := by
  have l0 := v.l0
  have r : Reads (xs.map fun x => .str (wd (tp x l) (bt x l))) l xs := ⟨by simp, fun i d x h1 h2 => by
    rw [List.getElem?_map, h2] at h1
    cases h1
    exact number_str l0 (sz x (List.mem_of_getElem? h2)) (by omega)⟩
  obtain ⟨d, e2, hd⟩ := (book_init (.inl rfl) v r).1 n41
  have e1 : (EV.lc [1] (iSeq (EV.call m__law_pairs_of (aCons (nm 0) aNil))) (gN 1) EV.tYes (EV.call m__law_word (aCons (nm 1) aNil))) [.sh (plain xs l), .no] = .ok (.l (xs.map fun x => .str (wd (tp x l) (bt x l)))) [.sh (plain xs l), .no] := by
    have hi : (iSeq (EV.call m__law_pairs_of (aCons (nm 0) aNil))) [.sh (plain xs l), .no] = .ok (xs.map fun x => pp x l) [.sh (plain xs l), .no] := by
      have hc : (EV.call m__law_pairs_of (aCons (nm 0) aNil)) [.sh (plain xs l), .no] = .ok (.lst (pps l xs)) [.sh (plain xs l), .no] := call_rto (a1_ok (x := plain xs l) rfl) (pairs_of_ok l0 v.sl (by omega))
      unfold iSeq
      rw [hc]
      rfl
    refine lc_of (u := fun x => pp x l) (v := fun x => .str (wd (tp x l) (bt x l))) hi (by omega) fun x hx => ⟨[.sh (plain xs l), .sh (pp x l)], [.sh (plain xs l), .sh (pp x l)], rfl, ?_, rfl⟩
    have g0 := gg_pos (x := x) l0
    have hx2 := sz x hx
    have h1 : (tp x l).natAbs ≤ 2 ^ 20 := by
      have h := tp_mul x l
      have : (tp x l).natAbs * 1 ≤ (tp x l).natAbs * (gg x l).natAbs := Nat.mul_le_mul_left _ (by omega)
      rw [← Int.natAbs_mul, h] at this
      omega
    have h2 : (bt x l).natAbs ≤ 2 ^ 20 := by
      have h := bt_mul x l
      have : (bt x l).natAbs * 1 ≤ (bt x l).natAbs * (gg x l).natAbs := Nat.mul_le_mul_left _ (by omega)
      rw [← Int.natAbs_mul, h] at this
      omega
    exact call_ok (a1_ok (x := pp x l) rfl) (word_ok h1 h2)
  exact ⟨d, fn_ret rfl (ret_ok (call_ok (a1_ok (frz_ok e1)) e2)), hd, v, n41, sz, lz⟩
end EV
set_option maxRecDepth 100000
namespace EV
open PySem
/-- the bag of draws -/
structure Bag (cells : List Int) (n : Nat) (b : List D) : Prop where
  ex : ∃ idx acc seed : Int, b = [.lst (cells.map .int), .int idx, .int acc, .int seed] ∧ 0 ≤ idx ∧ idx ≤ n ∧ 0 ≤ acc ∧ 0 ≤ seed ∧ seed < 2305843009213693951
noncomputable abbrev drawT : FS := (EV.seq (asg (gN 4) (bin dMod (bi bInt (aCons (ixN 0 (cC (.int 2))) aNil)) (nm 1)))
  (EV.seq (setI 0 (cC (.int 2)) (bin dDiv (bi bInt (aCons (ixN 0 (cC (.int 2))) aNil)) (nm 1)))
  (retNm 4)))
noncomputable abbrev drawI : FS := (EV.seq (asg (gN 2) (cC (.int 0)))
  (EV.seq (EV.ifS (tB (bin dLt (ixN 0 (cC (.int 1))) (bi bLen (aCons (ixN 0 (cC (.int 0))) aNil))))
  (asg (gN 2) (bin dIx (ixN 0 (cC (.int 0))) (ixN 0 (cC (.int 1)))))
  sNx)
  (EV.seq (setI 0 (cC (.int 1)) (bin dAdd (ixN 0 (cC (.int 1))) (cC (.int 1))))
  (EV.ifS (tB (bin dGe (nm 2) (bin dPow (cC (.int 10)) (cC (.int 18)))))
  (setI 0 (cC (.int 2)) (bin dMod (bi bInt (aCons (nm 2) aNil)) (bin dPow (bin dPow (cC (.int 10)) (cC (.int 60))) (cC (.int 15)))))
  (EV.seq (asg (gN 3) (bin dMod (bi bInt (aCons (bin dAdd (bin dAdd (bin dAdd (bin dMul (ixN 0 (cC (.int 3))) (cC (.int 48271))) (bin dMul (nm 2) (cC (.int 69621)))) (bin dMul (ixN 0 (cC (.int 1))) (cC (.int 104729)))) (cC (.int 77777))) aNil)) (cC (.int 2305843009213693951))))
  (EV.seq (setI 0 (cC (.int 3)) (nm 3))
  (setI 0 (cC (.int 2)) (bin dMod (bi bInt (aCons (bin dAdd (bin dAdd (bin dMul (bin dMul (nm 3) (nm 3)) (nm 3)) (bin dMul (cC (.int 977)) (nm 3))) (ixN 0 (cC (.int 1)))) aNil)) (cC (.int 170141183460469231731687303715884105727))))))))))
noncomputable abbrev drawH : FS := (EV.ifS (tB (bin dEq (ixN 0 (cC (.int 2))) (cC (.int 0)))) drawI sNx)
theorem draw_cut : b__law_draw = EV.seq drawH drawT := rfl
theorem drawT_ok {c : D} {idx acc seed size : Int} {s2 s3 s4 : Slot} (h0 : 0 < size) (h1 : size < 2 ^ 64) :
    drawT [.ow (some 0) (.l [c, .int idx, .int acc, .int seed]), .sh (.int size), s2, s3, s4] = .ok (.rt (.int (acc.fmod size))) [.ow (some 0) (.l [c, .int idx, .int (acc.fdiv size), .int seed]), .sh (.int size), s2, s3, .sh (.int (acc.fmod size))] := by
  have hs : size ≠ 0 := by omega
  have hl : size.natAbs.log2 < 9000 := by
    have : size.natAbs < 2 ^ 64 := by omega
    have := (Nat.log2_lt (by omega)).mpr this
    omega
  simp [EV.seq, asg, bin, bi, aCons, aNil, ixN, has, cC, gN, nm, dMod, dDiv, bInt, setI, retNm, getN_def, hs, hl, ixP, len_eq, setN_eq]
noncomputable abbrev drawC : FS := (EV.seq (asg (gN 2) (cC (.int 0)))
  (EV.ifS (tB (bin dLt (ixN 0 (cC (.int 1))) (bi bLen (aCons (ixN 0 (cC (.int 0))) aNil))))
  (asg (gN 2) (bin dIx (ixN 0 (cC (.int 0))) (ixN 0 (cC (.int 1)))))
  sNx))
noncomputable abbrev drawA : FS := (setI 0 (cC (.int 2)) (bin dMod (bi bInt (aCons (nm 2) aNil)) (bin dPow (bin dPow (cC (.int 10)) (cC (.int 60))) (cC (.int 15)))))
noncomputable abbrev drawB1 : FS := (asg (gN 3) (bin dMod (bi bInt (aCons (bin dAdd (bin dAdd (bin dAdd (bin dMul (ixN 0 (cC (.int 3))) (cC (.int 48271))) (bin dMul (nm 2) (cC (.int 69621)))) (bin dMul (ixN 0 (cC (.int 1))) (cC (.int 104729)))) (cC (.int 77777))) aNil)) (cC (.int 2305843009213693951))))
noncomputable abbrev drawB2 : FS := (EV.seq (setI 0 (cC (.int 3)) (nm 3))
  (setI 0 (cC (.int 2)) (bin dMod (bi bInt (aCons (bin dAdd (bin dAdd (bin dMul (bin dMul (nm 3) (nm 3)) (nm 3)) (bin dMul (cC (.int 977)) (nm 3))) (ixN 0 (cC (.int 1)))) aNil)) (cC (.int 170141183460469231731687303715884105727)))))
noncomputable abbrev drawR : FS := (EV.seq (setI 0 (cC (.int 1)) (bin dAdd (ixN 0 (cC (.int 1))) (cC (.int 1))))
  (EV.ifS (tB (bin dGe (nm 2) (bin dPow (cC (.int 10)) (cC (.int 18))))) drawA (EV.seq drawB1 drawB2)))
theorem drawI_cut : drawI = EV.seq drawC drawR := (seq_assoc _ _ _).symm
theorem drawC_ok {cells : List Int} {idx acc seed size : Int} {s2 s3 s4 : Slot} (hc : ∀ c ∈ cells, bits c ≤ 1048577) (i0 : 0 ≤ idx) : ∃ cell : Int, drawC [.ow (some 0) (.l [.lst (cells.map .int), .int idx, .int acc, .int seed]), .sh (.int size), s2, s3, s4] =
      .ok .nx [.ow (some 0) (.l [.lst (cells.map .int), .int idx, .int acc, .int seed]), .sh (.int size), .sh (.int cell), s3, s4] ∧ bits cell ≤ 1048577 := by
  by_cases hlt : idx < cells.length
  · have hn : idx.toNat < cells.length := by omega
    refine ⟨cells[idx.toNat], ?_, hc _ (List.getElem_mem hn)⟩
    simp [EV.seq, asg, bin, bi, aCons, aNil, ixN, has, cC, gN, nm, dLt, bLen, tB, EV.ifS, sNx, getN_def, dIx, len_eq, hlt, i0, hn, List.getElem?_map]
  · refine ⟨0, ?_, by decide⟩
    simp [EV.seq, asg, bin, bi, aCons, aNil, ixN, has, cC, gN, nm, dLt, bLen, tB, EV.ifS, sNx, getN_def, dIx, len_eq, hlt]
theorem p18 : dPow (.int 10) (.int 18) = some (.int 1000000000000000000) := by
  rw [dPow_int, if_pos (by decide +kernel)]
  rfl
theorem p60 : dPow (.int 10) (.int 60) = some (.int 1000000000000000000000000000000000000000000000000000000000000) := by
  rw [dPow_int, if_pos (by decide +kernel)]
  rfl
noncomputable def bigP : Int := 1000000000000000000000000000000000000000000000000000000000000 ^ 15
theorem bigP_pos : 0 < bigP := by decide +kernel
theorem p900 : dPow (.int 1000000000000000000000000000000000000000000000000000000000000) (.int 15) = some (.int bigP) := by
  rw [dPow_int, if_pos (by decide +kernel)]
  rfl
theorem drawR_ok {c : D} {idx acc seed size cell : Int} {s3 s4 : Slot} (hc : bits cell ≤ 1048577) (i0 : 0 ≤ idx) (i1 : idx ≤ 1000000) (h0 : 0 ≤ seed) (h1 : seed < 2305843009213693951) :
    ∃ acc' seed' t2 t3, drawR [.ow (some 0) (.l [c, .int idx, .int acc, .int seed]), .sh (.int size), .sh (.int cell), s3, s4] = .ok .nx [.ow (some 0) (.l [c, .int (idx + 1), .int acc', .int seed']), .sh (.int size), t2, t3, s4] ∧
      0 ≤ acc' ∧ 0 ≤ seed' ∧ seed' < 2305843009213693951 := by
  have hP := bigP_pos
  by_cases hb : (1000000000000000000 : Int) ≤ cell
  · refine ⟨cell.fmod bigP, seed, .sh (.int cell), s3, ?_, (fmod_lt hP).1, h0, h1⟩
    have hne : bigP ≠ 0 := by omega
    simp [EV.seq, asg, bin, bi, aCons, aNil, ixN, has, cC, gN, nm, dGe, dMod, p18, p60, p900, dAdd, bInt, tB, EV.ifS, getN_def, len_eq, setI, setN_eq, ixP, hb, hne]
  · have b1 : bits seed ≤ 62 := bits_small (n := 61) (by omega)
    have b2 : bits (idx + 1) ≤ 21 := bits_small (n := 20) (by omega)
    have m1 := mul_ok (i := seed) (j := 48271) (by have : bits 48271 = 16 := by decide +kernel
                                                   omega)
    have m2 := mul_ok (i := cell) (j := 69621) (by have : bits 69621 = 17 := by decide +kernel
                                                   omega)
    have m3 := mul_ok (i := idx + 1) (j := 104729) (by have : bits 104729 = 17 := by decide +kernel
                                                       omega)
    obtain ⟨st, est⟩ : ∃ st : Int, st = (seed * 48271 + cell * 69621 + (idx + 1) * 104729 + 77777).fmod 2305843009213693951 := ⟨_, rfl⟩
    have hst := fmod_lt (i := seed * 48271 + cell * 69621 + (idx + 1) * 104729 + 77777) (j := 2305843009213693951) (by decide)
    rw [← est] at hst
    have b3 : bits st ≤ 62 := bits_small (n := 61) (by omega)
    have m4 := mul_ok (i := st) (j := st) (by omega)
    have b4 := bits_mul st st
    have m5 := mul_ok (i := st * st) (j := st) (by omega)
    have m6 := mul_ok (i := 977) (j := st) (by have : bits 977 = 10 := by decide +kernel
                                               omega)
    refine ⟨(st * st * st + 977 * st + (idx + 1)).fmod 170141183460469231731687303715884105727, st, .sh (.int cell), .sh (.int st), ?_, (fmod_lt (by decide)).1, hst.1, hst.2⟩
    simp [EV.seq, asg, bin, bi, aCons, aNil, ixN, has, cC, gN, nm, dGe, dMod, p18, dAdd, bInt, tB, EV.ifS, getN_def, len_eq, setI, setN_eq, ixP, hb, m1, m2, m3, m4, m5, m6, ← est]
theorem draw_ok {cells : List Int} {n : Nat} {b : List D} {size : Int} (hb : Bag cells n b) (hc : ∀ c ∈ cells, bits c ≤ 1048577) (hn : n ≤ 1000000) (h0 : 0 < size) (h1 : size < 2 ^ 64) :
    ∃ r b', m__law_draw (.l b) [.int size] = .ret (.int r) (.l b') ∧ 0 ≤ r ∧ r < size ∧ Bag cells (n + 1) b' := by
  obtain ⟨idx, acc, seed, rfl, i0, i1, a0, s0, s1⟩ := hb.ex
  have run : ∀ {idx acc seed : Int} {t2 t3 : Slot}, drawH [.ow (some 0) (.l [.lst (cells.map .int), .int idx, .int acc, .int seed]), .sh (.int size), .no, .no, .no] = drawH [.ow (some 0) (.l [.lst (cells.map .int), .int idx, .int acc, .int seed]), .sh (.int size), .no, .no, .no] := rfl
  have fin : ∀ {idx' acc' seed' : Int} {t2 t3 : Slot}, drawH [.ow (some 0) (.l [.lst (cells.map .int), .int idx, .int acc, .int seed]), .sh (.int size), .no, .no, .no] = .ok .nx [.ow (some 0) (.l [.lst (cells.map .int), .int idx', .int acc', .int seed']), .sh (.int size), t2, t3, .no] →
      0 ≤ idx' → idx' ≤ (n + 1 : Nat) → 0 ≤ acc' → 0 ≤ seed' → seed' < 2305843009213693951 →
      ∃ r b', m__law_draw (.l [.lst (cells.map .int), .int idx, .int acc, .int seed]) [.int size] = .ret (.int r) (.l b') ∧ 0 ≤ r ∧ r < size ∧ Bag cells (n + 1) b' := by
    intro idx' acc' seed' t2 t3 h j0 j1 c0 d0 d1
    refine ⟨acc'.fmod size, [.lst (cells.map .int), .int idx', .int (acc'.fdiv size), .int seed'], ?_, (fmod_lt h0).1, (fmod_lt h0).2, ⟨idx', acc'.fdiv size, seed', rfl, j0, j1, ?_, d0, d1⟩⟩
    · exact (fnQ_ret (np := 2) (n := 5) rfl ((seq_nx h).trans (drawT_ok h0 h1))).trans rfl
    · rw [Int.fdiv_eq_ediv_of_nonneg _ (by omega)]
      exact Int.ediv_nonneg c0 (by omega)
  by_cases ha : acc = 0
  · subst ha
    obtain ⟨cell, e1, hbits⟩ := drawC_ok (acc := 0) (seed := seed) (size := size) (s2 := .no) (s3 := .no) (s4 := .no) hc i0
    obtain ⟨acc', seed', t2, t3, e2, a1, a2, a3⟩ := drawR_ok (c := .lst (cells.map .int)) (acc := 0) (size := size) (s3 := .no) (s4 := .no) hbits i0 (by omega) s0 s1
    refine fin (idx' := idx + 1) (acc' := acc') (seed' := seed') (t2 := t2) (t3 := t3) ?_ (by omega) (by omega) a1 a2 a3
    have : drawH [.ow (some 0) (.l [.lst (cells.map .int), .int idx, .int 0, .int seed]), .sh (.int size), .no, .no, .no] = drawI [.ow (some 0) (.l [.lst (cells.map .int), .int idx, .int 0, .int seed]), .sh (.int size), .no, .no, .no] := by
      simp [EV.ifS, tB, bin, ixN, has, cC, getN_def]
    rw [this, drawI_cut, seq_nx e1, e2]
  · refine fin (idx' := idx) (acc' := acc) (seed' := seed) (t2 := .no) (t3 := .no) ?_ i0 (by omega) a0 s0 s1
    simp [EV.ifS, tB, bin, ixN, has, cC, getN_def, ha, sNx]
end EV
set_option maxRecDepth 100000
/-! K06_R: what the law draws. -/
namespace EV
open PySem
theorem Bag.mono {cells : List Int} {n m : Nat} {b : List D} (h : Bag cells n b) (hm : n ≤ m) : Bag cells m b := by
  obtain ⟨idx, acc, seed, e, h1, h2, h3⟩ := h.ex
  exact ⟨idx, acc, seed, e, h1, by omega, h3⟩
theorem drawAt {cells : List Int} {n : Nat} {b : List D} {ε : Env} {size : Int} {i : Nat} {k : Option Nat} {fa : FE} (hi : ε[i]? = some (.ow k (.l b))) (hf : fa ε = .ok (.int size) ε) (hb : Bag cells n b) (hc : ∀ c ∈ cells, bits c ≤ 1048577) (hn : n ≤ 1000000) (h0 : 0 < size) (h1 : size < 2 ^ 64) :
    ∃ r b', callQ m__law_draw i (aCons fa aNil) ε = .ok (.int r) (ε.set i (.ow k (.l b'))) ∧ 0 ≤ r ∧ r < size ∧ Bag cells (n + 1) b' := by
  obtain ⟨r, b', e, h2, h3, h4⟩ := draw_ok hb hc hn h0 h1
  refine ⟨r, b', ?_, h2, h3, h4⟩
  unfold callQ
  rw [if_pos (has_of hi), a1_ok hf, bind_ok, hi]
  show (match m__law_draw (.l b) [.int size] with
    | .ret d o' => R.ok d (ε.set i (.ow k o'))
    | _ => R.bot) = _
  rw [e]
/-! ### parts -/
theorem parts_lc {cells : List Int} (hc : ∀ c ∈ cells, bits c ≤ 1048577) {s1 s2 : Slot} : ∀ (items : List D) (n : Nat) (b : List D), Bag cells n b → n + items.length ≤ 1000 →
    ∃ ps b', lcL [3] (gN 3) EV.tYes (bin dSub (callQ m__law_draw 0 (aCons (cC (.int 7)) aNil)) (cC (.int 3))) items [.ow (some 0) (.l b), s1, s2, .no] = .ok (inL ps) [.ow (some 0) (.l b'), s1, s2, .no] ∧ ps.length = items.length ∧ Sz 3 ps ∧ Bag cells (n + items.length) b'
  | [], n, b, hb, hn => ⟨[], b, rfl, rfl, (fun x hx => by cases hx), hb⟩
  | d :: items, n, b, hb, hn => by
    simp only [List.length_cons] at hn
    obtain ⟨r, b1, e1, h1, h2, hb1⟩ := drawAt (ε := [.ow (some 0) (.l b), s1, s2, .sh d]) (i := 0) (k := some 0) (size := 7) (fa := cC (.int 7)) rfl rfl hb hc (by omega) (by omega) (by omega)
    obtain ⟨ps, b2, e2, h3, h4, hb2⟩ := parts_lc hc (s1 := s1) (s2 := s2) items (n + 1) b1 hb1 (by omega)
    refine ⟨(r - 3) :: ps, b2, ?_, by simp [h3], ?_, by
      have : n + 1 + items.length = n + (d :: items).length := by simp only [List.length_cons]; omega
      rw [← this]
      exact hb2⟩
    · have e3 : (bin dSub (callQ m__law_draw 0 (aCons (cC (.int 7)) aNil)) (cC (.int 3))) [.ow (some 0) (.l b), s1, s2, .sh d] = .ok (.int (r - 3)) [.ow (some 0) (.l b1), s1, s2, .sh d] := bin_ok e1 rfl rfl
      have hg : gN 3 d [.ow (some 0) (.l b), s1, s2, .no] = some [.ow (some 0) (.l b), s1, s2, .sh d] := rfl
      have hw : wipeE [.ow (some 0) (.l b1), s1, s2, .sh d] [3] = [.ow (some 0) (.l b1), s1, s2, .no] := rfl
      have hy : EV.tYes [.ow (some 0) (.l b), s1, s2, .sh d] = .ok true [.ow (some 0) (.l b), s1, s2, .sh d] := rfl
      unfold lcL
      rw [hg, of_some, hy, bindB_ok', if_pos rfl, e3, bindB_ok', hw, e2]
      rfl
    · intro x hx
      rcases List.mem_cons.mp hx with rfl | hx
      · omega
      · exact h4 x hx
/-- what the law's parts are -/
structure Parts (ps : List Int) : Prop where
  n4 : ps.length ≤ 4
  fst : ∃ a, ps[0]? = some a ∧ a ≠ 0
  lst : ∃ a, ps.getLast? = some a ∧ a ≠ 0
  sz : Sz 3 ps
theorem Parts.ne {ps : List Int} (h : Parts ps) : ps ≠ [] := fun z => by
  obtain ⟨a, ha, _⟩ := h.fst
  rw [z] at ha
  cases ha
theorem fix0 {ps : List Int} (hne : ps ≠ []) (hs : Sz 3 ps) {s0 s1 s3 : Slot} : ∃ ps1, (EV.ifS (tB (bin dEq (ixN 2 (cC (.int 0))) (cC (.int 0)))) (setI 2 (cC (.int 0)) (cC (.int 1))) sNx) [s0, s1, .ow none (.l (inL ps)), s3] = .ok .nx [s0, s1, .ow none (.l (inL ps1)), s3] ∧ ps1.length = ps.length ∧ Sz 3 ps1 ∧ ∃ a, ps1[0]? = some a ∧ a ≠ 0 := by
  cases ps with
  | nil => exact absurd rfl hne
  | cons x r =>
    have ix : (ixN 2 (cC (.int 0))) [s0, s1, .ow none (.l (inL (x :: r))), s3] = .ok (.int x) [s0, s1, .ow none (.l (inL (x :: r))), s3] := ixN_ow (n := 0) rfl rfl rfl rfl
    by_cases h : x = 0
    · refine ⟨1 :: r, ?_, rfl, ?_, 1, rfl, by decide⟩
      · refine (if_t (tB_ok (bin_ok (y := .int 0) ix rfl (by rw [dEq_int, h]; rfl)))).trans ?_
        have e1 : (cC (.int 1)) [s0, s1, .ow none (.l (inL (x :: r))), s3] = .ok (.int 1) [s0, s1, .ow none (.l (inL (x :: r))), s3] := rfl
        have e2 : (cC (.int 0)) [s0, s1, .ow none (.l (inL (x :: r))), s3] = .ok (.int ((0 : Nat) : Int)) [s0, s1, .ow none (.l (inL (x :: r))), s3] := rfl
        exact setI_ok (i := 2) (kk := none) (xs := inL (x :: r)) e1 rfl e2 rfl (by simp [inL])
      · intro y hy
        rcases List.mem_cons.mp hy with rfl | hy
        · decide
        · exact hs y (List.mem_cons_of_mem _ hy)
    · refine ⟨x :: r, if_nx (tB_ok (bin_ok (y := .int 0) ix rfl ?_)), rfl, hs, x, rfl, h⟩
      rw [dEq_int]
      have : (x == 0) = false := by simpa using h
      rw [this]
theorem fixL {ps : List Int} (h4 : ps.length ≤ 4) (hf : ∃ a, ps[0]? = some a ∧ a ≠ 0) (hs : Sz 3 ps) {s0 s1 s3 : Slot} : ∃ ps1, (EV.ifS (tB (bin dEq (ixN 2 (bin dSub (lenN 2) (cC (.int 1)))) (cC (.int 0)))) (setI 2 (bin dSub (lenN 2) (cC (.int 1))) (cC (.int 2))) sNx) [s0, s1, .ow none (.l (inL ps)), s3] = .ok .nx [s0, s1, .ow none (.l (inL ps1)), s3] ∧ Parts ps1 := by
  have hne : ps ≠ [] := fun z => by
    obtain ⟨a, ha, _⟩ := hf
    rw [z] at ha
    cases ha
  obtain ⟨p, x, rfl⟩ : ∃ p x, ps = p ++ [x] := ⟨_, _, (List.dropLast_concat_getLast hne).symm⟩
  have ln : (bin dSub (lenN 2) (cC (.int 1))) [s0, s1, .ow none (.l (inL (p ++ [x]))), s3] = .ok (.int (p.length : Int)) [s0, s1, .ow none (.l (inL (p ++ [x]))), s3] := by
    refine bin_ok (x := .int ((p ++ [x]).length : Int)) (y := .int 1) ?_ rfl ?_
    · show R.ok (D.int (len (inL (p ++ [x])) : Int)) _ = _
      rw [len_eq, inL_len]
    · show some (D.int (((p ++ [x]).length : Int) - 1)) = _
      rw [List.length_append, List.length_singleton]
      congr 2
      omega
  have gx : (p ++ [x])[p.length]? = some x := by simp
  have ix : (ixN 2 (bin dSub (lenN 2) (cC (.int 1)))) [s0, s1, .ow none (.l (inL (p ++ [x]))), s3] = .ok (.int x) [s0, s1, .ow none (.l (inL (p ++ [x]))), s3] := ixN_ow rfl ln rfl (getN_inL gx)
  by_cases h : x = 0
  · refine ⟨p ++ [2], ?_, by simpa using h4, ?_, ⟨2, by simp, by decide⟩, ?_⟩
    · refine (if_t (tB_ok (bin_ok (y := .int 0) ix rfl (by rw [dEq_int, h]; rfl)))).trans ?_
      refine (setI_ok (i := 2) (n := p.length) (v := .int 2) rfl rfl ln rfl (by rw [inL_len]; simp)).trans ?_
      rw [inL_set, List.set_append_right _ _ (Nat.le_refl _), Nat.sub_self]
      rfl
    · obtain ⟨a, ha, na⟩ := hf
      cases p with
      | nil =>
        simp at ha
        omega
      | cons y p =>
        simp at ha
        exact ⟨a, by simp [ha], na⟩
    · intro y hy
      rcases List.mem_append.mp hy with hy | hy
      · exact hs y (List.mem_append_left _ hy)
      · simp at hy
        subst hy
        decide
  · refine ⟨p ++ [x], if_nx (tB_ok (bin_ok (y := .int 0) ix rfl ?_)), h4, hf, ⟨x, by simp, h⟩, hs⟩
    rw [dEq_int]
    have : (x == 0) = false := by simpa using h
    rw [this]
theorem parts_ok {cells : List Int} {n : Nat} {b : List D} (hb : Bag cells n b) (hc : ∀ c ∈ cells, bits c ≤ 1048577) (hn : n ≤ 500) : ∃ ps b', m__law_parts (.l b) [.int 4] = .ret (.lst (inL ps)) (.l b') ∧ Parts ps ∧ Bag cells (n + 5) b' := by
  obtain ⟨r, b1, e1, h1, h2, hb1⟩ := drawAt (ε := [.ow (some 0) (.l b), .sh (.int 4), .no, .no]) (i := 0) (k := some 0) (size := 4) (fa := nm 1) rfl rfl hb hc (by omega) (by omega) (by omega)
  have hr : (EV.iRng1 (aCons (bin dAdd (cC (.int 1)) (callQ m__law_draw 0 (aCons (nm 1) aNil))) aNil)) [.ow (some 0) (.l b), .sh (.int 4), .no, .no] = .ok (rngL 0 (1 + r).toNat) [.ow (some 0) (.l b1), .sh (.int 4), .no, .no] :=
    rng1_ok (a1_ok (bin_ok (x := .int 1) rfl e1 rfl)) (by omega) (by omega)
  obtain ⟨ps, b2, e2, h3, h4, hb2⟩ := parts_lc hc (s1 := .sh (.int 4)) (s2 := .no) (rngL 0 (1 + r).toNat) (n + 1) b1 hb1 (by rw [rngL_len]; omega)
  rw [rngL_len] at h3 hb2
  have s1 : (asgO 2 (EV.lc [3] (EV.iRng1 (aCons (bin dAdd (cC (.int 1)) (callQ m__law_draw 0 (aCons (nm 1) aNil))) aNil)) (gN 3) EV.tYes (bin dSub (callQ m__law_draw 0 (aCons (cC (.int 7)) aNil)) (cC (.int 3))))) [.ow (some 0) (.l b), .sh (.int 4), .no, .no] = .ok .nx [.ow (some 0) (.l b2), .sh (.int 4), .ow none (.l (inL ps)), .no] :=
    asgO_ok (lc_ok hr (by rw [rngL_len]; omega) e2)
  have hne : ps ≠ [] := fun z => by rw [z] at h3; simp at h3; omega
  obtain ⟨ps1, e3, h5, h6, h7⟩ := fix0 hne h4 (s0 := .ow (some 0) (.l b2)) (s1 := .sh (.int 4)) (s3 := .no)
  obtain ⟨ps2, e4, h8⟩ := fixL (by omega) h7 h6 (s0 := .ow (some 0) (.l b2)) (s1 := .sh (.int 4)) (s3 := .no)
  refine ⟨ps2, b2, ?_, h8, hb2.mono (by omega)⟩
  have e5 : (EV.ret (nm 2)) [.ow (some 0) (.l b2), .sh (.int 4), .ow none (.l (inL ps2)), .no] = .ok (.rt (.lst (inL ps2))) [.ow (some 0) (.l b2), .sh (.int 4), .sh (.lst (inL ps2)), .no] := rfl
  exact (fnQ_ret (ε := [.ow (some 0) (.l b2), .sh (.int 4), .sh (.lst (inL ps2)), .no]) rfl ((seq_nx s1).trans ((seq_nx e3).trans ((seq_nx e4).trans e5)))).trans rfl
/-! ### times 1 + z, again and again -/
def mzN : Nat → List Int → List Int
  | 0, r => r
  | n + 1, r => mz 0 (mzN n r)
theorem mzN_len : ∀ (n : Nat) (r : List Int), (mzN n r).length = r.length + n
  | 0, r => rfl
  | n + 1, r => by rw [mzN, mz_len, mzN_len n r]; rfl
theorem mzN_ne {n : Nat} {r : List Int} (h : r ≠ []) : mzN n r ≠ [] := fun z => by
  have := mzN_len n r
  rw [z] at this
  have : 0 < r.length := List.length_pos_iff.mpr h
  simp at *
  omega
theorem mzN_sz {k : Nat} : ∀ (n : Nat) (r : List Int), Sz k r → Sz (2 ^ n * k) (mzN n r)
  | 0, r, h => by
    rw [Nat.pow_zero, Nat.one_mul]
    exact h
  | n + 1, r, h => by
    have := mz_sz (mzN n r) 0 (by simp) (mzN_sz n r h)
    rw [mzN]
    refine this.mono ?_
    rw [Nat.pow_succ, Nat.mul_comm (2 ^ n) 2, Nat.mul_assoc]
    exact Nat.le_refl _
theorem mzN_S : ∀ (n : Nat) (r : List Int), sS r ≠ 0 → sS (mzN n r) ≠ 0
  | 0, r, h => h
  | n + 1, r, h => by
    rw [mzN, sS_mz]
    have := mzN_S n r h
    omega
theorem mzN_fst : ∀ (n : Nat) (r : List Int) (a : Int), r[0]? = some a → (mzN n r)[0]? = some a
  | 0, r, a, h => h
  | n + 1, r, a, h => by
    have := mzN_fst n r a h
    rw [mzN]
    cases e : mzN n r with
    | nil => rw [e] at this; cases this
    | cons x s =>
      rw [e] at this
      simp at this
      subst this
      simp [mz]
theorem mzN_lst : ∀ (n : Nat) (r : List Int) (a : Int), r.getLast? = some a → (mzN n r).getLast? = some a
  | 0, r, a, h => h
  | n + 1, r, a, h => by
    have := mzN_lst n r a h
    rw [mzN, mz_last]
    cases e : mzN n r with
    | nil => rw [e] at this; cases this
    | cons x s => rw [List.getLast?_cons_cons, ← e]; exact this
/-- a row of whole numbers and half its sum -/
theorem val_mzN {r : List Int} {n : Nat} (h0 : 0 < sS (mzN n r)) (hf : ∃ a, r[0]? = some a ∧ a ≠ 0) (hl : ∃ a, r.getLast? = some a ∧ a ≠ 0) (hs : Sz 3 r) (hn : n ≤ 50) (h4 : r.length ≤ 4) (hb : sS (mzN n r) ≤ 2 ^ 60) : Val (mzN (n + 1) r) (sS (mzN n r)) := by
  obtain ⟨a, ha, na⟩ := hf
  obtain ⟨c, hc, nc⟩ := hl
  have hne : 0 < r.length := by
    cases r with
    | nil => cases ha
    | cons x s => simp
  refine ⟨h0, sm1 (by omega), sm60 (mzN_sz (n + 1) r hs) ?_, by rw [mzN_len]; omega, by rw [mzN_len]; omega, ⟨a, mzN_fst _ _ _ ha, na⟩, ⟨c, mzN_lst _ _ _ hc, nc⟩, ?_, ?_⟩
  · exact Nat.le_trans (Nat.mul_le_mul_right 3 (Nat.pow_le_pow_right (by omega) (show n + 1 ≤ 51 by omega))) (by decide)
  · rw [mzN, sS_mz]
    omega
  · rw [mzN, sA_mz]
theorem sS_bound {k : Nat} : ∀ (r : List Int), Sz k r → (sS r).natAbs ≤ r.length * k
  | [], h => by simp [sS]
  | x :: r, h => by
    have h1 := sS_bound r (fun y hy => h y (List.mem_cons_of_mem _ hy))
    have h2 := h x List.mem_cons_self
    have h3 := Int.natAbs_add_le x (sS r)
    rw [List.length_cons, Nat.add_mul, Nat.one_mul]
    simp only [sS]
    omega
theorem times11 {r : List Int} {k : Nat} (hne : r ≠ []) (hs : Sz k r) (hk : k ≤ 2 ^ 60) (hl : r.length ≤ 900) : m__law_times [.lst (inL r), .lst (inL [1, 1])] = .rto (.l (inL (mz 0 r))) := by
  rw [times_ok hne (sm60 hs hk) (sm60 sz11 (by decide)) (by omega) (by simp), pr_mz]
/-- the loop row = row * [1, 1] at slot i, over a range at slot j -/
theorem pow_loop {i j : Nat} {r : List Int} (hne : r ≠ []) (hs : Sz 3 r) (hl : r.length ≤ 4) (get : Nat → List Int → Slot → Env)
    (h1 : ∀ m row s, (nm i) (get m row s) = .ok (.lst (inL row)) (get m row s)) (h2 : ∀ m row s (row' : List Int), (get m row s).set i (.sh (.lst (inL row'))) = get m row' s) (h3 : ∀ m row s d, gN j d (get m row s) = some (get m row (.sh d))) :
    ∀ (ds : List D) (m k : Nat) (s : Slot), k + ds.length ≤ 50 → ∃ s', forL (gN j) (asg (gN i) (EV.call m__law_times (aCons (nm i) (aCons (frz (lstO (aCons (cC (.int 1)) (aCons (cC (.int 1)) aNil)))) aNil)))) ds (get m (mzN k r) s) = .ok .nx (get m (mzN (k + ds.length) r) s')
  | [], m, k, s, hk => ⟨s, rfl⟩
  | d :: ds, m, k, s, hk => by
    simp only [List.length_cons] at hk
    obtain ⟨s', e⟩ := pow_loop hne hs hl get h1 h2 h3 ds m (k + 1) (.sh d) (by omega)
    refine ⟨s', ?_⟩
    have ht := times11 (r := mzN k r) (k := 2 ^ 50 * 3) (mzN_ne hne) ((mzN_sz k r hs).mono (Nat.mul_le_mul_right 3 (Nat.pow_le_pow_right (by omega) (by omega)))) (by decide) (by rw [mzN_len]; omega)
    have st : (asg (gN i) (EV.call m__law_times (aCons (nm i) (aCons (frz (lstO (aCons (cC (.int 1)) (aCons (cC (.int 1)) aNil)))) aNil)))) (get m (mzN k r) (.sh d)) = .ok .nx (get m (mzN (k + 1) r) (.sh d)) := by
      refine (asg_ok (call_rto (ac_ok (h1 _ _ _) (a1_ok lst11)) ht)).trans ?_
      rw [h2]
      rfl
    unfold forL
    rw [h3, of_some, st, bind_ok]
    refine e.trans ?_
    rw [List.length_cons, show k + 1 + ds.length = k + (ds.length + 1) by omega]
end EV
set_option maxRecDepth 100000
/-! K06_Z: the law's books drawn; the corner book. -/
namespace EV
open PySem
structure Rw (xs : List Int) (l : Int) : Prop where
  v : Val xs l
  n41 : xs.length ≤ 41
  sz : Sz (2 ^ 20) xs
  lz : l ≤ 2 ^ 20
theorem partsAt {cells : List Int} {n : Nat} {b : List D} {ε : Env} {i : Nat} {k : Option Nat} {fa : FE} (hi : ε[i]? = some (.ow k (.l b))) (hf : fa ε = .ok (.int 4) ε) (hb : Bag cells n b) (hc : ∀ c ∈ cells, bits c ≤ 1048577) (hn : n ≤ 500) :
    ∃ ps b', callQ m__law_parts i (aCons fa aNil) ε = .ok (.lst (inL ps)) (ε.set i (.ow k (.l b'))) ∧ Parts ps ∧ Bag cells (n + 5) b' := by
  obtain ⟨ps, b', e, h2, h3⟩ := parts_ok hb hc hn
  refine ⟨ps, b', ?_, h2, h3⟩
  unfold callQ
  rw [if_pos (has_of hi), a1_ok hf, bind_ok, hi]
  show (match m__law_parts (.l b) [.int 4] with
    | .ret d o' => R.ok d (ε.set i (.ow k o'))
    | _ => R.bot) = _
  rw [e]
theorem pow_first {i j : Nat} {r : List Int} (hne : r ≠ []) (hs : Sz 3 r) (hl : r.length ≤ 4) {ds : List D} {d : D} {ε0 ε1 ε2 ε3 : Env} (h1 : gN j d ε0 = some ε1) (h2 : nm i ε1 = .ok (.lst (inL r)) ε2) (h3 : ε2.set i (.sh (.lst (inL (mz 0 r)))) = ε3) :
    forL (gN j) (asg (gN i) (EV.call m__law_times (aCons (nm i) (aCons (frz (lstO (aCons (cC (.int 1)) (aCons (cC (.int 1)) aNil)))) aNil)))) (d :: ds) ε0 = forL (gN j) (asg (gN i) (EV.call m__law_times (aCons (nm i) (aCons (frz (lstO (aCons (cC (.int 1)) (aCons (cC (.int 1)) aNil)))) aNil)))) ds ε3 := by
  have ht := times11 (r := r) (k := 3) hne hs (by decide) (by omega)
  have st : (asg (gN i) (EV.call m__law_times (aCons (nm i) (aCons (frz (lstO (aCons (cC (.int 1)) (aCons (cC (.int 1)) aNil)))) aNil)))) ε1 = .ok .nx ε3 := by
    refine (asg_ok (call_rto (ac_ok h2 (a1_ok lst11)) ht)).trans ?_
    rw [h3]
  conv => lhs; unfold forL
  rw [h1, of_some, st]
  rfl
theorem half_ok (y : Int) : dDiv (.int (2 * y)) (.int 2) = some (.int y) := by
  rw [dDiv_pos (by omega) (sm1 (by decide))]
  congr 2
  omega
theorem row_rw {row : List Int} {y : Int} (h0 : 0 < y) (hy : y ≤ 2 ^ 20) (hS : sS row = 2 * y) (hA : sA row = 0) (hf : ∃ a, row[0]? = some a ∧ a ≠ 0) (hl : ∃ a, row.getLast? = some a ∧ a ≠ 0) (hs : Sz (2 ^ 20) row) (n2 : 2 ≤ row.length) (n41 : row.length ≤ 41) : Rw row y :=
  ⟨⟨h0, sm1 (by omega), sm60 hs (by decide), n2, by omega, hf, hl, hS, hA⟩, n41, hs, hy⟩
theorem neg_map (xs : List Int) : xs.map (fun x => -x) = xs.map (-1 * ·) := by
  refine List.map_congr_left fun x _ => ?_
  show -x = -1 * x
  omega
/-- a row that is a power of 1 + z times another one, with half its sum, its sign mended -/
theorem pow_rw {r : List Int} {k : Nat} (hne : r ≠ []) (h4 : r.length ≤ 4) (hf : ∃ a, r[0]? = some a ∧ a ≠ 0) (hl : ∃ a, r.getLast? = some a ∧ a ≠ 0) (hs : Sz 3 r) (hS : sS r ≠ 0) (hk : k ≤ 6) :
    (0 < sS (mzN k r) → Rw (mzN (k + 1) r) (sS (mzN k r))) ∧ (sS (mzN k r) < 0 → Rw ((mzN (k + 1) r).map fun x => -x) (-(sS (mzN k r)))) ∧ sS (mzN k r) ≠ 0 ∧ sS (mzN (k + 1) r) = 2 * sS (mzN k r) := by
  have hS1 : sS (mzN (k + 1) r) = 2 * sS (mzN k r) := by
    rw [mzN, sS_mz]
    omega
  have hA1 : sA (mzN (k + 1) r) = 0 := by rw [mzN, sA_mz]
  have z1 : Sz (2 ^ 7 * 3) (mzN (k + 1) r) := (mzN_sz (k + 1) r hs).mono (Nat.mul_le_mul_right 3 (Nat.pow_le_pow_right (by omega) (by omega)))
  have z0 : Sz (2 ^ 6 * 3) (mzN k r) := (mzN_sz k r hs).mono (Nat.mul_le_mul_right 3 (Nat.pow_le_pow_right (by omega) (by omega)))
  have hb := sS_bound (mzN k r) z0
  rw [mzN_len] at hb
  have hb2 : (r.length + k) * (2 ^ 6 * 3) ≤ 10 * (2 ^ 6 * 3) := Nat.mul_le_mul_right _ (by omega)
  have hb3 : 10 * (2 ^ 6 * 3) ≤ 2 ^ 20 := by decide
  have hlen : 0 < r.length := List.length_pos_iff.mpr hne
  obtain ⟨a, ha, na⟩ := hf
  obtain ⟨c, hc, nc⟩ := hl
  refine ⟨fun h => row_rw h (by omega) hS1 hA1 ⟨a, mzN_fst _ _ _ ha, na⟩ ⟨c, mzN_lst _ _ _ hc, nc⟩ (z1.mono (by decide)) (by rw [mzN_len]; omega) (by rw [mzN_len]; omega), fun h => ?_, mzN_S k r hS, hS1⟩
  refine row_rw (by omega) (by omega) ?_ ?_ ⟨-a, by rw [List.getElem?_map, mzN_fst _ _ _ ha]; rfl, by omega⟩ ⟨-c, by rw [List.getLast?_map, mzN_lst _ _ _ hc]; rfl, by omega⟩ ?_ (by rw [List.length_map, mzN_len]; omega) (by rw [List.length_map, mzN_len]; omega)
  · rw [neg_map, sS_map, hS1]
    omega
  · rw [neg_map, sA_map, hA1, Int.mul_zero]
  · intro x hx
    obtain ⟨y, hy, rfl⟩ := List.mem_map.mp hx
    have := z1 y hy
    show (-y).natAbs ≤ _
    have h20 : 2 ^ 7 * 3 ≤ 2 ^ 20 := by decide
    omega
theorem rngL_succ (lo : Int) (n : Nat) : rngL lo (n + 1) = .int lo :: rngL (lo + 1) n := rfl
theorem core_ok {cells : List Int} {n : Nat} {b : List D} (hb : Bag cells n b) (hc : ∀ c ∈ cells, bits c ≤ 1048577) (hn : n ≤ 400) : ∃ xs l b', m__law_core_book (.l b) [.int 4] = .ret (plain xs l) (.l b') ∧ Rw xs l ∧ Bag cells (n + 6) b' := by
  obtain ⟨r1, b1, d1, u1, v1, hb1⟩ := drawAt (ε := [.ow (some 0) (.l b), .sh (.int 4), .no, .no, .no, .no, .no]) (i := 0) (k := some 0) (size := 4) (fa := cC (.int 4)) rfl rfl hb hc (by omega) (by omega) (by omega)
  have e1 : (asg (gN 2) (bin dAdd (cC (.int 1)) (callQ m__law_draw 0 (aCons (cC (.int 4)) aNil)))) [.ow (some 0) (.l b), .sh (.int 4), .no, .no, .no, .no, .no] = .ok .nx [.ow (some 0) (.l b1), .sh (.int 4), .sh (.int (1 + r1)), .no, .no, .no, .no] := asg_ok (bin_ok (x := .int 1) rfl d1 rfl)
  obtain ⟨ps, b2, d2, hP, hb2⟩ := partsAt (ε := [.ow (some 0) (.l b1), .sh (.int 4), .sh (.int (1 + r1)), .no, .no, .no, .no]) (i := 0) (k := some 0) (fa := nm 1) rfl rfl hb1 hc (by omega)
  have e2 : (asg (gN 3) (callQ m__law_parts 0 (aCons (nm 1) aNil))) [.ow (some 0) (.l b1), .sh (.int 4), .sh (.int (1 + r1)), .no, .no, .no, .no] = .ok .nx [.ow (some 0) (.l b2), .sh (.int 4), .sh (.int (1 + r1)), .sh (.lst (inL ps)), .no, .no, .no] := asg_ok d2
  -- what stands ahead of the loop
  have e3 : ∃ (r : List Int) (k : Nat) (s3 : Slot), r ≠ [] ∧ r.length ≤ 4 ∧ (∃ a, r[0]? = some a ∧ a ≠ 0) ∧ (∃ a, r.getLast? = some a ∧ a ≠ 0) ∧ Sz 3 r ∧ sS r ≠ 0 ∧ k ≤ 4 ∧ (s3 = .sh (.lst (inL r)) ∨ s3 = .ow none (.l (inL r))) ∧
      (EV.ifS (tB (bin dEq (bi bSum (aCons (nm 3) aNil)) (cC (.int 0)))) (EV.seq (asgO 3 (lstO (aCons (cC (.int 1)) aNil))) (asg (gN 2) (bin dAdd (nm 2) (cC (.int 1))))) sNx) [.ow (some 0) (.l b2), .sh (.int 4), .sh (.int (1 + r1)), .sh (.lst (inL ps)), .no, .no, .no] =
        .ok .nx [.ow (some 0) (.l b2), .sh (.int 4), .sh (.int ((k + 1 : Nat) : Int)), s3, .no, .no, .no] := by
    have hsum : (bi bSum (aCons (nm 3) aNil)) [.ow (some 0) (.l b2), .sh (.int 4), .sh (.int (1 + r1)), .sh (.lst (inL ps)), .no, .no, .no] = .ok (.int (sS ps)) [.ow (some 0) (.l b2), .sh (.int 4), .sh (.int (1 + r1)), .sh (.lst (inL ps)), .no, .no, .no] := bi_ok (a1_ok (x := .lst (inL ps)) rfl) (sum_ok ps)
    by_cases h : sS ps = 0
    · refine ⟨[1], (1 + r1).toNat, .ow none (.l (inL [1])), by simp, by simp, ⟨1, rfl, by decide⟩, ⟨1, rfl, by decide⟩, fun x hx => ?_, by decide, by omega, .inr rfl, ?_⟩
      · have : x = 1 := by simpa using hx
        subst this
        decide
      · refine (if_t (tB_ok (bin_ok (y := .int 0) hsum rfl (by rw [dEq_int, h]; rfl)))).trans ?_
        have a1 : (asgO 3 (lstO (aCons (cC (.int 1)) aNil))) [.ow (some 0) (.l b2), .sh (.int 4), .sh (.int (1 + r1)), .sh (.lst (inL ps)), .no, .no, .no] = .ok .nx [.ow (some 0) (.l b2), .sh (.int 4), .sh (.int (1 + r1)), .ow none (.l (inL [1])), .no, .no, .no] := asgO_ok (lstO_ok (xs := [.int 1]) rfl (by simp))
        have a2 : (asg (gN 2) (bin dAdd (nm 2) (cC (.int 1)))) [.ow (some 0) (.l b2), .sh (.int 4), .sh (.int (1 + r1)), .ow none (.l (inL [1])), .no, .no, .no] = .ok .nx [.ow (some 0) (.l b2), .sh (.int 4), .sh (.int (1 + r1 + 1)), .ow none (.l (inL [1])), .no, .no, .no] := asg_ok (bin_ok (x := .int (1 + r1)) (y := .int 1) rfl rfl rfl)
        refine (seq_nx a1).trans (a2.trans ?_)
        congr 6
        omega
    · refine ⟨ps, r1.toNat, .sh (.lst (inL ps)), hP.ne, hP.n4, hP.fst, hP.lst, hP.sz, h, by omega, .inl rfl, ?_⟩
      refine (if_nx (tB_ok (bin_ok (y := .int 0) hsum rfl ?_))).trans ?_
      · rw [dEq_int]
        have : (sS ps == 0) = false := by simpa using h
        rw [this]
      · congr 5
        have : (1 + r1) = ((r1.toNat + 1 : Nat) : Int) := by omega
        rw [this]
  obtain ⟨r, k, s3, hne, h4, hf, hl, hs, hS, hk, hs3, e3⟩ := e3
  -- the loop
  have hrng : ∀ s4 : Slot, (EV.iRng1 (aCons (nm 2) aNil)) [.ow (some 0) (.l b2), .sh (.int 4), .sh (.int ((k + 1 : Nat) : Int)), s3, .no, .no, .no] = .ok (rngL 0 (k + 1)) [.ow (some 0) (.l b2), .sh (.int 4), .sh (.int ((k + 1 : Nat) : Int)), s3, .no, .no, .no] := fun _ =>
    (rng1_ok (j := ((k + 1 : Nat) : Int)) (a1_ok rfl) (by omega) (by omega)).trans rfl
  obtain ⟨s4, e4⟩ := pow_loop (i := 3) (j := 4) hne hs h4 (fun m row s => [.ow (some 0) (.l b2), .sh (.int 4), .sh (.int ((k + 1 : Nat) : Int)), .sh (.lst (inL row)), s, .no, .no]) (fun _ _ _ => rfl) (fun _ _ _ _ => rfl) (fun _ _ _ _ => rfl) (rngL (0 + 1) k) 0 1 (.sh (.int 0)) (by rw [rngL_len]; omega)
  rw [rngL_len] at e4
  have e5 : (EV.forS (EV.iRng1 (aCons (nm 2) aNil)) (gN 4) (asg (gN 3) (EV.call m__law_times (aCons (nm 3) (aCons (frz (lstO (aCons (cC (.int 1)) (aCons (cC (.int 1)) aNil)))) aNil))))) [.ow (some 0) (.l b2), .sh (.int 4), .sh (.int ((k + 1 : Nat) : Int)), s3, .no, .no, .no] =
      .ok .nx [.ow (some 0) (.l b2), .sh (.int 4), .sh (.int ((k + 1 : Nat) : Int)), .sh (.lst (inL (mzN (k + 1) r))), s4, .no, .no] := by
    unfold EV.forS
    rw [hrng .no, bind_ok, rngL_succ]
    refine (pow_first (i := 3) (j := 4) hne hs h4 (ε1 := [.ow (some 0) (.l b2), .sh (.int 4), .sh (.int ((k + 1 : Nat) : Int)), s3, .sh (.int 0), .no, .no]) (ε2 := [.ow (some 0) (.l b2), .sh (.int 4), .sh (.int ((k + 1 : Nat) : Int)), .sh (.lst (inL r)), .sh (.int 0), .no, .no]) rfl ?_ rfl).trans ?_
    · rcases hs3 with rfl | rfl <;> rfl
    · rw [Nat.add_comm k 1]
      rw [Nat.add_comm k 1] at e4
      exact e4
  obtain ⟨p1, p2, p3, p4⟩ := pow_rw (k := k) hne h4 hf hl hs hS (by omega)
  have e6 : (asg (gN 5) (bin dDiv (bi bSum (aCons (nm 3) aNil)) (cC (.int 2)))) [.ow (some 0) (.l b2), .sh (.int 4), .sh (.int ((k + 1 : Nat) : Int)), .sh (.lst (inL (mzN (k + 1) r))), s4, .no, .no] =
      .ok .nx [.ow (some 0) (.l b2), .sh (.int 4), .sh (.int ((k + 1 : Nat) : Int)), .sh (.lst (inL (mzN (k + 1) r))), s4, .sh (.int (sS (mzN k r))), .no] := by
    have hsum : (bi bSum (aCons (nm 3) aNil)) [.ow (some 0) (.l b2), .sh (.int 4), .sh (.int ((k + 1 : Nat) : Int)), .sh (.lst (inL (mzN (k + 1) r))), s4, .no, .no] = .ok (.int (2 * sS (mzN k r))) [.ow (some 0) (.l b2), .sh (.int 4), .sh (.int ((k + 1 : Nat) : Int)), .sh (.lst (inL (mzN (k + 1) r))), s4, .no, .no] := bi_ok (a1_ok (x := .lst (inL (mzN (k + 1) r))) rfl) (by rw [sum_ok, p4])
    exact asg_ok (bin_ok (y := .int 2) hsum rfl (half_ok _))
  have hlr : (mzN (k + 1) r).length ≤ 1000 := by rw [mzN_len]; omega
  by_cases hneg : sS (mzN k r) < 0
  · have t : (tB (bin dLt (nm 5) (cC (.int 0)))) [.ow (some 0) (.l b2), .sh (.int 4), .sh (.int ((k + 1 : Nat) : Int)), .sh (.lst (inL (mzN (k + 1) r))), s4, .sh (.int (sS (mzN k r))), .no] = .ok true [.ow (some 0) (.l b2), .sh (.int 4), .sh (.int ((k + 1 : Nat) : Int)), .sh (.lst (inL (mzN (k + 1) r))), s4, .sh (.int (sS (mzN k r))), .no] := by
      refine tB_ok (bin_ok (x := .int (sS (mzN k r))) (y := .int 0) rfl rfl ?_)
      show some (D.bl (decide (sS (mzN k r) < 0))) = _
      rw [decide_eq_true hneg]
    have lcE : (EV.lc [6] (iSeq (nm 3)) (gN 6) EV.tYes (un dNeg (nm 6))) [.ow (some 0) (.l b2), .sh (.int 4), .sh (.int ((k + 1 : Nat) : Int)), .sh (.lst (inL (mzN (k + 1) r))), s4, .sh (.int (sS (mzN k r))), .no] = .ok (.l (inL ((mzN (k + 1) r).map fun x => -x))) [.ow (some 0) (.l b2), .sh (.int 4), .sh (.int ((k + 1 : Nat) : Int)), .sh (.lst (inL (mzN (k + 1) r))), s4, .sh (.int (sS (mzN k r))), .no] := by
      have := lc_of (own := [6]) (fi := iSeq (nm 3)) (h := gN 6) (fe := un dNeg (nm 6)) (ε := [.ow (some 0) (.l b2), .sh (.int 4), .sh (.int ((k + 1 : Nat) : Int)), .sh (.lst (inL (mzN (k + 1) r))), s4, .sh (.int (sS (mzN k r))), .no]) (ε1 := [.ow (some 0) (.l b2), .sh (.int 4), .sh (.int ((k + 1 : Nat) : Int)), .sh (.lst (inL (mzN (k + 1) r))), s4, .sh (.int (sS (mzN k r))), .no]) (as := mzN (k + 1) r) (u := .int) (v := fun x => .int (-x)) rfl (by omega) fun x hx => ⟨[.ow (some 0) (.l b2), .sh (.int 4), .sh (.int ((k + 1 : Nat) : Int)), .sh (.lst (inL (mzN (k + 1) r))), s4, .sh (.int (sS (mzN k r))), .sh (.int x)], [.ow (some 0) (.l b2), .sh (.int 4), .sh (.int ((k + 1 : Nat) : Int)), .sh (.lst (inL (mzN (k + 1) r))), s4, .sh (.int (sS (mzN k r))), .sh (.int x)], rfl, rfl, rfl⟩
      refine this.trans ?_
      have e : ((mzN (k + 1) r).map fun x => D.int (-x)) = inL ((mzN (k + 1) r).map fun x => -x) := by
        unfold inL
        rw [List.map_map]
        rfl
      rw [e]
      rfl
    have e7 : (EV.ret (tupE (aCons (frz (EV.lc [6] (iSeq (nm 3)) (gN 6) EV.tYes (un dNeg (nm 6)))) (aCons (un dNeg (nm 5)) aNil)))) [.ow (some 0) (.l b2), .sh (.int 4), .sh (.int ((k + 1 : Nat) : Int)), .sh (.lst (inL (mzN (k + 1) r))), s4, .sh (.int (sS (mzN k r))), .no] =
        .ok (.rt (plain ((mzN (k + 1) r).map fun x => -x) (-(sS (mzN k r))))) [.ow (some 0) (.l b2), .sh (.int 4), .sh (.int ((k + 1 : Nat) : Int)), .sh (.lst (inL (mzN (k + 1) r))), s4, .sh (.int (sS (mzN k r))), .no] :=
      ret_ok (tupE_ok (ac_ok (frz_ok lcE) (a1_ok (x := .int (-(sS (mzN k r)))) rfl)) (by simp))
    refine ⟨_, _, b2, ?_, p2 hneg, hb2.mono (by omega)⟩
    exact (fnQ_ret rfl ((seq_nx e1).trans ((seq_nx e2).trans ((seq_nx e3).trans ((seq_nx e5).trans ((seq_nx e6).trans (seq_rt ((if_t t).trans e7)))))))).trans rfl
  · have t : (EV.ifS (tB (bin dLt (nm 5) (cC (.int 0)))) (EV.ret (tupE (aCons (frz (EV.lc [6] (iSeq (nm 3)) (gN 6) EV.tYes (un dNeg (nm 6)))) (aCons (un dNeg (nm 5)) aNil)))) sNx) [.ow (some 0) (.l b2), .sh (.int 4), .sh (.int ((k + 1 : Nat) : Int)), .sh (.lst (inL (mzN (k + 1) r))), s4, .sh (.int (sS (mzN k r))), .no] = .ok .nx [.ow (some 0) (.l b2), .sh (.int 4), .sh (.int ((k + 1 : Nat) : Int)), .sh (.lst (inL (mzN (k + 1) r))), s4, .sh (.int (sS (mzN k r))), .no] := by
      refine if_nx (tB_ok (bin_ok (x := .int (sS (mzN k r))) (y := .int 0) rfl rfl ?_))
      show some (D.bl (decide (sS (mzN k r) < 0))) = _
      rw [decide_eq_false hneg]
    have e7 : (EV.ret (tupE (aCons (nm 3) (aCons (nm 5) aNil)))) [.ow (some 0) (.l b2), .sh (.int 4), .sh (.int ((k + 1 : Nat) : Int)), .sh (.lst (inL (mzN (k + 1) r))), s4, .sh (.int (sS (mzN k r))), .no] =
        .ok (.rt (plain (mzN (k + 1) r) (sS (mzN k r)))) [.ow (some 0) (.l b2), .sh (.int 4), .sh (.int ((k + 1 : Nat) : Int)), .sh (.lst (inL (mzN (k + 1) r))), s4, .sh (.int (sS (mzN k r))), .no] :=
      ret_ok (tupE_ok (ac_ok (x := .lst (inL (mzN (k + 1) r))) rfl (a1_ok (x := .int (sS (mzN k r))) rfl)) (by simp))
    refine ⟨_, _, b2, ?_, p1 (by omega), hb2.mono (by omega)⟩
    exact (fnQ_ret rfl ((seq_nx e1).trans ((seq_nx e2).trans ((seq_nx e3).trans ((seq_nx e5).trans ((seq_nx e6).trans ((seq_nx t).trans e7))))))).trans rfl
end EV
set_option maxRecDepth 100000
/-! K06_N: known books drawn; corner books; the long book. -/
namespace EV
open PySem
abbrev four : List Int := [-1, 0, 9, 16, 9, 0, -1]
theorem four_rw : Rw four 16 := row_rw (by decide) (by decide) (by decide) (by decide) ⟨-1, rfl, by decide⟩ ⟨-1, rfl, by decide⟩ (fun x hx => by
  have : x = -1 ∨ x = 0 ∨ x = 9 ∨ x = 16 ∨ x = 9 ∨ x = 0 ∨ x = -1 := by simpa using hx
  omega) (by decide) (by decide)
theorem abs_mul_le {a b : Int} {n m : Nat} (ha : a.natAbs ≤ n) (hb : b.natAbs ≤ m) : (a * b).natAbs ≤ n * m := by
  rw [Int.natAbs_mul]
  exact Nat.mul_le_mul ha hb
abbrev quad (h l : Int) : List Int := [h * (h - l), l * (l - h), l * (l + h), h * (h + l)]
theorem quad_rw {h l : Int} (l2 : 2 ≤ l) (l7 : l ≤ 7) (h0 : h ≠ 0) (h1 : -l < h) (h2 : h < l) : Rw (quad h l) (h * h + l * l) := by
  have p1 : (h * (h - l)).natAbs ≤ 10 * 20 := abs_mul_le (by omega) (by omega)
  have p2 : (l * (l - h)).natAbs ≤ 10 * 20 := abs_mul_le (by omega) (by omega)
  have p3 : (l * (l + h)).natAbs ≤ 10 * 20 := abs_mul_le (by omega) (by omega)
  have p4 : (h * (h + l)).natAbs ≤ 10 * 20 := abs_mul_le (by omega) (by omega)
  have q1 : (h * h).natAbs ≤ 10 * 10 := abs_mul_le (by omega) (by omega)
  have q2 : (l * l).natAbs ≤ 10 * 10 := abs_mul_le (by omega) (by omega)
  have pos : 0 < l * l := Int.mul_pos (by omega) (by omega)
  have pos2 : 0 ≤ h * h := by
    rcases Int.le_total 0 h with z | z
    · exact Int.mul_nonneg z z
    · exact Int.mul_nonneg_of_nonpos_of_nonpos z z
  have n1 : h * (h - l) ≠ 0 := Int.mul_ne_zero h0 (by omega)
  have n2 : h * (h + l) ≠ 0 := Int.mul_ne_zero h0 (by omega)
  refine row_rw (by omega) (by omega) ?_ ?_ ⟨_, rfl, n1⟩ ⟨_, rfl, n2⟩ (fun x hx => ?_) (by simp) (by simp)
  · simp only [sS, Int.mul_sub, Int.mul_add, Int.mul_comm l h]
    omega
  · simp only [sA, Int.mul_sub, Int.mul_add, Int.mul_comm l h]
    omega
  · have : x = h * (h - l) ∨ x = l * (l - h) ∨ x = l * (l + h) ∨ x = h * (h + l) := by simpa using hx
    have z20 : 200 ≤ 2 ^ 20 := by decide
    omega
theorem mulS {a b : Int} (ha : -100 ≤ a ∧ a ≤ 1000) (hb : -100 ≤ b ∧ b ≤ 1000) : dMul (.int a) (.int b) = some (.int (a * b)) := mul_ok (by
  have b1 := bits100 ha
  have b2 := bits100 hb
  omega)
theorem sz1 : Sz 3 [1] := fun x hx => by
  have : x = 1 := by simpa using hx
  subst this
  decide
theorem known_ok {cells : List Int} {n : Nat} {b : List D} (hb : Bag cells n b) (hc : ∀ c ∈ cells, bits c ≤ 1048577) (hn : n ≤ 400) : ∃ xs l b', m__law_known_book (.l b) [] = .ret (plain xs l) (.l b') ∧ Rw xs l ∧ Bag cells (n + 6) b' := by
  obtain ⟨r1, b1, d1, u1, v1, hb1⟩ := drawAt (ε := [.ow (some 0) (.l b), .no, .no, .no, .no, .no, .no]) (i := 0) (k := some 0) (size := 3) (fa := cC (.int 3)) rfl rfl hb hc (by omega) (by omega) (by omega)
  have e1 : (asg (gN 1) (callQ m__law_draw 0 (aCons (cC (.int 3)) aNil))) [.ow (some 0) (.l b), .no, .no, .no, .no, .no, .no] = .ok .nx [.ow (some 0) (.l b1), .sh (.int r1), .no, .no, .no, .no, .no] := asg_ok d1
  by_cases w0 : r1 = 0
  · have t : (tB (bin dEq (nm 1) (cC (.int 0)))) [.ow (some 0) (.l b1), .sh (.int r1), .no, .no, .no, .no, .no] = .ok true [.ow (some 0) (.l b1), .sh (.int r1), .no, .no, .no, .no, .no] := tB_ok (bin_ok (x := .int r1) (y := .int 0) rfl rfl (by rw [dEq_int, w0]; rfl))
    refine ⟨four, 16, b1, ?_, four_rw, hb1.mono (by omega)⟩
    have e2 : (EV.ret (tupE (aCons (frz (lstO (aCons (un dNeg (cC (.int 1))) (aCons (cC (.int 0)) (aCons (cC (.int 9)) (aCons (cC (.int 16)) (aCons (cC (.int 9)) (aCons (cC (.int 0)) (aCons (un dNeg (cC (.int 1))) aNil))))))))) (aCons (cC (.int 16)) aNil)))) [.ow (some 0) (.l b1), .sh (.int r1), .no, .no, .no, .no, .no] = .ok (.rt (plain four 16)) [.ow (some 0) (.l b1), .sh (.int r1), .no, .no, .no, .no, .no] :=
      ret_ok (tupE_ok (ac_ok (frz_ok (lstO_ok (xs := inL four) rfl (by decide))) (a1_ok (x := .int 16) rfl)) (by simp))
    exact (fnQ_ret rfl ((seq_nx e1).trans (seq_rt ((if_t t).trans e2)))).trans rfl
  · have h0 : (r1 == 0) = false := by simpa using w0
    have f0 : ∀ a : FS, (EV.ifS (tB (bin dEq (nm 1) (cC (.int 0)))) a sNx) [.ow (some 0) (.l b1), .sh (.int r1), .no, .no, .no, .no, .no] = .ok .nx [.ow (some 0) (.l b1), .sh (.int r1), .no, .no, .no, .no, .no] := fun a => if_nx (tB_ok (bin_ok (x := .int r1) (y := .int 0) rfl rfl (by rw [dEq_int, h0])))
    by_cases w1 : r1 = 1
    · have t : (tB (bin dEq (nm 1) (cC (.int 1)))) [.ow (some 0) (.l b1), .sh (.int r1), .no, .no, .no, .no, .no] = .ok true [.ow (some 0) (.l b1), .sh (.int r1), .no, .no, .no, .no, .no] := tB_ok (bin_ok (x := .int r1) (y := .int 1) rfl rfl (by rw [dEq_int, w1]; rfl))
      obtain ⟨r2, b2, d2, u2, v2, hb2⟩ := drawAt (ε := [.ow (some 0) (.l b1), .sh (.int r1), .no, .no, .no, .no, .no]) (i := 0) (k := some 0) (size := 6) (fa := cC (.int 6)) rfl rfl hb1 hc (by omega) (by omega) (by omega)
      have e2 : (asg (gN 2) (bin dAdd (cC (.int 2)) (callQ m__law_draw 0 (aCons (cC (.int 6)) aNil)))) [.ow (some 0) (.l b1), .sh (.int r1), .no, .no, .no, .no, .no] = .ok .nx [.ow (some 0) (.l b2), .sh (.int r1), .sh (.int (2 + r2)), .no, .no, .no, .no] := asg_ok (bin_ok (x := .int 2) rfl d2 rfl)
      generalize hl : (2 + r2 : Int) = l at e2
      obtain ⟨r3, b3, d3, u3, v3, hb3⟩ := drawAt (ε := [.ow (some 0) (.l b2), .sh (.int r1), .sh (.int l), .no, .no, .no, .no]) (i := 0) (k := some 0) (size := l - 1) (fa := bin dSub (nm 2) (cC (.int 1))) rfl (bin_ok (x := .int l) (y := .int 1) rfl rfl rfl) hb2 hc (by omega) (by omega) (by omega)
      obtain ⟨r4, b4, d4, u4, v4, hb4⟩ := drawAt (ε := [.ow (some 0) (.l b3), .sh (.int r1), .sh (.int l), .no, .no, .no, .no]) (i := 0) (k := some 0) (size := 2) (fa := cC (.int 2)) rfl rfl hb3 hc (by omega) (by omega) (by omega)
      have hh : (1 + r3) * (1 - 2 * r4) ≠ 0 ∧ -l < (1 + r3) * (1 - 2 * r4) ∧ (1 + r3) * (1 - 2 * r4) < l := by
        have : r4 = 0 ∨ r4 = 1 := by omega
        rcases this with rfl | rfl <;> omega
      have e3 : (asg (gN 3) (bin dMul (bin dAdd (cC (.int 1)) (callQ m__law_draw 0 (aCons (bin dSub (nm 2) (cC (.int 1))) aNil))) (bin dSub (cC (.int 1)) (bin dMul (cC (.int 2)) (callQ m__law_draw 0 (aCons (cC (.int 2)) aNil)))))) [.ow (some 0) (.l b2), .sh (.int r1), .sh (.int l), .no, .no, .no, .no] =
          .ok .nx [.ow (some 0) (.l b4), .sh (.int r1), .sh (.int l), .sh (.int ((1 + r3) * (1 - 2 * r4))), .no, .no, .no] :=
        asg_ok (bin_ok (bin_ok (x := .int 1) rfl d3 rfl) (bin_ok (x := .int 1) rfl (bin_ok (x := .int 2) rfl d4 (mulS ⟨by omega, by omega⟩ ⟨by omega, by omega⟩)) rfl) (mulS ⟨by omega, by omega⟩ ⟨by omega, by omega⟩))
      generalize (1 + r3) * (1 - 2 * r4) = h at e3 hh
      obtain ⟨hh0, hh1, hh2⟩ := hh
      have p1 : (bin dMul (nm 3) (bin dSub (nm 3) (nm 2))) [.ow (some 0) (.l b4), .sh (.int r1), .sh (.int l), .sh (.int h), .no, .no, .no] = .ok (.int (h * (h - l))) [.ow (some 0) (.l b4), .sh (.int r1), .sh (.int l), .sh (.int h), .no, .no, .no] := bin_ok (x := .int h) rfl (bin_ok (x := .int h) (y := .int l) rfl rfl rfl) (mulS ⟨by omega, by omega⟩ ⟨by omega, by omega⟩)
      have p2 : (bin dMul (nm 2) (bin dSub (nm 2) (nm 3))) [.ow (some 0) (.l b4), .sh (.int r1), .sh (.int l), .sh (.int h), .no, .no, .no] = .ok (.int (l * (l - h))) [.ow (some 0) (.l b4), .sh (.int r1), .sh (.int l), .sh (.int h), .no, .no, .no] := bin_ok (x := .int l) rfl (bin_ok (x := .int l) (y := .int h) rfl rfl rfl) (mulS ⟨by omega, by omega⟩ ⟨by omega, by omega⟩)
      have p3 : (bin dMul (nm 2) (bin dAdd (nm 2) (nm 3))) [.ow (some 0) (.l b4), .sh (.int r1), .sh (.int l), .sh (.int h), .no, .no, .no] = .ok (.int (l * (l + h))) [.ow (some 0) (.l b4), .sh (.int r1), .sh (.int l), .sh (.int h), .no, .no, .no] := bin_ok (x := .int l) rfl (bin_ok (x := .int l) (y := .int h) rfl rfl rfl) (mulS ⟨by omega, by omega⟩ ⟨by omega, by omega⟩)
      have p4 : (bin dMul (nm 3) (bin dAdd (nm 3) (nm 2))) [.ow (some 0) (.l b4), .sh (.int r1), .sh (.int l), .sh (.int h), .no, .no, .no] = .ok (.int (h * (h + l))) [.ow (some 0) (.l b4), .sh (.int r1), .sh (.int l), .sh (.int h), .no, .no, .no] := bin_ok (x := .int h) rfl (bin_ok (x := .int h) (y := .int l) rfl rfl rfl) (mulS ⟨by omega, by omega⟩ ⟨by omega, by omega⟩)
      have p5 : (bin dAdd (bin dMul (nm 3) (nm 3)) (bin dMul (nm 2) (nm 2))) [.ow (some 0) (.l b4), .sh (.int r1), .sh (.int l), .sh (.int h), .no, .no, .no] = .ok (.int (h * h + l * l)) [.ow (some 0) (.l b4), .sh (.int r1), .sh (.int l), .sh (.int h), .no, .no, .no] := bin_ok (bin_ok (x := .int h) (y := .int h) rfl rfl (mulS ⟨by omega, by omega⟩ ⟨by omega, by omega⟩)) (bin_ok (x := .int l) (y := .int l) rfl rfl (mulS ⟨by omega, by omega⟩ ⟨by omega, by omega⟩)) rfl
      have e4 : (EV.ret (tupE (aCons (frz (lstO (aCons (bin dMul (nm 3) (bin dSub (nm 3) (nm 2))) (aCons (bin dMul (nm 2) (bin dSub (nm 2) (nm 3))) (aCons (bin dMul (nm 2) (bin dAdd (nm 2) (nm 3))) (aCons (bin dMul (nm 3) (bin dAdd (nm 3) (nm 2))) aNil)))))) (aCons (bin dAdd (bin dMul (nm 3) (nm 3)) (bin dMul (nm 2) (nm 2))) aNil)))) [.ow (some 0) (.l b4), .sh (.int r1), .sh (.int l), .sh (.int h), .no, .no, .no] =
          .ok (.rt (plain (quad h l) (h * h + l * l))) [.ow (some 0) (.l b4), .sh (.int r1), .sh (.int l), .sh (.int h), .no, .no, .no] :=
        ret_ok (tupE_ok (ac_ok (frz_ok (lstO_ok (ac_ok p1 (ac_ok p2 (ac_ok p3 (a1_ok p4)))) (by simp))) (a1_ok p5)) (by simp))
      refine ⟨quad h l, h * h + l * l, b4, ?_, quad_rw (by omega) (by omega) hh0 hh1 hh2, hb4.mono (by omega)⟩
      exact (fnQ_ret rfl ((seq_nx e1).trans ((seq_nx (f0 _)).trans (seq_rt ((if_t t).trans ((seq_nx e2).trans ((seq_nx e3).trans e4))))))).trans rfl
    · have h1 : (r1 == 1) = false := by simpa using w1
      have f1 : ∀ a : FS, (EV.ifS (tB (bin dEq (nm 1) (cC (.int 1)))) a sNx) [.ow (some 0) (.l b1), .sh (.int r1), .no, .no, .no, .no, .no] = .ok .nx [.ow (some 0) (.l b1), .sh (.int r1), .no, .no, .no, .no, .no] := fun a => if_nx (tB_ok (bin_ok (x := .int r1) (y := .int 1) rfl rfl (by rw [dEq_int, h1])))
      have e2 : (asgO 4 (lstO (aCons (cC (.int 1)) aNil))) [.ow (some 0) (.l b1), .sh (.int r1), .no, .no, .no, .no, .no] = .ok .nx [.ow (some 0) (.l b1), .sh (.int r1), .no, .no, .ow none (.l (inL [1])), .no, .no] := asgO_ok (lstO_ok (xs := [.int 1]) rfl (by simp))
      obtain ⟨r2, b2, d2, u2, v2, hb2⟩ := drawAt (ε := [.ow (some 0) (.l b1), .sh (.int r1), .no, .no, .ow none (.l (inL [1])), .no, .no]) (i := 0) (k := some 0) (size := 4) (fa := cC (.int 4)) rfl rfl hb1 hc (by omega) (by omega) (by omega)
      obtain ⟨k, hk⟩ : ∃ k : Nat, 2 + r2 = ((k + 1 : Nat) : Int) := ⟨(1 + r2).toNat, by omega⟩
      have e3 : (asg (gN 5) (bin dAdd (cC (.int 2)) (callQ m__law_draw 0 (aCons (cC (.int 4)) aNil)))) [.ow (some 0) (.l b1), .sh (.int r1), .no, .no, .ow none (.l (inL [1])), .no, .no] = .ok .nx [.ow (some 0) (.l b2), .sh (.int r1), .no, .no, .ow none (.l (inL [1])), .sh (.int ((k + 1 : Nat) : Int)), .no] := by
        rw [← hk]
        exact asg_ok (bin_ok (x := .int 2) rfl d2 rfl)
      have hk4 : k ≤ 5 := by omega
      obtain ⟨s6, e4⟩ := pow_loop (i := 4) (j := 6) (r := [1]) (by simp) sz1 (by simp) (fun m row s => [.ow (some 0) (.l b2), .sh (.int r1), .no, .no, .sh (.lst (inL row)), .sh (.int ((k + 1 : Nat) : Int)), s]) (fun _ _ _ => rfl) (fun _ _ _ _ => rfl) (fun _ _ _ _ => rfl) (rngL (0 + 1) k) 0 1 (.sh (.int 0)) (by rw [rngL_len]; omega)
      rw [rngL_len] at e4
      have e5 : (EV.forS (EV.iRng1 (aCons (nm 5) aNil)) (gN 6) (asg (gN 4) (EV.call m__law_times (aCons (nm 4) (aCons (frz (lstO (aCons (cC (.int 1)) (aCons (cC (.int 1)) aNil)))) aNil))))) [.ow (some 0) (.l b2), .sh (.int r1), .no, .no, .ow none (.l (inL [1])), .sh (.int ((k + 1 : Nat) : Int)), .no] =
          .ok .nx [.ow (some 0) (.l b2), .sh (.int r1), .no, .no, .sh (.lst (inL (mzN (k + 1) [1]))), .sh (.int ((k + 1 : Nat) : Int)), s6] := by
        have hrng : (EV.iRng1 (aCons (nm 5) aNil)) [.ow (some 0) (.l b2), .sh (.int r1), .no, .no, .ow none (.l (inL [1])), .sh (.int ((k + 1 : Nat) : Int)), .no] = .ok (rngL 0 (k + 1)) [.ow (some 0) (.l b2), .sh (.int r1), .no, .no, .ow none (.l (inL [1])), .sh (.int ((k + 1 : Nat) : Int)), .no] := (rng1_ok (j := ((k + 1 : Nat) : Int)) (a1_ok rfl) (by omega) (by omega)).trans rfl
        unfold EV.forS
        rw [hrng, bind_ok, rngL_succ]
        refine (pow_first (i := 4) (j := 6) (r := [1]) (by simp) sz1 (by simp) (ε1 := [.ow (some 0) (.l b2), .sh (.int r1), .no, .no, .ow none (.l (inL [1])), .sh (.int ((k + 1 : Nat) : Int)), .sh (.int 0)]) (ε2 := [.ow (some 0) (.l b2), .sh (.int r1), .no, .no, .sh (.lst (inL [1])), .sh (.int ((k + 1 : Nat) : Int)), .sh (.int 0)]) rfl rfl rfl).trans ?_
        rw [Nat.add_comm k 1]
        rw [Nat.add_comm k 1] at e4
        exact e4
      obtain ⟨p1, p2, p3, p4⟩ := pow_rw (r := [1]) (k := k) (by simp) (by simp) ⟨1, rfl, by decide⟩ ⟨1, rfl, by decide⟩ sz1 (by decide) (by omega)
      have pos : 0 < sS (mzN k [1]) := by
        have : ∀ k : Nat, 0 < sS (mzN k [1]) := by
          intro k
          induction k with
          | zero => decide
          | succ k ih =>
            rw [mzN, sS_mz]
            omega
        exact this k
      have hsum : (bi bSum (aCons (nm 4) aNil)) [.ow (some 0) (.l b2), .sh (.int r1), .no, .no, .sh (.lst (inL (mzN (k + 1) [1]))), .sh (.int ((k + 1 : Nat) : Int)), s6] = .ok (.int (2 * sS (mzN k [1]))) [.ow (some 0) (.l b2), .sh (.int r1), .no, .no, .sh (.lst (inL (mzN (k + 1) [1]))), .sh (.int ((k + 1 : Nat) : Int)), s6] := bi_ok (a1_ok (x := .lst (inL (mzN (k + 1) [1]))) rfl) (by rw [sum_ok, p4])
      have e6 : (EV.ret (tupE (aCons (nm 4) (aCons (bin dDiv (bi bSum (aCons (nm 4) aNil)) (cC (.int 2))) aNil)))) [.ow (some 0) (.l b2), .sh (.int r1), .no, .no, .sh (.lst (inL (mzN (k + 1) [1]))), .sh (.int ((k + 1 : Nat) : Int)), s6] = .ok (.rt (plain (mzN (k + 1) [1]) (sS (mzN k [1])))) [.ow (some 0) (.l b2), .sh (.int r1), .no, .no, .sh (.lst (inL (mzN (k + 1) [1]))), .sh (.int ((k + 1 : Nat) : Int)), s6] :=
        ret_ok (tupE_ok (ac_ok (x := .lst (inL (mzN (k + 1) [1]))) rfl (a1_ok (bin_ok (y := .int 2) hsum rfl (half_ok _)))) (by simp))
      refine ⟨_, _, b2, ?_, p1 pos, hb2.mono (by omega)⟩
      exact (fnQ_ret rfl ((seq_nx e1).trans ((seq_nx (f0 _)).trans ((seq_nx (f1 _)).trans ((seq_nx e2).trans ((seq_nx e3).trans ((seq_nx e5).trans e6))))))).trans rfl
/-! ### corner -/
theorem comb_row : ∀ n < 39, (List.range (n + 3)).map (fun k : Nat => PySem.W.mcComb ((n + 2 : Nat) : Int) (k : Int)) = mzN (n + 2) [1] := by decide +kernel
theorem two_row : ∀ n < 39, (2 : Int) ^ (n + 1) = sS (mzN (n + 1) [1]) := by decide +kernel
theorem val_corner : ∀ n, n < 39 → Val (mzN (n + 2) [1]) (sS (mzN (n + 1) [1])) := fun n hn => by
  have h1 := two_row n hn
  have h2 : (2 : Int) ^ (n + 1) ≤ 2 ^ 50 := by
    have : 2 ^ (n + 1) ≤ 2 ^ 50 := Nat.pow_le_pow_right (by decide) (by omega)
    exact_mod_cast this
  have h3 : (0 : Int) < 2 ^ (n + 1) := Int.pow_pos (by decide)
  exact val_mzN (r := [1]) (n := n + 1) (by omega) ⟨1, rfl, by decide⟩ ⟨1, rfl, by decide⟩ sz1 (by omega) (by simp) (by
    have h50 : (2 : Int) ^ 50 ≤ 2 ^ 60 := by decide
    omega)
theorem corner_ok {n : Nat} (hn : n < 39) : ∃ d, m_corner [.int ((n + 2 : Nat) : Int)] = .ret d ∧ IsBk d (mzN (n + 2) [1]) (sS (mzN (n + 1) [1])) := by
  have v := val_corner n hn
  obtain ⟨d, e, hd⟩ := (made_ok v).1 (by rw [mzN_len]; simp; omega)
  have hr : (EV.iRng1 (aCons (bin dAdd (nm 0) (cC (.int 1))) aNil)) [.sh (.int ((n + 2 : Nat) : Int)), .no] = .ok (rngL 0 (n + 3)) [.sh (.int ((n + 2 : Nat) : Int)), .no] := by
    have := rng1_ok (fr := aCons (bin dAdd (nm 0) (cC (.int 1))) aNil) (ε := [.sh (.int ((n + 2 : Nat) : Int)), .no]) (ε' := [.sh (.int ((n + 2 : Nat) : Int)), .no]) (j := ((n + 2 : Nat) : Int) + 1) (a1_ok (bin_ok (x := .int ((n + 2 : Nat) : Int)) (y := .int 1) rfl rfl rfl)) (by omega) (by omega)
    rw [this]
    congr 2
  have lcE : (EV.lc [1] (EV.iRng1 (aCons (bin dAdd (nm 0) (cC (.int 1))) aNil)) (gN 1) EV.tYes (bi bComb (aCons (nm 0) (aCons (nm 1) aNil)))) [.sh (.int ((n + 2 : Nat) : Int)), .no] = .ok (.l (inL (mzN (n + 2) [1]))) [.sh (.int ((n + 2 : Nat) : Int)), .no] := by
    have := lc_map (own := [1]) (fi := EV.iRng1 (aCons (bin dAdd (nm 0) (cC (.int 1))) aNil)) (h := gN 1) (fe := bi bComb (aCons (nm 0) (aCons (nm 1) aNil))) (ε := [.sh (.int ((n + 2 : Nat) : Int)), .no]) (ε1 := [.sh (.int ((n + 2 : Nat) : Int)), .no]) (f := onI fun k => .int (PySem.W.mcComb ((n + 2 : Nat) : Int) k)) hr (by rw [rngL_len]; omega) fun x hx => by
      obtain ⟨k, hk, rfl⟩ := mem_rngL hx
      refine ⟨[.sh (.int ((n + 2 : Nat) : Int)), .sh (.int (0 + (k : Int)))], [.sh (.int ((n + 2 : Nat) : Int)), .sh (.int (0 + (k : Int)))], rfl, bi_ok (ac_ok (x := .int ((n + 2 : Nat) : Int)) rfl (a1_ok (x := .int (0 + (k : Int))) rfl)) ?_, rfl⟩
      have c : 0 ≤ ((n + 2 : Nat) : Int) ∧ 0 ≤ (0 + (k : Int)) ∧ ((n + 2 : Nat) : Int) < 2 ^ 64 ∧ ((0 + (k : Int)) ≤ 9000 ∨ ((n + 2 : Nat) : Int) ≤ 18000) := ⟨by omega, by omega, by omega, by omega⟩
      unfold bComb
      dsimp only
      rw [if_pos c]
      rfl
    refine this.trans ?_
    rw [rngL_map]
    have hz : (List.range (n + 3)).map (fun i : Nat => D.int (PySem.W.mcComb ((n + 2 : Nat) : Int) (0 + (i : Int)))) = inL (mzN (n + 2) [1]) := by
      rw [← comb_row n hn]
      unfold inL
      rw [List.map_map]
      refine List.map_congr_left fun i _ => ?_
      show D.int _ = D.int _
      rw [Int.zero_add]
    rw [hz]
    rfl
  have sh : (bin dShl1 (cC (.int 1)) (bin dSub (nm 0) (cC (.int 1)))) [.sh (.int ((n + 2 : Nat) : Int)), .no] = .ok (.int (sS (mzN (n + 1) [1]))) [.sh (.int ((n + 2 : Nat) : Int)), .no] := by
    refine bin_ok (x := .int 1) rfl (bin_ok (x := .int ((n + 2 : Nat) : Int)) (y := .int 1) rfl rfl rfl) ?_
    have c : 0 ≤ ((n + 2 : Nat) : Int) - 1 ∧ ((n + 2 : Nat) : Int) - 1 ≤ 1000000 := ⟨by omega, by omega⟩
    have e1 : dShl1 (.int 1) (.int (((n + 2 : Nat) : Int) - 1)) = if 0 ≤ ((n + 2 : Nat) : Int) - 1 ∧ ((n + 2 : Nat) : Int) - 1 ≤ 1000000 then some (.int (2 ^ (((n + 2 : Nat) : Int) - 1).toNat)) else none := by simp only [dShl1]
    have hN : (((n + 2 : Nat) : Int) - 1).toNat = n + 1 := by omega
    rw [e1, if_pos c, hN, two_row n hn]
  exact ⟨d, fn_ret rfl (ret_ok (call_ok (ac_ok (frz_ok lcE) (a1_ok sh)) e)), hd⟩
theorem law_corner_ok {n : Nat} (hn : n < 39) : m__law_corner [.int ((n + 2 : Nat) : Int)] = .ret (plain (mzN (n + 2) [1]) (sS (mzN (n + 1) [1]))) := by
  have e2 : (asgO 1 (lstO (aCons (cC (.int 1)) aNil))) [.sh (.int ((n + 2 : Nat) : Int)), .no, .no] = .ok .nx [.sh (.int ((n + 2 : Nat) : Int)), .ow none (.l (inL [1])), .no] := asgO_ok (lstO_ok (xs := [.int 1]) rfl (by simp))
  obtain ⟨s6, e4⟩ := pow_loop (i := 1) (j := 2) (r := [1]) (by simp) sz1 (by simp) (fun m row s => [.sh (.int ((n + 2 : Nat) : Int)), .sh (.lst (inL row)), s]) (fun _ _ _ => rfl) (fun _ _ _ _ => rfl) (fun _ _ _ _ => rfl) (rngL (0 + 1) (n + 1)) 0 1 (.sh (.int 0)) (by rw [rngL_len]; omega)
  rw [rngL_len] at e4
  have e5 : (EV.forS (EV.iRng1 (aCons (nm 0) aNil)) (gN 2) (asg (gN 1) (EV.call m__law_times (aCons (nm 1) (aCons (frz (lstO (aCons (cC (.int 1)) (aCons (cC (.int 1)) aNil)))) aNil))))) [.sh (.int ((n + 2 : Nat) : Int)), .ow none (.l (inL [1])), .no] =
      .ok .nx [.sh (.int ((n + 2 : Nat) : Int)), .sh (.lst (inL (mzN (n + 2) [1]))), s6] := by
    have hrng : (EV.iRng1 (aCons (nm 0) aNil)) [.sh (.int ((n + 2 : Nat) : Int)), .ow none (.l (inL [1])), .no] = .ok (rngL 0 (n + 2)) [.sh (.int ((n + 2 : Nat) : Int)), .ow none (.l (inL [1])), .no] := (rng1_ok (j := ((n + 2 : Nat) : Int)) (a1_ok rfl) (by omega) (by omega)).trans rfl
    unfold EV.forS
    rw [hrng, bind_ok, rngL_succ]
    refine (pow_first (i := 1) (j := 2) (r := [1]) (by simp) sz1 (by simp) (ε1 := [.sh (.int ((n + 2 : Nat) : Int)), .ow none (.l (inL [1])), .sh (.int 0)]) (ε2 := [.sh (.int ((n + 2 : Nat) : Int)), .sh (.lst (inL [1])), .sh (.int 0)]) rfl rfl rfl).trans ?_
    rw [show n + 2 = 1 + (n + 1) by omega]
    rw [show n + 2 = 1 + (n + 1) by omega] at e4
    exact e4
  have hS : sS (mzN (n + 2) [1]) = 2 * sS (mzN (n + 1) [1]) := by
    rw [mzN, sS_mz]
    omega
  have hsum : (bi bSum (aCons (nm 1) aNil)) [.sh (.int ((n + 2 : Nat) : Int)), .sh (.lst (inL (mzN (n + 2) [1]))), s6] = .ok (.int (2 * sS (mzN (n + 1) [1]))) [.sh (.int ((n + 2 : Nat) : Int)), .sh (.lst (inL (mzN (n + 2) [1]))), s6] := bi_ok (a1_ok (x := .lst (inL (mzN (n + 2) [1]))) rfl) (by rw [sum_ok, hS])
  have e6 : (EV.ret (tupE (aCons (nm 1) (aCons (bin dDiv (bi bSum (aCons (nm 1) aNil)) (cC (.int 2))) aNil)))) [.sh (.int ((n + 2 : Nat) : Int)), .sh (.lst (inL (mzN (n + 2) [1]))), s6] = .ok (.rt (plain (mzN (n + 2) [1]) (sS (mzN (n + 1) [1])))) [.sh (.int ((n + 2 : Nat) : Int)), .sh (.lst (inL (mzN (n + 2) [1]))), s6] :=
    ret_ok (tupE_ok (ac_ok (x := .lst (inL (mzN (n + 2) [1]))) rfl (a1_ok (bin_ok (y := .int 2) hsum rfl (half_ok _)))) (by simp))
  exact fn_ret rfl ((seq_nx e2).trans ((seq_nx e5).trans e6))
theorem is_self {d : D} {xs : List Int} {l : Int} (h : IsBk d xs l) (v : Val xs l) : m__law_is [d, plain xs l] = .ret (.bl true) := by
  obtain ⟨T, B, g, rfl, t⟩ := h
  exact is_ok v.l0 v.sl v.l0 v.sl v.n3 rfl rfl
/-! ### the long book -/
abbrev longR (g : Nat) : List Int := [1, 1] ++ zs g ++ [1, 1]
theorem long_rw {g : Nat} (hg : g ≤ 37) : Rw (longR g) 2 := by
  refine row_rw (by decide) (by decide) ?_ ?_ ⟨1, rfl, by decide⟩ ⟨1, by rw [show longR g = ([1, 1] ++ zs g ++ [1]) ++ [1] by simp [longR], List.getLast?_concat], by decide⟩ (fun x hx => ?_) (by simp [longR]) (by simp [longR, zs_len]; omega)
  · rw [longR, sS_cat, sS_cat, sS_zs]
    rfl
  · rw [longR, sA_cat, sA_cat, sA_zs]
    have : sA [1, 1] = 0 := rfl
    rw [this]
    omega
  · have : x = 1 ∨ x = 0 := by
      simp only [longR, List.mem_append, List.mem_cons, List.not_mem_nil, or_false] at hx
      rcases hx with (hx | hx) | hx
      · omega
      · exact .inr (List.eq_of_mem_replicate hx)
      · omega
    omega
end EV
set_option maxRecDepth 100000
/-! K06_L: the law. -/
namespace EV
open PySem
theorem b2a {ns : List Int} (hl : ns.length ≤ 63) : (aCons (bi bMin (aCons (cC (.int 63)) (aCons (lenN 0) aNil))) aNil) [.sh (.scr ns), .no] = .ok [.int (ns.length : Int)] [.sh (.scr ns), .no] := by
  have hmin : (if (ns.length : Int) < 63 then (ns.length : Int) else 63) = (ns.length : Int) := by split <;> omega
  simp [aCons, aNil, bi, cC, lenN, bLen, bMin, hmin]
theorem b2 {ns : List Int} (hl : ns.length ≤ 63) : (EV.iRng1 (aCons (bi bMin (aCons (cC (.int 63)) (aCons (lenN 0) aNil))) aNil)) [.sh (.scr ns), .no] = .ok (rngL 0 ns.length) [.sh (.scr ns), .no] :=
  rng1_ok (b2a hl) (by omega) (by omega)
theorem b3 {ns : List Int} : lcL [1] (gN 1) EV.tYes (ixN 0 (nm 1)) (rngL 0 ns.length) [.sh (.scr ns), .no] = .ok (ns.map .int) [.sh (.scr ns), .no] := by
    rw [lcL_map (f := onI fun i => .int ((ns[i.toNat]?).getD 0))]
    · rw [rngL_map (f := fun i => .int ((ns[i.toNat]?).getD 0)), ← range_get]
      simp
    · intro x hx
      obtain ⟨i, hi, rfl⟩ := mem_rngL hx
      refine ⟨[.sh (.scr ns), .sh (.int (0 + i))], _, [.sh (.scr ns), .sh (.int (0 + i))], rfl, rfl, ?_, rfl⟩
      simp [ixN, has, nm, dIx, getN_def, hi, onI]
theorem b4 {ns : List Int} (hl : ns.length ≤ 63) : (EV.lc [1] (EV.iRng1 (aCons (bi bMin (aCons (cC (.int 63)) (aCons (lenN 0) aNil))) aNil)) (gN 1) EV.tYes (ixN 0 (nm 1))) [.sh (.scr ns), .no] = .ok (.l (ns.map .int)) [.sh (.scr ns), .no] :=
    lc_ok (ε2 := [.sh (.scr ns), .no]) (b2 hl) (by rw [rngL_len]; omega) b3
theorem b5 {ns : List Int} (hl : ns.length ≤ 63) :  (aCons (frz (EV.lc [1] (EV.iRng1 (aCons (bi bMin (aCons (cC (.int 63)) (aCons (lenN 0) aNil))) aNil)) (gN 1) EV.tYes (ixN 0 (nm 1)))) (aCons (cC (.int 0)) (aCons (cC (.int 0)) (aCons (cC (.int 7919)) aNil)))) [.sh (.scr ns), .no] = .ok [.lst (ns.map .int), .int 0, .int 0, .int 7919] [.sh (.scr ns), .no] := by
    simp [aCons, frz, b4 hl, O.toD?, cC, aNil]
theorem b6 {ns : List Int} (hl : ns.length ≤ 63) : b__law_bag [.sh (.scr ns), .no] = .ok (.ro (.l [.lst (ns.map .int), .int 0, .int 0, .int 7919])) [.sh (.scr ns), .no] := by
  unfold b__law_bag EV.retO
  rw [lstO_ok (b5 hl) (by simp)]
  rfl
theorem bag_ok {ns : List Int} (hl : ns.length ≤ 63) : m__law_bag [.scr ns] = .rto (.l [.lst (ns.map .int), .int 0, .int 0, .int 7919]) := fn_rto rfl (b6 hl)
theorem intBits_bits {z : Int} {n : Nat} (h : Builtin.Int.intBits z ≤ n) : bits z ≤ n + 1 := by
  unfold Builtin.Int.intBits at h
  unfold bits
  split at h
  · rename_i hz
    have : z = 0 := by simpa using hz
    subst this
    have e : (0 : Int).natAbs.log2 = 0 := by decide
    omega
  · omega
theorem coreAt {cells : List Int} {n : Nat} {b : List D} {ε : Env} {i : Nat} {k : Option Nat} {fa : FE} (hi : ε[i]? = some (.ow k (.l b))) (hf : fa ε = .ok (.int 4) ε) (hb : Bag cells n b) (hc : ∀ c ∈ cells, bits c ≤ 1048577) (hn : n ≤ 400) :
    ∃ xs l b', callQ m__law_core_book i (aCons fa aNil) ε = .ok (plain xs l) (ε.set i (.ow k (.l b'))) ∧ Rw xs l ∧ Bag cells (n + 6) b' := by
  obtain ⟨xs, l, b', e, h2, h3⟩ := core_ok hb hc hn
  refine ⟨xs, l, b', ?_, h2, h3⟩
  unfold callQ
  rw [if_pos (has_of hi), a1_ok hf, bind_ok, hi]
  show (match m__law_core_book (.l b) [.int 4] with
    | .ret d o' => R.ok d (ε.set i (.ow k o'))
    | _ => R.bot) = _
  rw [e]
theorem knownAt {cells : List Int} {n : Nat} {b : List D} {ε : Env} {i : Nat} {k : Option Nat} (hi : ε[i]? = some (.ow k (.l b))) (hb : Bag cells n b) (hc : ∀ c ∈ cells, bits c ≤ 1048577) (hn : n ≤ 400) :
    ∃ xs l b', callQ m__law_known_book i aNil ε = .ok (plain xs l) (ε.set i (.ow k (.l b'))) ∧ Rw xs l ∧ Bag cells (n + 6) b' := by
  obtain ⟨xs, l, b', e, h2, h3⟩ := known_ok hb hc hn
  refine ⟨xs, l, b', ?_, h2, h3⟩
  unfold callQ
  rw [if_pos (has_of hi), a0_ok, bind_ok, hi]
  show (match m__law_known_book (.l b) [] with
    | .ret d o' => R.ok d (ε.set i (.ow k o'))
    | _ => R.bot) = _
  rw [e]
abbrev facL : List Int := [1, 3, 5, 2, 0, -1, 7, 9, 4, -3, 11, 13, 21, 6, -2]
theorem fac_ok {r : Int} (h0 : 0 ≤ r) (h1 : r < 15) : ∃ m, dIx (.lst (inL facL)) (.int r) = some (.int m) ∧ -100 ≤ m ∧ m ≤ 100 := by
  obtain ⟨k, rfl⟩ : ∃ k : Nat, r = k := ⟨r.toNat, by omega⟩
  have hk : k < facL.length := by
    show k < 15
    omega
  refine ⟨facL[k], getN_inL (List.getElem?_eq_getElem hk), ?_⟩
  have : ∀ m ∈ facL, -100 ≤ m ∧ m ≤ 100 := by decide
  exact this _ (List.getElem_mem hk)
/-! ### the loops -/
abbrev itm (p : D × List Int × Int) : D := .tup [p.1, plain p.2.1 p.2.2]
noncomputable abbrev inB : FS := (EV.ifS (tNot (tT (EV.call m__law_product_holds (aCons (nm 9) (aCons (nm 10) (aCons (nm 11) (aCons (nm 12) aNil)))))))
  (EV.ret (cC (.bl false)))
  sNx)
theorem t_true {fa : FE} {ε ε1 : Env} (h : fa ε = .ok (.bl true) ε1) : tNot (tT fa) ε = .ok false ε1 := not_ok (b := true) (tT_ok (x := .bl true) h rfl)
section
variable {a0 a1 a3 a4 a5 a6 a7 a8 : Slot} {m : Int}
theorem in_loop {d : D} {xs : List Int} {l : Int} (b : Bk d xs l) : ∀ (ps : List (D × List Int × Int)) (s11 s12 : Slot), (∀ p ∈ ps, Bk p.1 p.2.1 p.2.2) →
    ∃ s11' s12', forL (gT (gsCons (gN 11) (gsCons (gN 12) gsNil))) inB (ps.map itm) [a0, a1, .sh (.int m), a3, a4, a5, a6, a7, a8, .sh d, .sh (plain xs l), s11, s12] = .ok .nx [a0, a1, .sh (.int m), a3, a4, a5, a6, a7, a8, .sh d, .sh (plain xs l), s11', s12']
  | [], s11, s12, h => ⟨s11, s12, rfl⟩
  | p :: ps, s11, s12, h => by
    obtain ⟨s11', s12', e⟩ := in_loop b ps (.sh p.1) (.sh (plain p.2.1 p.2.2)) (fun q hq => h q (List.mem_cons_of_mem _ hq))
    refine ⟨s11', s12', ?_⟩
    have st : inB [a0, a1, .sh (.int m), a3, a4, a5, a6, a7, a8, .sh d, .sh (plain xs l), .sh p.1, .sh (plain p.2.1 p.2.2)] = .ok .nx [a0, a1, .sh (.int m), a3, a4, a5, a6, a7, a8, .sh d, .sh (plain xs l), .sh p.1, .sh (plain p.2.1 p.2.2)] :=
      if_nx (t_true (call_ok (ac_ok (x := d) rfl (ac_ok (x := plain xs l) rfl (ac_ok (x := p.1) rfl (a1_ok (x := plain p.2.1 p.2.2) rfl)))) (product_holds b (h p List.mem_cons_self))))
    have hg : (gT (gsCons (gN 11) (gsCons (gN 12) gsNil))) (itm p) [a0, a1, .sh (.int m), a3, a4, a5, a6, a7, a8, .sh d, .sh (plain xs l), s11, s12] = some [a0, a1, .sh (.int m), a3, a4, a5, a6, a7, a8, .sh d, .sh (plain xs l), .sh p.1, .sh (plain p.2.1 p.2.2)] := rfl
    rw [List.map_cons, forL, hg, of_some, st, bind_ok]
    exact e
noncomputable abbrev oB1 : FS := (EV.ifS (tOr (tNot (tT (EV.call m__law_slope_holds (aCons (nm 9) (aCons (nm 10) aNil))))) (tOr (tNot (tT (EV.call m__law_mean_holds (aCons (nm 9) (aCons (nm 10) aNil))))) (tNot (tT (EV.call m__law_is (aCons (EV.call m_mirror (aCons (nm 9) aNil)) (aCons (tupE (aCons (stpE (ixN 10 (cC (.int 0))) pNo pNo (pSo (un dNeg (cC (.int 1))))) (aCons (ixN 10 (cC (.int 1))) aNil))) aNil)))))))
  (EV.ret (cC (.bl false)))
  sNx)
noncomputable abbrev oB2 : FS := (EV.ifS (tOr (tNot (tT (EV.call m__law_wide_holds (aCons (nm 9) (aCons (nm 10) (aCons (nm 2) aNil)))))) (tNot (tT (EV.call m__law_wide_holds (aCons (nm 9) (aCons (nm 10) (aCons (cC (.int 1)) aNil)))))))
  (EV.ret (cC (.bl false)))
  sNx)
noncomputable abbrev outB : FS := (EV.seq oB1
  (EV.seq oB2
  (EV.forS (iSeq (nm 8)) (gT (gsCons (gN 11) (gsCons (gN 12) gsNil))) inB)))
theorem out_body {d : D} {xs : List Int} {l : Int} (hm : -100 ≤ m ∧ m ≤ 100) (b : Bk d xs l) (qs : List (D × List Int × Int)) (hq : ∀ p ∈ qs, Bk p.1 p.2.1 p.2.2) (s11 s12 : Slot) :
    ∃ s11' s12', outB [a0, a1, .sh (.int m), a3, a4, a5, a6, a7, .sh (.lst (qs.map itm)), .sh d, .sh (plain xs l), s11, s12] = .ok .nx [a0, a1, .sh (.int m), a3, a4, a5, a6, a7, .sh (.lst (qs.map itm)), .sh d, .sh (plain xs l), s11', s12'] := by
  have n2 := b.v.n2
  obtain ⟨d', m1, hd'⟩ := mirror_ok b
  have hsr : (stpE (ixN 10 (cC (.int 0))) pNo pNo (pSo (un dNeg (cC (.int 1))))) [a0, a1, .sh (.int m), a3, a4, a5, a6, a7, .sh (.lst (qs.map itm)), .sh d, .sh (plain xs l), s11, s12] = .ok (.lst (inL xs.reverse)) [a0, a1, .sh (.int m), a3, a4, a5, a6, a7, .sh (.lst (qs.map itm)), .sh d, .sh (plain xs l), s11, s12] := by
    refine stpE_ok (x := .lst (inL xs)) (lo := none) (hi := none) (st := some (-1)) (lst2_ok rfl).1 rfl rfl rfl ?_
    rw [stp_revL (fun z => by
      have := congrArg List.length z
      rw [inL_len] at this
      simp at this
      rw [this] at n2
      simp at n2)]
    unfold inL
    rw [List.map_reverse]
  have e1 : oB1 [a0, a1, .sh (.int m), a3, a4, a5, a6, a7, .sh (.lst (qs.map itm)), .sh d, .sh (plain xs l), s11, s12] = .ok .nx [a0, a1, .sh (.int m), a3, a4, a5, a6, a7, .sh (.lst (qs.map itm)), .sh d, .sh (plain xs l), s11, s12] := if_nx
    (or_f (t_true (call_ok (ac_ok (x := d) rfl (a1_ok (x := plain xs l) rfl)) (slope_holds b))) (or_f (t_true (call_ok (ac_ok (x := d) rfl (a1_ok (x := plain xs l) rfl)) (mean_holds b))) (t_true (call_ok (ac_ok (call_ok (a1_ok (x := d) rfl) m1) (a1_ok (tupE_ok (ac_ok hsr (a1_ok (x := .int l) (lst2_ok (i := 10) (xs := xs) rfl).2)) (by simp)))) (is_self hd' (val_rev b.v))))))
  have e2 : oB2 [a0, a1, .sh (.int m), a3, a4, a5, a6, a7, .sh (.lst (qs.map itm)), .sh d, .sh (plain xs l), s11, s12] = .ok .nx [a0, a1, .sh (.int m), a3, a4, a5, a6, a7, .sh (.lst (qs.map itm)), .sh d, .sh (plain xs l), s11, s12] := if_nx
    (or_f (t_true (call_ok (ac_ok (x := d) rfl (ac_ok (x := plain xs l) rfl (a1_ok (x := .int m) rfl))) (wide_holds b hm))) (t_true (call_ok (ac_ok (x := d) rfl (ac_ok (x := plain xs l) rfl (a1_ok (x := .int 1) rfl))) (wide_holds b (m := 1) ⟨by decide, by decide⟩))))
  obtain ⟨s11', s12', e3⟩ := in_loop (a0 := a0) (a1 := a1) (a3 := a3) (a4 := a4) (a5 := a5) (a6 := a6) (a7 := a7) (a8 := .sh (.lst (qs.map itm))) (m := m) b qs s11 s12 hq
  refine ⟨s11', s12', (seq_nx e1).trans ((seq_nx e2).trans ?_)⟩
  unfold EV.forS
  exact e3
theorem out_loop (hm : -100 ≤ m ∧ m ≤ 100) (qs : List (D × List Int × Int)) (hq : ∀ p ∈ qs, Bk p.1 p.2.1 p.2.2) : ∀ (ps : List (D × List Int × Int)) (s9 s10 s11 s12 : Slot), (∀ p ∈ ps, Bk p.1 p.2.1 p.2.2) →
    ∃ s9' s10' s11' s12', forL (gT (gsCons (gN 9) (gsCons (gN 10) gsNil))) outB (ps.map itm) [a0, a1, .sh (.int m), a3, a4, a5, a6, a7, .sh (.lst (qs.map itm)), s9, s10, s11, s12] = .ok .nx [a0, a1, .sh (.int m), a3, a4, a5, a6, a7, .sh (.lst (qs.map itm)), s9', s10', s11', s12']
  | [], s9, s10, s11, s12, h => ⟨s9, s10, s11, s12, rfl⟩
  | p :: ps, s9, s10, s11, s12, h => by
    obtain ⟨t11, t12, st⟩ := out_body (a0 := a0) (a1 := a1) (a3 := a3) (a4 := a4) (a5 := a5) (a6 := a6) (a7 := a7) (m := m) hm (h p List.mem_cons_self) qs hq s11 s12
    obtain ⟨s9', s10', s11', s12', e⟩ := out_loop hm qs hq ps (.sh p.1) (.sh (plain p.2.1 p.2.2)) t11 t12 (fun q hq => h q (List.mem_cons_of_mem _ hq))
    refine ⟨s9', s10', s11', s12', ?_⟩
    have hg : (gT (gsCons (gN 9) (gsCons (gN 10) gsNil))) (itm p) [a0, a1, .sh (.int m), a3, a4, a5, a6, a7, .sh (.lst (qs.map itm)), s9, s10, s11, s12] = some [a0, a1, .sh (.int m), a3, a4, a5, a6, a7, .sh (.lst (qs.map itm)), .sh p.1, .sh (plain p.2.1 p.2.2), s11, s12] := rfl
    rw [List.map_cons, forL, hg, of_some, st, bind_ok]
    exact e
noncomputable abbrev lastB : FS := (EV.ifS (tNot (tT (EV.call m__law_is (aCons (nm 9) (aCons (nm 10) aNil)))))
  (EV.ret (cC (.bl false)))
  sNx)
theorem last_loop {a8 a11 a12 : Slot} : ∀ (ps : List (D × List Int × Int)) (s9 s10 : Slot), (∀ p ∈ ps, Bk p.1 p.2.1 p.2.2) →
    ∃ s9' s10', forL (gT (gsCons (gN 9) (gsCons (gN 10) gsNil))) lastB (ps.map itm) [a0, a1, .sh (.int m), a3, a4, a5, a6, a7, a8, s9, s10, a11, a12] = .ok .nx [a0, a1, .sh (.int m), a3, a4, a5, a6, a7, a8, s9', s10', a11, a12]
  | [], s9, s10, h => ⟨s9, s10, rfl⟩
  | p :: ps, s9, s10, h => by
    obtain ⟨s9', s10', e⟩ := last_loop ps (.sh p.1) (.sh (plain p.2.1 p.2.2)) (fun q hq => h q (List.mem_cons_of_mem _ hq))
    refine ⟨s9', s10', ?_⟩
    have b := h p List.mem_cons_self
    have st : lastB [a0, a1, .sh (.int m), a3, a4, a5, a6, a7, a8, .sh p.1, .sh (plain p.2.1 p.2.2), a11, a12] = .ok .nx [a0, a1, .sh (.int m), a3, a4, a5, a6, a7, a8, .sh p.1, .sh (plain p.2.1 p.2.2), a11, a12] :=
      if_nx (t_true (call_ok (ac_ok (x := p.1) rfl (a1_ok (x := plain p.2.1 p.2.2) rfl)) (is_self b.bk b.v)))
    have hg : (gT (gsCons (gN 9) (gsCons (gN 10) gsNil))) (itm p) [a0, a1, .sh (.int m), a3, a4, a5, a6, a7, a8, s9, s10, a11, a12] = some [a0, a1, .sh (.int m), a3, a4, a5, a6, a7, a8, .sh p.1, .sh (plain p.2.1 p.2.2), a11, a12] := rfl
    rw [List.map_cons, forL, hg, of_some, st, bind_ok]
    exact e
end
theorem rep0' {n : Nat} (h : n ≤ 1000) (i : Nat) (ε : Env) (g : Int) (hg : g = ((n : Nat) : Int) + 2) (hi : nm i ε = .ok (.int g) ε) :
    (bin dAdd (bin dAdd (frz (lstO (aCons (cC (.int 1)) (aCons (cC (.int 1)) aNil)))) (bin dMul (frz (lstO (aCons (cC (.int 0)) aNil))) (bin dSub (nm i) (cC (.int 2))))) (frz (lstO (aCons (cC (.int 1)) (aCons (cC (.int 1)) aNil))))) ε = .ok (.lst (inL (longR n))) ε := by
  have e1 : g - 2 = ((n : Nat) : Int) := by omega
  have p1 : (bin dMul (frz (lstO (aCons (cC (.int 0)) aNil))) (bin dSub (nm i) (cC (.int 2)))) ε = .ok (.lst (inL (zs n))) ε :=
    bin_ok (x := .lst [.int 0]) (y := .int (g - 2)) (frz_ok (lstO_ok rfl (by simp))) (bin_ok (x := .int g) (y := .int 2) hi rfl rfl) (by rw [e1]; exact repE_ok (by omega))
  have p2 := bin_ok (g := dAdd) (lst11 (ε := ε)) p1 (catE_ok (by simp only [inL_len, zs_len, List.length_cons, List.length_nil]; omega))
  have p3 := bin_ok (g := dAdd) p2 (lst11 (ε := ε)) (catE_ok (by simp only [List.length_append, inL_len, zs_len, List.length_cons, List.length_nil]; omega))
  rw [p3]
  congr 2
  unfold inL longR
  rw [List.map_append, List.map_append]
theorem law_true (ns : List Int) (hl : ns.length ≤ 63) (hz : ∀ z ∈ ns, Builtin.Int.intBits z ≤ 1048576) : m_law [.scr ns] = .ret (.bl true) := by
  have hc : ∀ c ∈ ns, bits c ≤ 1048577 := fun c h => intBits_bits (hz c h)
  have B0 : Bag ns 0 [.lst (ns.map .int), .int 0, .int 0, .int 7919] := ⟨0, 0, 7919, rfl, by decide, by decide, by decide, by decide, by decide⟩
  generalize hb0 : [D.lst (ns.map .int), .int 0, .int 0, .int 7919] = b0 at B0
  have st1 : (asgO 1 (callO m__law_bag (aCons (nm 0) aNil))) [.sh (.scr ns), .no, .no, .no, .no, .no, .no, .no, .no, .no, .no, .no, .no] = .ok .nx [.sh (.scr ns), .ow none (.l b0), .no, .no, .no, .no, .no, .no, .no, .no, .no, .no, .no] := by
    refine asgO_ok (o := .l b0) (ε1 := [.sh (.scr ns), .no, .no, .no, .no, .no, .no, .no, .no, .no, .no, .no, .no]) ?_
    unfold callO
    rw [a1_ok (x := .scr ns) (ε1 := [.sh (.scr ns), .no, .no, .no, .no, .no, .no, .no, .no, .no, .no, .no, .no]) (nm_ok rfl), bind_ok, bag_ok hl, hb0]
    rfl
  obtain ⟨r1, b1, d1, u1, v1, B1⟩ := drawAt (ε := [.sh (.scr ns), .ow none (.l b0), .no, .no, .no, .no, .no, .no, .no, .no, .no, .no, .no]) (i := 1) (k := none) (size := 15) (fa := cC (.int 15)) rfl rfl B0 hc (by omega) (by omega) (by omega)
  obtain ⟨m, hm, m1, m2⟩ := fac_ok u1 v1
  have st2 : (asg (gN 2) (bin dIx (frz (lstO (aCons (cC (.int 1)) (aCons (cC (.int 3)) (aCons (cC (.int 5)) (aCons (cC (.int 2)) (aCons (cC (.int 0)) (aCons (un dNeg (cC (.int 1))) (aCons (cC (.int 7)) (aCons (cC (.int 9)) (aCons (cC (.int 4)) (aCons (un dNeg (cC (.int 3))) (aCons (cC (.int 11)) (aCons (cC (.int 13)) (aCons (cC (.int 21)) (aCons (cC (.int 6)) (aCons (un dNeg (cC (.int 2))) aNil))))))))))))))))) (callQ m__law_draw 1 (aCons (cC (.int 15)) aNil)))) [.sh (.scr ns), .ow none (.l b0), .no, .no, .no, .no, .no, .no, .no, .no, .no, .no, .no] =
      .ok .nx [.sh (.scr ns), .ow none (.l b1), .sh (.int m), .no, .no, .no, .no, .no, .no, .no, .no, .no, .no] :=
    asg_ok (bin_ok (x := .lst (inL facL)) (frz_ok (lstO_ok rfl (by simp))) d1 hm)
  obtain ⟨r2, b2, d2, u2, v2, B2⟩ := drawAt (ε := [.sh (.scr ns), .ow none (.l b1), .sh (.int m), .no, .no, .no, .no, .no, .no, .no, .no, .no, .no]) (i := 1) (k := none) (size := 39) (fa := cC (.int 39)) rfl rfl B1 hc (by omega) (by omega) (by omega)
  obtain ⟨sz, hsz⟩ : ∃ sz : Nat, 2 + r2 = ((sz + 2 : Nat) : Int) := ⟨r2.toNat, by omega⟩
  have hsz39 : sz < 39 := by omega
  have st3 : (asg (gN 3) (bin dAdd (cC (.int 2)) (callQ m__law_draw 1 (aCons (cC (.int 39)) aNil)))) [.sh (.scr ns), .ow none (.l b1), .sh (.int m), .no, .no, .no, .no, .no, .no, .no, .no, .no, .no] = .ok .nx [.sh (.scr ns), .ow none (.l b2), .sh (.int m), .sh (.int ((sz + 2 : Nat) : Int)), .no, .no, .no, .no, .no, .no, .no, .no, .no] := by
    rw [← hsz]
    exact asg_ok (bin_ok (x := .int 2) rfl d2 rfl)
  obtain ⟨r3, b3, d3, u3, v3, B3⟩ := drawAt (ε := [.sh (.scr ns), .ow none (.l b2), .sh (.int m), .sh (.int ((sz + 2 : Nat) : Int)), .no, .no, .no, .no, .no, .no, .no, .no, .no]) (i := 1) (k := none) (size := 5) (fa := cC (.int 5)) rfl rfl B2 hc (by omega) (by omega) (by omega)
  obtain ⟨gp, hgp⟩ : ∃ gp : Nat, 35 + r3 = ((gp : Nat) : Int) + 2 := ⟨(33 + r3).toNat, by omega⟩
  have st4 : (asg (gN 4) (bin dAdd (cC (.int 35)) (callQ m__law_draw 1 (aCons (cC (.int 5)) aNil)))) [.sh (.scr ns), .ow none (.l b2), .sh (.int m), .sh (.int ((sz + 2 : Nat) : Int)), .no, .no, .no, .no, .no, .no, .no, .no, .no] = .ok .nx [.sh (.scr ns), .ow none (.l b3), .sh (.int m), .sh (.int ((sz + 2 : Nat) : Int)), .sh (.int (35 + r3)), .no, .no, .no, .no, .no, .no, .no, .no] := asg_ok (bin_ok (x := .int 35) rfl d3 rfl)
  obtain ⟨xs1, l1, b4, d4, R1, B4⟩ := coreAt (ε := [.sh (.scr ns), .ow none (.l b3), .sh (.int m), .sh (.int ((sz + 2 : Nat) : Int)), .sh (.int (35 + r3)), .no, .no, .no, .no, .no, .no, .no, .no]) (i := 1) (k := none) (fa := cC (.int 4)) rfl rfl B3 hc (by omega)
  have st5 : (asg (gN 5) (callQ m__law_core_book 1 (aCons (cC (.int 4)) aNil))) [.sh (.scr ns), .ow none (.l b3), .sh (.int m), .sh (.int ((sz + 2 : Nat) : Int)), .sh (.int (35 + r3)), .no, .no, .no, .no, .no, .no, .no, .no] = .ok .nx [.sh (.scr ns), .ow none (.l b4), .sh (.int m), .sh (.int ((sz + 2 : Nat) : Int)), .sh (.int (35 + r3)), .sh (plain xs1 l1), .no, .no, .no, .no, .no, .no, .no] := asg_ok d4
  obtain ⟨r5, b5, d5, u5, v5, B5⟩ := drawAt (ε := [.sh (.scr ns), .ow none (.l b4), .sh (.int m), .sh (.int ((sz + 2 : Nat) : Int)), .sh (.int (35 + r3)), .sh (plain xs1 l1), .no, .no, .no, .no, .no, .no, .no]) (i := 1) (k := none) (size := 2) (fa := cC (.int 2)) rfl rfl B4 hc (by omega) (by omega) (by omega)
  have st6 : ∃ xs2 l2 b6, Rw xs2 l2 ∧ (asg (gN 6) (ifE (tT (callQ m__law_draw 1 (aCons (cC (.int 2)) aNil))) (callQ m__law_known_book 1 aNil) (callQ m__law_core_book 1 (aCons (cC (.int 4)) aNil)))) [.sh (.scr ns), .ow none (.l b4), .sh (.int m), .sh (.int ((sz + 2 : Nat) : Int)), .sh (.int (35 + r3)), .sh (plain xs1 l1), .no, .no, .no, .no, .no, .no, .no] =
      .ok .nx [.sh (.scr ns), .ow none (.l b6), .sh (.int m), .sh (.int ((sz + 2 : Nat) : Int)), .sh (.int (35 + r3)), .sh (plain xs1 l1), .sh (plain xs2 l2), .no, .no, .no, .no, .no, .no] := by
    by_cases h : r5 = 0
    · obtain ⟨xs2, l2, b6, d6, R2, B6⟩ := coreAt (ε := [.sh (.scr ns), .ow none (.l b5), .sh (.int m), .sh (.int ((sz + 2 : Nat) : Int)), .sh (.int (35 + r3)), .sh (plain xs1 l1), .no, .no, .no, .no, .no, .no, .no]) (i := 1) (k := none) (fa := cC (.int 4)) rfl rfl B5 hc (by omega)
      exact ⟨xs2, l2, b6, R2, asg_ok ((ifE_f (tT_ok d5 (by rw [h]; rfl))).trans d6)⟩
    · obtain ⟨xs2, l2, b6, d6, R2, B6⟩ := knownAt (ε := [.sh (.scr ns), .ow none (.l b5), .sh (.int m), .sh (.int ((sz + 2 : Nat) : Int)), .sh (.int (35 + r3)), .sh (plain xs1 l1), .no, .no, .no, .no, .no, .no, .no]) (i := 1) (k := none) rfl B5 hc (by omega)
      have : tru (.int r5) = some true := by
        show some (r5 != 0) = _
        simp [h]
      exact ⟨xs2, l2, b6, R2, asg_ok ((ifE_t (tT_ok d5 this)).trans d6)⟩
  obtain ⟨xs2, l2, b6, R2, st6⟩ := st6
  have R3 := long_rw (g := gp) (by omega)
  have st7 : (asg (gN 7) (tupE (aCons (bin dAdd (bin dAdd (frz (lstO (aCons (cC (.int 1)) (aCons (cC (.int 1)) aNil)))) (bin dMul (frz (lstO (aCons (cC (.int 0)) aNil))) (bin dSub (nm 4) (cC (.int 2))))) (frz (lstO (aCons (cC (.int 1)) (aCons (cC (.int 1)) aNil))))) (aCons (cC (.int 2)) aNil)))) [.sh (.scr ns), .ow none (.l b6), .sh (.int m), .sh (.int ((sz + 2 : Nat) : Int)), .sh (.int (35 + r3)), .sh (plain xs1 l1), .sh (plain xs2 l2), .no, .no, .no, .no, .no, .no] =
      .ok .nx [.sh (.scr ns), .ow none (.l b6), .sh (.int m), .sh (.int ((sz + 2 : Nat) : Int)), .sh (.int (35 + r3)), .sh (plain xs1 l1), .sh (plain xs2 l2), .sh (plain (longR gp) 2), .no, .no, .no, .no, .no] :=
    asg_ok (tupE_ok (ac_ok (rep0' (by omega) 4 _ (35 + r3) hgp (nm_ok rfl)) (a1_ok (x := .int 2) rfl)) (by simp))
  obtain ⟨k1, w1, W1⟩ := law_book_ok R1.v R1.n41 R1.sz R1.lz
  obtain ⟨k2, w2, W2⟩ := law_book_ok R2.v R2.n41 R2.sz R2.lz
  obtain ⟨k3, w3, W3⟩ := law_book_ok R3.v R3.n41 R3.sz R3.lz
  generalize hqs : [(k1, xs1, l1), (k2, xs2, l2), (k3, longR gp, (2 : Int))] = qs
  have hq : ∀ p ∈ qs, Bk p.1 p.2.1 p.2.2 := by
    intro p hp
    rw [← hqs] at hp
    simp only [List.mem_cons, List.not_mem_nil, or_false] at hp
    rcases hp with rfl | rfl | rfl
    · exact W1
    · exact W2
    · exact W3
  have st8 : (asgO 8 (lstO (aCons (tupE (aCons (EV.call m__law_book (aCons (nm 5) aNil)) (aCons (nm 5) aNil))) (aCons (tupE (aCons (EV.call m__law_book (aCons (nm 6) aNil)) (aCons (nm 6) aNil))) (aCons (tupE (aCons (EV.call m__law_book (aCons (nm 7) aNil)) (aCons (nm 7) aNil))) aNil))))) [.sh (.scr ns), .ow none (.l b6), .sh (.int m), .sh (.int ((sz + 2 : Nat) : Int)), .sh (.int (35 + r3)), .sh (plain xs1 l1), .sh (plain xs2 l2), .sh (plain (longR gp) 2), .no, .no, .no, .no, .no] =
      .ok .nx [.sh (.scr ns), .ow none (.l b6), .sh (.int m), .sh (.int ((sz + 2 : Nat) : Int)), .sh (.int (35 + r3)), .sh (plain xs1 l1), .sh (plain xs2 l2), .sh (plain (longR gp) 2), .ow none (.l (qs.map itm)), .no, .no, .no, .no] := by
    have p1 : (tupE (aCons (EV.call m__law_book (aCons (nm 5) aNil)) (aCons (nm 5) aNil))) [.sh (.scr ns), .ow none (.l b6), .sh (.int m), .sh (.int ((sz + 2 : Nat) : Int)), .sh (.int (35 + r3)), .sh (plain xs1 l1), .sh (plain xs2 l2), .sh (plain (longR gp) 2), .no, .no, .no, .no, .no] = .ok (itm (k1, xs1, l1)) [.sh (.scr ns), .ow none (.l b6), .sh (.int m), .sh (.int ((sz + 2 : Nat) : Int)), .sh (.int (35 + r3)), .sh (plain xs1 l1), .sh (plain xs2 l2), .sh (plain (longR gp) 2), .no, .no, .no, .no, .no] := tupE_ok (ac_ok (call_ok (a1_ok (x := plain xs1 l1) (nm_ok rfl)) w1) (a1_ok (x := plain xs1 l1) (nm_ok rfl))) (by simp)
    have p2 : (tupE (aCons (EV.call m__law_book (aCons (nm 6) aNil)) (aCons (nm 6) aNil))) [.sh (.scr ns), .ow none (.l b6), .sh (.int m), .sh (.int ((sz + 2 : Nat) : Int)), .sh (.int (35 + r3)), .sh (plain xs1 l1), .sh (plain xs2 l2), .sh (plain (longR gp) 2), .no, .no, .no, .no, .no] = .ok (itm (k2, xs2, l2)) [.sh (.scr ns), .ow none (.l b6), .sh (.int m), .sh (.int ((sz + 2 : Nat) : Int)), .sh (.int (35 + r3)), .sh (plain xs1 l1), .sh (plain xs2 l2), .sh (plain (longR gp) 2), .no, .no, .no, .no, .no] := tupE_ok (ac_ok (call_ok (a1_ok (x := plain xs2 l2) (nm_ok rfl)) w2) (a1_ok (x := plain xs2 l2) (nm_ok rfl))) (by simp)
    have p3 : (tupE (aCons (EV.call m__law_book (aCons (nm 7) aNil)) (aCons (nm 7) aNil))) [.sh (.scr ns), .ow none (.l b6), .sh (.int m), .sh (.int ((sz + 2 : Nat) : Int)), .sh (.int (35 + r3)), .sh (plain xs1 l1), .sh (plain xs2 l2), .sh (plain (longR gp) 2), .no, .no, .no, .no, .no] = .ok (itm (k3, longR gp, 2)) [.sh (.scr ns), .ow none (.l b6), .sh (.int m), .sh (.int ((sz + 2 : Nat) : Int)), .sh (.int (35 + r3)), .sh (plain xs1 l1), .sh (plain xs2 l2), .sh (plain (longR gp) 2), .no, .no, .no, .no, .no] := tupE_ok (ac_ok (call_ok (a1_ok (x := plain (longR gp) 2) (nm_ok rfl)) w3) (a1_ok (x := plain (longR gp) 2) (nm_ok rfl))) (by simp)
    rw [← hqs]
    exact asgO_ok (lstO_ok (ac_ok p1 (ac_ok p2 (a1_ok p3))) (by simp))
  obtain ⟨s9, s10, s11, s12, e9⟩ := out_loop (a0 := .sh (.scr ns)) (a1 := .ow none (.l b6)) (a3 := .sh (.int ((sz + 2 : Nat) : Int))) (a4 := .sh (.int (35 + r3))) (a5 := .sh (plain xs1 l1)) (a6 := .sh (plain xs2 l2)) (a7 := .sh (plain (longR gp) 2)) (m := m) ⟨m1, m2⟩ qs hq qs .no .no .no .no hq
  have st9 : (EV.forS (iSeq (nm 8)) (gT (gsCons (gN 9) (gsCons (gN 10) gsNil))) outB) [.sh (.scr ns), .ow none (.l b6), .sh (.int m), .sh (.int ((sz + 2 : Nat) : Int)), .sh (.int (35 + r3)), .sh (plain xs1 l1), .sh (plain xs2 l2), .sh (plain (longR gp) 2), .ow none (.l (qs.map itm)), .no, .no, .no, .no] =
      .ok .nx [.sh (.scr ns), .ow none (.l b6), .sh (.int m), .sh (.int ((sz + 2 : Nat) : Int)), .sh (.int (35 + r3)), .sh (plain xs1 l1), .sh (plain xs2 l2), .sh (plain (longR gp) 2), .sh (.lst (qs.map itm)), s9, s10, s11, s12] := by
    unfold EV.forS
    exact e9
  obtain ⟨t9, t10, e10⟩ := last_loop (a0 := .sh (.scr ns)) (a1 := .ow none (.l b6)) (a3 := .sh (.int ((sz + 2 : Nat) : Int))) (a4 := .sh (.int (35 + r3))) (a5 := .sh (plain xs1 l1)) (a6 := .sh (plain xs2 l2)) (a7 := .sh (plain (longR gp) 2)) (a8 := .sh (.lst (qs.map itm))) (a11 := s11) (a12 := s12) (m := m) qs s9 s10 hq
  have st10 : (EV.forS (iSeq (nm 8)) (gT (gsCons (gN 9) (gsCons (gN 10) gsNil))) lastB) [.sh (.scr ns), .ow none (.l b6), .sh (.int m), .sh (.int ((sz + 2 : Nat) : Int)), .sh (.int (35 + r3)), .sh (plain xs1 l1), .sh (plain xs2 l2), .sh (plain (longR gp) 2), .sh (.lst (qs.map itm)), s9, s10, s11, s12] =
      .ok .nx [.sh (.scr ns), .ow none (.l b6), .sh (.int m), .sh (.int ((sz + 2 : Nat) : Int)), .sh (.int (35 + r3)), .sh (plain xs1 l1), .sh (plain xs2 l2), .sh (plain (longR gp) 2), .sh (.lst (qs.map itm)), t9, t10, s11, s12] := by
    unfold EV.forS
    exact e10
  obtain ⟨c1, f1, g1⟩ := corner_ok hsz39
  obtain ⟨c2, f2, g2⟩ := corner_ok (n := 0) (by decide)
  have i1 := is_self g1 (val_corner sz hsz39)
  have i2 := is_self g2 (val_corner 0 (by decide))
  have q1 : (EV.call m__law_is (aCons (EV.call m_corner (aCons (nm 3) aNil)) (aCons (EV.call m__law_corner (aCons (nm 3) aNil)) aNil))) [.sh (.scr ns), .ow none (.l b6), .sh (.int m), .sh (.int ((sz + 2 : Nat) : Int)), .sh (.int (35 + r3)), .sh (plain xs1 l1), .sh (plain xs2 l2), .sh (plain (longR gp) 2), .sh (.lst (qs.map itm)), t9, t10, s11, s12] =
      .ok (.bl true) [.sh (.scr ns), .ow none (.l b6), .sh (.int m), .sh (.int ((sz + 2 : Nat) : Int)), .sh (.int (35 + r3)), .sh (plain xs1 l1), .sh (plain xs2 l2), .sh (plain (longR gp) 2), .sh (.lst (qs.map itm)), t9, t10, s11, s12] :=
    call_ok (ac_ok (call_ok (a1_ok (x := .int ((sz + 2 : Nat) : Int)) (nm_ok rfl)) f1) (a1_ok (call_ok (a1_ok (x := .int ((sz + 2 : Nat) : Int)) (nm_ok rfl)) (law_corner_ok hsz39)))) i1
  have q2 : (EV.call m__law_is (aCons (EV.call m_corner (aCons (cC (.int 2)) aNil)) (aCons (tupE (aCons (frz (lstO (aCons (cC (.int 1)) (aCons (cC (.int 2)) (aCons (cC (.int 1)) aNil))))) (aCons (cC (.int 2)) aNil))) aNil))) [.sh (.scr ns), .ow none (.l b6), .sh (.int m), .sh (.int ((sz + 2 : Nat) : Int)), .sh (.int (35 + r3)), .sh (plain xs1 l1), .sh (plain xs2 l2), .sh (plain (longR gp) 2), .sh (.lst (qs.map itm)), t9, t10, s11, s12] =
      .ok (.bl true) [.sh (.scr ns), .ow none (.l b6), .sh (.int m), .sh (.int ((sz + 2 : Nat) : Int)), .sh (.int (35 + r3)), .sh (plain xs1 l1), .sh (plain xs2 l2), .sh (plain (longR gp) 2), .sh (.lst (qs.map itm)), t9, t10, s11, s12] :=
    call_ok (ac_ok (call_ok (a1_ok (x := .int 2) rfl) f2) (a1_ok (tupE_ok (xs := [.lst (inL [1, 2, 1]), .int 2]) (ac_ok (frz_ok (lstO_ok (xs := inL [1, 2, 1]) rfl (by decide))) (a1_ok (x := .int 2) rfl)) (by simp)))) i2
  exact fn_ret rfl ((seq_nx st1).trans ((seq_nx st2).trans ((seq_nx st3).trans ((seq_nx st4).trans ((seq_nx st5).trans ((seq_nx st6).trans ((seq_nx st7).trans ((seq_nx st8).trans ((seq_nx st9).trans ((seq_nx st10).trans (ret_ok ((and_tt q1).trans q2))))))))))))
end EV
set_option maxRecDepth 100000
set_option maxHeartbeats 4000000
namespace EV
open PySem L2
def topS (i : Nat) : Stmt := PySem.Challenge.pw_everystretch_k06_relatives.main.body.getD i (.Pass ⟨0, 0, 0, 0⟩)
abbrev s__law_bag : Stmt := topS 45
abbrev s__law_draw : Stmt := topS 46
abbrev s__law_parts : Stmt := topS 54
abbrev s__law_times : Stmt := topS 53
abbrev s__law_core_book : Stmt := topS 55
abbrev s__law_known_book : Stmt := topS 56
abbrev s_check_length : Stmt := topS 16
abbrev s_digits_from : Stmt := topS 18
abbrev s_top_fault : Stmt := topS 19
abbrev s_bottom_fault : Stmt := topS 20
abbrev s_number_fault : Stmt := topS 21
abbrev s_word_pair : Stmt := topS 23
abbrev s_read_pair : Stmt := topS 24
abbrev s_is_integer : Stmt := topS 26
abbrev s_Ratio_init : Stmt := inClass (topS 28) 0
abbrev s_number : Stmt := topS 29
abbrev s_tops_of_ratios : Stmt := topS 3
abbrev s_book_fault : Stmt := topS 33
abbrev s_check_reach : Stmt := topS 34
abbrev s_Book_init : Stmt := inClass (topS 36) 0
abbrev s__law_lowest : Stmt := topS 47
abbrev s__law_pairs_of : Stmt := topS 57
abbrev s__law_word : Stmt := topS 51
abbrev s__law_book : Stmt := topS 59
abbrev s__law_halved : Stmt := topS 58
abbrev s_Book_over_one_bottom : Stmt := inClass (topS 36) 3
abbrev s_by_one_plus : Stmt := topS 7
abbrev s_ratios : Stmt := topS 30
abbrev s_made_book : Stmt := topS 37
abbrev s_slope : Stmt := topS 38
abbrev s__law_is_bad : Stmt := topS 62
abbrev s__law_is_int : Stmt := topS 48
abbrev s__law_pair : Stmt := topS 49
abbrev s__law_pairs : Stmt := topS 50
abbrev s__law_is : Stmt := topS 60
abbrev s__law_slope_holds : Stmt := topS 63
abbrev s_tops_product : Stmt := topS 4
abbrev s_mean : Stmt := topS 39
abbrev s__law_many : Stmt := topS 61
abbrev s__law_mean_holds : Stmt := topS 64
abbrev s_mirror : Stmt := topS 40
abbrev s_tops_spread : Stmt := topS 5
abbrev s_wide : Stmt := topS 42
abbrev s__law_wide_holds : Stmt := topS 66
abbrev s_product : Stmt := topS 41
abbrev s__law_product_holds : Stmt := topS 65
abbrev s__law_corner : Stmt := topS 67
abbrev s_corner : Stmt := topS 43
abbrev s_law : Stmt := topS 68
abbrev s_BadBook_init : Stmt := inClass (topS 10) 0
abbrev s_TooMany_init : Stmt := inClass (topS 11) 0
structure Fx (K : PySem.W.Frag) (mg : Str → Option Value) (T : Tb) (xa : Nat → Addr) : Prop where
  hK : T.K = K
  al : ∀ c, IsC K (T.ad c)
  n_ValueError : mg "ValueError" = none
  n_abs : mg "abs" = none
  n_bool : mg "bool" = none
  i_comb : mg "comb" = some (.builtin "math.comb")
  n_enumerate : mg "enumerate" = none
  i_gcd : mg "gcd" = some (.builtin "math.gcd")
  n_int : mg "int" = none
  n_isinstance : mg "isinstance" = none
  i_lcm : mg "lcm" = some (.builtin "math.lcm")
  n_len : mg "len" = none
  n_min : mg "min" = none
  n_range : mg "range" = none
  n_str : mg "str" = none
  n_sum : mg "sum" = none
  n_tuple : mg "tuple" = none
  k_DIGITS : ∃ t, mg "DIGITS" = some (.str "0123456789" t)
  k_DIGIT_LIMIT : ∃ t, mg "DIGIT_LIMIT" = some (.int 400 t)
  k_REACH_LIMIT : ∃ t, mg "REACH_LIMIT" = some (.int 40 t)
  k_TEXT_LIMIT : ∃ t, mg "TEXT_LIMIT" = some (.int 200000 t)
  g_Ratio : mg "Ratio" = some (.ref (T.ad 0))
  kc_Ratio : KitC K T 2 0
  nm_Ratio : T.nm 0 = (["top", "bottom"] : List Str)
  na_Ratio_top : NoAttr K (T.ad 0) "top"
  na_Ratio_bottom : NoAttr K (T.ad 0) "bottom"
  in_Ratio : ∃ (f : Addr) (fd : FuncData), Mk K (T.ad 0) f ∧ FunB K "__init__" "Ratio.__init__" s_Ratio_init f fd (["self", "top", "bottom"] : List Str)
  g_Book : mg "Book" = some (.ref (T.ad 1))
  kc_Book : KitC K T 2 1
  nm_Book : T.nm 1 = (["numbers", "reach", "_tops", "_bottom", "_kept_calm", "_kept_tame", "_kept_column"] : List Str)
  na_Book_numbers : NoAttr K (T.ad 1) "numbers"
  na_Book_reach : NoAttr K (T.ad 1) "reach"
  na_Book__tops : NoAttr K (T.ad 1) "_tops"
  na_Book__bottom : NoAttr K (T.ad 1) "_bottom"
  na_Book__kept_calm : NoAttr K (T.ad 1) "_kept_calm"
  na_Book__kept_tame : NoAttr K (T.ad 1) "_kept_tame"
  na_Book__kept_column : NoAttr K (T.ad 1) "_kept_column"
  in_Book : ∃ (f : Addr) (fd : FuncData), Mk K (T.ad 1) f ∧ FunB K "__init__" "Book.__init__" s_Book_init f fd (["self", "numbers"] : List Str)
  hxa : ∀ c, T.xc c = .ref (xa c)
  g_BadBook : mg "BadBook" = some (.ref (xa 0))
  x0_BadBook : XC0 K (xa 0)
  xs_BadBook_BadBook : PySem.W.subIn K (.ref (xa 0)) (.ref (xa 0)) = some true
  xs_TooMany_BadBook : PySem.W.subIn K (.ref (xa 1)) (.ref (xa 0)) = some false
  xe_TooMany_BadBook : xa 1 ≠ xa 0
  xm_BadBook : T.xn 0 = (["why"] : List Str)
  xna_BadBook_why : PySem.W.findIn K (.ref (xa 0)) "why" = some none
  xin_BadBook : ∃ (f : Addr) (fd : FuncData), PySem.W.findIn K (.ref (xa 0)) "__init__" = some (some (.ref f)) ∧ PySem.W.typeIn K (.ref f) = some (.type "function") ∧ Fun K "__init__" "BadBook.__init__" s_BadBook_init f fd
  g_TooMany : mg "TooMany" = some (.ref (xa 1))
  x0_TooMany : XC0 K (xa 1)
  xs_BadBook_TooMany : PySem.W.subIn K (.ref (xa 0)) (.ref (xa 1)) = some false
  xe_BadBook_TooMany : xa 0 ≠ xa 1
  xs_TooMany_TooMany : PySem.W.subIn K (.ref (xa 1)) (.ref (xa 1)) = some true
  xm_TooMany : T.xn 1 = (["count", "what"] : List Str)
  xna_TooMany_what : PySem.W.findIn K (.ref (xa 1)) "what" = some none
  xna_TooMany_count : PySem.W.findIn K (.ref (xa 1)) "count" = some none
  xin_TooMany : ∃ (f : Addr) (fd : FuncData), PySem.W.findIn K (.ref (xa 1)) "__init__" = some (some (.ref f)) ∧ PySem.W.typeIn K (.ref f) = some (.type "function") ∧ Fun K "__init__" "TooMany.__init__" s_TooMany_init f fd
  g_BadNumber : mg "BadNumber" = some (.ref (xa 2))
  x0_BadNumber : XC0 K (xa 2)
  xs_BadBook_BadNumber : PySem.W.subIn K (.ref (xa 0)) (.ref (xa 2)) = some false
  xe_BadBook_BadNumber : xa 0 ≠ xa 2
  xs_TooMany_BadNumber : PySem.W.subIn K (.ref (xa 1)) (.ref (xa 2)) = some false
  xe_TooMany_BadNumber : xa 1 ≠ xa 2
  r__law_bag : ∃ (f : Addr) (fd : FuncData), mg "_law_bag" = some (.ref f) ∧ Fun K "_law_bag" "_law_bag" s__law_bag f fd
  r__law_draw : ∃ (f : Addr) (fd : FuncData), mg "_law_draw" = some (.ref f) ∧ Fun K "_law_draw" "_law_draw" s__law_draw f fd
  r__law_parts : ∃ (f : Addr) (fd : FuncData), mg "_law_parts" = some (.ref f) ∧ Fun K "_law_parts" "_law_parts" s__law_parts f fd
  r__law_times : ∃ (f : Addr) (fd : FuncData), mg "_law_times" = some (.ref f) ∧ Fun K "_law_times" "_law_times" s__law_times f fd
  r__law_core_book : ∃ (f : Addr) (fd : FuncData), mg "_law_core_book" = some (.ref f) ∧ Fun K "_law_core_book" "_law_core_book" s__law_core_book f fd
  r__law_known_book : ∃ (f : Addr) (fd : FuncData), mg "_law_known_book" = some (.ref f) ∧ Fun K "_law_known_book" "_law_known_book" s__law_known_book f fd
  r_check_length : ∃ (f : Addr) (fd : FuncData), mg "check_length" = some (.ref f) ∧ Fun K "check_length" "check_length" s_check_length f fd
  r_digits_from : ∃ (f : Addr) (fd : FuncData), mg "digits_from" = some (.ref f) ∧ Fun K "digits_from" "digits_from" s_digits_from f fd
  r_top_fault : ∃ (f : Addr) (fd : FuncData), mg "top_fault" = some (.ref f) ∧ Fun K "top_fault" "top_fault" s_top_fault f fd
  r_bottom_fault : ∃ (f : Addr) (fd : FuncData), mg "bottom_fault" = some (.ref f) ∧ Fun K "bottom_fault" "bottom_fault" s_bottom_fault f fd
  r_number_fault : ∃ (f : Addr) (fd : FuncData), mg "number_fault" = some (.ref f) ∧ Fun K "number_fault" "number_fault" s_number_fault f fd
  r_word_pair : ∃ (f : Addr) (fd : FuncData), mg "word_pair" = some (.ref f) ∧ Fun K "word_pair" "word_pair" s_word_pair f fd
  r_read_pair : ∃ (f : Addr) (fd : FuncData), mg "read_pair" = some (.ref f) ∧ Fun K "read_pair" "read_pair" s_read_pair f fd
  r_is_integer : ∃ (f : Addr) (fd : FuncData), mg "is_integer" = some (.ref f) ∧ Fun K "is_integer" "is_integer" s_is_integer f fd
  r_number : ∃ (f : Addr) (fd : FuncData), mg "number" = some (.ref f) ∧ Fun K "number" "number" s_number f fd
  r_tops_of_ratios : ∃ (f : Addr) (fd : FuncData), mg "tops_of_ratios" = some (.ref f) ∧ Fun K "tops_of_ratios" "tops_of_ratios" s_tops_of_ratios f fd
  r_book_fault : ∃ (f : Addr) (fd : FuncData), mg "book_fault" = some (.ref f) ∧ Fun K "book_fault" "book_fault" s_book_fault f fd
  r_check_reach : ∃ (f : Addr) (fd : FuncData), mg "check_reach" = some (.ref f) ∧ Fun K "check_reach" "check_reach" s_check_reach f fd
  r__law_lowest : ∃ (f : Addr) (fd : FuncData), mg "_law_lowest" = some (.ref f) ∧ Fun K "_law_lowest" "_law_lowest" s__law_lowest f fd
  r__law_pairs_of : ∃ (f : Addr) (fd : FuncData), mg "_law_pairs_of" = some (.ref f) ∧ Fun K "_law_pairs_of" "_law_pairs_of" s__law_pairs_of f fd
  r__law_word : ∃ (f : Addr) (fd : FuncData), mg "_law_word" = some (.ref f) ∧ Fun K "_law_word" "_law_word" s__law_word f fd
  r__law_book : ∃ (f : Addr) (fd : FuncData), mg "_law_book" = some (.ref f) ∧ Fun K "_law_book" "_law_book" s__law_book f fd
  r__law_halved : ∃ (f : Addr) (fd : FuncData), mg "_law_halved" = some (.ref f) ∧ Fun K "_law_halved" "_law_halved" s__law_halved f fd
  mt_over_one_bottom : ∃ (f : Addr) (fd : FuncData), Meth K (T.ad 1) "over_one_bottom" f ∧ Fun K "over_one_bottom" "Book.over_one_bottom" s_Book_over_one_bottom f fd
  r_by_one_plus : ∃ (f : Addr) (fd : FuncData), mg "by_one_plus" = some (.ref f) ∧ Fun K "by_one_plus" "by_one_plus" s_by_one_plus f fd
  r_ratios : ∃ (f : Addr) (fd : FuncData), mg "ratios" = some (.ref f) ∧ Fun K "ratios" "ratios" s_ratios f fd
  r_made_book : ∃ (f : Addr) (fd : FuncData), mg "made_book" = some (.ref f) ∧ Fun K "made_book" "made_book" s_made_book f fd
  r_slope : ∃ (f : Addr) (fd : FuncData), mg "slope" = some (.ref f) ∧ Fun K "slope" "slope" s_slope f fd
  r__law_is_bad : ∃ (f : Addr) (fd : FuncData), mg "_law_is_bad" = some (.ref f) ∧ Fun K "_law_is_bad" "_law_is_bad" s__law_is_bad f fd
  r__law_is_int : ∃ (f : Addr) (fd : FuncData), mg "_law_is_int" = some (.ref f) ∧ Fun K "_law_is_int" "_law_is_int" s__law_is_int f fd
  r__law_pair : ∃ (f : Addr) (fd : FuncData), mg "_law_pair" = some (.ref f) ∧ Fun K "_law_pair" "_law_pair" s__law_pair f fd
  r__law_pairs : ∃ (f : Addr) (fd : FuncData), mg "_law_pairs" = some (.ref f) ∧ Fun K "_law_pairs" "_law_pairs" s__law_pairs f fd
  r__law_is : ∃ (f : Addr) (fd : FuncData), mg "_law_is" = some (.ref f) ∧ Fun K "_law_is" "_law_is" s__law_is f fd
  r__law_slope_holds : ∃ (f : Addr) (fd : FuncData), mg "_law_slope_holds" = some (.ref f) ∧ Fun K "_law_slope_holds" "_law_slope_holds" s__law_slope_holds f fd
  r_tops_product : ∃ (f : Addr) (fd : FuncData), mg "tops_product" = some (.ref f) ∧ Fun K "tops_product" "tops_product" s_tops_product f fd
  r_mean : ∃ (f : Addr) (fd : FuncData), mg "mean" = some (.ref f) ∧ Fun K "mean" "mean" s_mean f fd
  r__law_many : ∃ (f : Addr) (fd : FuncData), mg "_law_many" = some (.ref f) ∧ Fun K "_law_many" "_law_many" s__law_many f fd
  r__law_mean_holds : ∃ (f : Addr) (fd : FuncData), mg "_law_mean_holds" = some (.ref f) ∧ Fun K "_law_mean_holds" "_law_mean_holds" s__law_mean_holds f fd
  r_mirror : ∃ (f : Addr) (fd : FuncData), mg "mirror" = some (.ref f) ∧ Fun K "mirror" "mirror" s_mirror f fd
  r_tops_spread : ∃ (f : Addr) (fd : FuncData), mg "tops_spread" = some (.ref f) ∧ Fun K "tops_spread" "tops_spread" s_tops_spread f fd
  r_wide : ∃ (f : Addr) (fd : FuncData), mg "wide" = some (.ref f) ∧ Fun K "wide" "wide" s_wide f fd
  r__law_wide_holds : ∃ (f : Addr) (fd : FuncData), mg "_law_wide_holds" = some (.ref f) ∧ Fun K "_law_wide_holds" "_law_wide_holds" s__law_wide_holds f fd
  r_product : ∃ (f : Addr) (fd : FuncData), mg "product" = some (.ref f) ∧ Fun K "product" "product" s_product f fd
  r__law_product_holds : ∃ (f : Addr) (fd : FuncData), mg "_law_product_holds" = some (.ref f) ∧ Fun K "_law_product_holds" "_law_product_holds" s__law_product_holds f fd
  r__law_corner : ∃ (f : Addr) (fd : FuncData), mg "_law_corner" = some (.ref f) ∧ Fun K "_law_corner" "_law_corner" s__law_corner f fd
  r_corner : ∃ (f : Addr) (fd : FuncData), mg "corner" = some (.ref f) ∧ Fun K "corner" "corner" s_corner f fd
  r_law : ∃ (f : Addr) (fd : FuncData), mg "law" = some (.ref f) ∧ Fun K "law" "law" s_law f fd
structure Fc (K : PySem.W.Frag) (mg : Str → Option Value) (T : Tb) (xa : Nat → Addr) : Prop extends Fx K mg T xa where
  h0 : T.xh = none
section
variable {P : Program} {w : World} {K : PySem.W.Frag} {mg : Str → Option Value} {base : Heap} {T : Tb} {xa : Nat → Addr}
theorem kc_hot {n c : Nat} {p : Addr × Obj} (h : KitC K T n c) : KitC K (T.hot p) n c := ⟨h.non, h.bl, h.int, h.str, h.lst, h.tup, h.ins⟩
theorem Fx.hot (q : Fx K mg T xa) (p : Addr × Obj) : Fx K mg (T.hot p) xa := {
  hK := q.hK
  al := q.al
  n_ValueError := q.n_ValueError
  n_abs := q.n_abs
  n_bool := q.n_bool
  i_comb := q.i_comb
  n_enumerate := q.n_enumerate
  i_gcd := q.i_gcd
  n_int := q.n_int
  n_isinstance := q.n_isinstance
  i_lcm := q.i_lcm
  n_len := q.n_len
  n_min := q.n_min
  n_range := q.n_range
  n_str := q.n_str
  n_sum := q.n_sum
  n_tuple := q.n_tuple
  k_DIGITS := q.k_DIGITS
  k_DIGIT_LIMIT := q.k_DIGIT_LIMIT
  k_REACH_LIMIT := q.k_REACH_LIMIT
  k_TEXT_LIMIT := q.k_TEXT_LIMIT
  g_Ratio := q.g_Ratio
  kc_Ratio := kc_hot q.kc_Ratio
  nm_Ratio := q.nm_Ratio
  na_Ratio_top := q.na_Ratio_top
  na_Ratio_bottom := q.na_Ratio_bottom
  in_Ratio := q.in_Ratio
  g_Book := q.g_Book
  kc_Book := kc_hot q.kc_Book
  nm_Book := q.nm_Book
  na_Book_numbers := q.na_Book_numbers
  na_Book_reach := q.na_Book_reach
  na_Book__tops := q.na_Book__tops
  na_Book__bottom := q.na_Book__bottom
  na_Book__kept_calm := q.na_Book__kept_calm
  na_Book__kept_tame := q.na_Book__kept_tame
  na_Book__kept_column := q.na_Book__kept_column
  in_Book := q.in_Book
  hxa := q.hxa
  g_BadBook := q.g_BadBook
  x0_BadBook := q.x0_BadBook
  xs_BadBook_BadBook := q.xs_BadBook_BadBook
  xs_TooMany_BadBook := q.xs_TooMany_BadBook
  xe_TooMany_BadBook := q.xe_TooMany_BadBook
  xm_BadBook := q.xm_BadBook
  xna_BadBook_why := q.xna_BadBook_why
  xin_BadBook := q.xin_BadBook
  g_TooMany := q.g_TooMany
  x0_TooMany := q.x0_TooMany
  xs_BadBook_TooMany := q.xs_BadBook_TooMany
  xe_BadBook_TooMany := q.xe_BadBook_TooMany
  xs_TooMany_TooMany := q.xs_TooMany_TooMany
  xm_TooMany := q.xm_TooMany
  xna_TooMany_what := q.xna_TooMany_what
  xna_TooMany_count := q.xna_TooMany_count
  xin_TooMany := q.xin_TooMany
  g_BadNumber := q.g_BadNumber
  x0_BadNumber := q.x0_BadNumber
  xs_BadBook_BadNumber := q.xs_BadBook_BadNumber
  xe_BadBook_BadNumber := q.xe_BadBook_BadNumber
  xs_TooMany_BadNumber := q.xs_TooMany_BadNumber
  xe_TooMany_BadNumber := q.xe_TooMany_BadNumber
  r__law_bag := q.r__law_bag
  r__law_draw := q.r__law_draw
  r__law_parts := q.r__law_parts
  r__law_times := q.r__law_times
  r__law_core_book := q.r__law_core_book
  r__law_known_book := q.r__law_known_book
  r_check_length := q.r_check_length
  r_digits_from := q.r_digits_from
  r_top_fault := q.r_top_fault
  r_bottom_fault := q.r_bottom_fault
  r_number_fault := q.r_number_fault
  r_word_pair := q.r_word_pair
  r_read_pair := q.r_read_pair
  r_is_integer := q.r_is_integer
  r_number := q.r_number
  r_tops_of_ratios := q.r_tops_of_ratios
  r_book_fault := q.r_book_fault
  r_check_reach := q.r_check_reach
  r__law_lowest := q.r__law_lowest
  r__law_pairs_of := q.r__law_pairs_of
  r__law_word := q.r__law_word
  r__law_book := q.r__law_book
  r__law_halved := q.r__law_halved
  mt_over_one_bottom := q.mt_over_one_bottom
  r_by_one_plus := q.r_by_one_plus
  r_ratios := q.r_ratios
  r_made_book := q.r_made_book
  r_slope := q.r_slope
  r__law_is_bad := q.r__law_is_bad
  r__law_is_int := q.r__law_is_int
  r__law_pair := q.r__law_pair
  r__law_pairs := q.r__law_pairs
  r__law_is := q.r__law_is
  r__law_slope_holds := q.r__law_slope_holds
  r_tops_product := q.r_tops_product
  r_mean := q.r_mean
  r__law_many := q.r__law_many
  r__law_mean_holds := q.r__law_mean_holds
  r_mirror := q.r_mirror
  r_tops_spread := q.r_tops_spread
  r_wide := q.r_wide
  r__law_wide_holds := q.r__law_wide_holds
  r_product := q.r_product
  r__law_product_holds := q.r__law_product_holds
  r__law_corner := q.r__law_corner
  r_corner := q.r_corner
  r_law := q.r_law
  }
theorem Fx.fd__bottom (q : Fx K mg T xa) : Fd K T "_bottom" ix__bottom := ⟨fun c j h => by
  unfold ix__bottom at h
  split at h
  · rename_i hc
    subst hc
    cases h
    rw [q.nm_Book]
    exact ⟨rfl, by decide +kernel, (q.al 1).cl, q.na_Book__bottom⟩
  cases h⟩
theorem Fx.fd__kept_calm (q : Fx K mg T xa) : Fd K T "_kept_calm" ix__kept_calm := ⟨fun c j h => by
  unfold ix__kept_calm at h
  split at h
  · rename_i hc
    subst hc
    cases h
    rw [q.nm_Book]
    exact ⟨rfl, by decide +kernel, (q.al 1).cl, q.na_Book__kept_calm⟩
  cases h⟩
theorem Fx.fd__kept_column (q : Fx K mg T xa) : Fd K T "_kept_column" ix__kept_column := ⟨fun c j h => by
  unfold ix__kept_column at h
  split at h
  · rename_i hc
    subst hc
    cases h
    rw [q.nm_Book]
    exact ⟨rfl, by decide +kernel, (q.al 1).cl, q.na_Book__kept_column⟩
  cases h⟩
theorem Fx.fd__kept_tame (q : Fx K mg T xa) : Fd K T "_kept_tame" ix__kept_tame := ⟨fun c j h => by
  unfold ix__kept_tame at h
  split at h
  · rename_i hc
    subst hc
    cases h
    rw [q.nm_Book]
    exact ⟨rfl, by decide +kernel, (q.al 1).cl, q.na_Book__kept_tame⟩
  cases h⟩
theorem Fx.fd__tops (q : Fx K mg T xa) : Fd K T "_tops" ix__tops := ⟨fun c j h => by
  unfold ix__tops at h
  split at h
  · rename_i hc
    subst hc
    cases h
    rw [q.nm_Book]
    exact ⟨rfl, by decide +kernel, (q.al 1).cl, q.na_Book__tops⟩
  cases h⟩
theorem Fx.fd_bottom (q : Fx K mg T xa) : Fd K T "bottom" ix_bottom := ⟨fun c j h => by
  unfold ix_bottom at h
  split at h
  · rename_i hc
    subst hc
    cases h
    rw [q.nm_Ratio]
    exact ⟨rfl, by decide +kernel, (q.al 0).cl, q.na_Ratio_bottom⟩
  cases h⟩
theorem Fx.fd_numbers (q : Fx K mg T xa) : Fd K T "numbers" ix_numbers := ⟨fun c j h => by
  unfold ix_numbers at h
  split at h
  · rename_i hc
    subst hc
    cases h
    rw [q.nm_Book]
    exact ⟨rfl, by decide +kernel, (q.al 1).cl, q.na_Book_numbers⟩
  cases h⟩
theorem Fx.fd_reach (q : Fx K mg T xa) : Fd K T "reach" ix_reach := ⟨fun c j h => by
  unfold ix_reach at h
  split at h
  · rename_i hc
    subst hc
    cases h
    rw [q.nm_Book]
    exact ⟨rfl, by decide +kernel, (q.al 1).cl, q.na_Book_reach⟩
  cases h⟩
theorem Fx.fd_top (q : Fx K mg T xa) : Fd K T "top" ix_top := ⟨fun c j h => by
  unfold ix_top at h
  split at h
  · rename_i hc
    subst hc
    cases h
    rw [q.nm_Ratio]
    exact ⟨rfl, by decide +kernel, (q.al 0).cl, q.na_Ratio_top⟩
  cases h⟩
theorem Fx.nt_over_one_bottom (q : Fx K mg T xa) : ("over_one_bottom" : Str) ∉ T.nm 1 := by
  rw [q.nm_Book]
  decide +kernel
theorem Fx.xd_count (q : Fx K mg T xa) {p : Addr × Obj} : Xd K (T.hot p) "count" (tab ixx_count) := ⟨tab_all (P := fun c j => ∃ C : Addr, T.xc c = .ref C ∧ (T.xn c)[j]? = some ("count" : Str) ∧ (T.xn c).Nodup ∧ XfC K C ∧ PySem.W.findIn K (.ref C) "count" = some none) (l := ixx_count) (all1 (xd1 q.hxa q.x0_TooMany (by rw [q.xm_TooMany]; rfl) (by rw [q.xm_TooMany]; decide +kernel) q.xna_TooMany_count) all0)⟩
theorem Fx.xd_what (q : Fx K mg T xa) {p : Addr × Obj} : Xd K (T.hot p) "what" (tab ixx_what) := ⟨tab_all (P := fun c j => ∃ C : Addr, T.xc c = .ref C ∧ (T.xn c)[j]? = some ("what" : Str) ∧ (T.xn c).Nodup ∧ XfC K C ∧ PySem.W.findIn K (.ref C) "what" = some none) (l := ixx_what) (all1 (xd1 q.hxa q.x0_TooMany (by rw [q.xm_TooMany]; rfl) (by rw [q.xm_TooMany]; decide +kernel) q.xna_TooMany_what) all0)⟩
theorem Fx.xd_why (q : Fx K mg T xa) {p : Addr × Obj} : Xd K (T.hot p) "why" (tab ixx_why) := ⟨tab_all (P := fun c j => ∃ C : Addr, T.xc c = .ref C ∧ (T.xn c)[j]? = some ("why" : Str) ∧ (T.xn c).Nodup ∧ XfC K C ∧ PySem.W.findIn K (.ref C) "why" = some none) (l := ixx_why) (all1 (xd1 q.hxa q.x0_BadBook (by rw [q.xm_BadBook]; rfl) (by rw [q.xm_BadBook]; decide +kernel) q.xna_BadBook_why) all0)⟩
theorem Fx.xc_BadBook (q : Fx K mg T xa) : ∀ c b, tab EV.xc_BadBook c = some b → PySem.W.exmOne K (T.xc c) (.ref (xa 0)) = some b := tab_all (P := fun c b => PySem.W.exmOne K (T.xc c) (.ref (xa 0)) = some b) (l := EV.xc_BadBook) (all1 (exmT q.hxa q.x0_BadBook q.xs_BadBook_BadBook) (all1 (exmT q.hxa q.x0_BadBook q.xs_TooMany_BadBook) all0))
theorem Fx.xn_BadBook (q : Fx K mg T xa) : ∀ c b, tab EV.xc_BadBook c = some b → T.xn c ≠ [] := tab_all (P := fun c (_ : Bool) => T.xn c ≠ []) (l := EV.xc_BadBook) (all1 (by rw [q.xm_BadBook]; exact fun z => by cases z) (all1 (by rw [q.xm_TooMany]; exact fun z => by cases z) all0))
theorem Fx.xc_TooMany (q : Fx K mg T xa) : ∀ c b, tab EV.xc_TooMany c = some b → PySem.W.exmOne K (T.xc c) (.ref (xa 1)) = some b := tab_all (P := fun c b => PySem.W.exmOne K (T.xc c) (.ref (xa 1)) = some b) (l := EV.xc_TooMany) (all1 (exmT q.hxa q.x0_TooMany q.xs_BadBook_TooMany) (all1 (exmT q.hxa q.x0_TooMany q.xs_TooMany_TooMany) all0))
theorem Fx.xn_TooMany (q : Fx K mg T xa) : ∀ c b, tab EV.xc_TooMany c = some b → T.xn c ≠ [] := tab_all (P := fun c (_ : Bool) => T.xn c ≠ []) (l := EV.xc_TooMany) (all1 (by rw [q.xm_BadBook]; exact fun z => by cases z) (all1 (by rw [q.xm_TooMany]; exact fun z => by cases z) all0))
theorem Fx.xt_BadBook_BadNumber (q : Fx K mg T xa) {p : Addr × Obj} : XIs K (T.hot p) (tab EV.xt_BadBook_BadNumber) [.ref (xa 0), .ref (xa 2)] := tab_all (P := fun c b => ∃ D : Addr, T.xc c = .ref D ∧ ExcC K D ∧ PySem.W.kitAny K (.ref D) [.ref (xa 0), .ref (xa 2)] = some b) (l := EV.xt_BadBook_BadNumber) (all1 (xis1 q.hxa q.x0_BadBook (kitA_t (kitT q.x0_BadBook q.xs_BadBook_BadBook (fun _ => rfl)))) (all1 (xis1 q.hxa q.x0_TooMany (kitA_f (kitT q.x0_BadBook q.xs_TooMany_BadBook (fun z => absurd z q.xe_TooMany_BadBook)) (kitA_f (kitT q.x0_BadNumber q.xs_TooMany_BadNumber (fun z => absurd z q.xe_TooMany_BadNumber)) kitAny_nil))) all0))
theorem Fx.xt_TooMany_BadNumber (q : Fx K mg T xa) {p : Addr × Obj} : XIs K (T.hot p) (tab EV.xt_TooMany_BadNumber) [.ref (xa 1), .ref (xa 2)] := tab_all (P := fun c b => ∃ D : Addr, T.xc c = .ref D ∧ ExcC K D ∧ PySem.W.kitAny K (.ref D) [.ref (xa 1), .ref (xa 2)] = some b) (l := EV.xt_TooMany_BadNumber) (all1 (xis1 q.hxa q.x0_BadBook (kitA_f (kitT q.x0_TooMany q.xs_BadBook_TooMany (fun z => absurd z q.xe_BadBook_TooMany)) (kitA_f (kitT q.x0_BadNumber q.xs_BadBook_BadNumber (fun z => absurd z q.xe_BadBook_BadNumber)) kitAny_nil))) (all1 (xis1 q.hxa q.x0_TooMany (kitA_t (kitT q.x0_TooMany q.xs_TooMany_TooMany (fun _ => rfl)))) all0))
theorem Fx.xt_ValueError (q : Fx K mg T xa) {p : Addr × Obj} : XI K (T.hot p) (tab EV.xt_ValueError) (.type "ValueError") := tab_all (P := fun c b => ∃ D : Addr, T.xc c = .ref D ∧ ExcC K D ∧ PySem.W.kitOne K (.ref D) (.type "ValueError") = some b) (l := EV.xt_ValueError) (all1 (xi1 q.hxa q.x0_BadBook (kitVE q.x0_BadBook)) (all1 (xi1 q.hxa q.x0_TooMany (kitVE q.x0_TooMany)) all0))
theorem sc_BadBook_init : FnScope (["self", "why"] : List Str) (["self", "why"] : List Str) (defScope s_BadBook_init) := ⟨rfl, rfl, rfl, by decide +kernel, rfl, by decide +kernel, by decide +kernel⟩
theorem ok_BadBook_init {C f : Addr} {fd : FuncData} (O : OexC K C) (n0 : PySem.W.findIn K (.ref C) "why" = some none) (F : Fun K "__init__" "BadBook.__init__" s_BadBook_init f fd) : FnOk P w K mg base (L2N.CX P w) 1 f fd (["self", "why"] : List Str) (spX C ["why"]) :=
  okG F sc_BadBook_init (fun vs H Q E h => by
    obtain ⟨a, ws, rfl, hl, _⟩ := h
    simp [hl]) fun cdv A outer s H vs Q E hr h => by
    obtain ⟨a, ws, rfl, hl, ha, k⟩ := h
    match ws, hl with
    | [u0], _ =>
      refine ⟨_, (pss_one (ps_ost (pv 0) (pv 1))), ?_⟩
      refine ⟨u0, rfl, .ref a, rfl, a, C, rfl, O, n0, .inl ⟨ha, fun dx hd nd => ?_⟩⟩
      refine k dx _ hd nd upd_same ?_ fun b h1 h2 => ?_
      · rw [upd_ne nd, upd_same]
        rfl
      · rw [upd_ne h1, upd_ne h2]
theorem raise_BadBook {X : Cx} {W : WX} {p pos pos2 : Pos} {e : Expr} {es : List Expr} {fr : FA} (q : Fc X.K X.mg T xa) (hc : X.calm = true) (hr : Room 2 X.A) (hg : Gl X "BadBook") (tk : L2N.Takes X W) (ha : SA X T W (e :: es) fr)
    (he : starEach (e :: es) X.env = (false, eval e X.env) :: starEach es X.env := by rfl) (hpl : (backTo pos (starEach es X.env)).any (·.1) = false := by rfl) :
    SS X T W (.Raise (some (.Call (.Name "BadBook" p) (e :: es) [] pos)) none pos2) (rzS 0 1 fr) := by
  obtain ⟨f, fd, h1, h2, F⟩ := q.xin_BadBook
  exact sS_raise (names := ["why"]) hc tk q.x0_BadBook.oex h1 h2 (ok_BadBook_init (P := X.prog) (w := X.w) (base := X.base) (mg := X.mg) q.x0_BadBook.oex q.xna_BadBook_why F) hr (F.binds (ps := (["self", "why"] : List Str)) (fun _ _ _ _ _ _ us hl => match us, hl with | [_, _], _ => rfl)) (L2N.passes_call tk fun _ _ _ _ z => z.elim) hg q.g_BadBook ha (q.hxa 0) q.xm_BadBook rfl (by decide +kernel) he hpl
theorem sc_TooMany_init : FnScope (["self", "what", "count"] : List Str) (["self", "what", "count"] : List Str) (defScope s_TooMany_init) := ⟨rfl, rfl, rfl, by decide +kernel, rfl, by decide +kernel, by decide +kernel⟩
theorem ok_TooMany_init {C f : Addr} {fd : FuncData} (O : OexC K C) (n0 : PySem.W.findIn K (.ref C) "what" = some none) (n1 : PySem.W.findIn K (.ref C) "count" = some none) (F : Fun K "__init__" "TooMany.__init__" s_TooMany_init f fd) : FnOk P w K mg base (L2N.CX P w) 1 f fd (["self", "what", "count"] : List Str) (spX C ["what", "count"]) :=
  okG F sc_TooMany_init (fun vs H Q E h => by
    obtain ⟨a, ws, rfl, hl, _⟩ := h
    simp [hl]) fun cdv A outer s H vs Q E hr h => by
    obtain ⟨a, ws, rfl, hl, ha, k⟩ := h
    match ws, hl with
    | [u0, u1], _ =>
      refine ⟨_, (pss_cons (ps_ost (pv 0) (pv 1)) (pss_one (ps_ost (pv 0) (pv 2)))), ?_⟩
      refine ⟨u0, rfl, .ref a, rfl, a, C, rfl, O, n0, .inl ⟨ha, fun dx hd nd => ?_⟩⟩
      refine ⟨u1, rfl, .ref a, rfl, a, C, rfl, O, n1, .inr ⟨dx, [("what", u0)], upd_same, ?_, by simp, ?_⟩⟩
      · rw [upd_ne nd, upd_same]
      · refine k dx _ hd nd ?_ upd_same fun b h1 h2 => ?_
        · rw [upd_ne nd.symm, upd_same]
        · rw [upd_ne h2, upd_ne h1, upd_ne h2]
theorem raise_TooMany {X : Cx} {W : WX} {p pos pos2 : Pos} {e : Expr} {es : List Expr} {fr : FA} (q : Fc X.K X.mg T xa) (hc : X.calm = true) (hr : Room 2 X.A) (hg : Gl X "TooMany") (tk : L2N.Takes X W) (ha : SA X T W (e :: es) fr)
    (he : starEach (e :: es) X.env = (false, eval e X.env) :: starEach es X.env := by rfl) (hpl : (backTo pos (starEach es X.env)).any (·.1) = false := by rfl) :
    SS X T W (.Raise (some (.Call (.Name "TooMany" p) (e :: es) [] pos)) none pos2) (rzS 1 2 fr) := by
  obtain ⟨f, fd, h1, h2, F⟩ := q.xin_TooMany
  exact sS_raise (names := ["what", "count"]) hc tk q.x0_TooMany.oex h1 h2 (ok_TooMany_init (P := X.prog) (w := X.w) (base := X.base) (mg := X.mg) q.x0_TooMany.oex q.xna_TooMany_what q.xna_TooMany_count F) hr (F.binds (ps := (["self", "what", "count"] : List Str)) (fun _ _ _ _ _ _ us hl => match us, hl with | [_, _, _], _ => rfl)) (L2N.passes_call tk fun _ _ _ _ z => z.elim) hg q.g_TooMany ha (q.hxa 1) q.xm_TooMany rfl (by decide +kernel) he hpl
theorem sc__law_bag : FnScope N__law_bag (["script"] : List Str) (defScope s__law_bag) := ⟨rfl, rfl, rfl, by decide +kernel, rfl, by decide +kernel, by decide +kernel⟩
theorem ok__law_bag (q : Fc K mg T xa) {f : Addr} {fd : FuncData} (F : Fun K "_law_bag" "_law_bag" s__law_bag f fd) : FnOk P w K mg base (L2N.CX P w) 1 f fd (["script"] : List Str) (spM T 1 m__law_bag) :=
  fn_ok F sc__law_bag rfl (by decide) fun cdv A outer s H E hr => (sSs_one (sS_retO (sO_lst (sA_cons (sE_frz (sO_lc rfl sc__law_bag.nd (sI_rng1 (pi_range1 (by rfl) q.n_range (sA_cons (sE_cb (pe_callB (call_min2 rfl) (by rfl) q.n_min (by decide +kernel) (sA_cons sE_int (sA_cons (sE_lenN q.hK (pe_callB call_lenA (by rfl) q.n_len (by decide +kernel) (pa_cons (pv 0) pa_nil))) sA_nil))) caS_min) sA_nil))) (blkOk_by (own := [("k", 1)]) (N := N__law_bag) (sc := defScope s__law_bag) (by decide +kernel)) (fun _ _ _ _ _ => (pg_name (i := 1) sc__law_bag.nd rfl (by first | exact Or.inl rfl | exact Or.inr rfl))) gs_N (fun _ _ _ _ _ => pts_yes) (fun _ _ _ _ _ => (sE_ixN q.hK (pv 0) (sE_nm (pv 1)) (fun _ _ => rfl))))) (sA_cons sE_int (sA_cons sE_int (sA_cons sE_int sA_nil)))))))
theorem df__law_bag (q : Fc K mg T xa) : Df P w K mg base T "_law_bag" 1 (["script"] : List Str) m__law_bag := by
  obtain ⟨f, fd, h1, h2⟩ := q.r__law_bag
  exact ⟨f, fd, h1, h2.kp, ok__law_bag q h2, h2.binds (ps := (["script"] : List Str)) (fun _ _ _ _ _ _ us hl => match us, hl with | [_], _ => rfl)⟩
theorem sc__law_draw : FnScope N__law_draw (["bag", "size"] : List Str) (defScope s__law_draw) := ⟨rfl, rfl, rfl, by decide +kernel, rfl, by decide +kernel, by decide +kernel⟩
theorem ok__law_draw (q : Fc K mg T xa) {f : Addr} {fd : FuncData} (F : Fun K "_law_draw" "_law_draw" s__law_draw f fd) : FnOk P w K mg base (L2N.CX P w) 1 f fd (["bag", "size"] : List Str) (spQ T 2 m__law_draw) :=
  fnQ_ok F sc__law_draw rfl (by decide) fun cdv A outer s H E hr => (sSs_cons (sS_if (sT_cmp (op_eqD hr.units) opS_eq (sE_ixN q.hK (pv 0) sE_int (fun _ _ => rfl)) sE_int (nomark _))
  (sSs_cons (asg_of (ps_set (i := 2) sc__law_draw.nd rfl (by first | exact Or.inl rfl | exact Or.inr rfl) sE_int) (fun _ _ _ q => q))
  (sSs_cons (sS_if (sT_cmp op_lt opS_lt (sE_ixN q.hK (pv 0) sE_int (fun _ _ => rfl)) (sE_cb (pe_callB call_len (by rfl) q.n_len (by decide +kernel) (sA_cons (sE_ixN q.hK (pv 0) sE_int (fun _ _ => rfl)) sA_nil)) (caS_len q.hK)) (nomark _))
  (sSs_one (asg_of (ps_set (i := 2) sc__law_draw.nd rfl (by first | exact Or.inl rfl | exact Or.inr rfl) (sE_ix ix_seq (opS_ix q.hK) (sE_ixN q.hK (pv 0) sE_int (fun _ _ => rfl)) (sE_ixN q.hK (pv 0) sE_int (fun _ _ => rfl)) (fun _ _ => rfl))) (fun _ _ _ q => q)))
  sSs_nil)
  (sSs_cons (sS_setI (pv 0) sE_int (sE_bin op_addA opS_add (sE_ixN q.hK (pv 0) sE_int (fun _ _ => rfl)) sE_int) rfl rfl rfl (pg_sub (pv 0) sE_int set_list))
  (sSs_one (sS_if (sT_cmp op_ge opS_ge (sE_nm (pv 2)) (sE_bin op_powA opS_pow sE_int sE_int) (nomark _))
  (sSs_one (sS_setI (pv 0) sE_int (sE_bin op_modN opS_mod (sE_cb (pe_callTy call_int1 (by rfl) q.n_int (by decide +kernel) (sA_cons (sE_nm (pv 2)) sA_nil)) caS_int) (sE_bin op_powA opS_pow (sE_bin op_powA opS_pow sE_int sE_int) sE_int)) rfl rfl rfl (pg_sub (pv 0) sE_int set_list)))
  (sSs_cons (asg_of (ps_set (i := 3) sc__law_draw.nd rfl (by first | exact Or.inl rfl | exact Or.inr rfl) (sE_bin op_modN opS_mod (sE_cb (pe_callTy call_int1 (by rfl) q.n_int (by decide +kernel) (sA_cons (sE_bin op_addA opS_add (sE_bin op_addA opS_add (sE_bin op_addA opS_add (sE_bin op_mulA opS_mul (sE_ixN q.hK (pv 0) sE_int (fun _ _ => rfl)) sE_int) (sE_bin op_mulA opS_mul (sE_nm (pv 2)) sE_int)) (sE_bin op_mulA opS_mul (sE_ixN q.hK (pv 0) sE_int (fun _ _ => rfl)) sE_int)) sE_int) sA_nil)) caS_int) sE_int)) (fun _ _ _ q => q))
  (sSs_cons (sS_setI (pv 0) sE_int (sE_nm (pv 3)) rfl rfl rfl (pg_sub (pv 0) sE_int set_list))
  (sSs_one (sS_setI (pv 0) sE_int (sE_bin op_modN opS_mod (sE_cb (pe_callTy call_int1 (by rfl) q.n_int (by decide +kernel) (sA_cons (sE_bin op_addA opS_add (sE_bin op_addA opS_add (sE_bin op_mulA opS_mul (sE_bin op_mulA opS_mul (sE_nm (pv 3)) (sE_nm (pv 3))) (sE_nm (pv 3))) (sE_bin op_mulA opS_mul sE_int (sE_nm (pv 3)))) (sE_ixN q.hK (pv 0) sE_int (fun _ _ => rfl))) sA_nil)) caS_int) sE_int) rfl rfl rfl (pg_sub (pv 0) sE_int set_list))))))))))
  sSs_nil)
  (sSs_cons (asg_of (ps_set (i := 4) sc__law_draw.nd rfl (by first | exact Or.inl rfl | exact Or.inr rfl) (sE_bin op_modN opS_mod (sE_cb (pe_callTy call_int1 (by rfl) q.n_int (by decide +kernel) (sA_cons (sE_ixN q.hK (pv 0) sE_int (fun _ _ => rfl)) sA_nil)) caS_int) (sE_nm (pv 1)))) (fun _ _ _ q => q))
  (sSs_cons (sS_setI (pv 0) sE_int (sE_bin op_divA opS_div (sE_cb (pe_callTy call_int1 (by rfl) q.n_int (by decide +kernel) (sA_cons (sE_ixN q.hK (pv 0) sE_int (fun _ _ => rfl)) sA_nil)) caS_int) (sE_nm (pv 1))) rfl rfl rfl (pg_sub (pv 0) sE_int set_list))
  (sSs_one (sS_retNm (pv 4))))))
theorem df__law_draw (q : Fc K mg T xa) : Dq P w K mg base T "_law_draw" 1 (["bag", "size"] : List Str) m__law_draw := by
  obtain ⟨f, fd, h1, h2⟩ := q.r__law_draw
  exact ⟨f, fd, h1, h2.kp, ok__law_draw q h2, h2.binds (ps := (["bag", "size"] : List Str)) (fun _ _ _ _ _ _ us hl => match us, hl with | [_, _], _ => rfl)⟩
theorem sc__law_parts : FnScope N__law_parts (["bag", "most"] : List Str) (defScope s__law_parts) := ⟨rfl, rfl, rfl, by decide +kernel, rfl, by decide +kernel, by decide +kernel⟩
theorem ok__law_parts (q : Fc K mg T xa) {f : Addr} {fd : FuncData} (F : Fun K "_law_parts" "_law_parts" s__law_parts f fd) : FnOk P w K mg base (L2N.CX P w) 2 f fd (["bag", "most"] : List Str) (spQ T 2 m__law_parts) :=
  fnQ_ok F sc__law_parts rfl (by decide) fun cdv A outer s H E hr => (sSs_cons (setLc rfl sc__law_parts.nd rfl rfl (sw_true rfl rfl rfl (by decide +kernel)) (sI_rng1 (pi_range1 (by rfl) q.n_range (sA_cons (sE_bin op_addA opS_add sE_int (sE_callQ (df__law_draw q) fnQ_np (hr.mono (by decide)) (by rfl) takesK (pv 0) (sA_cons (sE_nm (pv 1)) sA_nil))) sA_nil))) (blkOk_by (own := [("k", 3)]) (N := N__law_parts) (sc := defScope s__law_parts) (by decide +kernel)) (fun _ _ _ _ _ => (pg_name (i := 3) sc__law_parts.nd rfl (by first | exact Or.inl rfl | exact Or.inr rfl))) gs_N (fun _ _ _ _ _ => pts_yes) (fun _ _ _ _ _ => (sE_bin op_sub opS_sub (sE_callQ (df__law_draw q) fnQ_np (hr.mono (by decide)) (by rfl) takesZ (pv 0) (sA_cons sE_int sA_nil)) sE_int)))
  (sSs_cons (sS_if (sT_cmp (op_eqD hr.units) opS_eq (sE_ixN q.hK (pv 2) sE_int (fun _ _ => rfl)) sE_int (nomark _))
  (sSs_one (sS_setI (pv 2) sE_int sE_int rfl rfl rfl (pg_sub (pv 2) sE_int set_list)))
  sSs_nil)
  (sSs_cons (sS_if (sT_cmp (op_eqD hr.units) opS_eq (sE_ixN q.hK (pv 2) (sE_bin op_sub opS_sub (sE_lenN q.hK (pe_callB call_lenA (by rfl) q.n_len (by decide +kernel) (pa_cons (pv 2) pa_nil))) sE_int) (fun _ _ => rfl)) sE_int (nomark _))
  (sSs_one (sS_setI (pv 2) (sE_bin op_sub opS_sub (sE_lenN q.hK (pe_callB call_lenA (by rfl) q.n_len (by decide +kernel) (pa_cons (pv 2) pa_nil))) sE_int) sE_int rfl rfl rfl (pg_sub (pv 2) (sE_bin op_sub opS_sub (sE_lenN q.hK (pe_callB call_lenA (by rfl) q.n_len (by decide +kernel) (pa_cons (pv 2) pa_nil))) sE_int) set_list)))
  sSs_nil)
  (sSs_one (sS_ret (sE_nm (pv 2)))))))
theorem df__law_parts (q : Fc K mg T xa) : Dq P w K mg base T "_law_parts" 2 (["bag", "most"] : List Str) m__law_parts := by
  obtain ⟨f, fd, h1, h2⟩ := q.r__law_parts
  exact ⟨f, fd, h1, h2.kp, ok__law_parts q h2, h2.binds (ps := (["bag", "most"] : List Str)) (fun _ _ _ _ _ _ us hl => match us, hl with | [_, _], _ => rfl)⟩
theorem sc__law_times : FnScope N__law_times (["one", "two"] : List Str) (defScope s__law_times) := ⟨rfl, rfl, rfl, by decide +kernel, rfl, by decide +kernel, by decide +kernel⟩
theorem ok__law_times (q : Fc K mg T xa) {f : Addr} {fd : FuncData} (F : Fun K "_law_times" "_law_times" s__law_times f fd) : FnOk P w K mg base (L2N.CX P w) 1 f fd (["one", "two"] : List Str) (spM T 2 m__law_times) :=
  fn_ok F sc__law_times rfl (by decide) fun cdv A outer s H E hr => (sSs_cons (asgO_of (ps_set (i := 2) sc__law_times.nd rfl (by first | exact Or.inl rfl | exact Or.inr rfl) (sO_bin op_rep opO_rep (sE_frz (sO_lst (sA_cons sE_int sA_nil))) (sE_bin op_sub opS_sub (sE_bin op_addA opS_add (sE_lenN q.hK (pe_callB call_lenA (by rfl) q.n_len (by decide +kernel) (pa_cons (pv 0) pa_nil))) (sE_lenN q.hK (pe_callB call_lenA (by rfl) q.n_len (by decide +kernel) (pa_cons (pv 1) pa_nil)))) sE_int))) (fun _ _ _ q => q))
  (sSs_cons (sS_for (passes_of rfl) rfl (sI_rng1 (pi_range1 (by rfl) q.n_range (sA_cons (sE_lenN q.hK (pe_callB call_lenA (by rfl) q.n_len (by decide +kernel) (pa_cons (pv 0) pa_nil))) sA_nil))) (pg_name (i := 3) sc__law_times.nd rfl (by first | exact Or.inl rfl | exact Or.inr rfl)) gs_N
  (sSs_one (sS_if (sT_cmp (op_neD hr.units) opS_ne (sE_ixN q.hK (pv 0) (sE_nm (pv 3)) (fun _ _ => rfl)) sE_int (nomark _))
  (sSs_one (sS_for (passes_of rfl) rfl (sI_rng1 (pi_range1 (by rfl) q.n_range (sA_cons (sE_lenN q.hK (pe_callB call_lenA (by rfl) q.n_len (by decide +kernel) (pa_cons (pv 1) pa_nil))) sA_nil))) (pg_name (i := 4) sc__law_times.nd rfl (by first | exact Or.inl rfl | exact Or.inr rfl)) gs_N
  (sSs_one (sS_setI (pv 2) (sE_bin op_addA opS_add (sE_nm (pv 3)) (sE_nm (pv 4))) (sE_bin op_addA opS_add (sE_ixN q.hK (pv 2) (sE_bin op_addA opS_add (sE_nm (pv 3)) (sE_nm (pv 4))) (fun _ _ => rfl)) (sE_bin op_mulA opS_mul (sE_ixN q.hK (pv 0) (sE_nm (pv 3)) (fun _ _ => rfl)) (sE_ixN q.hK (pv 1) (sE_nm (pv 4)) (fun _ _ => rfl)))) rfl rfl rfl (pg_sub (pv 2) (sE_bin op_addA opS_add (sE_nm (pv 3)) (sE_nm (pv 4))) set_list)))))
  sSs_nil)))
  (sSs_one (sS_retNm (pv 2)))))
theorem df__law_times (q : Fc K mg T xa) : Df P w K mg base T "_law_times" 1 (["one", "two"] : List Str) m__law_times := by
  obtain ⟨f, fd, h1, h2⟩ := q.r__law_times
  exact ⟨f, fd, h1, h2.kp, ok__law_times q h2, h2.binds (ps := (["one", "two"] : List Str)) (fun _ _ _ _ _ _ us hl => match us, hl with | [_, _], _ => rfl)⟩
theorem sc__law_core_book : FnScope N__law_core_book (["bag", "most"] : List Str) (defScope s__law_core_book) := ⟨rfl, rfl, rfl, by decide +kernel, rfl, by decide +kernel, by decide +kernel⟩
theorem ok__law_core_book (q : Fc K mg T xa) {f : Addr} {fd : FuncData} (F : Fun K "_law_core_book" "_law_core_book" s__law_core_book f fd) : FnOk P w K mg base (L2N.CX P w) 3 f fd (["bag", "most"] : List Str) (spQ T 2 m__law_core_book) :=
  fnQ_ok F sc__law_core_book rfl (by decide) fun cdv A outer s H E hr => (sSs_cons (asg_of (ps_set (i := 2) sc__law_core_book.nd rfl (by first | exact Or.inl rfl | exact Or.inr rfl) (sE_bin op_addA opS_add sE_int (sE_callQ (df__law_draw q) fnQ_np (hr.mono (by decide)) (by rfl) takesK (pv 0) (sA_cons sE_int sA_nil)))) (fun _ _ _ q => q))
  (sSs_cons (asg_of (ps_set (i := 3) sc__law_core_book.nd rfl (by first | exact Or.inl rfl | exact Or.inr rfl) (sE_callQ (df__law_parts q) fnQ_np (hr.mono (by decide)) (by rfl) takesK (pv 0) (sA_cons (sE_nm (pv 1)) sA_nil))) (fun _ _ _ q => q))
  (sSs_cons (sS_if (sT_cmp (op_eqD hr.units) opS_eq (sE_cb (pe_callB (cr_sum rfl) (by rfl) q.n_sum (by decide +kernel) (sA_cons (sE_nm (pv 3)) sA_nil)) caS_sum) sE_int (nomark _))
  (sSs_cons (asgO_of (ps_set (i := 3) sc__law_core_book.nd rfl (by first | exact Or.inl rfl | exact Or.inr rfl) (sO_lst (sA_cons sE_int sA_nil))) (fun _ _ _ q => q))
  (sSs_one (asg_of (ps_set (i := 2) sc__law_core_book.nd rfl (by first | exact Or.inl rfl | exact Or.inr rfl) (sE_bin op_addA opS_add (sE_nm (pv 2)) sE_int)) (fun _ _ _ q => q))))
  sSs_nil)
  (sSs_cons (sS_for (passes_of rfl) rfl (sI_rng1 (pi_range1 (by rfl) q.n_range (sA_cons (sE_nm (pv 2)) sA_nil))) (pg_name (i := 4) sc__law_core_book.nd rfl (by first | exact Or.inl rfl | exact Or.inr rfl)) gs_N
  (sSs_one (asg_of (ps_set (i := 3) sc__law_core_book.nd rfl (by first | exact Or.inl rfl | exact Or.inr rfl) (sE_call (df__law_times q) fn_np (hr.mono (by decide)) (by rfl) takesK (sA_cons (sE_nm (pv 3)) (sA_cons (sE_frz (sO_lst (sA_cons sE_int (sA_cons sE_int sA_nil)))) sA_nil)))) (fun _ _ _ q => q))))
  (sSs_cons (asg_of (ps_set (i := 5) sc__law_core_book.nd rfl (by first | exact Or.inl rfl | exact Or.inr rfl) (sE_bin op_divA opS_div (sE_cb (pe_callB (cr_sum rfl) (by rfl) q.n_sum (by decide +kernel) (sA_cons (sE_nm (pv 3)) sA_nil)) caS_sum) sE_int)) (fun _ _ _ q => q))
  (sSs_cons (sS_if (sT_cmp op_lt opS_lt (sE_nm (pv 5)) sE_int (nomark _))
  (sSs_one (sS_ret (sE_tup (sA_cons (sE_frz (sO_lc rfl sc__law_core_book.nd (sI_seq q.hK (sE_nm (pv 3))) (blkOk_by (own := [("x", 6)]) (N := N__law_core_book) (sc := defScope s__law_core_book) (by decide +kernel)) (fun _ _ _ _ _ => (pg_name (i := 6) sc__law_core_book.nd rfl (by first | exact Or.inl rfl | exact Or.inr rfl))) gs_N (fun _ _ _ _ _ => pts_yes) (fun _ _ _ _ _ => (sE_un un_neg unS_neg (sE_nm (pv 6)))))) (sA_cons (sE_un un_neg unS_neg (sE_nm (pv 5))) sA_nil)))))
  sSs_nil)
  (sSs_one (sS_ret (sE_tup (sA_cons (sE_nm (pv 3)) (sA_cons (sE_nm (pv 5)) sA_nil)))))))))))
theorem df__law_core_book (q : Fc K mg T xa) : Dq P w K mg base T "_law_core_book" 3 (["bag", "most"] : List Str) m__law_core_book := by
  obtain ⟨f, fd, h1, h2⟩ := q.r__law_core_book
  exact ⟨f, fd, h1, h2.kp, ok__law_core_book q h2, h2.binds (ps := (["bag", "most"] : List Str)) (fun _ _ _ _ _ _ us hl => match us, hl with | [_, _], _ => rfl)⟩
theorem sc__law_known_book : FnScope N__law_known_book (["bag"] : List Str) (defScope s__law_known_book) := ⟨rfl, rfl, rfl, by decide +kernel, rfl, by decide +kernel, by decide +kernel⟩
theorem ok__law_known_book (q : Fc K mg T xa) {f : Addr} {fd : FuncData} (F : Fun K "_law_known_book" "_law_known_book" s__law_known_book f fd) : FnOk P w K mg base (L2N.CX P w) 2 f fd (["bag"] : List Str) (spQ T 1 m__law_known_book) :=
  fnQ_ok F sc__law_known_book rfl (by decide) fun cdv A outer s H E hr => (sSs_cons (asg_of (ps_set (i := 1) sc__law_known_book.nd rfl (by first | exact Or.inl rfl | exact Or.inr rfl) (sE_callQ (df__law_draw q) fnQ_np (hr.mono (by decide)) (by rfl) takesK (pv 0) (sA_cons sE_int sA_nil))) (fun _ _ _ q => q))
  (sSs_cons (sS_if (sT_cmp (op_eqD hr.units) opS_eq (sE_nm (pv 1)) sE_int (nomark _))
  (sSs_one (sS_ret (sE_tup (sA_cons (sE_frz (sO_lst (sA_cons (sE_un un_neg unS_neg sE_int) (sA_cons sE_int (sA_cons sE_int (sA_cons sE_int (sA_cons sE_int (sA_cons sE_int (sA_cons (sE_un un_neg unS_neg sE_int) sA_nil))))))))) (sA_cons sE_int sA_nil)))))
  sSs_nil)
  (sSs_cons (sS_if (sT_cmp (op_eqD hr.units) opS_eq (sE_nm (pv 1)) sE_int (nomark _))
  (sSs_cons (asg_of (ps_set (i := 2) sc__law_known_book.nd rfl (by first | exact Or.inl rfl | exact Or.inr rfl) (sE_bin op_addA opS_add sE_int (sE_callQ (df__law_draw q) fnQ_np (hr.mono (by decide)) (by rfl) takesK (pv 0) (sA_cons sE_int sA_nil)))) (fun _ _ _ q => q))
  (sSs_cons (asg_of (ps_set (i := 3) sc__law_known_book.nd rfl (by first | exact Or.inl rfl | exact Or.inr rfl) (sE_bin op_mulA opS_mul (sE_bin op_addA opS_add sE_int (sE_callQ (df__law_draw q) fnQ_np (hr.mono (by decide)) (by rfl) takesK (pv 0) (sA_cons (sE_bin op_sub opS_sub (sE_nm (pv 2)) sE_int) sA_nil))) (sE_bin op_sub opS_sub sE_int (sE_bin op_mulA opS_mul sE_int (sE_callQ (df__law_draw q) fnQ_np (hr.mono (by decide)) (by rfl) takesK (pv 0) (sA_cons sE_int sA_nil)))))) (fun _ _ _ q => q))
  (sSs_one (sS_ret (sE_tup (sA_cons (sE_frz (sO_lst (sA_cons (sE_bin op_mulA opS_mul (sE_nm (pv 3)) (sE_bin op_sub opS_sub (sE_nm (pv 3)) (sE_nm (pv 2)))) (sA_cons (sE_bin op_mulA opS_mul (sE_nm (pv 2)) (sE_bin op_sub opS_sub (sE_nm (pv 2)) (sE_nm (pv 3)))) (sA_cons (sE_bin op_mulA opS_mul (sE_nm (pv 2)) (sE_bin op_addA opS_add (sE_nm (pv 2)) (sE_nm (pv 3)))) (sA_cons (sE_bin op_mulA opS_mul (sE_nm (pv 3)) (sE_bin op_addA opS_add (sE_nm (pv 3)) (sE_nm (pv 2)))) sA_nil)))))) (sA_cons (sE_bin op_addA opS_add (sE_bin op_mulA opS_mul (sE_nm (pv 3)) (sE_nm (pv 3))) (sE_bin op_mulA opS_mul (sE_nm (pv 2)) (sE_nm (pv 2)))) sA_nil)))))))
  sSs_nil)
  (sSs_cons (asgO_of (ps_set (i := 4) sc__law_known_book.nd rfl (by first | exact Or.inl rfl | exact Or.inr rfl) (sO_lst (sA_cons sE_int sA_nil))) (fun _ _ _ q => q))
  (sSs_cons (asg_of (ps_set (i := 5) sc__law_known_book.nd rfl (by first | exact Or.inl rfl | exact Or.inr rfl) (sE_bin op_addA opS_add sE_int (sE_callQ (df__law_draw q) fnQ_np (hr.mono (by decide)) (by rfl) takesK (pv 0) (sA_cons sE_int sA_nil)))) (fun _ _ _ q => q))
  (sSs_cons (sS_for (passes_of rfl) rfl (sI_rng1 (pi_range1 (by rfl) q.n_range (sA_cons (sE_nm (pv 5)) sA_nil))) (pg_name (i := 6) sc__law_known_book.nd rfl (by first | exact Or.inl rfl | exact Or.inr rfl)) gs_N
  (sSs_one (asg_of (ps_set (i := 4) sc__law_known_book.nd rfl (by first | exact Or.inl rfl | exact Or.inr rfl) (sE_call (df__law_times q) fn_np (hr.mono (by decide)) (by rfl) takesK (sA_cons (sE_nm (pv 4)) (sA_cons (sE_frz (sO_lst (sA_cons sE_int (sA_cons sE_int sA_nil)))) sA_nil)))) (fun _ _ _ q => q))))
  (sSs_one (sS_ret (sE_tup (sA_cons (sE_nm (pv 4)) (sA_cons (sE_bin op_divA opS_div (sE_cb (pe_callB (cr_sum rfl) (by rfl) q.n_sum (by decide +kernel) (sA_cons (sE_nm (pv 4)) sA_nil)) caS_sum) sE_int) sA_nil)))))))))))
theorem df__law_known_book (q : Fc K mg T xa) : Dq P w K mg base T "_law_known_book" 2 (["bag"] : List Str) m__law_known_book := by
  obtain ⟨f, fd, h1, h2⟩ := q.r__law_known_book
  exact ⟨f, fd, h1, h2.kp, ok__law_known_book q h2, h2.binds (ps := (["bag"] : List Str)) (fun _ _ _ _ _ _ us hl => match us, hl with | [_], _ => rfl)⟩
theorem sc_check_length : FnScope N_check_length (["text"] : List Str) (defScope s_check_length) := ⟨rfl, rfl, rfl, by decide +kernel, rfl, by decide +kernel, by decide +kernel⟩
theorem ok_check_length (q : Fc K mg T xa) {f : Addr} {fd : FuncData} (F : Fun K "check_length" "check_length" s_check_length f fd) : FnOk P w K mg base (L2N.CX P w) 3 f fd (["text"] : List Str) (spM T 1 m_check_length) :=
  fn_ok F sc_check_length rfl (by decide) fun cdv A outer s H E hr => (sSs_one (sS_if (sT_cmp op_gt opS_gt (sE_lenN q.hK (pe_callB call_lenA (by rfl) q.n_len (by decide +kernel) (pa_cons (pv 0) pa_nil))) (sE_kInt q.k_TEXT_LIMIT (by rfl)) (nomark _))
  (sSs_one (raise_TooMany q rfl (hr.mono (by decide)) (by rfl) takesK (sA_cons sE_str (sA_cons (sE_lenN q.hK (pe_callB call_lenA (by rfl) q.n_len (by decide +kernel) (pa_cons (pv 0) pa_nil))) sA_nil))))
  sSs_nil))
theorem df_check_length (q : Fc K mg T xa) : Df P w K mg base T "check_length" 3 (["text"] : List Str) m_check_length := by
  obtain ⟨f, fd, h1, h2⟩ := q.r_check_length
  exact ⟨f, fd, h1, h2.kp, ok_check_length q h2, h2.binds (ps := (["text"] : List Str)) (fun _ _ _ _ _ _ us hl => match us, hl with | [_], _ => rfl)⟩
theorem sc_digits_from : FnScope N_digits_from (["word", "at"] : List Str) (defScope s_digits_from) := ⟨rfl, rfl, rfl, by decide +kernel, rfl, by decide +kernel, by decide +kernel⟩
theorem ok_digits_from (q : Fc K mg T xa) {f : Addr} {fd : FuncData} (F : Fun K "digits_from" "digits_from" s_digits_from f fd) : FnOk P w K mg base (L2N.CX P w) 1 f fd (["word", "at"] : List Str) (spM T 2 m_digits_from) :=
  fn_ok F sc_digits_from rfl (by decide) fun cdv A outer s H E hr => (sSs_cons (asg_of (ps_set (i := 2) sc_digits_from.nd rfl (by first | exact Or.inl rfl | exact Or.inr rfl) sE_int) (fun _ _ _ q => q))
  (sSs_cons (sS_while (passes_of rfl) (sT_bo (sT_and (sT_cmp op_lt opS_lt (sE_bin op_addA opS_add (sE_nm (pv 1)) (sE_nm (pv 2))) (sE_lenN q.hK (pe_callB call_lenA (by rfl) q.n_len (by decide +kernel) (pa_cons (pv 0) pa_nil))) (nomark _)) (sT_and (sT_cmp op_le opS_le (sE_nm (pv 2)) (sE_kInt q.k_DIGIT_LIMIT (by rfl)) (nomark _)) (sT_and1 (sT_cmp op_in_sign opS_inS (sE_ixN q.hK (pv 0) (sE_bin op_addA opS_add (sE_nm (pv 1)) (sE_nm (pv 2))) (fun _ _ => rfl)) (sE_kStr q.k_DIGITS (by rfl)) (by rfl))))))
  (sSs_one (sS_aug (ps_aug (i := 2) sc_digits_from.nd rfl (by first | exact Or.inl rfl | exact Or.inr rfl) sE_int iop_add) opS_addI)))
  (sSs_one (sS_retNm (pv 2)))))
theorem df_digits_from (q : Fc K mg T xa) : Df P w K mg base T "digits_from" 1 (["word", "at"] : List Str) m_digits_from := by
  obtain ⟨f, fd, h1, h2⟩ := q.r_digits_from
  exact ⟨f, fd, h1, h2.kp, ok_digits_from q h2, h2.binds (ps := (["word", "at"] : List Str)) (fun _ _ _ _ _ _ us hl => match us, hl with | [_, _], _ => rfl)⟩
theorem sc_top_fault : FnScope N_top_fault (["word", "at", "count"] : List Str) (defScope s_top_fault) := ⟨rfl, rfl, rfl, by decide +kernel, rfl, by decide +kernel, by decide +kernel⟩
theorem ok_top_fault (q : Fc K mg T xa) {f : Addr} {fd : FuncData} (F : Fun K "top_fault" "top_fault" s_top_fault f fd) : FnOk P w K mg base (L2N.CX P w) 1 f fd (["word", "at", "count"] : List Str) (spM T 3 m_top_fault) :=
  fn_ok F sc_top_fault rfl (by decide) fun cdv A outer s H E hr => (sSs_cons (sS_if (sT_cmp (op_eqD hr.units) opS_eq (sE_nm (pv 2)) sE_int (nomark _))
  (sSs_one (sS_ret (sE_bin op_addA opS_add (sE_nm (pv 1)) sE_int)))
  sSs_nil)
  (sSs_cons (sS_if (sT_bo (sT_and (sT_cmp (op_eqD hr.units) opS_eq (sE_ixN q.hK (pv 0) (sE_nm (pv 1)) (fun _ _ => rfl)) sE_str (nomark _)) (sT_and1 (sT_cmp (op_neD hr.units) opS_ne (sE_nm (pv 0)) sE_str (nomark _)))))
  (sSs_one (sS_ret sE_int))
  sSs_nil)
  (sSs_cons (sS_if (sT_cmp op_gt opS_gt (sE_nm (pv 2)) (sE_kInt q.k_DIGIT_LIMIT (by rfl)) (nomark _))
  (sSs_one (sS_ret (sE_bin op_addA opS_add (sE_bin op_addA opS_add (sE_nm (pv 1)) (sE_kInt q.k_DIGIT_LIMIT (by rfl))) sE_int)))
  sSs_nil)
  (sSs_one (sS_ret sE_int)))))
theorem df_top_fault (q : Fc K mg T xa) : Df P w K mg base T "top_fault" 1 (["word", "at", "count"] : List Str) m_top_fault := by
  obtain ⟨f, fd, h1, h2⟩ := q.r_top_fault
  exact ⟨f, fd, h1, h2.kp, ok_top_fault q h2, h2.binds (ps := (["word", "at", "count"] : List Str)) (fun _ _ _ _ _ _ us hl => match us, hl with | [_, _, _], _ => rfl)⟩
theorem sc_bottom_fault : FnScope N_bottom_fault (["word", "at"] : List Str) (defScope s_bottom_fault) := ⟨rfl, rfl, rfl, by decide +kernel, rfl, by decide +kernel, by decide +kernel⟩
theorem ok_bottom_fault (q : Fc K mg T xa) {f : Addr} {fd : FuncData} (F : Fun K "bottom_fault" "bottom_fault" s_bottom_fault f fd) : FnOk P w K mg base (L2N.CX P w) 2 f fd (["word", "at"] : List Str) (spM T 2 m_bottom_fault) :=
  fn_ok F sc_bottom_fault rfl (by decide) fun cdv A outer s H E hr => (sSs_cons (asg_of (ps_set (i := 2) sc_bottom_fault.nd rfl (by first | exact Or.inl rfl | exact Or.inr rfl) (sE_call (df_digits_from q) fn_np (hr.mono (by decide)) (by rfl) takesK (sA_cons (sE_nm (pv 0)) (sA_cons (sE_nm (pv 1)) sA_nil)))) (fun _ _ _ q => q))
  (sSs_cons (sS_if (sT_bo (sT_or (sT_cmp (op_eqD hr.units) opS_eq (sE_nm (pv 2)) sE_int (nomark _)) (sT_or1 (sT_cmp (op_eqD hr.units) opS_eq (sE_ixN q.hK (pv 0) (sE_nm (pv 1)) (fun _ _ => rfl)) sE_str (nomark _)))))
  (sSs_one (sS_ret (sE_bin op_addA opS_add (sE_nm (pv 1)) sE_int)))
  sSs_nil)
  (sSs_cons (sS_if (sT_cmp op_gt opS_gt (sE_nm (pv 2)) (sE_kInt q.k_DIGIT_LIMIT (by rfl)) (nomark _))
  (sSs_one (sS_ret (sE_bin op_addA opS_add (sE_bin op_addA opS_add (sE_nm (pv 1)) (sE_kInt q.k_DIGIT_LIMIT (by rfl))) sE_int)))
  sSs_nil)
  (sSs_cons (sS_if (sT_cmp op_lt opS_lt (sE_bin op_addA opS_add (sE_nm (pv 1)) (sE_nm (pv 2))) (sE_lenN q.hK (pe_callB call_lenA (by rfl) q.n_len (by decide +kernel) (pa_cons (pv 0) pa_nil))) (nomark _))
  (sSs_one (sS_ret (sE_bin op_addA opS_add (sE_bin op_addA opS_add (sE_nm (pv 1)) (sE_nm (pv 2))) sE_int)))
  sSs_nil)
  (sSs_one (sS_ret sE_int))))))
theorem df_bottom_fault (q : Fc K mg T xa) : Df P w K mg base T "bottom_fault" 2 (["word", "at"] : List Str) m_bottom_fault := by
  obtain ⟨f, fd, h1, h2⟩ := q.r_bottom_fault
  exact ⟨f, fd, h1, h2.kp, ok_bottom_fault q h2, h2.binds (ps := (["word", "at"] : List Str)) (fun _ _ _ _ _ _ us hl => match us, hl with | [_, _], _ => rfl)⟩
theorem sc_number_fault : FnScope N_number_fault (["word"] : List Str) (defScope s_number_fault) := ⟨rfl, rfl, rfl, by decide +kernel, rfl, by decide +kernel, by decide +kernel⟩
theorem ok_number_fault (q : Fc K mg T xa) {f : Addr} {fd : FuncData} (F : Fun K "number_fault" "number_fault" s_number_fault f fd) : FnOk P w K mg base (L2N.CX P w) 3 f fd (["word"] : List Str) (spM T 1 m_number_fault) :=
  fn_ok F sc_number_fault rfl (by decide) fun cdv A outer s H E hr => (sSs_cons (asg_of (ps_set (i := 1) sc_number_fault.nd rfl (by first | exact Or.inl rfl | exact Or.inr rfl) (sE_if (sT_cmp (op_eqD hr.units) opS_eq (sE_slS (sE_nm (pv 0)) sP_no (sP_so sE_int)) sE_str (nomark _)) sE_int sE_int)) (fun _ _ _ q => q))
  (sSs_cons (asg_of (ps_set (i := 2) sc_number_fault.nd rfl (by first | exact Or.inl rfl | exact Or.inr rfl) (sE_call (df_digits_from q) fn_np (hr.mono (by decide)) (by rfl) takesK (sA_cons (sE_nm (pv 0)) (sA_cons (sE_nm (pv 1)) sA_nil)))) (fun _ _ _ q => q))
  (sSs_cons (asg_of (ps_set (i := 3) sc_number_fault.nd rfl (by first | exact Or.inl rfl | exact Or.inr rfl) (sE_call (df_top_fault q) fn_np (hr.mono (by decide)) (by rfl) takesK (sA_cons (sE_nm (pv 0)) (sA_cons (sE_nm (pv 1)) (sA_cons (sE_nm (pv 2)) sA_nil))))) (fun _ _ _ q => q))
  (sSs_cons (sS_if (sT_tru (sE_nm (pv 3)))
  (sSs_one (sS_retNm (pv 3)))
  sSs_nil)
  (sSs_cons (asg_of (ps_set (i := 4) sc_number_fault.nd rfl (by first | exact Or.inl rfl | exact Or.inr rfl) (sE_bin op_addA opS_add (sE_nm (pv 1)) (sE_nm (pv 2)))) (fun _ _ _ q => q))
  (sSs_cons (sS_if (sT_cmp (op_eqD hr.units) opS_eq (sE_nm (pv 4)) (sE_lenN q.hK (pe_callB call_lenA (by rfl) q.n_len (by decide +kernel) (pa_cons (pv 0) pa_nil))) (nomark _))
  (sSs_one (sS_ret sE_int))
  sSs_nil)
  (sSs_cons (sS_if (sT_cmp (op_neD hr.units) opS_ne (sE_ixN q.hK (pv 0) (sE_nm (pv 4)) (fun _ _ => rfl)) sE_str (nomark _))
  (sSs_one (sS_ret (sE_bin op_addA opS_add (sE_nm (pv 4)) sE_int)))
  sSs_nil)
  (sSs_one (sS_ret (sE_call (df_bottom_fault q) fn_np (hr.mono (by decide)) (by rfl) takesK (sA_cons (sE_nm (pv 0)) (sA_cons (sE_bin op_addA opS_add (sE_nm (pv 4)) sE_int) sA_nil))))))))))))
theorem df_number_fault (q : Fc K mg T xa) : Df P w K mg base T "number_fault" 3 (["word"] : List Str) m_number_fault := by
  obtain ⟨f, fd, h1, h2⟩ := q.r_number_fault
  exact ⟨f, fd, h1, h2.kp, ok_number_fault q h2, h2.binds (ps := (["word"] : List Str)) (fun _ _ _ _ _ _ us hl => match us, hl with | [_], _ => rfl)⟩
theorem sc_word_pair : FnScope N_word_pair (["word"] : List Str) (defScope s_word_pair) := ⟨rfl, rfl, rfl, by decide +kernel, rfl, by decide +kernel, by decide +kernel⟩
theorem ok_word_pair (q : Fc K mg T xa) {f : Addr} {fd : FuncData} (F : Fun K "word_pair" "word_pair" s_word_pair f fd) : FnOk P w K mg base (L2N.CX P w) 1 f fd (["word"] : List Str) (spM T 1 m_word_pair) :=
  fn_ok F sc_word_pair rfl (by decide) fun cdv A outer s H E hr => (sSs_cons (sS_asg (sE_part (sE_nm (pv 0)) sE_str) (pg_tup rfl (pgs_cons (pg_name (i := 1) sc_word_pair.nd rfl (by first | exact Or.inl rfl | exact Or.inr rfl)) (pgs_cons (pg_name (i := 2) sc_word_pair.nd rfl (by first | exact Or.inl rfl | exact Or.inr rfl)) (pgs_cons (pg_name (i := 3) sc_word_pair.nd rfl (by first | exact Or.inl rfl | exact Or.inr rfl)) pgs_nil)))) (gs_T (gs_cons gs_N (gs_cons gs_N (gs_cons gs_N gs_nil)))))
  (sSs_one (sS_ret (sE_tup (sA_cons (sE_cb (pe_callTy call_intA (by rfl) q.n_int (by decide +kernel) (sA_cons (sE_nm (pv 1)) sA_nil)) caS_intT) (sA_cons (sE_if (sT_tru (sE_nm (pv 3))) (sE_cb (pe_callTy call_intA (by rfl) q.n_int (by decide +kernel) (sA_cons (sE_nm (pv 3)) sA_nil)) caS_intT) sE_int) sA_nil))))))
theorem df_word_pair (q : Fc K mg T xa) : Df P w K mg base T "word_pair" 1 (["word"] : List Str) m_word_pair := by
  obtain ⟨f, fd, h1, h2⟩ := q.r_word_pair
  exact ⟨f, fd, h1, h2.kp, ok_word_pair q h2, h2.binds (ps := (["word"] : List Str)) (fun _ _ _ _ _ _ us hl => match us, hl with | [_], _ => rfl)⟩
theorem sc_read_pair : FnScope N_read_pair (["text"] : List Str) (defScope s_read_pair) := ⟨rfl, rfl, rfl, by decide +kernel, rfl, by decide +kernel, by decide +kernel⟩
theorem ok_read_pair (q : Fc K mg T xa) {f : Addr} {fd : FuncData} (F : Fun K "read_pair" "read_pair" s_read_pair f fd) : FnOk P w K mg base (L2N.CX P w) 4 f fd (["text"] : List Str) (spM T 1 m_read_pair) :=
  fn_ok F sc_read_pair rfl (by decide) fun cdv A outer s H E hr => (sSs_cons (sS_expr (sE_call (df_check_length q) fn_np (hr.mono (by decide)) (by rfl) takesK (sA_cons (sE_nm (pv 0)) sA_nil)))
  (sSs_cons (asg_of (ps_set (i := 1) sc_read_pair.nd rfl (by first | exact Or.inl rfl | exact Or.inr rfl) (sE_call (df_number_fault q) fn_np (hr.mono (by decide)) (by rfl) takesK (sA_cons (sE_nm (pv 0)) sA_nil))) (fun _ _ _ q => q))
  (sSs_cons (sS_if (sT_tru (sE_nm (pv 1)))
  (sSs_one sS_st)
  sSs_nil)
  (sSs_one (sS_ret (sE_call (df_word_pair q) fn_np (hr.mono (by decide)) (by rfl) takesK (sA_cons (sE_nm (pv 0)) sA_nil)))))))
theorem df_read_pair (q : Fc K mg T xa) : Df P w K mg base T "read_pair" 4 (["text"] : List Str) m_read_pair := by
  obtain ⟨f, fd, h1, h2⟩ := q.r_read_pair
  exact ⟨f, fd, h1, h2.kp, ok_read_pair q h2, h2.binds (ps := (["text"] : List Str)) (fun _ _ _ _ _ _ us hl => match us, hl with | [_], _ => rfl)⟩
theorem sc_is_integer : FnScope N_is_integer (["value"] : List Str) (defScope s_is_integer) := ⟨rfl, rfl, rfl, by decide +kernel, rfl, by decide +kernel, by decide +kernel⟩
theorem ok_is_integer (q : Fc K mg T xa) {f : Addr} {fd : FuncData} (F : Fun K "is_integer" "is_integer" s_is_integer f fd) : FnOk P w K mg base (L2N.CX P w) 1 f fd (["value"] : List Str) (spM T 1 m_is_integer) :=
  fn_ok F sc_is_integer rfl (by decide) fun cdv A outer s H E hr => (sSs_one (sS_ret (sE_and (sE_isTy (t := .int) q.hK q.al (by rfl) q.n_isinstance (sE_nm (pv 0)) (pe_bltn (by rfl) q.n_int (by decide +kernel) rfl)) (sE_one (sE_not (sE_isTy (t := .bool) q.hK q.al (by rfl) q.n_isinstance (sE_nm (pv 0)) (pe_bltn (by rfl) q.n_bool (by decide +kernel) rfl)))))))
theorem df_is_integer (q : Fc K mg T xa) : Df P w K mg base T "is_integer" 1 (["value"] : List Str) m_is_integer := by
  obtain ⟨f, fd, h1, h2⟩ := q.r_is_integer
  exact ⟨f, fd, h1, h2.kp, ok_is_integer q h2, h2.binds (ps := (["value"] : List Str)) (fun _ _ _ _ _ _ us hl => match us, hl with | [_], _ => rfl)⟩
theorem sc_Ratio_init : FnScope N_Ratio_init (["self", "top", "bottom"] : List Str) (defScope s_Ratio_init) := ⟨rfl, rfl, rfl, by decide +kernel, rfl, by decide +kernel, by decide +kernel⟩
theorem ok_Ratio_init (q : Fc K mg T xa) {f : Addr} {fd : FuncData} (F : FunB K "__init__" "Ratio.__init__" s_Ratio_init f fd (["self", "top", "bottom"] : List Str)) : FnOk P w K mg base (L2N.CX P w) 2 f fd (["self", "top", "bottom"] : List Str) (spQ T 3 m_Ratio_init) :=
  fnQ_okB F sc_Ratio_init rfl (by decide) fun cdv A outer s H E hr => (sSs_cons (sS_if (sT_bo (sT_or (sT_not (sT_tru (sE_call (df_is_integer q) fn_np (hr.mono (by decide)) (by rfl) takesK (sA_cons (sE_nm (pv 1)) sA_nil)))) (sT_or1 (sT_not (sT_tru (sE_call (df_is_integer q) fn_np (hr.mono (by decide)) (by rfl) takesK (sA_cons (sE_nm (pv 2)) sA_nil)))))))
  (sSs_one sS_st)
  sSs_nil)
  (sSs_cons (sS_if (sT_cmp (op_eqD hr.units) opS_eq (sE_nm (pv 2)) sE_int (nomark _))
  (sSs_one sS_st)
  sSs_nil)
  (sSs_cons (asg_of (ps_set (i := 3) sc_Ratio_init.nd rfl (by first | exact Or.inl rfl | exact Or.inr rfl) (sE_cb (pe_callBfun cr_gcd (by rfl) q.i_gcd (sA_cons (sE_nm (pv 1)) (sA_cons (sE_nm (pv 2)) sA_nil))) caS_gcd)) (fun _ _ _ q => q))
  (sSs_cons (sS_if (sT_cmp op_lt opS_lt (sE_nm (pv 2)) sE_int (nomark _))
  (sSs_one (asg_of (ps_set (i := 3) sc_Ratio_init.nd rfl (by first | exact Or.inl rfl | exact Or.inr rfl) (sE_un un_neg unS_neg (sE_nm (pv 3)))) (fun _ _ _ q => q)))
  sSs_nil)
  (sSs_cons (sS_setF (ps_fld (pv 0) (sE_bin op_divA opS_div (sE_nm (pv 1)) (sE_nm (pv 3))) rfl) (q.al 0).cl q.na_Ratio_top)
  (sSs_one (sS_setF (ps_fld (pv 0) (sE_bin op_divA opS_div (sE_nm (pv 2)) (sE_nm (pv 3))) rfl) (q.al 0).cl q.na_Ratio_bottom)))))))
theorem make_Ratio {X : Cx} {E : XK} {pos p : Pos} {e : Expr} {es : List Expr} {fr : FA} (q : Fc X.K X.mg T xa) (hr : Room 3 X.A) (hg : Gl X "Ratio") (tk : L2N.Takes X (WK E)) (ha : SA X T (WK E) (e :: es) fr)
    (he : starEach (e :: es) X.env = (false, eval e X.env) :: starEach es X.env := by rfl) (hpl : (backTo pos (starEach es X.env)).any (·.1) = false := by rfl) :
    SE X T (WK E) (.Call (.Name "Ratio" p) (e :: es) [] pos) (EV.call mk_Ratio fr) := by
  obtain ⟨f, fd, M, F⟩ := q.in_Ratio
  have h := sE_make (c := 0) (dd := []) (pos := pos) (p := p) M (ok_Ratio_init (P := X.prog) (w := X.w) (base := X.base) q F) rfl hr hg q.g_Ratio F.bd .nil (fun _ => .nil) fnQ_np tk ha (by decide) he hpl
  rw [q.nm_Ratio] at h
  have e1 : (fun xs : List D => EV.mk 0 ["top", "bottom"] m_Ratio_init (xs ++ [])) = mk_Ratio := by
    funext xs
    rw [List.append_nil]
    rfl
  rw [e1] at h
  exact h
theorem sc_number : FnScope N_number (["value"] : List Str) (defScope s_number) := ⟨rfl, rfl, rfl, by decide +kernel, rfl, by decide +kernel, by decide +kernel⟩
theorem ok_number (q : Fc K mg T xa) {f : Addr} {fd : FuncData} (F : Fun K "number" "number" s_number f fd) : FnOk P w K mg base (L2N.CX P w) 5 f fd (["value"] : List Str) (spM T 1 m_number) :=
  fn_ok F sc_number rfl (by decide) fun cdv A outer s H E hr => (sSs_cons (sS_if (sT_tru (sE_isC (c := 0) q.hK q.al q.kc_Ratio (by rfl) q.n_isinstance (sE_nm (pv 0)) (pe_glob (by rfl) q.g_Ratio rfl)))
  (sSs_one (sS_retNm (pv 0)))
  sSs_nil)
  (sSs_cons (sS_if (sT_tru (sE_isTy (t := .str) q.hK q.al (by rfl) q.n_isinstance (sE_nm (pv 0)) (pe_bltn (by rfl) q.n_str (by decide +kernel) rfl)))
  (sSs_cons (sS_asg (sE_call (df_read_pair q) fn_np (hr.mono (by decide)) (by rfl) takesK (sA_cons (sE_nm (pv 0)) sA_nil)) (pg_tup rfl (pgs_cons (pg_name (i := 1) sc_number.nd rfl (by first | exact Or.inl rfl | exact Or.inr rfl)) (pgs_cons (pg_name (i := 2) sc_number.nd rfl (by first | exact Or.inl rfl | exact Or.inr rfl)) pgs_nil))) (gs_T (gs_cons gs_N (gs_cons gs_N gs_nil))))
  (sSs_one (sS_ret (make_Ratio q (hr.mono (by decide)) (by rfl) takesK (sA_cons (sE_nm (pv 1)) (sA_cons (sE_nm (pv 2)) sA_nil))))))
  sSs_nil)
  (sSs_cons (sS_if (sT_tru (sE_call (df_is_integer q) fn_np (hr.mono (by decide)) (by rfl) takesK (sA_cons (sE_nm (pv 0)) sA_nil)))
  (sSs_one (sS_ret sE_st))
  sSs_nil)
  (sSs_one sS_st))))
theorem df_number (q : Fc K mg T xa) : Df P w K mg base T "number" 5 (["value"] : List Str) m_number := by
  obtain ⟨f, fd, h1, h2⟩ := q.r_number
  exact ⟨f, fd, h1, h2.kp, ok_number q h2, h2.binds (ps := (["value"] : List Str)) (fun _ _ _ _ _ _ us hl => match us, hl with | [_], _ => rfl)⟩
theorem sc_tops_of_ratios : FnScope N_tops_of_ratios (["numbers"] : List Str) (defScope s_tops_of_ratios) := ⟨rfl, rfl, rfl, by decide +kernel, rfl, by decide +kernel, by decide +kernel⟩
theorem ok_tops_of_ratios (q : Fc K mg T xa) {f : Addr} {fd : FuncData} (F : Fun K "tops_of_ratios" "tops_of_ratios" s_tops_of_ratios f fd) : FnOk P w K mg base (L2N.CX P w) 1 f fd (["numbers"] : List Str) (spM T 1 m_tops_of_ratios) :=
  fn_ok F sc_tops_of_ratios rfl (by decide) fun cdv A outer s H E hr => (sSs_cons (asg_of (ps_set (i := 1) sc_tops_of_ratios.nd rfl (by first | exact Or.inl rfl | exact Or.inr rfl) sE_int) (fun _ _ _ q => q))
  (sSs_cons (sS_for (passes_of rfl) rfl (sI_seq q.hK (sE_nm (pv 0))) (pg_name (i := 2) sc_tops_of_ratios.nd rfl (by first | exact Or.inl rfl | exact Or.inr rfl)) gs_N
  (sSs_one (asg_of (ps_set (i := 1) sc_tops_of_ratios.nd rfl (by first | exact Or.inl rfl | exact Or.inr rfl) (sE_cb (pe_callBfun cr_lcm (by rfl) q.i_lcm (sA_cons (sE_nm (pv 1)) (sA_cons (sE_fld q.fd_bottom (sE_nm (pv 2)) (by rfl)) sA_nil))) caS_lcm)) (fun _ _ _ q => q))))
  (sSs_one (sS_ret (sE_tup (sA_cons (sE_frz (sO_lc rfl sc_tops_of_ratios.nd (sI_seq q.hK (sE_nm (pv 0))) (blkOk_by (own := [("each", 2)]) (N := N_tops_of_ratios) (sc := defScope s_tops_of_ratios) (by decide +kernel)) (fun _ _ _ _ _ => (pg_name (i := 2) sc_tops_of_ratios.nd rfl (by first | exact Or.inl rfl | exact Or.inr rfl))) gs_N (fun _ _ _ _ _ => pts_yes) (fun _ _ _ _ _ => (sE_bin op_mulA opS_mul (sE_fld q.fd_top (sE_nm (pv 2)) (by rfl)) (sE_bin op_divA opS_div (sE_nm (pv 1)) (sE_fld q.fd_bottom (sE_nm (pv 2)) (by rfl))))))) (sA_cons (sE_nm (pv 1)) sA_nil)))))))
theorem df_tops_of_ratios (q : Fc K mg T xa) : Df P w K mg base T "tops_of_ratios" 1 (["numbers"] : List Str) m_tops_of_ratios := by
  obtain ⟨f, fd, h1, h2⟩ := q.r_tops_of_ratios
  exact ⟨f, fd, h1, h2.kp, ok_tops_of_ratios q h2, h2.binds (ps := (["numbers"] : List Str)) (fun _ _ _ _ _ _ us hl => match us, hl with | [_], _ => rfl)⟩
theorem sc_book_fault : FnScope N_book_fault (["numbers"] : List Str) (defScope s_book_fault) := ⟨rfl, rfl, rfl, by decide +kernel, rfl, by decide +kernel, by decide +kernel⟩
theorem ok_book_fault (q : Fc K mg T xa) {f : Addr} {fd : FuncData} (F : Fun K "book_fault" "book_fault" s_book_fault f fd) : FnOk P w K mg base (L2N.CX P w) 2 f fd (["numbers"] : List Str) (spM T 1 m_book_fault) :=
  fn_ok F sc_book_fault rfl (by decide) fun cdv A outer s H E hr => (sSs_cons (sS_if (sT_cmp op_lt opS_lt (sE_lenN q.hK (pe_callB call_lenA (by rfl) q.n_len (by decide +kernel) (pa_cons (pv 0) pa_nil))) sE_int (nomark _))
  (sSs_one (sS_ret sE_str))
  sSs_nil)
  (sSs_cons (sS_if (sT_bo (sT_or (sT_cmp (op_eqD hr.units) opS_eq (sE_fld q.fd_top (sE_ixN q.hK (pv 0) sE_int (fun _ _ => rfl)) (by rfl)) sE_int (nomark _)) (sT_or1 (sT_cmp (op_eqD hr.units) opS_eq (sE_fld q.fd_top (sE_ixN q.hK (pv 0) (sE_un un_neg unS_neg sE_int) (fun _ _ => rfl)) (by rfl)) sE_int (nomark _)))))
  (sSs_one (sS_ret sE_str))
  sSs_nil)
  (sSs_cons (sS_asg (sE_call (df_tops_of_ratios q) fn_np (hr.mono (by decide)) (by rfl) takesK (sA_cons (sE_nm (pv 0)) sA_nil)) (pg_tup rfl (pgs_cons (pg_name (i := 1) sc_book_fault.nd rfl (by first | exact Or.inl rfl | exact Or.inr rfl)) (pgs_cons (pg_name (i := 2) sc_book_fault.nd rfl (by first | exact Or.inl rfl | exact Or.inr rfl)) pgs_nil))) (gs_T (gs_cons gs_N (gs_cons gs_N gs_nil))))
  (sSs_cons (sS_if (sT_bo (sT_or (sT_cmp (op_neD hr.units) opS_ne (sE_cb (pe_callB (cr_sum rfl) (by rfl) q.n_sum (by decide +kernel) (sA_cons (sE_stp (sE_nm (pv 1)) (sP_so sE_int) sP_no (sP_so sE_int)) sA_nil)) caS_sum) (sE_nm (pv 2)) (nomark _)) (sT_or1 (sT_cmp (op_neD hr.units) opS_ne (sE_cb (pe_callB (cr_sum rfl) (by rfl) q.n_sum (by decide +kernel) (sA_cons (sE_stp (sE_nm (pv 1)) (sP_so sE_int) sP_no (sP_so sE_int)) sA_nil)) caS_sum) (sE_nm (pv 2)) (nomark _)))))
  (sSs_one (sS_ret sE_str))
  sSs_nil)
  (sSs_one (sS_ret sE_str))))))
theorem df_book_fault (q : Fc K mg T xa) : Df P w K mg base T "book_fault" 2 (["numbers"] : List Str) m_book_fault := by
  obtain ⟨f, fd, h1, h2⟩ := q.r_book_fault
  exact ⟨f, fd, h1, h2.kp, ok_book_fault q h2, h2.binds (ps := (["numbers"] : List Str)) (fun _ _ _ _ _ _ us hl => match us, hl with | [_], _ => rfl)⟩
theorem sc_check_reach : FnScope N_check_reach (["reach"] : List Str) (defScope s_check_reach) := ⟨rfl, rfl, rfl, by decide +kernel, rfl, by decide +kernel, by decide +kernel⟩
theorem ok_check_reach (q : Fc K mg T xa) {f : Addr} {fd : FuncData} (F : Fun K "check_reach" "check_reach" s_check_reach f fd) : FnOk P w K mg base (L2N.CX P w) 3 f fd (["reach"] : List Str) (spM T 1 m_check_reach) :=
  fn_ok F sc_check_reach rfl (by decide) fun cdv A outer s H E hr => (sSs_one (sS_if (sT_cmp op_gt opS_gt (sE_nm (pv 0)) (sE_kInt q.k_REACH_LIMIT (by rfl)) (nomark _))
  (sSs_one (raise_TooMany q rfl (hr.mono (by decide)) (by rfl) takesK (sA_cons sE_str (sA_cons (sE_nm (pv 0)) sA_nil))))
  sSs_nil))
theorem df_check_reach (q : Fc K mg T xa) : Df P w K mg base T "check_reach" 3 (["reach"] : List Str) m_check_reach := by
  obtain ⟨f, fd, h1, h2⟩ := q.r_check_reach
  exact ⟨f, fd, h1, h2.kp, ok_check_reach q h2, h2.binds (ps := (["reach"] : List Str)) (fun _ _ _ _ _ _ us hl => match us, hl with | [_], _ => rfl)⟩
theorem sc_Book_init : FnScope N_Book_init (["self", "numbers"] : List Str) (defScope s_Book_init) := ⟨rfl, rfl, rfl, by decide +kernel, rfl, by decide +kernel, by decide +kernel⟩
theorem ok_Book_init (q : Fc K mg T xa) {f : Addr} {fd : FuncData} (F : FunB K "__init__" "Book.__init__" s_Book_init f fd (["self", "numbers"] : List Str)) : FnOk P w K mg base (L2N.CX P w) 6 f fd (["self", "numbers"] : List Str) (spQ T 2 m_Book_init) :=
  fnQ_okB F sc_Book_init rfl (by decide) fun cdv A outer s H E hr => (sSs_cons (setLc rfl sc_Book_init.nd rfl rfl (sw_true rfl rfl rfl (by decide +kernel)) (sI_seq q.hK (sE_nm (pv 1))) (blkOk_by (own := [("each", 6)]) (N := N_Book_init) (sc := defScope s_Book_init) (by decide +kernel)) (fun _ _ _ _ _ => (pg_name (i := 6) sc_Book_init.nd rfl (by first | exact Or.inl rfl | exact Or.inr rfl))) gs_N (fun _ _ _ _ _ => pts_yes) (fun _ _ _ _ _ => (sE_call (df_number q) fn_np (hr.mono (by decide)) (by rfl) takesZ (sA_cons (sE_nm (pv 6)) sA_nil))))
  (sSs_cons (asg_of (ps_set (i := 3) sc_Book_init.nd rfl (by first | exact Or.inl rfl | exact Or.inr rfl) (sE_call (df_book_fault q) fn_np (hr.mono (by decide)) (by rfl) takesK (sA_cons (sE_nm (pv 2)) sA_nil))) (fun _ _ _ q => q))
  (sSs_cons (sS_if (sT_tru (sE_nm (pv 3)))
  (sSs_one (raise_BadBook q rfl (hr.mono (by decide)) (by rfl) takesK (sA_cons (sE_nm (pv 3)) sA_nil)))
  sSs_nil)
  (sSs_cons (sS_expr (sE_call (df_check_reach q) fn_np (hr.mono (by decide)) (by rfl) takesK (sA_cons (sE_bin op_sub opS_sub (sE_lenN q.hK (pe_callB call_lenA (by rfl) q.n_len (by decide +kernel) (pa_cons (pv 2) pa_nil))) sE_int) sA_nil)))
  (sSs_cons (sS_asg (sE_call (df_tops_of_ratios q) fn_np (hr.mono (by decide)) (by rfl) takesK (sA_cons (sE_nm (pv 2)) sA_nil)) (pg_tup rfl (pgs_cons (pg_name (i := 4) sc_Book_init.nd rfl (by first | exact Or.inl rfl | exact Or.inr rfl)) (pgs_cons (pg_name (i := 5) sc_Book_init.nd rfl (by first | exact Or.inl rfl | exact Or.inr rfl)) pgs_nil))) (gs_T (gs_cons gs_N (gs_cons gs_N gs_nil))))
  (sSs_cons (sS_setF (ps_fld (pv 0) (sE_cb (pe_callTy call_tuple_of (by rfl) q.n_tuple (by decide +kernel) (sA_cons (sE_nm (pv 2)) sA_nil)) caS_tuple) rfl) (q.al 1).cl q.na_Book_numbers)
  (sSs_cons (sS_setF (ps_fld (pv 0) (sE_bin op_sub opS_sub (sE_lenN q.hK (pe_callB call_lenA (by rfl) q.n_len (by decide +kernel) (pa_cons (pv 2) pa_nil))) sE_int) rfl) (q.al 1).cl q.na_Book_reach)
  (sSs_cons (sS_setF (ps_fld (pv 0) (sE_cb (pe_callTy call_tuple_of (by rfl) q.n_tuple (by decide +kernel) (sA_cons (sE_nm (pv 4)) sA_nil)) caS_tuple) rfl) (q.al 1).cl q.na_Book__tops)
  (sSs_cons (sS_setF (ps_fld (pv 0) (sE_nm (pv 5)) rfl) (q.al 1).cl q.na_Book__bottom)
  (sSs_cons (sS_setF (ps_fld (pv 0) sE_non rfl) (q.al 1).cl q.na_Book__kept_calm)
  (sSs_cons (sS_setF (ps_fld (pv 0) sE_non rfl) (q.al 1).cl q.na_Book__kept_tame)
  (sSs_one (sS_setF (ps_fld (pv 0) sE_non rfl) (q.al 1).cl q.na_Book__kept_column)))))))))))))
theorem make_Book {X : Cx} {E : XK} {pos p : Pos} {e : Expr} {es : List Expr} {fr : FA} (q : Fc X.K X.mg T xa) (hr : Room 7 X.A) (hg : Gl X "Book") (tk : L2N.Takes X (WK E)) (ha : SA X T (WK E) (e :: es) fr)
    (he : starEach (e :: es) X.env = (false, eval e X.env) :: starEach es X.env := by rfl) (hpl : (backTo pos (starEach es X.env)).any (·.1) = false := by rfl) :
    SE X T (WK E) (.Call (.Name "Book" p) (e :: es) [] pos) (EV.call mk_Book fr) := by
  obtain ⟨f, fd, M, F⟩ := q.in_Book
  have h := sE_make (c := 1) (dd := []) (pos := pos) (p := p) M (ok_Book_init (P := X.prog) (w := X.w) (base := X.base) q F) rfl hr hg q.g_Book F.bd .nil (fun _ => .nil) fnQ_np tk ha (by decide) he hpl
  rw [q.nm_Book] at h
  have e1 : (fun xs : List D => EV.mk 1 ["numbers", "reach", "_tops", "_bottom", "_kept_calm", "_kept_tame", "_kept_column"] m_Book_init (xs ++ [])) = mk_Book := by
    funext xs
    rw [List.append_nil]
    rfl
  rw [e1] at h
  exact h
theorem sc__law_lowest : FnScope N__law_lowest (["high", "low"] : List Str) (defScope s__law_lowest) := ⟨rfl, rfl, rfl, by decide +kernel, rfl, by decide +kernel, by decide +kernel⟩
theorem ok__law_lowest (q : Fc K mg T xa) {f : Addr} {fd : FuncData} (F : Fun K "_law_lowest" "_law_lowest" s__law_lowest f fd) : FnOk P w K mg base (L2N.CX P w) 1 f fd (["high", "low"] : List Str) (spM T 2 m__law_lowest) :=
  fn_ok F sc__law_lowest rfl (by decide) fun cdv A outer s H E hr => (sSs_cons (asg_of (ps_set (i := 2) sc__law_lowest.nd rfl (by first | exact Or.inl rfl | exact Or.inr rfl) (sE_cb (pe_callB call_abs (by rfl) q.n_abs (by decide +kernel) (sA_cons (sE_nm (pv 0)) sA_nil)) caS_abs)) (fun _ _ _ q => q))
  (sSs_cons (asg_of (ps_set (i := 3) sc__law_lowest.nd rfl (by first | exact Or.inl rfl | exact Or.inr rfl) (sE_cb (pe_callB call_abs (by rfl) q.n_abs (by decide +kernel) (sA_cons (sE_nm (pv 1)) sA_nil)) caS_abs)) (fun _ _ _ q => q))
  (sSs_cons (sS_for (passes_of rfl) rfl (sI_rng1 (pi_range1 (by rfl) q.n_range (sA_cons (sE_bin op_addA opS_add (sE_bin op_mulA opS_mul sE_int (sE_bits (pe_bits (sE_nm (pv 3))))) sE_int) sA_nil))) (pg_name (i := 4) sc__law_lowest.nd rfl (by first | exact Or.inl rfl | exact Or.inr rfl)) gs_N
  (sSs_cons (sS_if (sT_cmp (op_eqD hr.units) opS_eq (sE_nm (pv 3)) sE_int (nomark _))
  (sSs_one sS_break)
  sSs_nil)
  (sSs_cons (asg_of (ps_set (i := 5) sc__law_lowest.nd rfl (by first | exact Or.inl rfl | exact Or.inr rfl) (sE_bin op_modN opS_mod (sE_cb (pe_callTy call_int1 (by rfl) q.n_int (by decide +kernel) (sA_cons (sE_nm (pv 2)) sA_nil)) caS_int) (sE_nm (pv 3)))) (fun _ _ _ q => q))
  (sSs_cons (asg_of (ps_set (i := 2) sc__law_lowest.nd rfl (by first | exact Or.inl rfl | exact Or.inr rfl) (sE_nm (pv 3))) (fun _ _ _ q => q))
  (sSs_one (asg_of (ps_set (i := 3) sc__law_lowest.nd rfl (by first | exact Or.inl rfl | exact Or.inr rfl) (sE_nm (pv 5))) (fun _ _ _ q => q)))))))
  (sSs_cons (sS_if (sT_cmp op_lt opS_lt (sE_nm (pv 1)) sE_int (nomark _))
  (sSs_one (asg_of (ps_set (i := 2) sc__law_lowest.nd rfl (by first | exact Or.inl rfl | exact Or.inr rfl) (sE_un un_neg unS_neg (sE_nm (pv 2)))) (fun _ _ _ q => q)))
  sSs_nil)
  (sSs_one (sS_ret (sE_tup (sA_cons (sE_bin op_divA opS_div (sE_nm (pv 0)) (sE_nm (pv 2))) (sA_cons (sE_bin op_divA opS_div (sE_nm (pv 1)) (sE_nm (pv 2))) sA_nil)))))))))
theorem df__law_lowest (q : Fc K mg T xa) : Df P w K mg base T "_law_lowest" 1 (["high", "low"] : List Str) m__law_lowest := by
  obtain ⟨f, fd, h1, h2⟩ := q.r__law_lowest
  exact ⟨f, fd, h1, h2.kp, ok__law_lowest q h2, h2.binds (ps := (["high", "low"] : List Str)) (fun _ _ _ _ _ _ us hl => match us, hl with | [_, _], _ => rfl)⟩
theorem sc__law_pairs_of : FnScope N__law_pairs_of (["plain"] : List Str) (defScope s__law_pairs_of) := ⟨rfl, rfl, rfl, by decide +kernel, rfl, by decide +kernel, by decide +kernel⟩
theorem ok__law_pairs_of (q : Fc K mg T xa) {f : Addr} {fd : FuncData} (F : Fun K "_law_pairs_of" "_law_pairs_of" s__law_pairs_of f fd) : FnOk P w K mg base (L2N.CX P w) 2 f fd (["plain"] : List Str) (spM T 1 m__law_pairs_of) :=
  fn_ok F sc__law_pairs_of rfl (by decide) fun cdv A outer s H E hr => (sSs_one (sS_retO (sO_lc rfl sc__law_pairs_of.nd (sI_seq q.hK (sE_ixN q.hK (pv 0) sE_int (fun _ _ => rfl))) (blkOk_by (own := [("x", 1)]) (N := N__law_pairs_of) (sc := defScope s__law_pairs_of) (by decide +kernel)) (fun _ _ _ _ _ => (pg_name (i := 1) sc__law_pairs_of.nd rfl (by first | exact Or.inl rfl | exact Or.inr rfl))) gs_N (fun _ _ _ _ _ => pts_yes) (fun _ _ _ _ _ => (sE_call (df__law_lowest q) fn_np (hr.mono (by decide)) (by rfl) takesZ (sA_cons (sE_nm (pv 1)) (sA_cons (sE_ixN q.hK (pv 0) sE_int (fun _ _ => rfl)) sA_nil)))))))
theorem df__law_pairs_of (q : Fc K mg T xa) : Df P w K mg base T "_law_pairs_of" 2 (["plain"] : List Str) m__law_pairs_of := by
  obtain ⟨f, fd, h1, h2⟩ := q.r__law_pairs_of
  exact ⟨f, fd, h1, h2.kp, ok__law_pairs_of q h2, h2.binds (ps := (["plain"] : List Str)) (fun _ _ _ _ _ _ us hl => match us, hl with | [_], _ => rfl)⟩
theorem sc__law_word : FnScope N__law_word (["x"] : List Str) (defScope s__law_word) := ⟨rfl, rfl, rfl, by decide +kernel, rfl, by decide +kernel, by decide +kernel⟩
theorem ok__law_word (q : Fc K mg T xa) {f : Addr} {fd : FuncData} (F : Fun K "_law_word" "_law_word" s__law_word f fd) : FnOk P w K mg base (L2N.CX P w) 1 f fd (["x"] : List Str) (spM T 1 m__law_word) :=
  fn_ok F sc__law_word rfl (by decide) fun cdv A outer s H E hr => (sSs_cons (sS_if (sT_cmp (op_eqD hr.units) opS_eq (sE_ixN q.hK (pv 0) sE_int (fun _ _ => rfl)) sE_int (nomark _))
  (sSs_one (sS_ret (sE_cb (pe_callTy call_strA (by rfl) q.n_str (by decide +kernel) (sA_cons (sE_ixN q.hK (pv 0) sE_int (fun _ _ => rfl)) sA_nil)) caS_str)))
  sSs_nil)
  (sSs_one (sS_ret (sE_bin op_addA opS_add (sE_bin op_addA opS_add (sE_cb (pe_callTy call_strA (by rfl) q.n_str (by decide +kernel) (sA_cons (sE_ixN q.hK (pv 0) sE_int (fun _ _ => rfl)) sA_nil)) caS_str) sE_str) (sE_cb (pe_callTy call_strA (by rfl) q.n_str (by decide +kernel) (sA_cons (sE_ixN q.hK (pv 0) sE_int (fun _ _ => rfl)) sA_nil)) caS_str)))))
theorem df__law_word (q : Fc K mg T xa) : Df P w K mg base T "_law_word" 1 (["x"] : List Str) m__law_word := by
  obtain ⟨f, fd, h1, h2⟩ := q.r__law_word
  exact ⟨f, fd, h1, h2.kp, ok__law_word q h2, h2.binds (ps := (["x"] : List Str)) (fun _ _ _ _ _ _ us hl => match us, hl with | [_], _ => rfl)⟩
theorem sc__law_book : FnScope N__law_book (["plain"] : List Str) (defScope s__law_book) := ⟨rfl, rfl, rfl, by decide +kernel, rfl, by decide +kernel, by decide +kernel⟩
theorem ok__law_book (q : Fc K mg T xa) {f : Addr} {fd : FuncData} (F : Fun K "_law_book" "_law_book" s__law_book f fd) : FnOk P w K mg base (L2N.CX P w) 8 f fd (["plain"] : List Str) (spM T 1 m__law_book) :=
  fn_ok F sc__law_book rfl (by decide) fun cdv A outer s H E hr => (sSs_one (sS_ret (make_Book q (hr.mono (by decide)) (by rfl) takesK (sA_cons (sE_frz (sO_lc rfl sc__law_book.nd (sI_seq q.hK (sE_call (df__law_pairs_of q) fn_np (hr.mono (by decide)) (by rfl) takesK (sA_cons (sE_nm (pv 0)) sA_nil))) (blkOk_by (own := [("x", 1)]) (N := N__law_book) (sc := defScope s__law_book) (by decide +kernel)) (fun _ _ _ _ _ => (pg_name (i := 1) sc__law_book.nd rfl (by first | exact Or.inl rfl | exact Or.inr rfl))) gs_N (fun _ _ _ _ _ => pts_yes) (fun _ _ _ _ _ => (sE_call (df__law_word q) fn_np (hr.mono (by decide)) (by rfl) takesZ (sA_cons (sE_nm (pv 1)) sA_nil))))) sA_nil))))
theorem df__law_book (q : Fc K mg T xa) : Df P w K mg base T "_law_book" 8 (["plain"] : List Str) m__law_book := by
  obtain ⟨f, fd, h1, h2⟩ := q.r__law_book
  exact ⟨f, fd, h1, h2.kp, ok__law_book q h2, h2.binds (ps := (["plain"] : List Str)) (fun _ _ _ _ _ _ us hl => match us, hl with | [_], _ => rfl)⟩
theorem sc__law_halved : FnScope N__law_halved (["row"] : List Str) (defScope s__law_halved) := ⟨rfl, rfl, rfl, by decide +kernel, rfl, by decide +kernel, by decide +kernel⟩
theorem ok__law_halved (q : Fc K mg T xa) {f : Addr} {fd : FuncData} (F : Fun K "_law_halved" "_law_halved" s__law_halved f fd) : FnOk P w K mg base (L2N.CX P w) 1 f fd (["row"] : List Str) (spM T 1 m__law_halved) :=
  fn_ok F sc__law_halved rfl (by decide) fun cdv A outer s H E hr => (sSs_cons (asgO_of (ps_set (i := 1) sc__law_halved.nd rfl (by first | exact Or.inl rfl | exact Or.inr rfl) (sO_lst sA_nil)) (fun _ _ _ q => q))
  (sSs_cons (sS_for (passes_of rfl) rfl (sI_rng1 (pi_range1 (by rfl) q.n_range (sA_cons (sE_bin op_sub opS_sub (sE_lenN q.hK (pe_callB call_lenA (by rfl) q.n_len (by decide +kernel) (pa_cons (pv 0) pa_nil))) sE_int) sA_nil))) (pg_name (i := 2) sc__law_halved.nd rfl (by first | exact Or.inl rfl | exact Or.inr rfl)) gs_N
  (sSs_one (sS_app (pe_bm PySem.F.plainAttrs_list PySem.F.slot_list_append PySem.F.type_list_append mt_append (pv 1) (sA_cons (sE_bin op_sub opS_sub (sE_ixN q.hK (pv 0) (sE_nm (pv 2)) (fun _ _ => rfl)) (sE_if (sT_cmp op_gt opS_gt (sE_nm (pv 2)) sE_int (nomark _)) (sE_ixN q.hK (pv 1) (sE_bin op_sub opS_sub (sE_nm (pv 2)) sE_int) (fun _ _ => rfl)) sE_int)) sA_nil)))))
  (sSs_one (sS_retNm (pv 1)))))
theorem df__law_halved (q : Fc K mg T xa) : Df P w K mg base T "_law_halved" 1 (["row"] : List Str) m__law_halved := by
  obtain ⟨f, fd, h1, h2⟩ := q.r__law_halved
  exact ⟨f, fd, h1, h2.kp, ok__law_halved q h2, h2.binds (ps := (["row"] : List Str)) (fun _ _ _ _ _ _ us hl => match us, hl with | [_], _ => rfl)⟩
theorem sc_Book_over_one_bottom : FnScope N_Book_over_one_bottom (["self"] : List Str) (defScope s_Book_over_one_bottom) := ⟨rfl, rfl, rfl, by decide +kernel, rfl, by decide +kernel, by decide +kernel⟩
theorem ok_Book_over_one_bottom (q : Fc K mg T xa) {f : Addr} {fd : FuncData} (F : Fun K "over_one_bottom" "Book.over_one_bottom" s_Book_over_one_bottom f fd) : FnOk P w K mg base (L2N.CX P w) 1 f fd (["self"] : List Str) (spM T 1 m_Book_over_one_bottom) :=
  fn_ok F sc_Book_over_one_bottom rfl (by decide) fun cdv A outer s H E hr => (sSs_one (sS_ret (sE_tup (sA_cons (sE_fld q.fd__tops (sE_nm (pv 0)) (by rfl)) (sA_cons (sE_fld q.fd__bottom (sE_nm (pv 0)) (by rfl)) sA_nil)))))
theorem dm_Book_over_one_bottom (q : Fc K mg T xa) : ∃ (f : Addr) (fd : FuncData), Meth K (T.ad 1) "over_one_bottom" f ∧ FnOk P w K mg base (L2N.CX P w) 1 f fd (["self"] : List Str) (spM T ((["self"] : List Str)).length m_Book_over_one_bottom) ∧ Binds K fd (["self"] : List Str) [] := by
  obtain ⟨f, fd, h1, h2⟩ := q.mt_over_one_bottom
  exact ⟨f, fd, h1, ok_Book_over_one_bottom q h2, h2.binds (ps := (["self"] : List Str)) (fun _ _ _ _ _ _ us hl => match us, hl with | [_], _ => rfl)⟩
theorem sc_by_one_plus : FnScope N_by_one_plus (["tops"] : List Str) (defScope s_by_one_plus) := ⟨rfl, rfl, rfl, by decide +kernel, rfl, by decide +kernel, by decide +kernel⟩
theorem ok_by_one_plus (q : Fc K mg T xa) {f : Addr} {fd : FuncData} (F : Fun K "by_one_plus" "by_one_plus" s_by_one_plus f fd) : FnOk P w K mg base (L2N.CX P w) 1 f fd (["tops"] : List Str) (spM T 1 m_by_one_plus) :=
  fn_ok F sc_by_one_plus rfl (by decide) fun cdv A outer s H E hr => (sSs_cons (asgO_of (ps_set (i := 1) sc_by_one_plus.nd rfl (by first | exact Or.inl rfl | exact Or.inr rfl) (sO_lst sA_nil)) (fun _ _ _ q => q))
  (sSs_cons (asg_of (ps_set (i := 2) sc_by_one_plus.nd rfl (by first | exact Or.inl rfl | exact Or.inr rfl) sE_int) (fun _ _ _ q => q))
  (sSs_cons (sS_for (passes_of rfl) rfl (sI_seq q.hK (sE_nm (pv 0))) (pg_name (i := 3) sc_by_one_plus.nd rfl (by first | exact Or.inl rfl | exact Or.inr rfl)) gs_N
  (sSs_cons (asg_of (ps_set (i := 2) sc_by_one_plus.nd rfl (by first | exact Or.inl rfl | exact Or.inr rfl) (sE_bin op_sub opS_sub (sE_nm (pv 3)) (sE_nm (pv 2)))) (fun _ _ _ q => q))
  (sSs_one (sS_app (pe_bm PySem.F.plainAttrs_list PySem.F.slot_list_append PySem.F.type_list_append mt_append (pv 1) (sA_cons (sE_nm (pv 2)) sA_nil))))))
  (sSs_one (sS_ret (sE_tup (sA_cons (sE_sl (sE_nm (pv 1)) sP_no (sP_so (sE_un un_neg unS_neg sE_int))) (sA_cons (sE_ixN q.hK (pv 1) (sE_un un_neg unS_neg sE_int) (fun _ _ => rfl)) sA_nil))))))))
theorem df_by_one_plus (q : Fc K mg T xa) : Df P w K mg base T "by_one_plus" 1 (["tops"] : List Str) m_by_one_plus := by
  obtain ⟨f, fd, h1, h2⟩ := q.r_by_one_plus
  exact ⟨f, fd, h1, h2.kp, ok_by_one_plus q h2, h2.binds (ps := (["tops"] : List Str)) (fun _ _ _ _ _ _ us hl => match us, hl with | [_], _ => rfl)⟩
theorem sc_ratios : FnScope N_ratios (["tops", "bottom"] : List Str) (defScope s_ratios) := ⟨rfl, rfl, rfl, by decide +kernel, rfl, by decide +kernel, by decide +kernel⟩
theorem ok_ratios (q : Fc K mg T xa) {f : Addr} {fd : FuncData} (F : Fun K "ratios" "ratios" s_ratios f fd) : FnOk P w K mg base (L2N.CX P w) 4 f fd (["tops", "bottom"] : List Str) (spM T 2 m_ratios) :=
  fn_ok F sc_ratios rfl (by decide) fun cdv A outer s H E hr => (sSs_one (sS_ret (sE_cb (pe_callTy call_tuple_of (by rfl) q.n_tuple (by decide +kernel) (sA_cons (sE_frz (sO_lc rfl sc_ratios.nd (sI_seq q.hK (sE_nm (pv 0))) (blkOk_by (own := [("top", 2)]) (N := N_ratios) (sc := defScope s_ratios) (by decide +kernel)) (fun _ _ _ _ _ => (pg_name (i := 2) sc_ratios.nd rfl (by first | exact Or.inl rfl | exact Or.inr rfl))) gs_N (fun _ _ _ _ _ => pts_yes) (fun _ _ _ _ _ => (make_Ratio q (hr.mono (by decide)) (by rfl) takesZ (sA_cons (sE_nm (pv 2)) (sA_cons (sE_nm (pv 1)) sA_nil)))))) sA_nil)) caS_tuple)))
theorem df_ratios (q : Fc K mg T xa) : Df P w K mg base T "ratios" 4 (["tops", "bottom"] : List Str) m_ratios := by
  obtain ⟨f, fd, h1, h2⟩ := q.r_ratios
  exact ⟨f, fd, h1, h2.kp, ok_ratios q h2, h2.binds (ps := (["tops", "bottom"] : List Str)) (fun _ _ _ _ _ _ us hl => match us, hl with | [_, _], _ => rfl)⟩
theorem sc_made_book : FnScope N_made_book (["tops", "bottom"] : List Str) (defScope s_made_book) := ⟨rfl, rfl, rfl, by decide +kernel, rfl, by decide +kernel, by decide +kernel⟩
theorem ok_made_book (q : Fc K mg T xa) {f : Addr} {fd : FuncData} (F : Fun K "made_book" "made_book" s_made_book f fd) : FnOk P w K mg base (L2N.CX P w) 8 f fd (["tops", "bottom"] : List Str) (spM T 2 m_made_book) :=
  fn_ok F sc_made_book rfl (by decide) fun cdv A outer s H E hr => (sSs_one (sS_ret (make_Book q (hr.mono (by decide)) (by rfl) takesK (sA_cons (sE_call (df_ratios q) fn_np (hr.mono (by decide)) (by rfl) takesK (sA_cons (sE_nm (pv 0)) (sA_cons (sE_nm (pv 1)) sA_nil))) sA_nil))))
theorem df_made_book (q : Fc K mg T xa) : Df P w K mg base T "made_book" 8 (["tops", "bottom"] : List Str) m_made_book := by
  obtain ⟨f, fd, h1, h2⟩ := q.r_made_book
  exact ⟨f, fd, h1, h2.kp, ok_made_book q h2, h2.binds (ps := (["tops", "bottom"] : List Str)) (fun _ _ _ _ _ _ us hl => match us, hl with | [_, _], _ => rfl)⟩
theorem sc_slope : FnScope N_slope (["book"] : List Str) (defScope s_slope) := ⟨rfl, rfl, rfl, by decide +kernel, rfl, by decide +kernel, by decide +kernel⟩
theorem ok_slope (q : Fc K mg T xa) {f : Addr} {fd : FuncData} (F : Fun K "slope" "slope" s_slope f fd) : FnOk P w K mg base (L2N.CX P w) 9 f fd (["book"] : List Str) (spM T 1 m_slope) :=
  fn_ok F sc_slope rfl (by decide) fun cdv A outer s H E hr => (sSs_cons (sS_asg (sE_meth0 (c := 1) (q.al 1) (dm_Book_over_one_bottom q) fn_np q.nt_over_one_bottom (hr.mono (by decide)) takesK (sE_nm (pv 0))) (pg_tup rfl (pgs_cons (pg_name (i := 1) sc_slope.nd rfl (by first | exact Or.inl rfl | exact Or.inr rfl)) (pgs_cons (pg_name (i := 2) sc_slope.nd rfl (by first | exact Or.inl rfl | exact Or.inr rfl)) pgs_nil))) (gs_T (gs_cons gs_N (gs_cons gs_N gs_nil))))
  (sSs_cons (sS_asg (sE_call (df_by_one_plus q) fn_np (hr.mono (by decide)) (by rfl) takesK (sA_cons (sE_nm (pv 1)) sA_nil)) (pg_tup rfl (pgs_cons (pg_name (i := 3) sc_slope.nd rfl (by first | exact Or.inl rfl | exact Or.inr rfl)) (pgs_cons (pg_name (i := 4) sc_slope.nd rfl (by first | exact Or.inl rfl | exact Or.inr rfl)) pgs_nil))) (gs_T (gs_cons gs_N (gs_cons gs_N gs_nil))))
  (sSs_cons (sS_asg (sE_call (df_by_one_plus q) fn_np (hr.mono (by decide)) (by rfl) takesK (sA_cons (sE_nm (pv 3)) sA_nil)) (pg_tup rfl (pgs_cons (pg_name (i := 4) sc_slope.nd rfl (by first | exact Or.inl rfl | exact Or.inr rfl)) (pgs_cons (pg_name (i := 5) sc_slope.nd rfl (by first | exact Or.inl rfl | exact Or.inr rfl)) pgs_nil))) (gs_T (gs_cons gs_N (gs_cons gs_N gs_nil))))
  (sSs_cons (sS_if (sT_tru (sE_nm (pv 5)))
  (sSs_one (raise_BadBook q rfl (hr.mono (by decide)) (by rfl) takesK (sA_cons sE_str sA_nil)))
  sSs_nil)
  (sSs_one (sS_ret (sE_call (df_made_book q) fn_np (hr.mono (by decide)) (by rfl) takesK (sA_cons (sE_frz (sO_lc rfl sc_slope.nd (sI_seq q.hK (sE_nm (pv 3))) (blkOk_by (own := [("top", 6)]) (N := N_slope) (sc := defScope s_slope) (by decide +kernel)) (fun _ _ _ _ _ => (pg_name (i := 6) sc_slope.nd rfl (by first | exact Or.inl rfl | exact Or.inr rfl))) gs_N (fun _ _ _ _ _ => pts_yes) (fun _ _ _ _ _ => (sE_bin op_mulA opS_mul sE_int (sE_nm (pv 6)))))) (sA_cons (sE_nm (pv 2)) sA_nil)))))))))
theorem df_slope (q : Fc K mg T xa) : Df P w K mg base T "slope" 9 (["book"] : List Str) m_slope := by
  obtain ⟨f, fd, h1, h2⟩ := q.r_slope
  exact ⟨f, fd, h1, h2.kp, ok_slope q h2, h2.binds (ps := (["book"] : List Str)) (fun _ _ _ _ _ _ us hl => match us, hl with | [_], _ => rfl)⟩
theorem dk_slope (q : Fc K mg T xa) : ∃ (f : Addr) (fd : FuncData), mg "slope" = some (.ref f) ∧ PySem.W.keepIn K (.ref f) = true ∧ FnOk P w K mg base (L2N.CX P w) 9 f fd (["book"] : List Str) (spM T 1 m_slope) ∧ KBn K fd (["book"] : List Str) 0 (["book"] : List Str) (fun _ ws => ws) (fun _ zs => zs) := by
  obtain ⟨f, fd, h1, h2⟩ := q.r_slope
  refine ⟨f, fd, h1, h2.kp, ok_slope q h2, ?_⟩
  obtain ⟨oc, od, kV, doc, pm, an, cdv, ct, osl, rfl, lk, hcd⟩ := h2.ex
  exact ⟨fun s us ws _ hl hw => .of_eq (match us, ws, hl, hw with | [], [_], _, _ => rfl), fun _ r => r⟩
theorem sc__law_is_bad : FnScope N__law_is_bad (["error"] : List Str) (defScope s__law_is_bad) := ⟨rfl, rfl, rfl, by decide +kernel, rfl, by decide +kernel, by decide +kernel⟩
theorem okh__law_is_bad (q0 : Fx K mg T xa) (p : Addr × Obj) {f : Addr} {fd : FuncData} (F : Fun K "_law_is_bad" "_law_is_bad" s__law_is_bad f fd) : EVX.FnHp P w K mg base 1 f fd (["error"] : List Str) p (spM (T.hot p) 1 m__law_is_bad) :=
  fnH_ok F sc__law_is_bad rfl (by decide) fun cdv A outer s H E hot hrh => have q := q0.hot p; (sSs_cons (sS_if (sT_bo (sT_or (sT_not (sT_tru (sE_isX (cV := .ty "ValueError") q0.xt_ValueError (xhS hot) (fun _ z => z) (by rfl) q.n_isinstance (sE_nm (pv 0)) (pe_bltn (by rfl) q.n_ValueError (by decide +kernel) rfl)))) (sT_or1 (sT_tru (sE_isXT (cs := [.ref (xa 1), .ref (xa 2)]) (cvs := [.ref (xa 1), .ref (xa 2)]) q0.xt_TooMany_BadNumber (xhS hot) (.cons (.own _) (.cons (.own _) .nil)) (Nat.le_of_ble_eq_true rfl) (by rfl) q.n_isinstance (sE_nm (pv 0)) (pa_cons (pe_glob (v := .ref (xa 1)) (by rfl) q.g_TooMany rfl) (pa_cons (pe_glob (v := .ref (xa 2)) (by rfl) q.g_BadNumber rfl) pa_nil)) (fun _ _ _ z => z))))))
  (sSs_one (sS_ret sE_bl))
  sSs_nil)
  (sSs_one (sS_ret (sE_and (sE_isTy (t := .str) q.hK q.al (by rfl) q.n_isinstance (sE_xf q0.xd_why (xhS hot) (sE_nm (pv 0))) (pe_bltn (by rfl) q.n_str (by decide +kernel) rfl)) (sE_one (sE_cmp (op_neD (unitsH hrh)) opS_ne (sE_xf q0.xd_why (xhS hot) (sE_nm (pv 0))) sE_str (nomark _)))))))
theorem dh__law_is_bad (q0 : Fx K mg T xa) {p : Addr × Obj} : ∃ (f : Addr) (fd : FuncData), mg "_law_is_bad" = some (.ref f) ∧ PySem.W.keepIn K (.ref f) = true ∧ EVX.FnHp P w K mg base 1 f fd (["error"] : List Str) p (spM (T.hot p) ((["error"] : List Str)).length m__law_is_bad) ∧ Binds K fd (["error"] : List Str) [] := by
  obtain ⟨f, fd, h1, h2⟩ := q0.r__law_is_bad
  exact ⟨f, fd, h1, h2.kp, okh__law_is_bad q0 p h2, h2.binds (ps := (["error"] : List Str)) (fun _ _ _ _ _ _ us hl => match us, hl with | [_], _ => rfl)⟩
theorem sc__law_is_int : FnScope N__law_is_int (["thing"] : List Str) (defScope s__law_is_int) := ⟨rfl, rfl, rfl, by decide +kernel, rfl, by decide +kernel, by decide +kernel⟩
theorem ok__law_is_int (q : Fc K mg T xa) {f : Addr} {fd : FuncData} (F : Fun K "_law_is_int" "_law_is_int" s__law_is_int f fd) : FnOk P w K mg base (L2N.CX P w) 1 f fd (["thing"] : List Str) (spM T 1 m__law_is_int) :=
  fn_ok F sc__law_is_int rfl (by decide) fun cdv A outer s H E hr => (sSs_one (sS_ret (sE_and (sE_isTy (t := .int) q.hK q.al (by rfl) q.n_isinstance (sE_nm (pv 0)) (pe_bltn (by rfl) q.n_int (by decide +kernel) rfl)) (sE_one (sE_not (sE_isTy (t := .bool) q.hK q.al (by rfl) q.n_isinstance (sE_nm (pv 0)) (pe_bltn (by rfl) q.n_bool (by decide +kernel) rfl)))))))
theorem df__law_is_int (q : Fc K mg T xa) : Df P w K mg base T "_law_is_int" 1 (["thing"] : List Str) m__law_is_int := by
  obtain ⟨f, fd, h1, h2⟩ := q.r__law_is_int
  exact ⟨f, fd, h1, h2.kp, ok__law_is_int q h2, h2.binds (ps := (["thing"] : List Str)) (fun _ _ _ _ _ _ us hl => match us, hl with | [_], _ => rfl)⟩
theorem sc__law_pair : FnScope N__law_pair (["told"] : List Str) (defScope s__law_pair) := ⟨rfl, rfl, rfl, by decide +kernel, rfl, by decide +kernel, by decide +kernel⟩
theorem ok__law_pair (q : Fc K mg T xa) {f : Addr} {fd : FuncData} (F : Fun K "_law_pair" "_law_pair" s__law_pair f fd) : FnOk P w K mg base (L2N.CX P w) 2 f fd (["told"] : List Str) (spM T 1 m__law_pair) :=
  fn_ok F sc__law_pair rfl (by decide) fun cdv A outer s H E hr => (sSs_cons (sS_if (sT_not (sT_tru (sE_isC (c := 0) q.hK q.al q.kc_Ratio (by rfl) q.n_isinstance (sE_nm (pv 0)) (pe_glob (by rfl) q.g_Ratio rfl))))
  (sSs_one (sS_ret sE_non))
  sSs_nil)
  (sSs_cons (asg_of (ps_set (i := 1) sc__law_pair.nd rfl (by first | exact Or.inl rfl | exact Or.inr rfl) (sE_fld q.fd_top (sE_nm (pv 0)) (by rfl))) (fun _ _ _ q => q))
  (sSs_cons (asg_of (ps_set (i := 2) sc__law_pair.nd rfl (by first | exact Or.inl rfl | exact Or.inr rfl) (sE_fld q.fd_bottom (sE_nm (pv 0)) (by rfl))) (fun _ _ _ q => q))
  (sSs_cons (sS_if (sT_bo (sT_or (sT_not (sT_tru (sE_call (df__law_is_int q) fn_np (hr.mono (by decide)) (by rfl) takesK (sA_cons (sE_nm (pv 1)) sA_nil)))) (sT_or (sT_not (sT_tru (sE_call (df__law_is_int q) fn_np (hr.mono (by decide)) (by rfl) takesK (sA_cons (sE_nm (pv 2)) sA_nil)))) (sT_or1 (sT_cmp op_lt opS_lt (sE_nm (pv 2)) sE_int (nomark _))))))
  (sSs_one (sS_ret sE_non))
  sSs_nil)
  (sSs_cons (sS_if (sT_cmp (op_neD hr.units) opS_ne (sE_call (df__law_lowest q) fn_np (hr.mono (by decide)) (by rfl) takesK (sA_cons (sE_nm (pv 1)) (sA_cons (sE_nm (pv 2)) sA_nil))) (sE_tup (sA_cons (sE_nm (pv 1)) (sA_cons (sE_nm (pv 2)) sA_nil))) (nomark _))
  (sSs_one (sS_ret sE_non))
  sSs_nil)
  (sSs_one (sS_ret (sE_tup (sA_cons (sE_nm (pv 1)) (sA_cons (sE_nm (pv 2)) sA_nil))))))))))
theorem df__law_pair (q : Fc K mg T xa) : Df P w K mg base T "_law_pair" 2 (["told"] : List Str) m__law_pair := by
  obtain ⟨f, fd, h1, h2⟩ := q.r__law_pair
  exact ⟨f, fd, h1, h2.kp, ok__law_pair q h2, h2.binds (ps := (["told"] : List Str)) (fun _ _ _ _ _ _ us hl => match us, hl with | [_], _ => rfl)⟩
theorem sc__law_pairs : FnScope N__law_pairs (["told"] : List Str) (defScope s__law_pairs) := ⟨rfl, rfl, rfl, by decide +kernel, rfl, by decide +kernel, by decide +kernel⟩
theorem ok__law_pairs (q : Fc K mg T xa) {f : Addr} {fd : FuncData} (F : Fun K "_law_pairs" "_law_pairs" s__law_pairs f fd) : FnOk P w K mg base (L2N.CX P w) 3 f fd (["told"] : List Str) (spM T 1 m__law_pairs) :=
  fn_ok F sc__law_pairs rfl (by decide) fun cdv A outer s H E hr => (sSs_cons (sS_if (sT_not (sT_tru (sE_isTy (t := .tuple) q.hK q.al (by rfl) q.n_isinstance (sE_nm (pv 0)) (pe_bltn (by rfl) q.n_tuple (by decide +kernel) rfl))))
  (sSs_one (sS_ret sE_non))
  sSs_nil)
  (sSs_cons (setLc rfl sc__law_pairs.nd rfl rfl (sw_true rfl rfl rfl (by decide +kernel)) (sI_seq q.hK (sE_nm (pv 0))) (blkOk_by (own := [("one", 2)]) (N := N__law_pairs) (sc := defScope s__law_pairs) (by decide +kernel)) (fun _ _ _ _ _ => (pg_name (i := 2) sc__law_pairs.nd rfl (by first | exact Or.inl rfl | exact Or.inr rfl))) gs_N (fun _ _ _ _ _ => pts_yes) (fun _ _ _ _ _ => (sE_call (df__law_pair q) fn_np (hr.mono (by decide)) (by rfl) takesZ (sA_cons (sE_nm (pv 2)) sA_nil))))
  (sSs_one (sS_ret (sE_if (sT_cmp (op_inD (un65 hr (by decide))) opS_in sE_non (sE_nm (pv 1)) (by rfl)) sE_non (sE_nm (pv 1)))))))
theorem df__law_pairs (q : Fc K mg T xa) : Df P w K mg base T "_law_pairs" 3 (["told"] : List Str) m__law_pairs := by
  obtain ⟨f, fd, h1, h2⟩ := q.r__law_pairs
  exact ⟨f, fd, h1, h2.kp, ok__law_pairs q h2, h2.binds (ps := (["told"] : List Str)) (fun _ _ _ _ _ _ us hl => match us, hl with | [_], _ => rfl)⟩
theorem sc__law_is : FnScope N__law_is (["told", "plain"] : List Str) (defScope s__law_is) := ⟨rfl, rfl, rfl, by decide +kernel, rfl, by decide +kernel, by decide +kernel⟩
theorem ok__law_is (q : Fc K mg T xa) {f : Addr} {fd : FuncData} (F : Fun K "_law_is" "_law_is" s__law_is f fd) : FnOk P w K mg base (L2N.CX P w) 4 f fd (["told", "plain"] : List Str) (spM T 2 m__law_is) :=
  fn_ok F sc__law_is rfl (by decide) fun cdv A outer s H E hr => (sSs_cons (sS_if (sT_bo (sT_or (sT_not (sT_tru (sE_isC (c := 1) q.hK q.al q.kc_Book (by rfl) q.n_isinstance (sE_nm (pv 0)) (pe_glob (by rfl) q.g_Book rfl)))) (sT_or (sT_not (sT_tru (sE_call (df__law_is_int q) fn_np (hr.mono (by decide)) (by rfl) takesK (sA_cons (sE_fld q.fd_reach (sE_nm (pv 0)) (by rfl)) sA_nil)))) (sT_or1 (sT_cmp (op_neD hr.units) opS_ne (sE_fld q.fd_reach (sE_nm (pv 0)) (by rfl)) (sE_bin op_sub opS_sub (sE_cb (pe_callB call_len (by rfl) q.n_len (by decide +kernel) (sA_cons (sE_ixN q.hK (pv 1) sE_int (fun _ _ => rfl)) sA_nil)) (caS_len q.hK)) sE_int) (nomark _))))))
  (sSs_one (sS_ret sE_bl))
  sSs_nil)
  (sSs_one (sS_ret (sE_cmp (op_eqD hr.units) opS_eq (sE_call (df__law_pairs q) fn_np (hr.mono (by decide)) (by rfl) takesK (sA_cons (sE_fld q.fd_numbers (sE_nm (pv 0)) (by rfl)) sA_nil)) (sE_call (df__law_pairs_of q) fn_np (hr.mono (by decide)) (by rfl) takesK (sA_cons (sE_nm (pv 1)) sA_nil)) (nomark _)))))
theorem df__law_is (q : Fc K mg T xa) : Df P w K mg base T "_law_is" 4 (["told", "plain"] : List Str) m__law_is := by
  obtain ⟨f, fd, h1, h2⟩ := q.r__law_is
  exact ⟨f, fd, h1, h2.kp, ok__law_is q h2, h2.binds (ps := (["told", "plain"] : List Str)) (fun _ _ _ _ _ _ us hl => match us, hl with | [_, _], _ => rfl)⟩
theorem sc__law_slope_holds : FnScope N__law_slope_holds (["thing", "plain"] : List Str) (defScope s__law_slope_holds) := ⟨rfl, rfl, rfl, by decide +kernel, rfl, by decide +kernel, by decide +kernel⟩
theorem ok__law_slope_holds (q : Fc K mg T xa) {f : Addr} {fd : FuncData} (F : Fun K "_law_slope_holds" "_law_slope_holds" s__law_slope_holds f fd) : FnOk P w K mg base (L2N.CX P w) 10 f fd (["thing", "plain"] : List Str) (spM T 2 m__law_slope_holds) :=
  fn_ok F sc__law_slope_holds rfl (by decide) fun cdv A outer s H E hr => (sSs_cons (asg_of (ps_set (i := 2) sc__law_slope_holds.nd rfl (by first | exact Or.inl rfl | exact Or.inr rfl) (sE_call (df__law_halved q) fn_np (hr.mono (by decide)) (by rfl) takesK (sA_cons (sE_ixN q.hK (pv 1) sE_int (fun _ _ => rfl)) sA_nil))) (fun _ _ _ q => q))
  (sSs_cons (asg_of (ps_set (i := 3) sc__law_slope_holds.nd rfl (by first | exact Or.inl rfl | exact Or.inr rfl) (sE_bin op_sub opS_sub (sE_cb (pe_callB (cr_sum rfl) (by rfl) q.n_sum (by decide +kernel) (sA_cons (sE_stp (sE_nm (pv 2)) sP_no sP_no (sP_so sE_int)) sA_nil)) caS_sum) (sE_cb (pe_callB (cr_sum rfl) (by rfl) q.n_sum (by decide +kernel) (sA_cons (sE_stp (sE_nm (pv 2)) (sP_so sE_int) sP_no (sP_so sE_int)) sA_nil)) caS_sum))) (fun _ _ _ q => q))
  (sSs_cons (sS_try1 rfl rfl q.h0 takesK sc__law_slope_holds.nd (fun _ _ _ tk _ => (sSs_one (asg_of (ps_set (i := 4) sc__law_slope_holds.nd rfl (by first | exact Or.inl rfl | exact Or.inr rfl) (sE_callKA (dk_slope q) fn_np (hr.mono (by decide)) (by rfl) tk (sK_cons (sE_nm (pv 0)) sK_nil))) (fun _ _ _ q => q))))
  ⟨by rfl, by decide, .inl q.g_BadBook⟩ rfl rfl q.xc_BadBook q.xn_BadBook
  (fun a oe _ _ _ hz hv => suite_ok hr hz hv fun hot hrh => have q0 := q.toFx; have q := q0.hot (a, oe); (sSs_one (sS_ret (sE_and (sE_cmp (op_neD (unitsH hrh)) opS_ne (sE_nm (pv 3)) sE_int (nomark _)) (sE_one (sE_callH (dh__law_is_bad q0) fn_np (hrh.mono (by decide)) hot (by rfl) takesZ (sA_cons (sE_nm (pv 5)) sA_nil))))))))
  (sSs_one (sS_ret (sE_and (sE_cmp (op_eqD hr.units) opS_eq (sE_nm (pv 3)) sE_int (nomark _)) (sE_one (sE_call (df__law_is q) fn_np (hr.mono (by decide)) (by rfl) takesK (sA_cons (sE_nm (pv 4)) (sA_cons (sE_tup (sA_cons (sE_frz (sO_lc rfl sc__law_slope_holds.nd (sI_seq q.hK (sE_nm (pv 2))) (blkOk_by (own := [("x", 6)]) (N := N__law_slope_holds) (sc := defScope s__law_slope_holds) (by decide +kernel)) (fun _ _ _ _ _ => (pg_name (i := 6) sc__law_slope_holds.nd rfl (by first | exact Or.inl rfl | exact Or.inr rfl))) gs_N (fun _ _ _ _ _ => pts_yes) (fun _ _ _ _ _ => (sE_bin op_mulA opS_mul sE_int (sE_nm (pv 6)))))) (sA_cons (sE_ixN q.hK (pv 1) sE_int (fun _ _ => rfl)) sA_nil))) sA_nil))))))))))
theorem df__law_slope_holds (q : Fc K mg T xa) : Df P w K mg base T "_law_slope_holds" 10 (["thing", "plain"] : List Str) m__law_slope_holds := by
  obtain ⟨f, fd, h1, h2⟩ := q.r__law_slope_holds
  exact ⟨f, fd, h1, h2.kp, ok__law_slope_holds q h2, h2.binds (ps := (["thing", "plain"] : List Str)) (fun _ _ _ _ _ _ us hl => match us, hl with | [_, _], _ => rfl)⟩
theorem sc_tops_product : FnScope N_tops_product (["first", "second"] : List Str) (defScope s_tops_product) := ⟨rfl, rfl, rfl, by decide +kernel, rfl, by decide +kernel, by decide +kernel⟩
theorem ok_tops_product (q : Fc K mg T xa) {f : Addr} {fd : FuncData} (F : Fun K "tops_product" "tops_product" s_tops_product f fd) : FnOk P w K mg base (L2N.CX P w) 1 f fd (["first", "second"] : List Str) (spM T 2 m_tops_product) :=
  fn_ok F sc_tops_product rfl (by decide) fun cdv A outer s H E hr => (sSs_cons (sS_if (sT_bo (sT_or (sT_not (sT_tru (sE_nm (pv 0)))) (sT_or1 (sT_not (sT_tru (sE_nm (pv 1)))))))
  (sSs_one (sS_retO (sO_lst sA_nil)))
  sSs_nil)
  (sSs_cons (setLc rfl sc_tops_product.nd rfl rfl (sw_true rfl rfl rfl (by decide +kernel)) (sI_rng1 (pi_range1 (by rfl) q.n_range (sA_cons (sE_bin op_sub opS_sub (sE_bin op_addA opS_add (sE_lenN q.hK (pe_callB call_lenA (by rfl) q.n_len (by decide +kernel) (pa_cons (pv 0) pa_nil))) (sE_lenN q.hK (pe_callB call_lenA (by rfl) q.n_len (by decide +kernel) (pa_cons (pv 1) pa_nil)))) sE_int) sA_nil))) (blkOk_by (own := [("_", 8)]) (N := N_tops_product) (sc := defScope s_tops_product) (by decide +kernel)) (fun _ _ _ _ _ => (pg_name (i := 8) sc_tops_product.nd rfl (by first | exact Or.inl rfl | exact Or.inr rfl))) gs_N (fun _ _ _ _ _ => pts_yes) (fun _ _ _ _ _ => sE_int))
  (sSs_cons (setLc rfl sc_tops_product.nd rfl rfl (sw_true rfl rfl rfl (by decide +kernel)) (sI_enumT (pi_enum (by rfl) q.n_enumerate (sA_cons (sE_nm (pv 1)) sA_nil)) (EVX.pi_enumT (by rfl) q.n_enumerate (sA_cons (sE_nm (pv 1)) sA_nil))) (blkOk_by (own := [("at", 6), ("top", 7)]) (N := N_tops_product) (sc := defScope s_tops_product) (by decide +kernel)) (fun _ _ _ _ _ => (pg_tup rfl (pgs_cons (pg_name (i := 6) sc_tops_product.nd rfl (by first | exact Or.inl rfl | exact Or.inr rfl)) (pgs_cons (pg_name (i := 7) sc_tops_product.nd rfl (by first | exact Or.inl rfl | exact Or.inr rfl)) pgs_nil)))) (gs_T (gs_cons gs_N (gs_cons gs_N gs_nil))) (fun _ _ _ _ _ => (pts_one (sT_tru (sE_nm (pv 7))))) (fun _ _ _ _ _ => (sE_tup (sA_cons (sE_nm (pv 6)) (sA_cons (sE_nm (pv 7)) sA_nil)))))
  (sSs_cons (sS_for (passes_of rfl) rfl (sI_enumT (pi_enum (by rfl) q.n_enumerate (sA_cons (sE_nm (pv 0)) sA_nil)) (EVX.pi_enumT (by rfl) q.n_enumerate (sA_cons (sE_nm (pv 0)) sA_nil))) (pg_tup rfl (pgs_cons (pg_name (i := 4) sc_tops_product.nd rfl (by first | exact Or.inl rfl | exact Or.inr rfl)) (pgs_cons (pg_name (i := 5) sc_tops_product.nd rfl (by first | exact Or.inl rfl | exact Or.inr rfl)) pgs_nil))) (gs_T (gs_cons gs_N (gs_cons gs_N gs_nil)))
  (sSs_one (sS_if (sT_tru (sE_nm (pv 5)))
  (sSs_one (sS_for (passes_of rfl) rfl (sI_seq q.hK (sE_nm (pv 3))) (pg_tup rfl (pgs_cons (pg_name (i := 6) sc_tops_product.nd rfl (by first | exact Or.inl rfl | exact Or.inr rfl)) (pgs_cons (pg_name (i := 7) sc_tops_product.nd rfl (by first | exact Or.inl rfl | exact Or.inr rfl)) pgs_nil))) (gs_T (gs_cons gs_N (gs_cons gs_N gs_nil)))
  (sSs_one (sS_setI (pv 2) (sE_bin op_addA opS_add (sE_nm (pv 4)) (sE_nm (pv 6))) (sE_bin op_addA opS_add (sE_ixN q.hK (pv 2) (sE_bin op_addA opS_add (sE_nm (pv 4)) (sE_nm (pv 6))) (fun _ _ => rfl)) (sE_bin op_mulA opS_mul (sE_nm (pv 5)) (sE_nm (pv 7)))) rfl rfl rfl (pg_sub (pv 2) (sE_bin op_addA opS_add (sE_nm (pv 4)) (sE_nm (pv 6))) set_list)))))
  sSs_nil)))
  (sSs_one (sS_retNm (pv 2)))))))
theorem df_tops_product (q : Fc K mg T xa) : Df P w K mg base T "tops_product" 1 (["first", "second"] : List Str) m_tops_product := by
  obtain ⟨f, fd, h1, h2⟩ := q.r_tops_product
  exact ⟨f, fd, h1, h2.kp, ok_tops_product q h2, h2.binds (ps := (["first", "second"] : List Str)) (fun _ _ _ _ _ _ us hl => match us, hl with | [_, _], _ => rfl)⟩
theorem sc_mean : FnScope N_mean (["book"] : List Str) (defScope s_mean) := ⟨rfl, rfl, rfl, by decide +kernel, rfl, by decide +kernel, by decide +kernel⟩
theorem ok_mean (q : Fc K mg T xa) {f : Addr} {fd : FuncData} (F : Fun K "mean" "mean" s_mean f fd) : FnOk P w K mg base (L2N.CX P w) 9 f fd (["book"] : List Str) (spM T 1 m_mean) :=
  fn_ok F sc_mean rfl (by decide) fun cdv A outer s H E hr => (sSs_cons (sS_asg (sE_meth0 (c := 1) (q.al 1) (dm_Book_over_one_bottom q) fn_np q.nt_over_one_bottom (hr.mono (by decide)) takesK (sE_nm (pv 0))) (pg_tup rfl (pgs_cons (pg_name (i := 1) sc_mean.nd rfl (by first | exact Or.inl rfl | exact Or.inr rfl)) (pgs_cons (pg_name (i := 2) sc_mean.nd rfl (by first | exact Or.inl rfl | exact Or.inr rfl)) pgs_nil))) (gs_T (gs_cons gs_N (gs_cons gs_N gs_nil))))
  (sSs_one (sS_ret (sE_call (df_made_book q) fn_np (hr.mono (by decide)) (by rfl) takesK (sA_cons (sE_call (df_tops_product q) fn_np (hr.mono (by decide)) (by rfl) takesK (sA_cons (sE_nm (pv 1)) (sA_cons (sE_frz (sO_lst (sA_cons sE_int (sA_cons sE_int sA_nil)))) sA_nil))) (sA_cons (sE_bin op_mulA opS_mul sE_int (sE_nm (pv 2))) sA_nil))))))
theorem df_mean (q : Fc K mg T xa) : Df P w K mg base T "mean" 9 (["book"] : List Str) m_mean := by
  obtain ⟨f, fd, h1, h2⟩ := q.r_mean
  exact ⟨f, fd, h1, h2.kp, ok_mean q h2, h2.binds (ps := (["book"] : List Str)) (fun _ _ _ _ _ _ us hl => match us, hl with | [_], _ => rfl)⟩
theorem dk_mean (q : Fc K mg T xa) : ∃ (f : Addr) (fd : FuncData), mg "mean" = some (.ref f) ∧ PySem.W.keepIn K (.ref f) = true ∧ FnOk P w K mg base (L2N.CX P w) 9 f fd (["book"] : List Str) (spM T 1 m_mean) ∧ KBn K fd (["book"] : List Str) 0 (["book"] : List Str) (fun _ ws => ws) (fun _ zs => zs) := by
  obtain ⟨f, fd, h1, h2⟩ := q.r_mean
  refine ⟨f, fd, h1, h2.kp, ok_mean q h2, ?_⟩
  obtain ⟨oc, od, kV, doc, pm, an, cdv, ct, osl, rfl, lk, hcd⟩ := h2.ex
  exact ⟨fun s us ws _ hl hw => .of_eq (match us, ws, hl, hw with | [], [_], _, _ => rfl), fun _ r => r⟩
theorem okh__law_is_int (q0 : Fx K mg T xa) (p : Addr × Obj) {f : Addr} {fd : FuncData} (F : Fun K "_law_is_int" "_law_is_int" s__law_is_int f fd) : EVX.FnHp P w K mg base 1 f fd (["thing"] : List Str) p (spM (T.hot p) 1 m__law_is_int) :=
  fnH_ok F sc__law_is_int rfl (by decide) fun cdv A outer s H E hot hrh => have q := q0.hot p; (sSs_one (sS_ret (sE_and (sE_isTy (t := .int) q.hK q.al (by rfl) q.n_isinstance (sE_nm (pv 0)) (pe_bltn (by rfl) q.n_int (by decide +kernel) rfl)) (sE_one (sE_not (sE_isTy (t := .bool) q.hK q.al (by rfl) q.n_isinstance (sE_nm (pv 0)) (pe_bltn (by rfl) q.n_bool (by decide +kernel) rfl)))))))
theorem dh__law_is_int (q0 : Fx K mg T xa) {p : Addr × Obj} : ∃ (f : Addr) (fd : FuncData), mg "_law_is_int" = some (.ref f) ∧ PySem.W.keepIn K (.ref f) = true ∧ EVX.FnHp P w K mg base 1 f fd (["thing"] : List Str) p (spM (T.hot p) ((["thing"] : List Str)).length m__law_is_int) ∧ Binds K fd (["thing"] : List Str) [] := by
  obtain ⟨f, fd, h1, h2⟩ := q0.r__law_is_int
  exact ⟨f, fd, h1, h2.kp, okh__law_is_int q0 p h2, h2.binds (ps := (["thing"] : List Str)) (fun _ _ _ _ _ _ us hl => match us, hl with | [_], _ => rfl)⟩
theorem sc__law_many : FnScope N__law_many (["error", "count"] : List Str) (defScope s__law_many) := ⟨rfl, rfl, rfl, by decide +kernel, rfl, by decide +kernel, by decide +kernel⟩
theorem okh__law_many (q0 : Fx K mg T xa) (p : Addr × Obj) {f : Addr} {fd : FuncData} (F : Fun K "_law_many" "_law_many" s__law_many f fd) : EVX.FnHp P w K mg base 2 f fd (["error", "count"] : List Str) p (spM (T.hot p) 2 m__law_many) :=
  fnH_ok F sc__law_many rfl (by decide) fun cdv A outer s H E hot hrh => have q := q0.hot p; (sSs_cons (sS_if (sT_bo (sT_or (sT_not (sT_tru (sE_isX (cV := .ty "ValueError") q0.xt_ValueError (xhS hot) (fun _ z => z) (by rfl) q.n_isinstance (sE_nm (pv 0)) (pe_bltn (by rfl) q.n_ValueError (by decide +kernel) rfl)))) (sT_or (sT_tru (sE_isXT (cs := [.ref (xa 0), .ref (xa 2)]) (cvs := [.ref (xa 0), .ref (xa 2)]) q0.xt_BadBook_BadNumber (xhS hot) (.cons (.own _) (.cons (.own _) .nil)) (Nat.le_of_ble_eq_true rfl) (by rfl) q.n_isinstance (sE_nm (pv 0)) (pa_cons (pe_glob (v := .ref (xa 0)) (by rfl) q.g_BadBook rfl) (pa_cons (pe_glob (v := .ref (xa 2)) (by rfl) q.g_BadNumber rfl) pa_nil)) (fun _ _ _ z => z))) (sT_or1 (sT_not (sT_tru (sE_callH (dh__law_is_int q0) fn_np (hrh.mono (by decide)) hot (by rfl) takesH (sA_cons (sE_xf q0.xd_count (xhS hot) (sE_nm (pv 0))) sA_nil))))))))
  (sSs_one (sS_ret sE_bl))
  sSs_nil)
  (sSs_one (sS_ret (sE_and (sE_cmp (op_eqD (unitsH hrh)) opS_eq (sE_xf q0.xd_what (xhS hot) (sE_nm (pv 0))) sE_str (nomark _)) (sE_and (sE_cmp (op_eqD (unitsH hrh)) opS_eq (sE_xf q0.xd_count (xhS hot) (sE_nm (pv 0))) (sE_nm (pv 1)) (nomark _)) (sE_one (sE_cmp op_gt opS_gt (sE_nm (pv 1)) sE_int (nomark _))))))))
theorem dh__law_many (q0 : Fx K mg T xa) {p : Addr × Obj} : ∃ (f : Addr) (fd : FuncData), mg "_law_many" = some (.ref f) ∧ PySem.W.keepIn K (.ref f) = true ∧ EVX.FnHp P w K mg base 2 f fd (["error", "count"] : List Str) p (spM (T.hot p) ((["error", "count"] : List Str)).length m__law_many) ∧ Binds K fd (["error", "count"] : List Str) [] := by
  obtain ⟨f, fd, h1, h2⟩ := q0.r__law_many
  exact ⟨f, fd, h1, h2.kp, okh__law_many q0 p h2, h2.binds (ps := (["error", "count"] : List Str)) (fun _ _ _ _ _ _ us hl => match us, hl with | [_, _], _ => rfl)⟩
theorem sc__law_mean_holds : FnScope N__law_mean_holds (["thing", "plain"] : List Str) (defScope s__law_mean_holds) := ⟨rfl, rfl, rfl, by decide +kernel, rfl, by decide +kernel, by decide +kernel⟩
theorem ok__law_mean_holds (q : Fc K mg T xa) {f : Addr} {fd : FuncData} (F : Fun K "_law_mean_holds" "_law_mean_holds" s__law_mean_holds f fd) : FnOk P w K mg base (L2N.CX P w) 10 f fd (["thing", "plain"] : List Str) (spM T 2 m__law_mean_holds) :=
  fn_ok F sc__law_mean_holds rfl (by decide) fun cdv A outer s H E hr => (sSs_cons (sS_try1 rfl rfl q.h0 takesK sc__law_mean_holds.nd (fun _ _ _ tk _ => (sSs_one (asg_of (ps_set (i := 2) sc__law_mean_holds.nd rfl (by first | exact Or.inl rfl | exact Or.inr rfl) (sE_callKA (dk_mean q) fn_np (hr.mono (by decide)) (by rfl) tk (sK_cons (sE_nm (pv 0)) sK_nil))) (fun _ _ _ q => q))))
  ⟨by rfl, by decide, .inl q.g_TooMany⟩ rfl rfl q.xc_TooMany q.xn_TooMany
  (fun a oe _ _ _ hz hv => suite_ok hr hz hv fun hot hrh => have q0 := q.toFx; have q := q0.hot (a, oe); (sSs_one (sS_ret (sE_callH (dh__law_many q0) fn_np (hrh.mono (by decide)) hot (by rfl) takesZ (sA_cons (sE_nm (pv 3)) (sA_cons (sE_cb (pe_callB call_len (by rfl) q.n_len (by decide +kernel) (sA_cons (sE_ixN q.hK (pv 1) sE_int (fun _ _ => rfl)) sA_nil)) (caS_len q.hK)) sA_nil)))))))
  (sSs_cons (asg_of (ps_set (i := 4) sc__law_mean_holds.nd rfl (by first | exact Or.inl rfl | exact Or.inr rfl) (sE_tup (sA_cons (sE_call (df__law_times q) fn_np (hr.mono (by decide)) (by rfl) takesK (sA_cons (sE_ixN q.hK (pv 1) sE_int (fun _ _ => rfl)) (sA_cons (sE_frz (sO_lst (sA_cons sE_int (sA_cons sE_int sA_nil)))) sA_nil))) (sA_cons (sE_bin op_mulA opS_mul sE_int (sE_ixN q.hK (pv 1) sE_int (fun _ _ => rfl))) sA_nil)))) (fun _ _ _ q => q))
  (sSs_cons (sS_if (sT_bo (sT_or (sT_cmp op_gt opS_gt (sE_cb (pe_callB call_len (by rfl) q.n_len (by decide +kernel) (sA_cons (sE_ixN q.hK (pv 1) sE_int (fun _ _ => rfl)) sA_nil)) (caS_len q.hK)) sE_int (nomark _)) (sT_or1 (sT_not (sT_tru (sE_call (df__law_is q) fn_np (hr.mono (by decide)) (by rfl) takesK (sA_cons (sE_nm (pv 2)) (sA_cons (sE_nm (pv 4)) sA_nil))))))))
  (sSs_one (sS_ret sE_bl))
  sSs_nil)
  (sSs_one (sS_ret (sE_call (df__law_is q) fn_np (hr.mono (by decide)) (by rfl) takesK (sA_cons (sE_call (df_slope q) fn_np (hr.mono (by decide)) (by rfl) takesK (sA_cons (sE_nm (pv 2)) sA_nil)) (sA_cons (sE_nm (pv 1)) sA_nil))))))))
theorem df__law_mean_holds (q : Fc K mg T xa) : Df P w K mg base T "_law_mean_holds" 10 (["thing", "plain"] : List Str) m__law_mean_holds := by
  obtain ⟨f, fd, h1, h2⟩ := q.r__law_mean_holds
  exact ⟨f, fd, h1, h2.kp, ok__law_mean_holds q h2, h2.binds (ps := (["thing", "plain"] : List Str)) (fun _ _ _ _ _ _ us hl => match us, hl with | [_, _], _ => rfl)⟩
theorem sc_mirror : FnScope N_mirror (["book"] : List Str) (defScope s_mirror) := ⟨rfl, rfl, rfl, by decide +kernel, rfl, by decide +kernel, by decide +kernel⟩
theorem ok_mirror (q : Fc K mg T xa) {f : Addr} {fd : FuncData} (F : Fun K "mirror" "mirror" s_mirror f fd) : FnOk P w K mg base (L2N.CX P w) 8 f fd (["book"] : List Str) (spM T 1 m_mirror) :=
  fn_ok F sc_mirror rfl (by decide) fun cdv A outer s H E hr => (sSs_one (sS_ret (make_Book q (hr.mono (by decide)) (by rfl) takesK (sA_cons (sE_stp (sE_fld q.fd_numbers (sE_nm (pv 0)) (by rfl)) sP_no sP_no (sP_so (sE_un un_neg unS_neg sE_int))) sA_nil))))
theorem df_mirror (q : Fc K mg T xa) : Df P w K mg base T "mirror" 8 (["book"] : List Str) m_mirror := by
  obtain ⟨f, fd, h1, h2⟩ := q.r_mirror
  exact ⟨f, fd, h1, h2.kp, ok_mirror q h2, h2.binds (ps := (["book"] : List Str)) (fun _ _ _ _ _ _ us hl => match us, hl with | [_], _ => rfl)⟩
theorem dk_mirror (q : Fc K mg T xa) : ∃ (f : Addr) (fd : FuncData), mg "mirror" = some (.ref f) ∧ PySem.W.keepIn K (.ref f) = true ∧ FnOk P w K mg base (L2N.CX P w) 8 f fd (["book"] : List Str) (spM T 1 m_mirror) ∧ KBn K fd (["book"] : List Str) 0 (["book"] : List Str) (fun _ ws => ws) (fun _ zs => zs) := by
  obtain ⟨f, fd, h1, h2⟩ := q.r_mirror
  refine ⟨f, fd, h1, h2.kp, ok_mirror q h2, ?_⟩
  obtain ⟨oc, od, kV, doc, pm, an, cdv, ct, osl, rfl, lk, hcd⟩ := h2.ex
  exact ⟨fun s us ws _ hl hw => .of_eq (match us, ws, hl, hw with | [], [_], _, _ => rfl), fun _ r => r⟩
theorem sc_tops_spread : FnScope N_tops_spread (["tops", "m"] : List Str) (defScope s_tops_spread) := ⟨rfl, rfl, rfl, by decide +kernel, rfl, by decide +kernel, by decide +kernel⟩
theorem ok_tops_spread (q : Fc K mg T xa) {f : Addr} {fd : FuncData} (F : Fun K "tops_spread" "tops_spread" s_tops_spread f fd) : FnOk P w K mg base (L2N.CX P w) 1 f fd (["tops", "m"] : List Str) (spM T 2 m_tops_spread) :=
  fn_ok F sc_tops_spread rfl (by decide) fun cdv A outer s H E hr => (sSs_cons (sS_if (sT_not (sT_tru (sE_nm (pv 0))))
  (sSs_one (sS_retO (sO_lst sA_nil)))
  sSs_nil)
  (sSs_cons (setLc rfl sc_tops_spread.nd rfl rfl (sw_true rfl rfl rfl (by decide +kernel)) (sI_rng1 (pi_range1 (by rfl) q.n_range (sA_cons (sE_bin op_addA opS_add (sE_bin op_mulA opS_mul (sE_bin op_sub opS_sub (sE_lenN q.hK (pe_callB call_lenA (by rfl) q.n_len (by decide +kernel) (pa_cons (pv 0) pa_nil))) sE_int) (sE_nm (pv 1))) sE_int) sA_nil))) (blkOk_by (own := [("_", 5)]) (N := N_tops_spread) (sc := defScope s_tops_spread) (by decide +kernel)) (fun _ _ _ _ _ => (pg_name (i := 5) sc_tops_spread.nd rfl (by first | exact Or.inl rfl | exact Or.inr rfl))) gs_N (fun _ _ _ _ _ => pts_yes) (fun _ _ _ _ _ => sE_int))
  (sSs_cons (sS_for (passes_of rfl) rfl (sI_enumT (pi_enum (by rfl) q.n_enumerate (sA_cons (sE_nm (pv 0)) sA_nil)) (EVX.pi_enumT (by rfl) q.n_enumerate (sA_cons (sE_nm (pv 0)) sA_nil))) (pg_tup rfl (pgs_cons (pg_name (i := 3) sc_tops_spread.nd rfl (by first | exact Or.inl rfl | exact Or.inr rfl)) (pgs_cons (pg_name (i := 4) sc_tops_spread.nd rfl (by first | exact Or.inl rfl | exact Or.inr rfl)) pgs_nil))) (gs_T (gs_cons gs_N (gs_cons gs_N gs_nil)))
  (sSs_one (sS_setI (pv 2) (sE_bin op_mulA opS_mul (sE_nm (pv 3)) (sE_nm (pv 1))) (sE_nm (pv 4)) rfl rfl rfl (pg_sub (pv 2) (sE_bin op_mulA opS_mul (sE_nm (pv 3)) (sE_nm (pv 1))) set_list))))
  (sSs_one (sS_retNm (pv 2))))))
theorem df_tops_spread (q : Fc K mg T xa) : Df P w K mg base T "tops_spread" 1 (["tops", "m"] : List Str) m_tops_spread := by
  obtain ⟨f, fd, h1, h2⟩ := q.r_tops_spread
  exact ⟨f, fd, h1, h2.kp, ok_tops_spread q h2, h2.binds (ps := (["tops", "m"] : List Str)) (fun _ _ _ _ _ _ us hl => match us, hl with | [_, _], _ => rfl)⟩
theorem sc_wide : FnScope N_wide (["book", "m"] : List Str) (defScope s_wide) := ⟨rfl, rfl, rfl, by decide +kernel, rfl, by decide +kernel, by decide +kernel⟩
theorem ok_wide (q : Fc K mg T xa) {f : Addr} {fd : FuncData} (F : Fun K "wide" "wide" s_wide f fd) : FnOk P w K mg base (L2N.CX P w) 9 f fd (["book", "m"] : List Str) (spM T 2 m_wide) :=
  fn_ok F sc_wide rfl (by decide) fun cdv A outer s H E hr => (sSs_cons (sS_if (sT_bo (sT_or (sT_cmp op_lt opS_lt (sE_nm (pv 1)) sE_int (nomark _)) (sT_or1 (sT_cmp (op_eqD hr.units) opS_eq (sE_bin op_odd opS_and1 (sE_nm (pv 1)) sE_int) sE_int (nomark _)))))
  (sSs_one (raise_BadBook q rfl (hr.mono (by decide)) (by rfl) takesK (sA_cons sE_str sA_nil)))
  sSs_nil)
  (sSs_cons (sS_expr (sE_call (df_check_reach q) fn_np (hr.mono (by decide)) (by rfl) takesK (sA_cons (sE_bin op_mulA opS_mul (sE_fld q.fd_reach (sE_nm (pv 0)) (by rfl)) (sE_nm (pv 1))) sA_nil)))
  (sSs_cons (sS_asg (sE_meth0 (c := 1) (q.al 1) (dm_Book_over_one_bottom q) fn_np q.nt_over_one_bottom (hr.mono (by decide)) takesK (sE_nm (pv 0))) (pg_tup rfl (pgs_cons (pg_name (i := 2) sc_wide.nd rfl (by first | exact Or.inl rfl | exact Or.inr rfl)) (pgs_cons (pg_name (i := 3) sc_wide.nd rfl (by first | exact Or.inl rfl | exact Or.inr rfl)) pgs_nil))) (gs_T (gs_cons gs_N (gs_cons gs_N gs_nil))))
  (sSs_one (sS_ret (sE_call (df_made_book q) fn_np (hr.mono (by decide)) (by rfl) takesK (sA_cons (sE_call (df_tops_spread q) fn_np (hr.mono (by decide)) (by rfl) takesK (sA_cons (sE_nm (pv 2)) (sA_cons (sE_nm (pv 1)) sA_nil))) (sA_cons (sE_nm (pv 3)) sA_nil))))))))
theorem df_wide (q : Fc K mg T xa) : Df P w K mg base T "wide" 9 (["book", "m"] : List Str) m_wide := by
  obtain ⟨f, fd, h1, h2⟩ := q.r_wide
  exact ⟨f, fd, h1, h2.kp, ok_wide q h2, h2.binds (ps := (["book", "m"] : List Str)) (fun _ _ _ _ _ _ us hl => match us, hl with | [_, _], _ => rfl)⟩
theorem dk_wide (q : Fc K mg T xa) : ∃ (f : Addr) (fd : FuncData), mg "wide" = some (.ref f) ∧ PySem.W.keepIn K (.ref f) = true ∧ FnOk P w K mg base (L2N.CX P w) 9 f fd (["book", "m"] : List Str) (spM T 2 m_wide) ∧ KBn K fd (["book", "m"] : List Str) 0 (["book", "m"] : List Str) (fun _ ws => ws) (fun _ zs => zs) := by
  obtain ⟨f, fd, h1, h2⟩ := q.r_wide
  refine ⟨f, fd, h1, h2.kp, ok_wide q h2, ?_⟩
  obtain ⟨oc, od, kV, doc, pm, an, cdv, ct, osl, rfl, lk, hcd⟩ := h2.ex
  exact ⟨fun s us ws _ hl hw => .of_eq (match us, ws, hl, hw with | [], [_, _], _, _ => rfl), fun _ r => r⟩
theorem sc__law_wide_holds : FnScope N__law_wide_holds (["thing", "plain", "factor"] : List Str) (defScope s__law_wide_holds) := ⟨rfl, rfl, rfl, by decide +kernel, rfl, by decide +kernel, by decide +kernel⟩
theorem ok__law_wide_holds (q : Fc K mg T xa) {f : Addr} {fd : FuncData} (F : Fun K "_law_wide_holds" "_law_wide_holds" s__law_wide_holds f fd) : FnOk P w K mg base (L2N.CX P w) 10 f fd (["thing", "plain", "factor"] : List Str) (spM T 3 m__law_wide_holds) :=
  fn_ok F sc__law_wide_holds rfl (by decide) fun cdv A outer s H E hr => (sSs_cons (asg_of (ps_set (i := 3) sc__law_wide_holds.nd rfl (by first | exact Or.inl rfl | exact Or.inr rfl) (sE_bin op_mulA opS_mul (sE_bin op_sub opS_sub (sE_cb (pe_callB call_len (by rfl) q.n_len (by decide +kernel) (sA_cons (sE_ixN q.hK (pv 1) sE_int (fun _ _ => rfl)) sA_nil)) (caS_len q.hK)) sE_int) (sE_nm (pv 2)))) (fun _ _ _ q => q))
  (sSs_cons (sS_try2 rfl rfl q.h0 takesK sc__law_wide_holds.nd (fun _ _ _ tk _ => (sSs_one (asg_of (ps_set (i := 4) sc__law_wide_holds.nd rfl (by first | exact Or.inl rfl | exact Or.inr rfl) (sE_callKA (dk_wide q) fn_np (hr.mono (by decide)) (by rfl) tk (sK_cons (sE_nm (pv 0)) (sK_cons (sE_nm (pv 2)) sK_nil)))) (fun _ _ _ q => q))))
  ⟨by rfl, by decide, .inl q.g_BadBook⟩ rfl rfl q.xc_BadBook q.xn_BadBook
  (fun a oe _ _ _ hz hv => suite_ok hr hz hv fun hot hrh => have q0 := q.toFx; have q := q0.hot (a, oe); (sSs_one (sS_ret (sE_and (sE_or (sE_cmp op_lt opS_lt (sE_nm (pv 2)) sE_int (nomark _)) (sE_one (sE_cmp (op_eqD (unitsH hrh)) opS_eq (sE_bin op_modN opS_mod (sE_nm (pv 2)) sE_int) sE_int (nomark _)))) (sE_one (sE_callH (dh__law_is_bad q0) fn_np (hrh.mono (by decide)) hot (by rfl) takesZ (sA_cons (sE_nm (pv 5)) sA_nil)))))))
  ⟨by rfl, by decide, .inl q.g_TooMany⟩ rfl rfl q.xc_TooMany q.xn_TooMany
  (fun a oe _ _ _ hz hv => suite_ok hr hz hv fun hot hrh => have q0 := q.toFx; have q := q0.hot (a, oe); (sSs_one (sS_ret (sE_and (sE_cmp op_gt opS_gt (sE_nm (pv 2)) sE_int (nomark _)) (sE_and (sE_cmp (op_eqD (unitsH hrh)) opS_eq (sE_bin op_modN opS_mod (sE_nm (pv 2)) sE_int) sE_int (nomark _)) (sE_one (sE_callH (dh__law_many q0) fn_np (hrh.mono (by decide)) hot (by rfl) takesZ (sA_cons (sE_nm (pv 5)) (sA_cons (sE_nm (pv 3)) sA_nil))))))))))
  (sSs_cons (sS_if (sT_bo (sT_or (sT_cmp op_lt opS_lt (sE_nm (pv 2)) sE_int (nomark _)) (sT_or (sT_cmp (op_eqD hr.units) opS_eq (sE_bin op_modN opS_mod (sE_nm (pv 2)) sE_int) sE_int (nomark _)) (sT_or1 (sT_cmp op_gt opS_gt (sE_nm (pv 3)) sE_int (nomark _))))))
  (sSs_one (sS_ret sE_bl))
  sSs_nil)
  (sSs_cons (asgO_of (ps_set (i := 6) sc__law_wide_holds.nd rfl (by first | exact Or.inl rfl | exact Or.inr rfl) (sO_lst sA_nil)) (fun _ _ _ q => q))
  (sSs_cons (sS_for (passes_of rfl) rfl (sI_seq q.hK (sE_ixN q.hK (pv 1) sE_int (fun _ _ => rfl))) (pg_name (i := 7) sc__law_wide_holds.nd rfl (by first | exact Or.inl rfl | exact Or.inr rfl)) gs_N
  (sSs_one (asgO_of (ps_set (i := 6) sc__law_wide_holds.nd rfl (by first | exact Or.inl rfl | exact Or.inr rfl) (sO_bin op_cat opO_cat (sE_bin op_addA opS_add (sE_nm (pv 6)) (sE_frz (sO_lst (sA_cons (sE_nm (pv 7)) sA_nil)))) (sE_bin op_mulA opS_mul (sE_frz (sO_lst (sA_cons sE_int sA_nil))) (sE_bin op_sub opS_sub (sE_nm (pv 2)) sE_int)))) (fun _ _ _ q => q))))
  (sSs_one (sS_ret (sE_call (df__law_is q) fn_np (hr.mono (by decide)) (by rfl) takesK (sA_cons (sE_nm (pv 4)) (sA_cons (sE_tup (sA_cons (sE_sl (sE_nm (pv 6)) sP_no (sP_so (sE_bin op_addA opS_add (sE_nm (pv 3)) sE_int))) (sA_cons (sE_ixN q.hK (pv 1) sE_int (fun _ _ => rfl)) sA_nil))) sA_nil))))))))))
theorem df__law_wide_holds (q : Fc K mg T xa) : Df P w K mg base T "_law_wide_holds" 10 (["thing", "plain", "factor"] : List Str) m__law_wide_holds := by
  obtain ⟨f, fd, h1, h2⟩ := q.r__law_wide_holds
  exact ⟨f, fd, h1, h2.kp, ok__law_wide_holds q h2, h2.binds (ps := (["thing", "plain", "factor"] : List Str)) (fun _ _ _ _ _ _ us hl => match us, hl with | [_, _, _], _ => rfl)⟩
theorem sc_product : FnScope N_product (["book", "other"] : List Str) (defScope s_product) := ⟨rfl, rfl, rfl, by decide +kernel, rfl, by decide +kernel, by decide +kernel⟩
theorem ok_product (q : Fc K mg T xa) {f : Addr} {fd : FuncData} (F : Fun K "product" "product" s_product f fd) : FnOk P w K mg base (L2N.CX P w) 9 f fd (["book", "other"] : List Str) (spM T 2 m_product) :=
  fn_ok F sc_product rfl (by decide) fun cdv A outer s H E hr => (sSs_cons (sS_asg (sE_meth0 (c := 1) (q.al 1) (dm_Book_over_one_bottom q) fn_np q.nt_over_one_bottom (hr.mono (by decide)) takesK (sE_nm (pv 0))) (pg_tup rfl (pgs_cons (pg_name (i := 2) sc_product.nd rfl (by first | exact Or.inl rfl | exact Or.inr rfl)) (pgs_cons (pg_name (i := 3) sc_product.nd rfl (by first | exact Or.inl rfl | exact Or.inr rfl)) pgs_nil))) (gs_T (gs_cons gs_N (gs_cons gs_N gs_nil))))
  (sSs_cons (sS_asg (sE_meth0 (c := 1) (q.al 1) (dm_Book_over_one_bottom q) fn_np q.nt_over_one_bottom (hr.mono (by decide)) takesK (sE_nm (pv 1))) (pg_tup rfl (pgs_cons (pg_name (i := 4) sc_product.nd rfl (by first | exact Or.inl rfl | exact Or.inr rfl)) (pgs_cons (pg_name (i := 5) sc_product.nd rfl (by first | exact Or.inl rfl | exact Or.inr rfl)) pgs_nil))) (gs_T (gs_cons gs_N (gs_cons gs_N gs_nil))))
  (sSs_one (sS_ret (sE_call (df_made_book q) fn_np (hr.mono (by decide)) (by rfl) takesK (sA_cons (sE_call (df_tops_product q) fn_np (hr.mono (by decide)) (by rfl) takesK (sA_cons (sE_nm (pv 2)) (sA_cons (sE_nm (pv 4)) sA_nil))) (sA_cons (sE_bin op_mulA opS_mul (sE_bin op_mulA opS_mul sE_int (sE_nm (pv 3))) (sE_nm (pv 5))) sA_nil)))))))
theorem df_product (q : Fc K mg T xa) : Df P w K mg base T "product" 9 (["book", "other"] : List Str) m_product := by
  obtain ⟨f, fd, h1, h2⟩ := q.r_product
  exact ⟨f, fd, h1, h2.kp, ok_product q h2, h2.binds (ps := (["book", "other"] : List Str)) (fun _ _ _ _ _ _ us hl => match us, hl with | [_, _], _ => rfl)⟩
theorem dk_product (q : Fc K mg T xa) : ∃ (f : Addr) (fd : FuncData), mg "product" = some (.ref f) ∧ PySem.W.keepIn K (.ref f) = true ∧ FnOk P w K mg base (L2N.CX P w) 9 f fd (["book", "other"] : List Str) (spM T 2 m_product) ∧ KBn K fd (["book", "other"] : List Str) 0 (["book", "other"] : List Str) (fun _ ws => ws) (fun _ zs => zs) := by
  obtain ⟨f, fd, h1, h2⟩ := q.r_product
  refine ⟨f, fd, h1, h2.kp, ok_product q h2, ?_⟩
  obtain ⟨oc, od, kV, doc, pm, an, cdv, ct, osl, rfl, lk, hcd⟩ := h2.ex
  exact ⟨fun s us ws _ hl hw => .of_eq (match us, ws, hl, hw with | [], [_, _], _, _ => rfl), fun _ r => r⟩
theorem sc__law_product_holds : FnScope N__law_product_holds (["thing", "plain", "second", "two"] : List Str) (defScope s__law_product_holds) := ⟨rfl, rfl, rfl, by decide +kernel, rfl, by decide +kernel, by decide +kernel⟩
theorem ok__law_product_holds (q : Fc K mg T xa) {f : Addr} {fd : FuncData} (F : Fun K "_law_product_holds" "_law_product_holds" s__law_product_holds f fd) : FnOk P w K mg base (L2N.CX P w) 10 f fd (["thing", "plain", "second", "two"] : List Str) (spM T 4 m__law_product_holds) :=
  fn_ok F sc__law_product_holds rfl (by decide) fun cdv A outer s H E hr => (sSs_cons (sS_try1 rfl rfl q.h0 takesK sc__law_product_holds.nd (fun _ _ _ tk _ => (sSs_one (asg_of (ps_set (i := 4) sc__law_product_holds.nd rfl (by first | exact Or.inl rfl | exact Or.inr rfl) (sE_callKA (dk_product q) fn_np (hr.mono (by decide)) (by rfl) tk (sK_cons (sE_nm (pv 0)) (sK_cons (sE_nm (pv 2)) sK_nil)))) (fun _ _ _ q => q))))
  ⟨by rfl, by decide, .inl q.g_TooMany⟩ rfl rfl q.xc_TooMany q.xn_TooMany
  (fun a oe _ _ _ hz hv => suite_ok hr hz hv fun hot hrh => have q0 := q.toFx; have q := q0.hot (a, oe); (sSs_one (sS_ret (sE_callH (dh__law_many q0) fn_np (hrh.mono (by decide)) hot (by rfl) takesZ (sA_cons (sE_nm (pv 5)) (sA_cons (sE_bin op_sub opS_sub (sE_bin op_addA opS_add (sE_cb (pe_callB call_len (by rfl) q.n_len (by decide +kernel) (sA_cons (sE_ixN q.hK (pv 1) sE_int (fun _ _ => rfl)) sA_nil)) (caS_len q.hK)) (sE_cb (pe_callB call_len (by rfl) q.n_len (by decide +kernel) (sA_cons (sE_ixN q.hK (pv 3) sE_int (fun _ _ => rfl)) sA_nil)) (caS_len q.hK))) sE_int) sA_nil)))))))
  (sSs_cons (sS_if (sT_cmp op_gt opS_gt (sE_bin op_addA opS_add (sE_cb (pe_callB call_len (by rfl) q.n_len (by decide +kernel) (sA_cons (sE_ixN q.hK (pv 1) sE_int (fun _ _ => rfl)) sA_nil)) (caS_len q.hK)) (sE_cb (pe_callB call_len (by rfl) q.n_len (by decide +kernel) (sA_cons (sE_ixN q.hK (pv 3) sE_int (fun _ _ => rfl)) sA_nil)) (caS_len q.hK))) sE_int (nomark _))
  (sSs_one (sS_ret sE_bl))
  sSs_nil)
  (sSs_one (sS_ret (sE_call (df__law_is q) fn_np (hr.mono (by decide)) (by rfl) takesK (sA_cons (sE_nm (pv 4)) (sA_cons (sE_tup (sA_cons (sE_call (df__law_times q) fn_np (hr.mono (by decide)) (by rfl) takesK (sA_cons (sE_ixN q.hK (pv 1) sE_int (fun _ _ => rfl)) (sA_cons (sE_ixN q.hK (pv 3) sE_int (fun _ _ => rfl)) sA_nil))) (sA_cons (sE_bin op_mulA opS_mul (sE_bin op_mulA opS_mul sE_int (sE_ixN q.hK (pv 1) sE_int (fun _ _ => rfl))) (sE_ixN q.hK (pv 3) sE_int (fun _ _ => rfl))) sA_nil))) sA_nil)))))))
theorem df__law_product_holds (q : Fc K mg T xa) : Df P w K mg base T "_law_product_holds" 10 (["thing", "plain", "second", "two"] : List Str) m__law_product_holds := by
  obtain ⟨f, fd, h1, h2⟩ := q.r__law_product_holds
  exact ⟨f, fd, h1, h2.kp, ok__law_product_holds q h2, h2.binds (ps := (["thing", "plain", "second", "two"] : List Str)) (fun _ _ _ _ _ _ us hl => match us, hl with | [_, _, _, _], _ => rfl)⟩
theorem sc__law_corner : FnScope N__law_corner (["size"] : List Str) (defScope s__law_corner) := ⟨rfl, rfl, rfl, by decide +kernel, rfl, by decide +kernel, by decide +kernel⟩
theorem ok__law_corner (q : Fc K mg T xa) {f : Addr} {fd : FuncData} (F : Fun K "_law_corner" "_law_corner" s__law_corner f fd) : FnOk P w K mg base (L2N.CX P w) 2 f fd (["size"] : List Str) (spM T 1 m__law_corner) :=
  fn_ok F sc__law_corner rfl (by decide) fun cdv A outer s H E hr => (sSs_cons (asgO_of (ps_set (i := 1) sc__law_corner.nd rfl (by first | exact Or.inl rfl | exact Or.inr rfl) (sO_lst (sA_cons sE_int sA_nil))) (fun _ _ _ q => q))
  (sSs_cons (sS_for (passes_of rfl) rfl (sI_rng1 (pi_range1 (by rfl) q.n_range (sA_cons (sE_nm (pv 0)) sA_nil))) (pg_name (i := 2) sc__law_corner.nd rfl (by first | exact Or.inl rfl | exact Or.inr rfl)) gs_N
  (sSs_one (asg_of (ps_set (i := 1) sc__law_corner.nd rfl (by first | exact Or.inl rfl | exact Or.inr rfl) (sE_call (df__law_times q) fn_np (hr.mono (by decide)) (by rfl) takesK (sA_cons (sE_nm (pv 1)) (sA_cons (sE_frz (sO_lst (sA_cons sE_int (sA_cons sE_int sA_nil)))) sA_nil)))) (fun _ _ _ q => q))))
  (sSs_one (sS_ret (sE_tup (sA_cons (sE_nm (pv 1)) (sA_cons (sE_bin op_divA opS_div (sE_cb (pe_callB (cr_sum rfl) (by rfl) q.n_sum (by decide +kernel) (sA_cons (sE_nm (pv 1)) sA_nil)) caS_sum) sE_int) sA_nil)))))))
theorem df__law_corner (q : Fc K mg T xa) : Df P w K mg base T "_law_corner" 2 (["size"] : List Str) m__law_corner := by
  obtain ⟨f, fd, h1, h2⟩ := q.r__law_corner
  exact ⟨f, fd, h1, h2.kp, ok__law_corner q h2, h2.binds (ps := (["size"] : List Str)) (fun _ _ _ _ _ _ us hl => match us, hl with | [_], _ => rfl)⟩
theorem sc_corner : FnScope N_corner (["m"] : List Str) (defScope s_corner) := ⟨rfl, rfl, rfl, by decide +kernel, rfl, by decide +kernel, by decide +kernel⟩
theorem ok_corner (q : Fc K mg T xa) {f : Addr} {fd : FuncData} (F : Fun K "corner" "corner" s_corner f fd) : FnOk P w K mg base (L2N.CX P w) 9 f fd (["m"] : List Str) (spM T 1 m_corner) :=
  fn_ok F sc_corner rfl (by decide) fun cdv A outer s H E hr => (sSs_one (sS_ret (sE_call (df_made_book q) fn_np (hr.mono (by decide)) (by rfl) takesK (sA_cons (sE_frz (sO_lc rfl sc_corner.nd (sI_rng1 (pi_range1 (by rfl) q.n_range (sA_cons (sE_bin op_addA opS_add (sE_nm (pv 0)) sE_int) sA_nil))) (blkOk_by (own := [("at", 1)]) (N := N_corner) (sc := defScope s_corner) (by decide +kernel)) (fun _ _ _ _ _ => (pg_name (i := 1) sc_corner.nd rfl (by first | exact Or.inl rfl | exact Or.inr rfl))) gs_N (fun _ _ _ _ _ => pts_yes) (fun _ _ _ _ _ => (sE_cb (pe_callBfun cr_comb (by rfl) q.i_comb (sA_cons (sE_nm (pv 0)) (sA_cons (sE_nm (pv 1)) sA_nil))) caS_comb)))) (sA_cons (sE_bin op_oneShl opS_shl1 sE_int (sE_bin op_sub opS_sub (sE_nm (pv 0)) sE_int)) sA_nil)))))
theorem df_corner (q : Fc K mg T xa) : Df P w K mg base T "corner" 9 (["m"] : List Str) m_corner := by
  obtain ⟨f, fd, h1, h2⟩ := q.r_corner
  exact ⟨f, fd, h1, h2.kp, ok_corner q h2, h2.binds (ps := (["m"] : List Str)) (fun _ _ _ _ _ _ us hl => match us, hl with | [_], _ => rfl)⟩
theorem dk_corner (q : Fc K mg T xa) : ∃ (f : Addr) (fd : FuncData), mg "corner" = some (.ref f) ∧ PySem.W.keepIn K (.ref f) = true ∧ FnOk P w K mg base (L2N.CX P w) 9 f fd (["m"] : List Str) (spM T 1 m_corner) ∧ KBn K fd (["m"] : List Str) 0 (["m"] : List Str) (fun _ ws => ws) (fun _ zs => zs) := by
  obtain ⟨f, fd, h1, h2⟩ := q.r_corner
  refine ⟨f, fd, h1, h2.kp, ok_corner q h2, ?_⟩
  obtain ⟨oc, od, kV, doc, pm, an, cdv, ct, osl, rfl, lk, hcd⟩ := h2.ex
  exact ⟨fun s us ws _ hl hw => .of_eq (match us, ws, hl, hw with | [], [_], _, _ => rfl), fun _ r => r⟩
theorem sc_law : FnScope N_law (["script"] : List Str) (defScope s_law) := ⟨rfl, rfl, rfl, by decide +kernel, rfl, by decide +kernel, by decide +kernel⟩
theorem ok_law (q : Fc K mg T xa) {f : Addr} {fd : FuncData} (F : Fun K "law" "law" s_law f fd) : FnOk P w K mg base (L2N.CX P w) 11 f fd (["script"] : List Str) (spM T 1 m_law) :=
  fn_ok F sc_law rfl (by decide) fun cdv A outer s H E hr => (sSs_cons (asgO_of (ps_set (i := 1) sc_law.nd rfl (by first | exact Or.inl rfl | exact Or.inr rfl) (sO_call (df__law_bag q) fn_np (hr.mono (by decide)) (by rfl) takesK (sA_cons (sE_nm (pv 0)) sA_nil))) (fun _ _ _ q => q))
  (sSs_cons (asg_of (ps_set (i := 2) sc_law.nd rfl (by first | exact Or.inl rfl | exact Or.inr rfl) (sE_ix ix_seq (opS_ix q.hK) (sE_frz (sO_lst (sA_cons sE_int (sA_cons sE_int (sA_cons sE_int (sA_cons sE_int (sA_cons sE_int (sA_cons (sE_un un_neg unS_neg sE_int) (sA_cons sE_int (sA_cons sE_int (sA_cons sE_int (sA_cons (sE_un un_neg unS_neg sE_int) (sA_cons sE_int (sA_cons sE_int (sA_cons sE_int (sA_cons sE_int (sA_cons (sE_un un_neg unS_neg sE_int) sA_nil))))))))))))))))) (sE_callQ (df__law_draw q) fnQ_np (hr.mono (by decide)) (by rfl) takesK (pv 1) (sA_cons sE_int sA_nil)) (fun _ _ => rfl))) (fun _ _ _ q => q))
  (sSs_cons (asg_of (ps_set (i := 3) sc_law.nd rfl (by first | exact Or.inl rfl | exact Or.inr rfl) (sE_bin op_addA opS_add sE_int (sE_callQ (df__law_draw q) fnQ_np (hr.mono (by decide)) (by rfl) takesK (pv 1) (sA_cons sE_int sA_nil)))) (fun _ _ _ q => q))
  (sSs_cons (asg_of (ps_set (i := 4) sc_law.nd rfl (by first | exact Or.inl rfl | exact Or.inr rfl) (sE_bin op_addA opS_add sE_int (sE_callQ (df__law_draw q) fnQ_np (hr.mono (by decide)) (by rfl) takesK (pv 1) (sA_cons sE_int sA_nil)))) (fun _ _ _ q => q))
  (sSs_cons (asg_of (ps_set (i := 5) sc_law.nd rfl (by first | exact Or.inl rfl | exact Or.inr rfl) (sE_callQ (df__law_core_book q) fnQ_np (hr.mono (by decide)) (by rfl) takesK (pv 1) (sA_cons sE_int sA_nil))) (fun _ _ _ q => q))
  (sSs_cons (asg_of (ps_set (i := 6) sc_law.nd rfl (by first | exact Or.inl rfl | exact Or.inr rfl) (sE_if (sT_tru (sE_callQ (df__law_draw q) fnQ_np (hr.mono (by decide)) (by rfl) takesK (pv 1) (sA_cons sE_int sA_nil))) (sE_callQ (df__law_known_book q) fnQ_np (hr.mono (by decide)) (by rfl) takesK (pv 1) sA_nil) (sE_callQ (df__law_core_book q) fnQ_np (hr.mono (by decide)) (by rfl) takesK (pv 1) (sA_cons sE_int sA_nil)))) (fun _ _ _ q => q))
  (sSs_cons (asg_of (ps_set (i := 7) sc_law.nd rfl (by first | exact Or.inl rfl | exact Or.inr rfl) (sE_tup (sA_cons (sE_bin op_addA opS_add (sE_bin op_addA opS_add (sE_frz (sO_lst (sA_cons sE_int (sA_cons sE_int sA_nil)))) (sE_bin op_mulA opS_mul (sE_frz (sO_lst (sA_cons sE_int sA_nil))) (sE_bin op_sub opS_sub (sE_nm (pv 4)) sE_int))) (sE_frz (sO_lst (sA_cons sE_int (sA_cons sE_int sA_nil))))) (sA_cons sE_int sA_nil)))) (fun _ _ _ q => q))
  (sSs_cons (asgO_of (ps_set (i := 8) sc_law.nd rfl (by first | exact Or.inl rfl | exact Or.inr rfl) (sO_lst (sA_cons (sE_tup (sA_cons (sE_call (df__law_book q) fn_np (hr.mono (by decide)) (by rfl) takesK (sA_cons (sE_nm (pv 5)) sA_nil)) (sA_cons (sE_nm (pv 5)) sA_nil))) (sA_cons (sE_tup (sA_cons (sE_call (df__law_book q) fn_np (hr.mono (by decide)) (by rfl) takesK (sA_cons (sE_nm (pv 6)) sA_nil)) (sA_cons (sE_nm (pv 6)) sA_nil))) (sA_cons (sE_tup (sA_cons (sE_call (df__law_book q) fn_np (hr.mono (by decide)) (by rfl) takesK (sA_cons (sE_nm (pv 7)) sA_nil)) (sA_cons (sE_nm (pv 7)) sA_nil))) sA_nil))))) (fun _ _ _ q => q))
  (sSs_cons (sS_for (passes_of rfl) rfl (sI_seq q.hK (sE_nm (pv 8))) (pg_tup rfl (pgs_cons (pg_name (i := 9) sc_law.nd rfl (by first | exact Or.inl rfl | exact Or.inr rfl)) (pgs_cons (pg_name (i := 10) sc_law.nd rfl (by first | exact Or.inl rfl | exact Or.inr rfl)) pgs_nil))) (gs_T (gs_cons gs_N (gs_cons gs_N gs_nil)))
  (sSs_cons (sS_if (sT_bo (sT_or (sT_not (sT_tru (sE_call (df__law_slope_holds q) fn_np (hr.mono (by decide)) (by rfl) takesK (sA_cons (sE_nm (pv 9)) (sA_cons (sE_nm (pv 10)) sA_nil))))) (sT_or (sT_not (sT_tru (sE_call (df__law_mean_holds q) fn_np (hr.mono (by decide)) (by rfl) takesK (sA_cons (sE_nm (pv 9)) (sA_cons (sE_nm (pv 10)) sA_nil))))) (sT_or1 (sT_not (sT_tru (sE_call (df__law_is q) fn_np (hr.mono (by decide)) (by rfl) takesK (sA_cons (sE_callKA (dk_mirror q) fn_np (hr.mono (by decide)) (by rfl) takesK (sK_cons (sE_nm (pv 9)) sK_nil)) (sA_cons (sE_tup (sA_cons (sE_stp (sE_ixN q.hK (pv 10) sE_int (fun _ _ => rfl)) sP_no sP_no (sP_so (sE_un un_neg unS_neg sE_int))) (sA_cons (sE_ixN q.hK (pv 10) sE_int (fun _ _ => rfl)) sA_nil))) sA_nil)))))))))
  (sSs_one (sS_ret sE_bl))
  sSs_nil)
  (sSs_cons (sS_if (sT_bo (sT_or (sT_not (sT_tru (sE_call (df__law_wide_holds q) fn_np (hr.mono (by decide)) (by rfl) takesK (sA_cons (sE_nm (pv 9)) (sA_cons (sE_nm (pv 10)) (sA_cons (sE_nm (pv 2)) sA_nil)))))) (sT_or1 (sT_not (sT_tru (sE_call (df__law_wide_holds q) fn_np (hr.mono (by decide)) (by rfl) takesK (sA_cons (sE_nm (pv 9)) (sA_cons (sE_nm (pv 10)) (sA_cons sE_int sA_nil)))))))))
  (sSs_one (sS_ret sE_bl))
  sSs_nil)
  (sSs_one (sS_for (passes_of rfl) rfl (sI_seq q.hK (sE_nm (pv 8))) (pg_tup rfl (pgs_cons (pg_name (i := 11) sc_law.nd rfl (by first | exact Or.inl rfl | exact Or.inr rfl)) (pgs_cons (pg_name (i := 12) sc_law.nd rfl (by first | exact Or.inl rfl | exact Or.inr rfl)) pgs_nil))) (gs_T (gs_cons gs_N (gs_cons gs_N gs_nil)))
  (sSs_one (sS_if (sT_not (sT_tru (sE_call (df__law_product_holds q) fn_np (hr.mono (by decide)) (by rfl) takesK (sA_cons (sE_nm (pv 9)) (sA_cons (sE_nm (pv 10)) (sA_cons (sE_nm (pv 11)) (sA_cons (sE_nm (pv 12)) sA_nil)))))))
  (sSs_one (sS_ret sE_bl))
  sSs_nil)))))))
  (sSs_cons (sS_for (passes_of rfl) rfl (sI_seq q.hK (sE_nm (pv 8))) (pg_tup rfl (pgs_cons (pg_name (i := 9) sc_law.nd rfl (by first | exact Or.inl rfl | exact Or.inr rfl)) (pgs_cons (pg_name (i := 10) sc_law.nd rfl (by first | exact Or.inl rfl | exact Or.inr rfl)) pgs_nil))) (gs_T (gs_cons gs_N (gs_cons gs_N gs_nil)))
  (sSs_one (sS_if (sT_not (sT_tru (sE_call (df__law_is q) fn_np (hr.mono (by decide)) (by rfl) takesK (sA_cons (sE_nm (pv 9)) (sA_cons (sE_nm (pv 10)) sA_nil)))))
  (sSs_one (sS_ret sE_bl))
  sSs_nil)))
  (sSs_one (sS_ret (sE_and (sE_call (df__law_is q) fn_np (hr.mono (by decide)) (by rfl) takesK (sA_cons (sE_call (df_corner q) fn_np (hr.mono (by decide)) (by rfl) takesK (sA_cons (sE_nm (pv 3)) sA_nil)) (sA_cons (sE_call (df__law_corner q) fn_np (hr.mono (by decide)) (by rfl) takesK (sA_cons (sE_nm (pv 3)) sA_nil)) sA_nil))) (sE_one (sE_call (df__law_is q) fn_np (hr.mono (by decide)) (by rfl) takesK (sA_cons (sE_callKA (dk_corner q) fn_np (hr.mono (by decide)) (by rfl) takesK (sK_cons sE_int sK_nil)) (sA_cons (sE_tup (sA_cons (sE_frz (sO_lst (sA_cons sE_int (sA_cons sE_int (sA_cons sE_int sA_nil))))) (sA_cons sE_int sA_nil))) sA_nil)))))))))))))))))
theorem df_law (q : Fc K mg T xa) : Df P w K mg base T "law" 11 (["script"] : List Str) m_law := by
  obtain ⟨f, fd, h1, h2⟩ := q.r_law
  exact ⟨f, fd, h1, h2.kp, ok_law q h2, h2.binds (ps := (["script"] : List Str)) (fun _ _ _ _ _ _ us hl => match us, hl with | [_], _ => rfl)⟩
end
end EV
set_option maxRecDepth 100000
set_option maxHeartbeats 4000000
namespace EV
open PySem L2
theorem all_mk {l : PySem.W.OpenLaw} {w : World} {K : PySem.W.Frag} {h : Heap} {mg : Str → Option Value} {fa : Addr} (X : K.In h) (G : h.Ns mainGlobals mg) (hfa : mg "law" = some (.ref fa))
    {Ca0 : Addr}
    {Ca1 : Addr}
    {Xa0 : Addr} {nmx0 qx0 : Str} {Nx0 : Addr} {bsx0 bmx0 : List Value} {snx0 : List Str} {subx0 : List Value} {abx0 : Bool} {colx0 : Option Bool} {ddx0 : Option Addr} {kx00 kx01 kx02 kx03 kx05 : Option Value}
    {Xa1 : Addr} {nmx1 qx1 : Str} {Nx1 : Addr} {bsx1 bmx1 : List Value} {snx1 : List Str} {subx1 : List Value} {abx1 : Bool} {colx1 : Option Bool} {ddx1 : Option Addr} {kx10 kx11 kx12 kx13 kx15 : Option Value}
    {Xa2 : Addr} {nmx2 qx2 : Str} {Nx2 : Addr} {bsx2 bmx2 : List Value} {snx2 : List Str} {subx2 : List Value} {abx2 : Bool} {colx2 : Option Bool} {ddx2 : Option Addr} {kx20 kx21 kx22 kx23 kx25 : Option Value}
    {tk_DIGITS : Tok}
    {tk_DIGIT_LIMIT : Tok}
    {tk_REACH_LIMIT : Tok}
    {tk_TEXT_LIMIT : Tok}
    {f0 : Addr} {od0 an0 : Option Addr} {sl0 : Array (Option Value)} {oc0 kV0 dc0 pm0 cd0 ct0 : Value}
    {f1 : Addr} {od1 an1 : Option Addr} {sl1 : Array (Option Value)} {oc1 kV1 dc1 pm1 cd1 ct1 : Value}
    {f2 : Addr} {od2 an2 : Option Addr} {sl2 : Array (Option Value)} {oc2 kV2 dc2 pm2 cd2 ct2 : Value}
    {T2 : Addr} {oT2 : Value} {oU2 : Option Addr} {sT2 : Array (Option Value)} {nT2 : Nat} {tk2 : Tok}
    {f3 : Addr} {od3 an3 : Option Addr} {sl3 : Array (Option Value)} {oc3 kV3 dc3 pm3 cd3 ct3 : Value}
    {f4 : Addr} {od4 an4 : Option Addr} {sl4 : Array (Option Value)} {oc4 kV4 dc4 pm4 cd4 ct4 : Value}
    {f5 : Addr} {od5 an5 : Option Addr} {sl5 : Array (Option Value)} {oc5 kV5 dc5 pm5 cd5 ct5 : Value}
    {f6 : Addr} {od6 an6 : Option Addr} {sl6 : Array (Option Value)} {oc6 kV6 dc6 pm6 cd6 ct6 : Value}
    {f7 : Addr} {od7 an7 : Option Addr} {sl7 : Array (Option Value)} {oc7 kV7 dc7 pm7 cd7 ct7 : Value}
    {f8 : Addr} {od8 an8 : Option Addr} {sl8 : Array (Option Value)} {oc8 kV8 dc8 pm8 cd8 ct8 : Value}
    {f9 : Addr} {od9 an9 : Option Addr} {sl9 : Array (Option Value)} {oc9 kV9 dc9 pm9 cd9 ct9 : Value}
    {f10 : Addr} {od10 an10 : Option Addr} {sl10 : Array (Option Value)} {oc10 kV10 dc10 pm10 cd10 ct10 : Value}
    {f11 : Addr} {od11 an11 : Option Addr} {sl11 : Array (Option Value)} {oc11 kV11 dc11 pm11 cd11 ct11 : Value}
    {f12 : Addr} {od12 an12 : Option Addr} {sl12 : Array (Option Value)} {oc12 kV12 dc12 pm12 cd12 ct12 : Value}
    {f13 : Addr} {od13 an13 : Option Addr} {sl13 : Array (Option Value)} {oc13 kV13 dc13 pm13 cd13 ct13 : Value}
    {f14 : Addr} {od14 an14 : Option Addr} {sl14 : Array (Option Value)} {oc14 kV14 dc14 pm14 cd14 ct14 : Value}
    {f15 : Addr} {od15 an15 : Option Addr} {sl15 : Array (Option Value)} {oc15 kV15 dc15 pm15 cd15 ct15 : Value}
    {f16 : Addr} {od16 an16 : Option Addr} {sl16 : Array (Option Value)} {oc16 kV16 dc16 pm16 cd16 ct16 : Value}
    {f17 : Addr} {od17 an17 : Option Addr} {sl17 : Array (Option Value)} {oc17 kV17 dc17 pm17 cd17 ct17 : Value}
    {f18 : Addr} {od18 an18 : Option Addr} {sl18 : Array (Option Value)} {oc18 kV18 dc18 pm18 cd18 ct18 : Value}
    {f19 : Addr} {od19 an19 : Option Addr} {sl19 : Array (Option Value)} {oc19 kV19 dc19 pm19 cd19 ct19 : Value}
    {f20 : Addr} {od20 an20 : Option Addr} {sl20 : Array (Option Value)} {oc20 kV20 dc20 pm20 cd20 ct20 : Value}
    {f21 : Addr} {od21 an21 : Option Addr} {sl21 : Array (Option Value)} {oc21 kV21 dc21 pm21 cd21 ct21 : Value}
    {f22 : Addr} {od22 an22 : Option Addr} {sl22 : Array (Option Value)} {oc22 kV22 dc22 pm22 cd22 ct22 : Value}
    {f23 : Addr} {od23 an23 : Option Addr} {sl23 : Array (Option Value)} {oc23 kV23 dc23 pm23 cd23 ct23 : Value}
    {f24 : Addr} {od24 an24 : Option Addr} {sl24 : Array (Option Value)} {oc24 kV24 dc24 pm24 cd24 ct24 : Value}
    {f25 : Addr} {od25 an25 : Option Addr} {sl25 : Array (Option Value)} {oc25 kV25 dc25 pm25 cd25 ct25 : Value}
    {f26 : Addr} {od26 an26 : Option Addr} {sl26 : Array (Option Value)} {oc26 kV26 dc26 pm26 cd26 ct26 : Value}
    {f27 : Addr} {od27 an27 : Option Addr} {sl27 : Array (Option Value)} {oc27 kV27 dc27 pm27 cd27 ct27 : Value}
    {f28 : Addr} {od28 an28 : Option Addr} {sl28 : Array (Option Value)} {oc28 kV28 dc28 pm28 cd28 ct28 : Value}
    {f29 : Addr} {od29 an29 : Option Addr} {sl29 : Array (Option Value)} {oc29 kV29 dc29 pm29 cd29 ct29 : Value}
    {f30 : Addr} {od30 an30 : Option Addr} {sl30 : Array (Option Value)} {oc30 kV30 dc30 pm30 cd30 ct30 : Value}
    {f31 : Addr} {od31 an31 : Option Addr} {sl31 : Array (Option Value)} {oc31 kV31 dc31 pm31 cd31 ct31 : Value}
    {f32 : Addr} {od32 an32 : Option Addr} {sl32 : Array (Option Value)} {oc32 kV32 dc32 pm32 cd32 ct32 : Value}
    {f33 : Addr} {od33 an33 : Option Addr} {sl33 : Array (Option Value)} {oc33 kV33 dc33 pm33 cd33 ct33 : Value}
    {f34 : Addr} {od34 an34 : Option Addr} {sl34 : Array (Option Value)} {oc34 kV34 dc34 pm34 cd34 ct34 : Value}
    {f35 : Addr} {od35 an35 : Option Addr} {sl35 : Array (Option Value)} {oc35 kV35 dc35 pm35 cd35 ct35 : Value}
    {f36 : Addr} {od36 an36 : Option Addr} {sl36 : Array (Option Value)} {oc36 kV36 dc36 pm36 cd36 ct36 : Value}
    {f37 : Addr} {od37 an37 : Option Addr} {sl37 : Array (Option Value)} {oc37 kV37 dc37 pm37 cd37 ct37 : Value}
    {f38 : Addr} {od38 an38 : Option Addr} {sl38 : Array (Option Value)} {oc38 kV38 dc38 pm38 cd38 ct38 : Value}
    {f39 : Addr} {od39 an39 : Option Addr} {sl39 : Array (Option Value)} {oc39 kV39 dc39 pm39 cd39 ct39 : Value}
    {f40 : Addr} {od40 an40 : Option Addr} {sl40 : Array (Option Value)} {oc40 kV40 dc40 pm40 cd40 ct40 : Value}
    {f41 : Addr} {od41 an41 : Option Addr} {sl41 : Array (Option Value)} {oc41 kV41 dc41 pm41 cd41 ct41 : Value}
    {f42 : Addr} {od42 an42 : Option Addr} {sl42 : Array (Option Value)} {oc42 kV42 dc42 pm42 cd42 ct42 : Value}
    {f43 : Addr} {od43 an43 : Option Addr} {sl43 : Array (Option Value)} {oc43 kV43 dc43 pm43 cd43 ct43 : Value}
    {f44 : Addr} {od44 an44 : Option Addr} {sl44 : Array (Option Value)} {oc44 kV44 dc44 pm44 cd44 ct44 : Value}
    {f45 : Addr} {od45 an45 : Option Addr} {sl45 : Array (Option Value)} {oc45 kV45 dc45 pm45 cd45 ct45 : Value}
    {f46 : Addr} {od46 an46 : Option Addr} {sl46 : Array (Option Value)} {oc46 kV46 dc46 pm46 cd46 ct46 : Value}
    {f47 : Addr} {od47 an47 : Option Addr} {sl47 : Array (Option Value)} {oc47 kV47 dc47 pm47 cd47 ct47 : Value}
    {f48 : Addr} {od48 an48 : Option Addr} {sl48 : Array (Option Value)} {oc48 kV48 dc48 pm48 cd48 ct48 : Value}
    {f49 : Addr} {od49 an49 : Option Addr} {sl49 : Array (Option Value)} {oc49 kV49 dc49 pm49 cd49 ct49 : Value}
    {f50 : Addr} {od50 an50 : Option Addr} {sl50 : Array (Option Value)} {oc50 kV50 dc50 pm50 cd50 ct50 : Value}
    (ghn : PySem.W.specialIn K (.builtin "object.__class__") "__get__" = some (some (.builtin "getset_descriptor.__get__")))
    (ghtk : PySem.W.takesIn K (.builtin "object.__class__") = some true)
    (gC0 : PySem.W.nsIn K mainGlobals "Ratio" = some (some (.ref Ca0)))
    (pg_0 : PySem.W.plainGet K Ca0 Str.empty = true)
    (hd_0 : PySem.W.hasDictIn K Ca0 = true)
    (po_0 : PySem.W.plainOver K Ca0 = true)
    (sa_0 : PySem.W.findIn K (.ref Ca0) "__setattr__" = some (some (.builtin "object.__setattr__")))
    (ha_0 : PySem.W.findIn K (.ref Ca0) "__class__" = some (some (.builtin "object.__class__")))
    (hm_0 : PySem.W.mroIn K Ca0 (.type "object") = some true)
    (cd_0 : PySem.W.isClsIn K Ca0 = true)
    (ty_0 : PySem.W.typeIn K (.ref Ca0) = some (.type "type"))
    (s1_0 : PySem.W.subIn K (.ref Ca0) (.type "int") = some false)
    (s2_0 : PySem.W.subIn K (.ref Ca0) (.type "bool") = some false)
    (s3_0 : PySem.W.subIn K (.ref Ca0) (.type "str") = some false)
    (s4_0 : PySem.W.subIn K (.ref Ca0) (.type "list") = some false)
    (s5_0 : PySem.W.subIn K (.ref Ca0) (.type "tuple") = some false)
    (b1_0 : PySem.W.subIn K (.type "NoneType") (.ref Ca0) = some false)
    (b2_0 : PySem.W.subIn K (.type "bool") (.ref Ca0) = some false)
    (b3_0 : PySem.W.subIn K (.type "int") (.ref Ca0) = some false)
    (b4_0 : PySem.W.subIn K (.type "str") (.ref Ca0) = some false)
    (b5_0 : PySem.W.subIn K (.type "list") (.ref Ca0) = some false)
    (b6_0 : PySem.W.subIn K (.type "tuple") (.ref Ca0) = some false)
    (kp_0 : PySem.W.keepIn K (.ref Ca0) = true)
    (na_0_top : PySem.W.findIn K (.ref Ca0) "top" = some none)
    (na_0_bottom : PySem.W.findIn K (.ref Ca0) "bottom" = some none)
    (gC1 : PySem.W.nsIn K mainGlobals "Book" = some (some (.ref Ca1)))
    (pg_1 : PySem.W.plainGet K Ca1 Str.empty = true)
    (hd_1 : PySem.W.hasDictIn K Ca1 = true)
    (po_1 : PySem.W.plainOver K Ca1 = true)
    (sa_1 : PySem.W.findIn K (.ref Ca1) "__setattr__" = some (some (.builtin "object.__setattr__")))
    (ha_1 : PySem.W.findIn K (.ref Ca1) "__class__" = some (some (.builtin "object.__class__")))
    (hm_1 : PySem.W.mroIn K Ca1 (.type "object") = some true)
    (cd_1 : PySem.W.isClsIn K Ca1 = true)
    (ty_1 : PySem.W.typeIn K (.ref Ca1) = some (.type "type"))
    (s1_1 : PySem.W.subIn K (.ref Ca1) (.type "int") = some false)
    (s2_1 : PySem.W.subIn K (.ref Ca1) (.type "bool") = some false)
    (s3_1 : PySem.W.subIn K (.ref Ca1) (.type "str") = some false)
    (s4_1 : PySem.W.subIn K (.ref Ca1) (.type "list") = some false)
    (s5_1 : PySem.W.subIn K (.ref Ca1) (.type "tuple") = some false)
    (b1_1 : PySem.W.subIn K (.type "NoneType") (.ref Ca1) = some false)
    (b2_1 : PySem.W.subIn K (.type "bool") (.ref Ca1) = some false)
    (b3_1 : PySem.W.subIn K (.type "int") (.ref Ca1) = some false)
    (b4_1 : PySem.W.subIn K (.type "str") (.ref Ca1) = some false)
    (b5_1 : PySem.W.subIn K (.type "list") (.ref Ca1) = some false)
    (b6_1 : PySem.W.subIn K (.type "tuple") (.ref Ca1) = some false)
    (kp_1 : PySem.W.keepIn K (.ref Ca1) = true)
    (na_1_numbers : PySem.W.findIn K (.ref Ca1) "numbers" = some none)
    (na_1_reach : PySem.W.findIn K (.ref Ca1) "reach" = some none)
    (na_1__tops : PySem.W.findIn K (.ref Ca1) "_tops" = some none)
    (na_1__bottom : PySem.W.findIn K (.ref Ca1) "_bottom" = some none)
    (na_1__kept_calm : PySem.W.findIn K (.ref Ca1) "_kept_calm" = some none)
    (na_1__kept_tame : PySem.W.findIn K (.ref Ca1) "_kept_tame" = some none)
    (na_1__kept_column : PySem.W.findIn K (.ref Ca1) "_kept_column" = some none)
    (ne_0_1 : (Ca0 == Ca1) = false)
    (su_0_1 : PySem.W.subIn K (.ref Ca0) (.ref Ca1) = some false)
    (su_1_0 : PySem.W.subIn K (.ref Ca1) (.ref Ca0) = some false)
    (gX0 : PySem.W.nsIn K mainGlobals "BadBook" = some (some (.ref Xa0)))
    (xcl0 : K.lookup Xa0 = some (excClassObj nmx0 qx0 Xa0 Nx0 bsx0 bmx0 true snx0 subx0 abx0 colx0 ddx0 kx00 kx01 kx02 kx03 kx05 "ValueError.__new__"))
    (xrf0 : PySem.HandSPX.refsVE bmx0 = true)
    (xsa0 : PySem.W.findIn K (.ref Xa0) "__setattr__" = some (some (.builtin "object.__setattr__")))
    (xex0 : PySem.W.subIn K (.ref Xa0) (.type "BaseException") = some true)
    (xve0 : PySem.W.subIn K (.ref Xa0) (.type "ValueError") = some true)
    (xty0 : PySem.W.typeIn K (.ref Xa0) = some (.type "type"))
    (xkp0 : PySem.W.keepIn K (.ref Xa0) = true)
    (xga0 : PySem.W.findIn K (.ref Xa0) "__getattribute__" = some (some (.builtin "BaseException.__getattribute__")))
    (xgg0 : PySem.W.findIn K (.ref Xa0) "__getattr__" = some none)
    (xhd0 : PySem.W.hasDictIn K Xa0 = true)
    (xha0 : PySem.W.findIn K (.ref Xa0) "__class__" = some (some (.builtin "object.__class__")))
    (xhm0 : PySem.W.mroIn K Xa0 (.type "object") = some true)
    (gX1 : PySem.W.nsIn K mainGlobals "TooMany" = some (some (.ref Xa1)))
    (xcl1 : K.lookup Xa1 = some (excClassObj nmx1 qx1 Xa1 Nx1 bsx1 bmx1 true snx1 subx1 abx1 colx1 ddx1 kx10 kx11 kx12 kx13 kx15 "ValueError.__new__"))
    (xrf1 : PySem.HandSPX.refsVE bmx1 = true)
    (xsa1 : PySem.W.findIn K (.ref Xa1) "__setattr__" = some (some (.builtin "object.__setattr__")))
    (xex1 : PySem.W.subIn K (.ref Xa1) (.type "BaseException") = some true)
    (xve1 : PySem.W.subIn K (.ref Xa1) (.type "ValueError") = some true)
    (xty1 : PySem.W.typeIn K (.ref Xa1) = some (.type "type"))
    (xkp1 : PySem.W.keepIn K (.ref Xa1) = true)
    (xga1 : PySem.W.findIn K (.ref Xa1) "__getattribute__" = some (some (.builtin "BaseException.__getattribute__")))
    (xgg1 : PySem.W.findIn K (.ref Xa1) "__getattr__" = some none)
    (xhd1 : PySem.W.hasDictIn K Xa1 = true)
    (xha1 : PySem.W.findIn K (.ref Xa1) "__class__" = some (some (.builtin "object.__class__")))
    (xhm1 : PySem.W.mroIn K Xa1 (.type "object") = some true)
    (gX2 : PySem.W.nsIn K mainGlobals "BadNumber" = some (some (.ref Xa2)))
    (xcl2 : K.lookup Xa2 = some (excClassObj nmx2 qx2 Xa2 Nx2 bsx2 bmx2 true snx2 subx2 abx2 colx2 ddx2 kx20 kx21 kx22 kx23 kx25 "ValueError.__new__"))
    (xrf2 : PySem.HandSPX.refsVE bmx2 = true)
    (xsa2 : PySem.W.findIn K (.ref Xa2) "__setattr__" = some (some (.builtin "object.__setattr__")))
    (xex2 : PySem.W.subIn K (.ref Xa2) (.type "BaseException") = some true)
    (xve2 : PySem.W.subIn K (.ref Xa2) (.type "ValueError") = some true)
    (xty2 : PySem.W.typeIn K (.ref Xa2) = some (.type "type"))
    (xkp2 : PySem.W.keepIn K (.ref Xa2) = true)
    (xga2 : PySem.W.findIn K (.ref Xa2) "__getattribute__" = some (some (.builtin "BaseException.__getattribute__")))
    (xgg2 : PySem.W.findIn K (.ref Xa2) "__getattr__" = some none)
    (xhd2 : PySem.W.hasDictIn K Xa2 = true)
    (xha2 : PySem.W.findIn K (.ref Xa2) "__class__" = some (some (.builtin "object.__class__")))
    (xhm2 : PySem.W.mroIn K Xa2 (.type "object") = some true)
    (xs_0_0 : PySem.W.subIn K (.ref Xa0) (.ref Xa0) = some true)
    (xs_1_0 : PySem.W.subIn K (.ref Xa1) (.ref Xa0) = some false)
    (nex_1_0 : (Xa1 == Xa0) = false)
    (xna0_why : PySem.W.findIn K (.ref Xa0) "why" = some none)
    (xs_0_1 : PySem.W.subIn K (.ref Xa0) (.ref Xa1) = some false)
    (nex_0_1 : (Xa0 == Xa1) = false)
    (xs_1_1 : PySem.W.subIn K (.ref Xa1) (.ref Xa1) = some true)
    (xna1_what : PySem.W.findIn K (.ref Xa1) "what" = some none)
    (xna1_count : PySem.W.findIn K (.ref Xa1) "count" = some none)
    (xs_0_2 : PySem.W.subIn K (.ref Xa0) (.ref Xa2) = some false)
    (nex_0_2 : (Xa0 == Xa2) = false)
    (xs_1_2 : PySem.W.subIn K (.ref Xa1) (.ref Xa2) = some false)
    (nex_1_2 : (Xa1 == Xa2) = false)
    (z_ValueError : PySem.W.nsIn K mainGlobals "ValueError" = some none)
    (z_abs : PySem.W.nsIn K mainGlobals "abs" = some none)
    (z_bool : PySem.W.nsIn K mainGlobals "bool" = some none)
    (i_comb : PySem.W.nsIn K mainGlobals "comb" = some (some (.builtin "math.comb")))
    (z_enumerate : PySem.W.nsIn K mainGlobals "enumerate" = some none)
    (i_gcd : PySem.W.nsIn K mainGlobals "gcd" = some (some (.builtin "math.gcd")))
    (z_int : PySem.W.nsIn K mainGlobals "int" = some none)
    (z_isinstance : PySem.W.nsIn K mainGlobals "isinstance" = some none)
    (i_lcm : PySem.W.nsIn K mainGlobals "lcm" = some (some (.builtin "math.lcm")))
    (z_len : PySem.W.nsIn K mainGlobals "len" = some none)
    (z_min : PySem.W.nsIn K mainGlobals "min" = some none)
    (z_range : PySem.W.nsIn K mainGlobals "range" = some none)
    (z_str : PySem.W.nsIn K mainGlobals "str" = some none)
    (z_sum : PySem.W.nsIn K mainGlobals "sum" = some none)
    (z_tuple : PySem.W.nsIn K mainGlobals "tuple" = some none)
    (kk_DIGITS : PySem.W.nsIn K mainGlobals "DIGITS" = some (some (.str "0123456789" tk_DIGITS)))
    (kk_DIGIT_LIMIT : PySem.W.nsIn K mainGlobals "DIGIT_LIMIT" = some (some (.int 400 tk_DIGIT_LIMIT)))
    (kk_REACH_LIMIT : PySem.W.nsIn K mainGlobals "REACH_LIMIT" = some (some (.int 40 tk_REACH_LIMIT)))
    (kk_TEXT_LIMIT : PySem.W.nsIn K mainGlobals "TEXT_LIMIT" = some (some (.int 200000 tk_TEXT_LIMIT)))
    (a0 : PySem.W.findIn K (.ref Xa0) "__init__" = some (some (.ref f0)))
    (w0 : PySem.W.typeIn K (.ref f0) = some (.type "function"))
    (l0 : K.lookup f0 = some ⟨oc0, od0, .func (PySem.W.fnOf "__init__" "BadBook.__init__" (defArgs s_BadBook_init) (defBody s_BadBook_init) (defScope s_BadBook_init) .none kV0 dc0 pm0 an0 cd0 ct0), sl0⟩)
    (c0 : PySem.W.codeIn K cd0 "BadBook.__init__" = true)
    (k0 : PySem.W.keepIn K (.ref f0) = true)
    (a1 : PySem.W.findIn K (.ref Xa1) "__init__" = some (some (.ref f1)))
    (w1 : PySem.W.typeIn K (.ref f1) = some (.type "function"))
    (l1 : K.lookup f1 = some ⟨oc1, od1, .func (PySem.W.fnOf "__init__" "TooMany.__init__" (defArgs s_TooMany_init) (defBody s_TooMany_init) (defScope s_TooMany_init) .none kV1 dc1 pm1 an1 cd1 ct1), sl1⟩)
    (c1 : PySem.W.codeIn K cd1 "TooMany.__init__" = true)
    (k1 : PySem.W.keepIn K (.ref f1) = true)
    (mk0 : PySem.W.makesIn K Ca0 = true)
    (a2 : PySem.W.findIn K (.ref Ca0) "__init__" = some (some (.ref f2)))
    (w2 : PySem.W.isFn K (.ref f2) = true)
    (l2 : K.lookup f2 = some ⟨oc2, od2, .func (PySem.W.fnOf "__init__" "Ratio.__init__" (defArgs s_Ratio_init) (defBody s_Ratio_init) (defScope s_Ratio_init) (.ref T2) kV2 dc2 pm2 an2 cd2 ct2), sl2⟩)
    (c2 : PySem.W.codeIn K cd2 "Ratio.__init__" = true)
    (k2 : PySem.W.keepIn K (.ref f2) = true)
    (t2 : K.lookup T2 = some ⟨oT2, oU2, .seq #[.int 1 tk2] nT2, sT2⟩)
    (mk1 : PySem.W.makesIn K Ca1 = true)
    (a3 : PySem.W.findIn K (.ref Ca1) "__init__" = some (some (.ref f3)))
    (w3 : PySem.W.isFn K (.ref f3) = true)
    (l3 : K.lookup f3 = some ⟨oc3, od3, .func (PySem.W.fnOf "__init__" "Book.__init__" (defArgs s_Book_init) (defBody s_Book_init) (defScope s_Book_init) .none kV3 dc3 pm3 an3 cd3 ct3), sl3⟩)
    (c3 : PySem.W.codeIn K cd3 "Book.__init__" = true)
    (k3 : PySem.W.keepIn K (.ref f3) = true)
    (a4 : PySem.W.nsIn K mainGlobals "_law_bag" = some (some (.ref f4)))
    (l4 : K.lookup f4 = some ⟨oc4, od4, .func (PySem.W.fnOf "_law_bag" "_law_bag" (defArgs s__law_bag) (defBody s__law_bag) (defScope s__law_bag) .none kV4 dc4 pm4 an4 cd4 ct4), sl4⟩)
    (c4 : PySem.W.codeIn K cd4 "_law_bag" = true)
    (k4 : PySem.W.keepIn K (.ref f4) = true)
    (a5 : PySem.W.nsIn K mainGlobals "_law_draw" = some (some (.ref f5)))
    (l5 : K.lookup f5 = some ⟨oc5, od5, .func (PySem.W.fnOf "_law_draw" "_law_draw" (defArgs s__law_draw) (defBody s__law_draw) (defScope s__law_draw) .none kV5 dc5 pm5 an5 cd5 ct5), sl5⟩)
    (c5 : PySem.W.codeIn K cd5 "_law_draw" = true)
    (k5 : PySem.W.keepIn K (.ref f5) = true)
    (a6 : PySem.W.nsIn K mainGlobals "_law_parts" = some (some (.ref f6)))
    (l6 : K.lookup f6 = some ⟨oc6, od6, .func (PySem.W.fnOf "_law_parts" "_law_parts" (defArgs s__law_parts) (defBody s__law_parts) (defScope s__law_parts) .none kV6 dc6 pm6 an6 cd6 ct6), sl6⟩)
    (c6 : PySem.W.codeIn K cd6 "_law_parts" = true)
    (k6 : PySem.W.keepIn K (.ref f6) = true)
    (a7 : PySem.W.nsIn K mainGlobals "_law_times" = some (some (.ref f7)))
    (l7 : K.lookup f7 = some ⟨oc7, od7, .func (PySem.W.fnOf "_law_times" "_law_times" (defArgs s__law_times) (defBody s__law_times) (defScope s__law_times) .none kV7 dc7 pm7 an7 cd7 ct7), sl7⟩)
    (c7 : PySem.W.codeIn K cd7 "_law_times" = true)
    (k7 : PySem.W.keepIn K (.ref f7) = true)
    (a8 : PySem.W.nsIn K mainGlobals "_law_core_book" = some (some (.ref f8)))
    (l8 : K.lookup f8 = some ⟨oc8, od8, .func (PySem.W.fnOf "_law_core_book" "_law_core_book" (defArgs s__law_core_book) (defBody s__law_core_book) (defScope s__law_core_book) .none kV8 dc8 pm8 an8 cd8 ct8), sl8⟩)
    (c8 : PySem.W.codeIn K cd8 "_law_core_book" = true)
    (k8 : PySem.W.keepIn K (.ref f8) = true)
    (a9 : PySem.W.nsIn K mainGlobals "_law_known_book" = some (some (.ref f9)))
    (l9 : K.lookup f9 = some ⟨oc9, od9, .func (PySem.W.fnOf "_law_known_book" "_law_known_book" (defArgs s__law_known_book) (defBody s__law_known_book) (defScope s__law_known_book) .none kV9 dc9 pm9 an9 cd9 ct9), sl9⟩)
    (c9 : PySem.W.codeIn K cd9 "_law_known_book" = true)
    (k9 : PySem.W.keepIn K (.ref f9) = true)
    (a10 : PySem.W.nsIn K mainGlobals "check_length" = some (some (.ref f10)))
    (l10 : K.lookup f10 = some ⟨oc10, od10, .func (PySem.W.fnOf "check_length" "check_length" (defArgs s_check_length) (defBody s_check_length) (defScope s_check_length) .none kV10 dc10 pm10 an10 cd10 ct10), sl10⟩)
    (c10 : PySem.W.codeIn K cd10 "check_length" = true)
    (k10 : PySem.W.keepIn K (.ref f10) = true)
    (a11 : PySem.W.nsIn K mainGlobals "digits_from" = some (some (.ref f11)))
    (l11 : K.lookup f11 = some ⟨oc11, od11, .func (PySem.W.fnOf "digits_from" "digits_from" (defArgs s_digits_from) (defBody s_digits_from) (defScope s_digits_from) .none kV11 dc11 pm11 an11 cd11 ct11), sl11⟩)
    (c11 : PySem.W.codeIn K cd11 "digits_from" = true)
    (k11 : PySem.W.keepIn K (.ref f11) = true)
    (a12 : PySem.W.nsIn K mainGlobals "top_fault" = some (some (.ref f12)))
    (l12 : K.lookup f12 = some ⟨oc12, od12, .func (PySem.W.fnOf "top_fault" "top_fault" (defArgs s_top_fault) (defBody s_top_fault) (defScope s_top_fault) .none kV12 dc12 pm12 an12 cd12 ct12), sl12⟩)
    (c12 : PySem.W.codeIn K cd12 "top_fault" = true)
    (k12 : PySem.W.keepIn K (.ref f12) = true)
    (a13 : PySem.W.nsIn K mainGlobals "bottom_fault" = some (some (.ref f13)))
    (l13 : K.lookup f13 = some ⟨oc13, od13, .func (PySem.W.fnOf "bottom_fault" "bottom_fault" (defArgs s_bottom_fault) (defBody s_bottom_fault) (defScope s_bottom_fault) .none kV13 dc13 pm13 an13 cd13 ct13), sl13⟩)
    (c13 : PySem.W.codeIn K cd13 "bottom_fault" = true)
    (k13 : PySem.W.keepIn K (.ref f13) = true)
    (a14 : PySem.W.nsIn K mainGlobals "number_fault" = some (some (.ref f14)))
    (l14 : K.lookup f14 = some ⟨oc14, od14, .func (PySem.W.fnOf "number_fault" "number_fault" (defArgs s_number_fault) (defBody s_number_fault) (defScope s_number_fault) .none kV14 dc14 pm14 an14 cd14 ct14), sl14⟩)
    (c14 : PySem.W.codeIn K cd14 "number_fault" = true)
    (k14 : PySem.W.keepIn K (.ref f14) = true)
    (a15 : PySem.W.nsIn K mainGlobals "word_pair" = some (some (.ref f15)))
    (l15 : K.lookup f15 = some ⟨oc15, od15, .func (PySem.W.fnOf "word_pair" "word_pair" (defArgs s_word_pair) (defBody s_word_pair) (defScope s_word_pair) .none kV15 dc15 pm15 an15 cd15 ct15), sl15⟩)
    (c15 : PySem.W.codeIn K cd15 "word_pair" = true)
    (k15 : PySem.W.keepIn K (.ref f15) = true)
    (a16 : PySem.W.nsIn K mainGlobals "read_pair" = some (some (.ref f16)))
    (l16 : K.lookup f16 = some ⟨oc16, od16, .func (PySem.W.fnOf "read_pair" "read_pair" (defArgs s_read_pair) (defBody s_read_pair) (defScope s_read_pair) .none kV16 dc16 pm16 an16 cd16 ct16), sl16⟩)
    (c16 : PySem.W.codeIn K cd16 "read_pair" = true)
    (k16 : PySem.W.keepIn K (.ref f16) = true)
    (a17 : PySem.W.nsIn K mainGlobals "is_integer" = some (some (.ref f17)))
    (l17 : K.lookup f17 = some ⟨oc17, od17, .func (PySem.W.fnOf "is_integer" "is_integer" (defArgs s_is_integer) (defBody s_is_integer) (defScope s_is_integer) .none kV17 dc17 pm17 an17 cd17 ct17), sl17⟩)
    (c17 : PySem.W.codeIn K cd17 "is_integer" = true)
    (k17 : PySem.W.keepIn K (.ref f17) = true)
    (a18 : PySem.W.nsIn K mainGlobals "number" = some (some (.ref f18)))
    (l18 : K.lookup f18 = some ⟨oc18, od18, .func (PySem.W.fnOf "number" "number" (defArgs s_number) (defBody s_number) (defScope s_number) .none kV18 dc18 pm18 an18 cd18 ct18), sl18⟩)
    (c18 : PySem.W.codeIn K cd18 "number" = true)
    (k18 : PySem.W.keepIn K (.ref f18) = true)
    (a19 : PySem.W.nsIn K mainGlobals "tops_of_ratios" = some (some (.ref f19)))
    (l19 : K.lookup f19 = some ⟨oc19, od19, .func (PySem.W.fnOf "tops_of_ratios" "tops_of_ratios" (defArgs s_tops_of_ratios) (defBody s_tops_of_ratios) (defScope s_tops_of_ratios) .none kV19 dc19 pm19 an19 cd19 ct19), sl19⟩)
    (c19 : PySem.W.codeIn K cd19 "tops_of_ratios" = true)
    (k19 : PySem.W.keepIn K (.ref f19) = true)
    (a20 : PySem.W.nsIn K mainGlobals "book_fault" = some (some (.ref f20)))
    (l20 : K.lookup f20 = some ⟨oc20, od20, .func (PySem.W.fnOf "book_fault" "book_fault" (defArgs s_book_fault) (defBody s_book_fault) (defScope s_book_fault) .none kV20 dc20 pm20 an20 cd20 ct20), sl20⟩)
    (c20 : PySem.W.codeIn K cd20 "book_fault" = true)
    (k20 : PySem.W.keepIn K (.ref f20) = true)
    (a21 : PySem.W.nsIn K mainGlobals "check_reach" = some (some (.ref f21)))
    (l21 : K.lookup f21 = some ⟨oc21, od21, .func (PySem.W.fnOf "check_reach" "check_reach" (defArgs s_check_reach) (defBody s_check_reach) (defScope s_check_reach) .none kV21 dc21 pm21 an21 cd21 ct21), sl21⟩)
    (c21 : PySem.W.codeIn K cd21 "check_reach" = true)
    (k21 : PySem.W.keepIn K (.ref f21) = true)
    (a22 : PySem.W.nsIn K mainGlobals "_law_lowest" = some (some (.ref f22)))
    (l22 : K.lookup f22 = some ⟨oc22, od22, .func (PySem.W.fnOf "_law_lowest" "_law_lowest" (defArgs s__law_lowest) (defBody s__law_lowest) (defScope s__law_lowest) .none kV22 dc22 pm22 an22 cd22 ct22), sl22⟩)
    (c22 : PySem.W.codeIn K cd22 "_law_lowest" = true)
    (k22 : PySem.W.keepIn K (.ref f22) = true)
    (a23 : PySem.W.nsIn K mainGlobals "_law_pairs_of" = some (some (.ref f23)))
    (l23 : K.lookup f23 = some ⟨oc23, od23, .func (PySem.W.fnOf "_law_pairs_of" "_law_pairs_of" (defArgs s__law_pairs_of) (defBody s__law_pairs_of) (defScope s__law_pairs_of) .none kV23 dc23 pm23 an23 cd23 ct23), sl23⟩)
    (c23 : PySem.W.codeIn K cd23 "_law_pairs_of" = true)
    (k23 : PySem.W.keepIn K (.ref f23) = true)
    (a24 : PySem.W.nsIn K mainGlobals "_law_word" = some (some (.ref f24)))
    (l24 : K.lookup f24 = some ⟨oc24, od24, .func (PySem.W.fnOf "_law_word" "_law_word" (defArgs s__law_word) (defBody s__law_word) (defScope s__law_word) .none kV24 dc24 pm24 an24 cd24 ct24), sl24⟩)
    (c24 : PySem.W.codeIn K cd24 "_law_word" = true)
    (k24 : PySem.W.keepIn K (.ref f24) = true)
    (a25 : PySem.W.nsIn K mainGlobals "_law_book" = some (some (.ref f25)))
    (l25 : K.lookup f25 = some ⟨oc25, od25, .func (PySem.W.fnOf "_law_book" "_law_book" (defArgs s__law_book) (defBody s__law_book) (defScope s__law_book) .none kV25 dc25 pm25 an25 cd25 ct25), sl25⟩)
    (c25 : PySem.W.codeIn K cd25 "_law_book" = true)
    (k25 : PySem.W.keepIn K (.ref f25) = true)
    (a26 : PySem.W.nsIn K mainGlobals "_law_halved" = some (some (.ref f26)))
    (l26 : K.lookup f26 = some ⟨oc26, od26, .func (PySem.W.fnOf "_law_halved" "_law_halved" (defArgs s__law_halved) (defBody s__law_halved) (defScope s__law_halved) .none kV26 dc26 pm26 an26 cd26 ct26), sl26⟩)
    (c26 : PySem.W.codeIn K cd26 "_law_halved" = true)
    (k26 : PySem.W.keepIn K (.ref f26) = true)
    (a27 : PySem.W.findIn K (.ref Ca1) "over_one_bottom" = some (some (.ref f27)))
    (w27 : PySem.W.isFn K (.ref f27) = true)
    (l27 : K.lookup f27 = some ⟨oc27, od27, .func (PySem.W.fnOf "over_one_bottom" "Book.over_one_bottom" (defArgs s_Book_over_one_bottom) (defBody s_Book_over_one_bottom) (defScope s_Book_over_one_bottom) .none kV27 dc27 pm27 an27 cd27 ct27), sl27⟩)
    (c27 : PySem.W.codeIn K cd27 "Book.over_one_bottom" = true)
    (k27 : PySem.W.keepIn K (.ref f27) = true)
    (a28 : PySem.W.nsIn K mainGlobals "by_one_plus" = some (some (.ref f28)))
    (l28 : K.lookup f28 = some ⟨oc28, od28, .func (PySem.W.fnOf "by_one_plus" "by_one_plus" (defArgs s_by_one_plus) (defBody s_by_one_plus) (defScope s_by_one_plus) .none kV28 dc28 pm28 an28 cd28 ct28), sl28⟩)
    (c28 : PySem.W.codeIn K cd28 "by_one_plus" = true)
    (k28 : PySem.W.keepIn K (.ref f28) = true)
    (a29 : PySem.W.nsIn K mainGlobals "ratios" = some (some (.ref f29)))
    (l29 : K.lookup f29 = some ⟨oc29, od29, .func (PySem.W.fnOf "ratios" "ratios" (defArgs s_ratios) (defBody s_ratios) (defScope s_ratios) .none kV29 dc29 pm29 an29 cd29 ct29), sl29⟩)
    (c29 : PySem.W.codeIn K cd29 "ratios" = true)
    (k29 : PySem.W.keepIn K (.ref f29) = true)
    (a30 : PySem.W.nsIn K mainGlobals "made_book" = some (some (.ref f30)))
    (l30 : K.lookup f30 = some ⟨oc30, od30, .func (PySem.W.fnOf "made_book" "made_book" (defArgs s_made_book) (defBody s_made_book) (defScope s_made_book) .none kV30 dc30 pm30 an30 cd30 ct30), sl30⟩)
    (c30 : PySem.W.codeIn K cd30 "made_book" = true)
    (k30 : PySem.W.keepIn K (.ref f30) = true)
    (a31 : PySem.W.nsIn K mainGlobals "slope" = some (some (.ref f31)))
    (l31 : K.lookup f31 = some ⟨oc31, od31, .func (PySem.W.fnOf "slope" "slope" (defArgs s_slope) (defBody s_slope) (defScope s_slope) .none kV31 dc31 pm31 an31 cd31 ct31), sl31⟩)
    (c31 : PySem.W.codeIn K cd31 "slope" = true)
    (k31 : PySem.W.keepIn K (.ref f31) = true)
    (a32 : PySem.W.nsIn K mainGlobals "_law_is_bad" = some (some (.ref f32)))
    (l32 : K.lookup f32 = some ⟨oc32, od32, .func (PySem.W.fnOf "_law_is_bad" "_law_is_bad" (defArgs s__law_is_bad) (defBody s__law_is_bad) (defScope s__law_is_bad) .none kV32 dc32 pm32 an32 cd32 ct32), sl32⟩)
    (c32 : PySem.W.codeIn K cd32 "_law_is_bad" = true)
    (k32 : PySem.W.keepIn K (.ref f32) = true)
    (a33 : PySem.W.nsIn K mainGlobals "_law_is_int" = some (some (.ref f33)))
    (l33 : K.lookup f33 = some ⟨oc33, od33, .func (PySem.W.fnOf "_law_is_int" "_law_is_int" (defArgs s__law_is_int) (defBody s__law_is_int) (defScope s__law_is_int) .none kV33 dc33 pm33 an33 cd33 ct33), sl33⟩)
    (c33 : PySem.W.codeIn K cd33 "_law_is_int" = true)
    (k33 : PySem.W.keepIn K (.ref f33) = true)
    (a34 : PySem.W.nsIn K mainGlobals "_law_pair" = some (some (.ref f34)))
    (l34 : K.lookup f34 = some ⟨oc34, od34, .func (PySem.W.fnOf "_law_pair" "_law_pair" (defArgs s__law_pair) (defBody s__law_pair) (defScope s__law_pair) .none kV34 dc34 pm34 an34 cd34 ct34), sl34⟩)
    (c34 : PySem.W.codeIn K cd34 "_law_pair" = true)
    (k34 : PySem.W.keepIn K (.ref f34) = true)
    (a35 : PySem.W.nsIn K mainGlobals "_law_pairs" = some (some (.ref f35)))
    (l35 : K.lookup f35 = some ⟨oc35, od35, .func (PySem.W.fnOf "_law_pairs" "_law_pairs" (defArgs s__law_pairs) (defBody s__law_pairs) (defScope s__law_pairs) .none kV35 dc35 pm35 an35 cd35 ct35), sl35⟩)
    (c35 : PySem.W.codeIn K cd35 "_law_pairs" = true)
    (k35 : PySem.W.keepIn K (.ref f35) = true)
    (a36 : PySem.W.nsIn K mainGlobals "_law_is" = some (some (.ref f36)))
    (l36 : K.lookup f36 = some ⟨oc36, od36, .func (PySem.W.fnOf "_law_is" "_law_is" (defArgs s__law_is) (defBody s__law_is) (defScope s__law_is) .none kV36 dc36 pm36 an36 cd36 ct36), sl36⟩)
    (c36 : PySem.W.codeIn K cd36 "_law_is" = true)
    (k36 : PySem.W.keepIn K (.ref f36) = true)
    (a37 : PySem.W.nsIn K mainGlobals "_law_slope_holds" = some (some (.ref f37)))
    (l37 : K.lookup f37 = some ⟨oc37, od37, .func (PySem.W.fnOf "_law_slope_holds" "_law_slope_holds" (defArgs s__law_slope_holds) (defBody s__law_slope_holds) (defScope s__law_slope_holds) .none kV37 dc37 pm37 an37 cd37 ct37), sl37⟩)
    (c37 : PySem.W.codeIn K cd37 "_law_slope_holds" = true)
    (k37 : PySem.W.keepIn K (.ref f37) = true)
    (a38 : PySem.W.nsIn K mainGlobals "tops_product" = some (some (.ref f38)))
    (l38 : K.lookup f38 = some ⟨oc38, od38, .func (PySem.W.fnOf "tops_product" "tops_product" (defArgs s_tops_product) (defBody s_tops_product) (defScope s_tops_product) .none kV38 dc38 pm38 an38 cd38 ct38), sl38⟩)
    (c38 : PySem.W.codeIn K cd38 "tops_product" = true)
    (k38 : PySem.W.keepIn K (.ref f38) = true)
    (a39 : PySem.W.nsIn K mainGlobals "mean" = some (some (.ref f39)))
    (l39 : K.lookup f39 = some ⟨oc39, od39, .func (PySem.W.fnOf "mean" "mean" (defArgs s_mean) (defBody s_mean) (defScope s_mean) .none kV39 dc39 pm39 an39 cd39 ct39), sl39⟩)
    (c39 : PySem.W.codeIn K cd39 "mean" = true)
    (k39 : PySem.W.keepIn K (.ref f39) = true)
    (a40 : PySem.W.nsIn K mainGlobals "_law_many" = some (some (.ref f40)))
    (l40 : K.lookup f40 = some ⟨oc40, od40, .func (PySem.W.fnOf "_law_many" "_law_many" (defArgs s__law_many) (defBody s__law_many) (defScope s__law_many) .none kV40 dc40 pm40 an40 cd40 ct40), sl40⟩)
    (c40 : PySem.W.codeIn K cd40 "_law_many" = true)
    (k40 : PySem.W.keepIn K (.ref f40) = true)
    (a41 : PySem.W.nsIn K mainGlobals "_law_mean_holds" = some (some (.ref f41)))
    (l41 : K.lookup f41 = some ⟨oc41, od41, .func (PySem.W.fnOf "_law_mean_holds" "_law_mean_holds" (defArgs s__law_mean_holds) (defBody s__law_mean_holds) (defScope s__law_mean_holds) .none kV41 dc41 pm41 an41 cd41 ct41), sl41⟩)
    (c41 : PySem.W.codeIn K cd41 "_law_mean_holds" = true)
    (k41 : PySem.W.keepIn K (.ref f41) = true)
    (a42 : PySem.W.nsIn K mainGlobals "mirror" = some (some (.ref f42)))
    (l42 : K.lookup f42 = some ⟨oc42, od42, .func (PySem.W.fnOf "mirror" "mirror" (defArgs s_mirror) (defBody s_mirror) (defScope s_mirror) .none kV42 dc42 pm42 an42 cd42 ct42), sl42⟩)
    (c42 : PySem.W.codeIn K cd42 "mirror" = true)
    (k42 : PySem.W.keepIn K (.ref f42) = true)
    (a43 : PySem.W.nsIn K mainGlobals "tops_spread" = some (some (.ref f43)))
    (l43 : K.lookup f43 = some ⟨oc43, od43, .func (PySem.W.fnOf "tops_spread" "tops_spread" (defArgs s_tops_spread) (defBody s_tops_spread) (defScope s_tops_spread) .none kV43 dc43 pm43 an43 cd43 ct43), sl43⟩)
    (c43 : PySem.W.codeIn K cd43 "tops_spread" = true)
    (k43 : PySem.W.keepIn K (.ref f43) = true)
    (a44 : PySem.W.nsIn K mainGlobals "wide" = some (some (.ref f44)))
    (l44 : K.lookup f44 = some ⟨oc44, od44, .func (PySem.W.fnOf "wide" "wide" (defArgs s_wide) (defBody s_wide) (defScope s_wide) .none kV44 dc44 pm44 an44 cd44 ct44), sl44⟩)
    (c44 : PySem.W.codeIn K cd44 "wide" = true)
    (k44 : PySem.W.keepIn K (.ref f44) = true)
    (a45 : PySem.W.nsIn K mainGlobals "_law_wide_holds" = some (some (.ref f45)))
    (l45 : K.lookup f45 = some ⟨oc45, od45, .func (PySem.W.fnOf "_law_wide_holds" "_law_wide_holds" (defArgs s__law_wide_holds) (defBody s__law_wide_holds) (defScope s__law_wide_holds) .none kV45 dc45 pm45 an45 cd45 ct45), sl45⟩)
    (c45 : PySem.W.codeIn K cd45 "_law_wide_holds" = true)
    (k45 : PySem.W.keepIn K (.ref f45) = true)
    (a46 : PySem.W.nsIn K mainGlobals "product" = some (some (.ref f46)))
    (l46 : K.lookup f46 = some ⟨oc46, od46, .func (PySem.W.fnOf "product" "product" (defArgs s_product) (defBody s_product) (defScope s_product) .none kV46 dc46 pm46 an46 cd46 ct46), sl46⟩)
    (c46 : PySem.W.codeIn K cd46 "product" = true)
    (k46 : PySem.W.keepIn K (.ref f46) = true)
    (a47 : PySem.W.nsIn K mainGlobals "_law_product_holds" = some (some (.ref f47)))
    (l47 : K.lookup f47 = some ⟨oc47, od47, .func (PySem.W.fnOf "_law_product_holds" "_law_product_holds" (defArgs s__law_product_holds) (defBody s__law_product_holds) (defScope s__law_product_holds) .none kV47 dc47 pm47 an47 cd47 ct47), sl47⟩)
    (c47 : PySem.W.codeIn K cd47 "_law_product_holds" = true)
    (k47 : PySem.W.keepIn K (.ref f47) = true)
    (a48 : PySem.W.nsIn K mainGlobals "_law_corner" = some (some (.ref f48)))
    (l48 : K.lookup f48 = some ⟨oc48, od48, .func (PySem.W.fnOf "_law_corner" "_law_corner" (defArgs s__law_corner) (defBody s__law_corner) (defScope s__law_corner) .none kV48 dc48 pm48 an48 cd48 ct48), sl48⟩)
    (c48 : PySem.W.codeIn K cd48 "_law_corner" = true)
    (k48 : PySem.W.keepIn K (.ref f48) = true)
    (a49 : PySem.W.nsIn K mainGlobals "corner" = some (some (.ref f49)))
    (l49 : K.lookup f49 = some ⟨oc49, od49, .func (PySem.W.fnOf "corner" "corner" (defArgs s_corner) (defBody s_corner) (defScope s_corner) .none kV49 dc49 pm49 an49 cd49 ct49), sl49⟩)
    (c49 : PySem.W.codeIn K cd49 "corner" = true)
    (k49 : PySem.W.keepIn K (.ref f49) = true)
    (a50 : PySem.W.nsIn K mainGlobals "law" = some (some (.ref f50)))
    (l50 : K.lookup f50 = some ⟨oc50, od50, .func (PySem.W.fnOf "law" "law" (defArgs s_law) (defBody s_law) (defScope s_law) .none kV50 dc50 pm50 an50 cd50 ct50), sl50⟩)
    (c50 : PySem.W.codeIn K cd50 "law" = true)
    (k50 : PySem.W.keepIn K (.ref f50) = true)
    : ∃ fd : FuncData, (∀ (s : Shared) (v : Value), BindsTo s fd ⟨[v], []⟩ [("script", v)]) ∧ ∀ base : Heap, K.In base → base.Ns mainGlobals mg → FnOk l.prog w K mg base (L2N.CX l.prog w) 11 fa fd ["script"] (spL K) := by
  have e := hfa.symm.trans (PySem.W.mg_of X G a50)
  cases e
  have Y0 : C0 K Ca0 := ⟨pg_0, hd_0, po_0, sa_0, ha_0, ghn, ghtk, hm_0, cd_0, ty_0, s1_0, s2_0, s3_0, s4_0, s5_0, b1_0, b2_0, b3_0, b4_0, b5_0, b6_0⟩
  have Y1 : C0 K Ca1 := ⟨pg_1, hd_1, po_1, sa_1, ha_1, ghn, ghtk, hm_1, cd_1, ty_1, s1_1, s2_1, s3_1, s4_1, s5_1, b1_1, b2_1, b3_1, b4_1, b5_1, b6_1⟩
  have Z0 : XC0 K Xa0 := ⟨⟨_, _, _, _, _, _, _, _, _, _, _, _, _, _, _, xcl0, xrf0⟩, xsa0, xex0, xve0, xty0, xkp0, xga0, xgg0, xhd0, xha0, ghn, ghtk, xhm0⟩
  have Z1 : XC0 K Xa1 := ⟨⟨_, _, _, _, _, _, _, _, _, _, _, _, _, _, _, xcl1, xrf1⟩, xsa1, xex1, xve1, xty1, xkp1, xga1, xgg1, xhd1, xha1, ghn, ghtk, xhm1⟩
  have Z2 : XC0 K Xa2 := ⟨⟨_, _, _, _, _, _, _, _, _, _, _, _, _, _, _, xcl2, xrf2⟩, xsa2, xex2, xve2, xty2, xkp2, xga2, xgg2, xhd2, xha2, ghn, ghtk, xhm2⟩
  let xa : Nat → Addr := fun c => if c = 0 then Xa0 else (if c = 1 then Xa1 else (Xa2))
  let T : Tb := ⟨K, fun c => if c = 0 then Ca0 else (Ca1), fun c => if c = 0 then ["top", "bottom"] else if c = 1 then ["numbers", "reach", "_tops", "_bottom", "_kept_calm", "_kept_tame", "_kept_column"] else [], fun c => .ref (xa c), fun c => if c = 0 then ["why"] else if c = 1 then ["count", "what"] else [], none⟩
  have al : ∀ c, IsC K (T.ad c) := by
    intro c
    show IsC K (if c = 0 then Ca0 else (Ca1))
    by_cases e0 : c = 0
    · rw [if_pos e0]; exact Y0.isC
    rw [if_neg e0]; exact Y1.isC
  have q : Fc K mg T xa := {
    hK := rfl
    al := al
    n_ValueError := PySem.W.mg_none_of X G z_ValueError
    n_abs := PySem.W.mg_none_of X G z_abs
    n_bool := PySem.W.mg_none_of X G z_bool
    i_comb := PySem.W.mg_of X G i_comb
    n_enumerate := PySem.W.mg_none_of X G z_enumerate
    i_gcd := PySem.W.mg_of X G i_gcd
    n_int := PySem.W.mg_none_of X G z_int
    n_isinstance := PySem.W.mg_none_of X G z_isinstance
    i_lcm := PySem.W.mg_of X G i_lcm
    n_len := PySem.W.mg_none_of X G z_len
    n_min := PySem.W.mg_none_of X G z_min
    n_range := PySem.W.mg_none_of X G z_range
    n_str := PySem.W.mg_none_of X G z_str
    n_sum := PySem.W.mg_none_of X G z_sum
    n_tuple := PySem.W.mg_none_of X G z_tuple
    k_DIGITS := ⟨_, PySem.W.mg_of X G kk_DIGITS⟩
    k_DIGIT_LIMIT := ⟨_, PySem.W.mg_of X G kk_DIGIT_LIMIT⟩
    k_REACH_LIMIT := ⟨_, PySem.W.mg_of X G kk_REACH_LIMIT⟩
    k_TEXT_LIMIT := ⟨_, PySem.W.mg_of X G kk_TEXT_LIMIT⟩
    hxa := fun _ => rfl
    g_BadBook := PySem.W.mg_of X G gX0
    x0_BadBook := Z0
    xs_BadBook_BadBook := xs_0_0
    xs_TooMany_BadBook := xs_1_0
    xe_TooMany_BadBook := fun z => by have h := nex_1_0; rw [show Xa1 = Xa0 from z, beq_self_eq_true] at h; cases h
    xm_BadBook := rfl
    xna_BadBook_why := xna0_why
    xin_BadBook := ⟨f0, _, a0, w0, fun_mk (st := s_BadBook_init) l0 c0 k0⟩
    g_TooMany := PySem.W.mg_of X G gX1
    x0_TooMany := Z1
    xs_BadBook_TooMany := xs_0_1
    xe_BadBook_TooMany := fun z => by have h := nex_0_1; rw [show Xa0 = Xa1 from z, beq_self_eq_true] at h; cases h
    xs_TooMany_TooMany := xs_1_1
    xm_TooMany := rfl
    xna_TooMany_what := xna1_what
    xna_TooMany_count := xna1_count
    xin_TooMany := ⟨f1, _, a1, w1, fun_mk (st := s_TooMany_init) l1 c1 k1⟩
    g_BadNumber := PySem.W.mg_of X G gX2
    x0_BadNumber := Z2
    xs_BadBook_BadNumber := xs_0_2
    xe_BadBook_BadNumber := fun z => by have h := nex_0_2; rw [show Xa0 = Xa2 from z, beq_self_eq_true] at h; cases h
    xs_TooMany_BadNumber := xs_1_2
    xe_TooMany_BadNumber := fun z => by have h := nex_1_2; rw [show Xa1 = Xa2 from z, beq_self_eq_true] at h; cases h
    g_Ratio := PySem.W.mg_of X G gC0
    kc_Ratio := C0.kit (T := T) (c := 0) Y0 fun c1 h1 h2 => match c1, h1, h2 with | 0, _, h2 => absurd rfl h2 | 1, _, _ => ⟨(by have := ne_0_1; intro z; rw [show Ca0 = Ca1 from z.symm, beq_self_eq_true] at this; cases this), su_1_0⟩ | (c1 + 2), h1, _ => absurd h1 (by omega)
    nm_Ratio := rfl
    na_Ratio_top := na_0_top
    na_Ratio_bottom := na_0_bottom
    in_Ratio := ⟨f2, _, ⟨mk0, a2, w2, kp_0⟩, funB_one (dv := .int 1) l2 c2 k2 t2 (.cons ⟨_, rfl⟩ .nil) (fun _ _ _ _ _ _ _ us its hl hi => match us, its, hl, hi with | [_, _, _], [_], _, _ => ⟨_, rfl, rfl⟩)⟩
    g_Book := PySem.W.mg_of X G gC1
    kc_Book := C0.kit (T := T) (c := 1) Y1 fun c1 h1 h2 => match c1, h1, h2 with | 0, _, _ => ⟨(by have := ne_0_1; intro z; rw [show Ca0 = Ca1 from z, beq_self_eq_true] at this; cases this), su_0_1⟩ | 1, _, h2 => absurd rfl h2 | (c1 + 2), h1, _ => absurd h1 (by omega)
    nm_Book := rfl
    na_Book_numbers := na_1_numbers
    na_Book_reach := na_1_reach
    na_Book__tops := na_1__tops
    na_Book__bottom := na_1__bottom
    na_Book__kept_calm := na_1__kept_calm
    na_Book__kept_tame := na_1__kept_tame
    na_Book__kept_column := na_1__kept_column
    in_Book := ⟨f3, _, ⟨mk1, a3, w3, kp_1⟩, funB_of (fun_mk (st := s_Book_init) l3 c3 k3) ((fun_mk (st := s_Book_init) l3 c3 k3).binds (ps := (["self", "numbers"] : List Str)) fun _ _ _ _ _ _ us hl => match us, hl with | [_, _], _ => rfl)⟩
    r__law_bag := ⟨_, _, PySem.W.mg_of X G a4, fun_mk (st := s__law_bag) l4 c4 k4⟩
    r__law_draw := ⟨_, _, PySem.W.mg_of X G a5, fun_mk (st := s__law_draw) l5 c5 k5⟩
    r__law_parts := ⟨_, _, PySem.W.mg_of X G a6, fun_mk (st := s__law_parts) l6 c6 k6⟩
    r__law_times := ⟨_, _, PySem.W.mg_of X G a7, fun_mk (st := s__law_times) l7 c7 k7⟩
    r__law_core_book := ⟨_, _, PySem.W.mg_of X G a8, fun_mk (st := s__law_core_book) l8 c8 k8⟩
    r__law_known_book := ⟨_, _, PySem.W.mg_of X G a9, fun_mk (st := s__law_known_book) l9 c9 k9⟩
    r_check_length := ⟨_, _, PySem.W.mg_of X G a10, fun_mk (st := s_check_length) l10 c10 k10⟩
    r_digits_from := ⟨_, _, PySem.W.mg_of X G a11, fun_mk (st := s_digits_from) l11 c11 k11⟩
    r_top_fault := ⟨_, _, PySem.W.mg_of X G a12, fun_mk (st := s_top_fault) l12 c12 k12⟩
    r_bottom_fault := ⟨_, _, PySem.W.mg_of X G a13, fun_mk (st := s_bottom_fault) l13 c13 k13⟩
    r_number_fault := ⟨_, _, PySem.W.mg_of X G a14, fun_mk (st := s_number_fault) l14 c14 k14⟩
    r_word_pair := ⟨_, _, PySem.W.mg_of X G a15, fun_mk (st := s_word_pair) l15 c15 k15⟩
    r_read_pair := ⟨_, _, PySem.W.mg_of X G a16, fun_mk (st := s_read_pair) l16 c16 k16⟩
    r_is_integer := ⟨_, _, PySem.W.mg_of X G a17, fun_mk (st := s_is_integer) l17 c17 k17⟩
    r_number := ⟨_, _, PySem.W.mg_of X G a18, fun_mk (st := s_number) l18 c18 k18⟩
    r_tops_of_ratios := ⟨_, _, PySem.W.mg_of X G a19, fun_mk (st := s_tops_of_ratios) l19 c19 k19⟩
    r_book_fault := ⟨_, _, PySem.W.mg_of X G a20, fun_mk (st := s_book_fault) l20 c20 k20⟩
    r_check_reach := ⟨_, _, PySem.W.mg_of X G a21, fun_mk (st := s_check_reach) l21 c21 k21⟩
    r__law_lowest := ⟨_, _, PySem.W.mg_of X G a22, fun_mk (st := s__law_lowest) l22 c22 k22⟩
    r__law_pairs_of := ⟨_, _, PySem.W.mg_of X G a23, fun_mk (st := s__law_pairs_of) l23 c23 k23⟩
    r__law_word := ⟨_, _, PySem.W.mg_of X G a24, fun_mk (st := s__law_word) l24 c24 k24⟩
    r__law_book := ⟨_, _, PySem.W.mg_of X G a25, fun_mk (st := s__law_book) l25 c25 k25⟩
    r__law_halved := ⟨_, _, PySem.W.mg_of X G a26, fun_mk (st := s__law_halved) l26 c26 k26⟩
    mt_over_one_bottom := ⟨f27, _, ⟨a27, w27, k27⟩, fun_mk (st := s_Book_over_one_bottom) l27 c27 k27⟩
    r_by_one_plus := ⟨_, _, PySem.W.mg_of X G a28, fun_mk (st := s_by_one_plus) l28 c28 k28⟩
    r_ratios := ⟨_, _, PySem.W.mg_of X G a29, fun_mk (st := s_ratios) l29 c29 k29⟩
    r_made_book := ⟨_, _, PySem.W.mg_of X G a30, fun_mk (st := s_made_book) l30 c30 k30⟩
    r_slope := ⟨_, _, PySem.W.mg_of X G a31, fun_mk (st := s_slope) l31 c31 k31⟩
    r__law_is_bad := ⟨_, _, PySem.W.mg_of X G a32, fun_mk (st := s__law_is_bad) l32 c32 k32⟩
    r__law_is_int := ⟨_, _, PySem.W.mg_of X G a33, fun_mk (st := s__law_is_int) l33 c33 k33⟩
    r__law_pair := ⟨_, _, PySem.W.mg_of X G a34, fun_mk (st := s__law_pair) l34 c34 k34⟩
    r__law_pairs := ⟨_, _, PySem.W.mg_of X G a35, fun_mk (st := s__law_pairs) l35 c35 k35⟩
    r__law_is := ⟨_, _, PySem.W.mg_of X G a36, fun_mk (st := s__law_is) l36 c36 k36⟩
    r__law_slope_holds := ⟨_, _, PySem.W.mg_of X G a37, fun_mk (st := s__law_slope_holds) l37 c37 k37⟩
    r_tops_product := ⟨_, _, PySem.W.mg_of X G a38, fun_mk (st := s_tops_product) l38 c38 k38⟩
    r_mean := ⟨_, _, PySem.W.mg_of X G a39, fun_mk (st := s_mean) l39 c39 k39⟩
    r__law_many := ⟨_, _, PySem.W.mg_of X G a40, fun_mk (st := s__law_many) l40 c40 k40⟩
    r__law_mean_holds := ⟨_, _, PySem.W.mg_of X G a41, fun_mk (st := s__law_mean_holds) l41 c41 k41⟩
    r_mirror := ⟨_, _, PySem.W.mg_of X G a42, fun_mk (st := s_mirror) l42 c42 k42⟩
    r_tops_spread := ⟨_, _, PySem.W.mg_of X G a43, fun_mk (st := s_tops_spread) l43 c43 k43⟩
    r_wide := ⟨_, _, PySem.W.mg_of X G a44, fun_mk (st := s_wide) l44 c44 k44⟩
    r__law_wide_holds := ⟨_, _, PySem.W.mg_of X G a45, fun_mk (st := s__law_wide_holds) l45 c45 k45⟩
    r_product := ⟨_, _, PySem.W.mg_of X G a46, fun_mk (st := s_product) l46 c46 k46⟩
    r__law_product_holds := ⟨_, _, PySem.W.mg_of X G a47, fun_mk (st := s__law_product_holds) l47 c47 k47⟩
    r__law_corner := ⟨_, _, PySem.W.mg_of X G a48, fun_mk (st := s__law_corner) l48 c48 k48⟩
    r_corner := ⟨_, _, PySem.W.mg_of X G a49, fun_mk (st := s_corner) l49 c49 k49⟩
    r_law := ⟨_, _, PySem.W.mg_of X G a50, fun_mk (st := s_law) l50 c50 k50⟩
    h0 := rfl
  }
  exact ⟨_, fun s v => .of_eq rfl, fun base _ _ => FnOk.imp (ok_law q (fun_mk (st := s_law) l50 c50 k50)) (spL_of (T := T) rfl law_true)⟩
end EV
open PySem PySem.W PyProof.Rows
set_option maxRecDepth 100000 in
set_option maxHeartbeats 0 in
theorem PySem.Challenge.cw_everystretch_k06_relatives_holds : PySem.Challenge.rw_everystretch_k06_relatives.Holds := by
  w_on; o_law; k_head; (case hw => w_witness2)
  k_fill
  refine EV.walkL (l := PySem.Challenge.rw_everystretch_k06_relatives) (k := 11) rfl rfl ⟨rfl, by decide, by decide⟩ (fun w h Y => PySem.W.kIn_of Y) ?F
  case F =>
    intro w mg fa h KX G hmg
    refine' EV.all_mk KX G hmg ?ghn ?ghtk ?gC0 ?pg_0 ?hd_0 ?po_0 ?sa_0 ?ha_0 ?hm_0 ?cd_0 ?ty_0 ?s1_0 ?s2_0 ?s3_0 ?s4_0 ?s5_0 ?b1_0 ?b2_0 ?b3_0 ?b4_0 ?b5_0 ?b6_0 ?kp_0 ?na_0_top ?na_0_bottom ?gC1 ?pg_1 ?hd_1 ?po_1 ?sa_1 ?ha_1 ?hm_1 ?cd_1 ?ty_1 ?s1_1 ?s2_1 ?s3_1 ?s4_1 ?s5_1 ?b1_1 ?b2_1 ?b3_1 ?b4_1 ?b5_1 ?b6_1 ?kp_1 ?na_1_numbers ?na_1_reach ?na_1__tops ?na_1__bottom ?na_1__kept_calm ?na_1__kept_tame ?na_1__kept_column ?ne_0_1 ?su_0_1 ?su_1_0 ?gX0 ?xcl0 ?xrf0 ?xsa0 ?xex0 ?xve0 ?xty0 ?xkp0 ?xga0 ?xgg0 ?xhd0 ?xha0 ?xhm0 ?gX1 ?xcl1 ?xrf1 ?xsa1 ?xex1 ?xve1 ?xty1 ?xkp1 ?xga1 ?xgg1 ?xhd1 ?xha1 ?xhm1 ?gX2 ?xcl2 ?xrf2 ?xsa2 ?xex2 ?xve2 ?xty2 ?xkp2 ?xga2 ?xgg2 ?xhd2 ?xha2 ?xhm2 ?xs_0_0 ?xs_1_0 ?nex_1_0 ?xna0_why ?xs_0_1 ?nex_0_1 ?xs_1_1 ?xna1_what ?xna1_count ?xs_0_2 ?nex_0_2 ?xs_1_2 ?nex_1_2 ?z_ValueError ?z_abs ?z_bool ?i_comb ?z_enumerate ?i_gcd ?z_int ?z_isinstance ?i_lcm ?z_len ?z_min ?z_range ?z_str ?z_sum ?z_tuple ?kk_DIGITS ?kk_DIGIT_LIMIT ?kk_REACH_LIMIT ?kk_TEXT_LIMIT ?a0 ?w0 ?l0 ?c0 ?k0 ?a1 ?w1 ?l1 ?c1 ?k1 ?mk0 ?a2 ?w2 ?l2 ?c2 ?k2 ?t2 ?mk1 ?a3 ?w3 ?l3 ?c3 ?k3 ?a4 ?l4 ?c4 ?k4 ?a5 ?l5 ?c5 ?k5 ?a6 ?l6 ?c6 ?k6 ?a7 ?l7 ?c7 ?k7 ?a8 ?l8 ?c8 ?k8 ?a9 ?l9 ?c9 ?k9 ?a10 ?l10 ?c10 ?k10 ?a11 ?l11 ?c11 ?k11 ?a12 ?l12 ?c12 ?k12 ?a13 ?l13 ?c13 ?k13 ?a14 ?l14 ?c14 ?k14 ?a15 ?l15 ?c15 ?k15 ?a16 ?l16 ?c16 ?k16 ?a17 ?l17 ?c17 ?k17 ?a18 ?l18 ?c18 ?k18 ?a19 ?l19 ?c19 ?k19 ?a20 ?l20 ?c20 ?k20 ?a21 ?l21 ?c21 ?k21 ?a22 ?l22 ?c22 ?k22 ?a23 ?l23 ?c23 ?k23 ?a24 ?l24 ?c24 ?k24 ?a25 ?l25 ?c25 ?k25 ?a26 ?l26 ?c26 ?k26 ?a27 ?w27 ?l27 ?c27 ?k27 ?a28 ?l28 ?c28 ?k28 ?a29 ?l29 ?c29 ?k29 ?a30 ?l30 ?c30 ?k30 ?a31 ?l31 ?c31 ?k31 ?a32 ?l32 ?c32 ?k32 ?a33 ?l33 ?c33 ?k33 ?a34 ?l34 ?c34 ?k34 ?a35 ?l35 ?c35 ?k35 ?a36 ?l36 ?c36 ?k36 ?a37 ?l37 ?c37 ?k37 ?a38 ?l38 ?c38 ?k38 ?a39 ?l39 ?c39 ?k39 ?a40 ?l40 ?c40 ?k40 ?a41 ?l41 ?c41 ?k41 ?a42 ?l42 ?c42 ?k42 ?a43 ?l43 ?c43 ?k43 ?a44 ?l44 ?c44 ?k44 ?a45 ?l45 ?c45 ?k45 ?a46 ?l46 ?c46 ?k46 ?a47 ?l47 ?c47 ?k47 ?a48 ?l48 ?c48 ?k48 ?a49 ?l49 ?c49 ?k49 ?a50 ?l50 ?c50 ?k50
    (case ghn => k_is)
    (case ghtk => k_is)
    (case gC0 => k_is)
    (case pg_0 => k_is)
    (case hd_0 => k_is)
    (case po_0 => k_is)
    (case sa_0 => k_is)
    (case ha_0 => k_is)
    (case hm_0 => k_is)
    (case cd_0 => k_is)
    (case ty_0 => k_is)
    (case s1_0 => k_is)
    (case s2_0 => k_is)
    (case s3_0 => k_is)
    (case s4_0 => k_is)
    (case s5_0 => k_is)
    (case b1_0 => k_is)
    (case b2_0 => k_is)
    (case b3_0 => k_is)
    (case b4_0 => k_is)
    (case b5_0 => k_is)
    (case b6_0 => k_is)
    (case kp_0 => k_is)
    (case na_0_top => k_is)
    (case na_0_bottom => k_is)
    (case gC1 => k_is)
    (case pg_1 => k_is)
    (case hd_1 => k_is)
    (case po_1 => k_is)
    (case sa_1 => k_is)
    (case ha_1 => k_is)
    (case hm_1 => k_is)
    (case cd_1 => k_is)
    (case ty_1 => k_is)
    (case s1_1 => k_is)
    (case s2_1 => k_is)
    (case s3_1 => k_is)
    (case s4_1 => k_is)
    (case s5_1 => k_is)
    (case b1_1 => k_is)
    (case b2_1 => k_is)
    (case b3_1 => k_is)
    (case b4_1 => k_is)
    (case b5_1 => k_is)
    (case b6_1 => k_is)
    (case kp_1 => k_is)
    (case na_1_numbers => k_is)
    (case na_1_reach => k_is)
    (case na_1__tops => k_is)
    (case na_1__bottom => k_is)
    (case na_1__kept_calm => k_is)
    (case na_1__kept_tame => k_is)
    (case na_1__kept_column => k_is)
    (case ne_0_1 => decide)
    (case su_0_1 => k_is)
    (case su_1_0 => k_is)
    (case gX0 => k_is)
    (case xcl0 => k_is)
    (case xrf0 => decide +kernel)
    (case xsa0 => k_is)
    (case xex0 => k_is)
    (case xve0 => k_is)
    (case xty0 => k_is)
    (case xkp0 => k_is)
    (case xga0 => k_is)
    (case xgg0 => k_is)
    (case xhd0 => k_is)
    (case xha0 => k_is)
    (case xhm0 => k_is)
    (case gX1 => k_is)
    (case xcl1 => k_is)
    (case xrf1 => decide +kernel)
    (case xsa1 => k_is)
    (case xex1 => k_is)
    (case xve1 => k_is)
    (case xty1 => k_is)
    (case xkp1 => k_is)
    (case xga1 => k_is)
    (case xgg1 => k_is)
    (case xhd1 => k_is)
    (case xha1 => k_is)
    (case xhm1 => k_is)
    (case gX2 => k_is)
    (case xcl2 => k_is)
    (case xrf2 => decide +kernel)
    (case xsa2 => k_is)
    (case xex2 => k_is)
    (case xve2 => k_is)
    (case xty2 => k_is)
    (case xkp2 => k_is)
    (case xga2 => k_is)
    (case xgg2 => k_is)
    (case xhd2 => k_is)
    (case xha2 => k_is)
    (case xhm2 => k_is)
    (case xs_0_0 => k_is)
    (case xs_1_0 => k_is)
    (case nex_1_0 => decide)
    (case xna0_why => k_is)
    (case xs_0_1 => k_is)
    (case nex_0_1 => decide)
    (case xs_1_1 => k_is)
    (case xna1_what => k_is)
    (case xna1_count => k_is)
    (case xs_0_2 => k_is)
    (case nex_0_2 => decide)
    (case xs_1_2 => k_is)
    (case nex_1_2 => decide)
    (case z_ValueError => k_is)
    (case z_abs => k_is)
    (case z_bool => k_is)
    (case i_comb => k_is)
    (case z_enumerate => k_is)
    (case i_gcd => k_is)
    (case z_int => k_is)
    (case z_isinstance => k_is)
    (case i_lcm => k_is)
    (case z_len => k_is)
    (case z_min => k_is)
    (case z_range => k_is)
    (case z_str => k_is)
    (case z_sum => k_is)
    (case z_tuple => k_is)
    (case kk_DIGITS => k_is)
    (case kk_DIGIT_LIMIT => k_is)
    (case kk_REACH_LIMIT => k_is)
    (case kk_TEXT_LIMIT => k_is)
    (case a0 => k_is)
    (case w0 => k_is)
    (case l0 => k_is)
    (case c0 => k_is)
    (case k0 => k_is)
    (case a1 => k_is)
    (case w1 => k_is)
    (case l1 => k_is)
    (case c1 => k_is)
    (case k1 => k_is)
    (case mk0 => k_is)
    (case a2 => k_is)
    (case w2 => k_is)
    (case l2 => k_is)
    (case c2 => k_is)
    (case k2 => k_is)
    (case t2 => k_is)
    (case mk1 => k_is)
    (case a3 => k_is)
    (case w3 => k_is)
    (case l3 => k_is)
    (case c3 => k_is)
    (case k3 => k_is)
    (case a4 => k_is)
    (case l4 => k_is)
    (case c4 => k_is)
    (case k4 => k_is)
    (case a5 => k_is)
    (case l5 => k_is)
    (case c5 => k_is)
    (case k5 => k_is)
    (case a6 => k_is)
    (case l6 => k_is)
    (case c6 => k_is)
    (case k6 => k_is)
    (case a7 => k_is)
    (case l7 => k_is)
    (case c7 => k_is)
    (case k7 => k_is)
    (case a8 => k_is)
    (case l8 => k_is)
    (case c8 => k_is)
    (case k8 => k_is)
    (case a9 => k_is)
    (case l9 => k_is)
    (case c9 => k_is)
    (case k9 => k_is)
    (case a10 => k_is)
    (case l10 => k_is)
    (case c10 => k_is)
    (case k10 => k_is)
    (case a11 => k_is)
    (case l11 => k_is)
    (case c11 => k_is)
    (case k11 => k_is)
    (case a12 => k_is)
    (case l12 => k_is)
    (case c12 => k_is)
    (case k12 => k_is)
    (case a13 => k_is)
    (case l13 => k_is)
    (case c13 => k_is)
    (case k13 => k_is)
    (case a14 => k_is)
    (case l14 => k_is)
    (case c14 => k_is)
    (case k14 => k_is)
    (case a15 => k_is)
    (case l15 => k_is)
    (case c15 => k_is)
    (case k15 => k_is)
    (case a16 => k_is)
    (case l16 => k_is)
    (case c16 => k_is)
    (case k16 => k_is)
    (case a17 => k_is)
    (case l17 => k_is)
    (case c17 => k_is)
    (case k17 => k_is)
    (case a18 => k_is)
    (case l18 => k_is)
    (case c18 => k_is)
    (case k18 => k_is)
    (case a19 => k_is)
    (case l19 => k_is)
    (case c19 => k_is)
    (case k19 => k_is)
    (case a20 => k_is)
    (case l20 => k_is)
    (case c20 => k_is)
    (case k20 => k_is)
    (case a21 => k_is)
    (case l21 => k_is)
    (case c21 => k_is)
    (case k21 => k_is)
    (case a22 => k_is)
    (case l22 => k_is)
    (case c22 => k_is)
    (case k22 => k_is)
    (case a23 => k_is)
    (case l23 => k_is)
    (case c23 => k_is)
    (case k23 => k_is)
    (case a24 => k_is)
    (case l24 => k_is)
    (case c24 => k_is)
    (case k24 => k_is)
    (case a25 => k_is)
    (case l25 => k_is)
    (case c25 => k_is)
    (case k25 => k_is)
    (case a26 => k_is)
    (case l26 => k_is)
    (case c26 => k_is)
    (case k26 => k_is)
    (case a27 => k_is)
    (case w27 => k_is)
    (case l27 => k_is)
    (case c27 => k_is)
    (case k27 => k_is)
    (case a28 => k_is)
    (case l28 => k_is)
    (case c28 => k_is)
    (case k28 => k_is)
    (case a29 => k_is)
    (case l29 => k_is)
    (case c29 => k_is)
    (case k29 => k_is)
    (case a30 => k_is)
    (case l30 => k_is)
    (case c30 => k_is)
    (case k30 => k_is)
    (case a31 => k_is)
    (case l31 => k_is)
    (case c31 => k_is)
    (case k31 => k_is)
    (case a32 => k_is)
    (case l32 => k_is)
    (case c32 => k_is)
    (case k32 => k_is)
    (case a33 => k_is)
    (case l33 => k_is)
    (case c33 => k_is)
    (case k33 => k_is)
    (case a34 => k_is)
    (case l34 => k_is)
    (case c34 => k_is)
    (case k34 => k_is)
    (case a35 => k_is)
    (case l35 => k_is)
    (case c35 => k_is)
    (case k35 => k_is)
    (case a36 => k_is)
    (case l36 => k_is)
    (case c36 => k_is)
    (case k36 => k_is)
    (case a37 => k_is)
    (case l37 => k_is)
    (case c37 => k_is)
    (case k37 => k_is)
    (case a38 => k_is)
    (case l38 => k_is)
    (case c38 => k_is)
    (case k38 => k_is)
    (case a39 => k_is)
    (case l39 => k_is)
    (case c39 => k_is)
    (case k39 => k_is)
    (case a40 => k_is)
    (case l40 => k_is)
    (case c40 => k_is)
    (case k40 => k_is)
    (case a41 => k_is)
    (case l41 => k_is)
    (case c41 => k_is)
    (case k41 => k_is)
    (case a42 => k_is)
    (case l42 => k_is)
    (case c42 => k_is)
    (case k42 => k_is)
    (case a43 => k_is)
    (case l43 => k_is)
    (case c43 => k_is)
    (case k43 => k_is)
    (case a44 => k_is)
    (case l44 => k_is)
    (case c44 => k_is)
    (case k44 => k_is)
    (case a45 => k_is)
    (case l45 => k_is)
    (case c45 => k_is)
    (case k45 => k_is)
    (case a46 => k_is)
    (case l46 => k_is)
    (case c46 => k_is)
    (case k46 => k_is)
    (case a47 => k_is)
    (case l47 => k_is)
    (case c47 => k_is)
    (case k47 => k_is)
    (case a48 => k_is)
    (case l48 => k_is)
    (case c48 => k_is)
    (case k48 => k_is)
    (case a49 => k_is)
    (case l49 => k_is)
    (case c49 => k_is)
    (case k49 => k_is)
    (case a50 => k_is)
    (case l50 => k_is)
    (case c50 => k_is)
    (case k50 => k_is)
